import PyProof.Rows.All
import Wide.All
import OpenK.AllK
import Wide.FinOn
import HandS.ForMost
import HandS.Exc
import HandS.ExcInit
import HandS.ExcOwn
import HandS.TupAny
import HandS.TupMul
import HandS.IsInst
import HandS.Conv
import HandS.Flow
import HandS.Deep
import HandS.Style
import HandS.Zip
import HandS.Rev
import HandS.DictTup
import HandS.DictComp
import PyProof.DictMoreH
import HandS.WordsExc
import HandS.HeadEnd
import KE.SortData
import KE.KDictSum
import HandS.ExcValue
import HandS.Defaults
import HandS.HeadHook1
import KE.KExcIs
import HandS.EndTab
import HandS.Head0
import HandS.Head1
import HandS.Head2
import HandS.HeadHook2
import HandS.HeadHook3
import HandS.HeadHook4
import PySem.Challenge.RW_climbabout_k00_errors
section T_DL1
set_option Elab.async false
set_option linter.all false
set_option maxRecDepth 100000
set_option maxHeartbeats 1000000
/-! The D layer: tuples by value, lists, dicts and instances by address, readings that compute. -/
namespace DL
open PySem PySem.Spec L2
open PyProof.Rows hiding St

/-! ### data -/
inductive D where
  | non | bl (b : Bool) | int (i : Int) | str (x : Str) | ref (a : Addr) | ty (n : String) | tup (xs : List D)

mutual
def D.eq : D → D → Bool
  | .non, .non => true
  | .bl a, .bl b => a == b
  | .int a, .int b => decide (a = b)
  | .str a, .str b => decide (a = b)
  | .ref a, .ref b => decide (a = b)
  | .ty a, .ty b => decide (a = b)
  | .tup a, .tup b => D.eqL a b
  | _, _ => false
def D.eqL : List D → List D → Bool
  | [], [] => true
  | a :: as, b :: bs => D.eq a b && D.eqL as bs
  | _, _ => false
end
mutual
theorem D.eq_iff : ∀ a b : D, D.eq a b = true ↔ a = b
  | .non, b => by cases b <;> simp [D.eq]
  | .bl _, b => by cases b <;> simp [D.eq]
  | .int _, b => by cases b <;> simp [D.eq]
  | .str _, b => by cases b <;> simp [D.eq]
  | .ref _, b => by cases b <;> simp [D.eq]
  | .ty _, b => by cases b <;> simp [D.eq]
  | .tup as, b => by cases b <;> simp [D.eq, D.eqL_iff as]
theorem D.eqL_iff : ∀ a b : List D, D.eqL a b = true ↔ a = b
  | [], b => by cases b <;> simp [D.eqL]
  | a :: as, b => by cases b <;> simp [D.eqL, D.eq_iff a, D.eqL_iff as]
end
instance : DecidableEq D := fun a b => decidable_of_iff _ (D.eq_iff a b)

mutual
/-- the value v bears the datum d in the heap H -/
def Rel (H : Hp) : D → V → Prop
  | .non, v => v = .non
  | .bl b, v => v = .bl b
  | .int i, v => v = .int i
  | .str x, v => v = .str x
  | .ref a, v => v = .ref a
  | .ty n, v => v = .ty n
  | .tup ds, v => ∃ a vs, v = .ref a ∧ H a = some (.tup vs) ∧ RelL H ds vs
def RelL (H : Hp) : List D → List V → Prop
  | [], vs => vs = []
  | d :: ds, vs => ∃ v r, vs = v :: r ∧ Rel H d v ∧ RelL H ds r
end
/-- tuples stay -/
def Tle (H H' : Hp) : Prop := ∀ a xs, H a = some (.tup xs) → H' a = some (.tup xs)
theorem Tle.refl {H : Hp} : Tle H H := fun _ _ h => h
theorem Tle.trans {H H1 H2 : Hp} (a : Tle H H1) (b : Tle H1 H2) : Tle H H2 := fun p xs h => b p xs (a p xs h)
theorem Tle.new {H : Hp} {p : Addr} {o : HO} (h : H p = none) : Tle H (upd H p o) := fun a xs e => by
  rw [upd_ne (ne_of_none e h)]; exact e
theorem Tle.write {H : Hp} {p : Addr} {o u : HO} (h : H p = some u) (hu : ∀ xs, u ≠ .tup xs) : Tle H (upd H p o) := fun a xs e => by
  rw [upd_ne (ne_of e h (Ne.symm (hu xs)))]; exact e
mutual
theorem Rel.tle {H H' : Hp} (t : Tle H H') : ∀ {d : D} {v : V}, Rel H d v → Rel H' d v
  | .non, _, h => h
  | .bl _, _, h => h
  | .int _, _, h => h
  | .str _, _, h => h
  | .ref _, _, h => h
  | .ty _, _, h => h
  | .tup _, _, ⟨a, vs, e, h, r⟩ => ⟨a, vs, e, t a vs h, RelL.tle t r⟩
theorem RelL.tle {H H' : Hp} (t : Tle H H') : ∀ {ds : List D} {vs : List V}, RelL H ds vs → RelL H' ds vs
  | [], _, h => h
  | _ :: _, _, ⟨v, r, e, h, hr⟩ => ⟨v, r, e, Rel.tle t h, RelL.tle t hr⟩
end
theorem RelL.nil {H : Hp} : RelL H [] [] := rfl
theorem RelL.cons {H : Hp} {d : D} {v : V} {ds : List D} {vs : List V} (h : Rel H d v) (t : RelL H ds vs) : RelL H (d :: ds) (v :: vs) := ⟨v, vs, rfl, h, t⟩
theorem RelL.length {H : Hp} : ∀ {ds : List D} {vs : List V}, RelL H ds vs → vs.length = ds.length
  | [], _, h => by cases h; rfl
  | _ :: _, _, ⟨_, _, e, _, h⟩ => by subst e; simp [RelL.length h]
theorem RelL.append {H : Hp} : ∀ {ds es : List D} {vs us : List V}, RelL H ds vs → RelL H es us → RelL H (ds ++ es) (vs ++ us)
  | [], _, _, _, h, g => by cases h; exact g
  | _ :: _, _, _, _, ⟨v, r, e, h, hr⟩, g => by subst e; exact ⟨v, _, rfl, h, RelL.append hr g⟩
theorem RelL.get {H : Hp} : ∀ {ds : List D} {vs : List V} {i : Nat} {d : D}, RelL H ds vs → ds[i]? = some d → ∃ v, vs[i]? = some v ∧ Rel H d v
  | [], _, _, _, _, e => by simp at e
  | _ :: _, _, 0, _, ⟨v, r, e, h, hr⟩, q => by subst e; simp at q; subst q; exact ⟨v, rfl, h⟩
  | _ :: _, _, i + 1, _, ⟨v, r, e, h, hr⟩, q => by
    subst e
    obtain ⟨u, h1, h2⟩ := RelL.get (i := i) hr (by simpa using q)
    exact ⟨u, by simpa using h1, h2⟩
theorem RelL.got {H : Hp} : ∀ {ds : List D} {vs : List V} {i : Nat} {v : V}, RelL H ds vs → vs[i]? = some v → ∃ d, ds[i]? = some d ∧ Rel H d v
  | [], _, _, _, h, e => by cases h; simp at e
  | d :: _, _, 0, _, ⟨v, r, e, h, hr⟩, q => by subst e; simp at q; subst q; exact ⟨d, rfl, h⟩
  | _ :: _, _, i + 1, _, ⟨v, r, e, h, hr⟩, q => by
    subst e
    obtain ⟨u, h1, h2⟩ := RelL.got (i := i) hr (by simpa using q)
    exact ⟨u, by simpa using h1, h2⟩
theorem RelL.set {H : Hp} {d : D} {v : V} (hd : Rel H d v) : ∀ {ds : List D} {vs : List V} (i : Nat), RelL H ds vs → RelL H (ds.set i d) (vs.set i v)
  | [], _, _, h => by cases h; exact RelL.nil
  | _ :: _, _, 0, ⟨u, r, e, h, hr⟩ => by subst e; exact ⟨v, r, rfl, hd, hr⟩
  | _ :: _, _, i + 1, ⟨u, r, e, h, hr⟩ => by subst e; exact ⟨u, _, rfl, h, RelL.set hd i hr⟩
theorem RelL.take {H : Hp} : ∀ {ds : List D} {vs : List V} (n : Nat), RelL H ds vs → RelL H (ds.take n) (vs.take n)
  | [], _, _, h => by cases h; simp [RelL]
  | _ :: _, _, 0, _ => rfl
  | _ :: _, _, n + 1, ⟨u, r, e, h, hr⟩ => by subst e; exact ⟨u, _, rfl, h, RelL.take n hr⟩
theorem RelL.drop {H : Hp} : ∀ {ds : List D} {vs : List V} (n : Nat), RelL H ds vs → RelL H (ds.drop n) (vs.drop n)
  | [], _, _, h => by cases h; simp [RelL]
  | _ :: _, _, 0, h => h
  | _ :: _, _, n + 1, ⟨u, r, e, h, hr⟩ => by subst e; exact RelL.drop n hr
theorem RelL.reverse {H : Hp} : ∀ {ds : List D} {vs : List V}, RelL H ds vs → RelL H ds.reverse vs.reverse
  | [], _, h => by cases h; exact RelL.nil
  | _ :: _, _, ⟨u, r, e, h, hr⟩ => by
    subst e
    rw [List.reverse_cons, List.reverse_cons]
    exact RelL.append (RelL.reverse hr) ⟨u, [], rfl, h, rfl⟩
theorem RelL.flat {H : Hp} {ds : List D} {vs : List V} (h : RelL H ds vs) : ∀ n, RelL H (List.replicate n ds).flatten (List.replicate n vs).flatten
  | 0 => rfl
  | n + 1 => by
    simp only [List.replicate_succ, List.flatten_cons]
    exact h.append (h.flat n)

/-! ### what stands at an address -/
inductive DO where
  /-- a list; a list that is only read (the script) -/
  | lst (xs : List D) | ro (xs : List D)
  /-- a dict whose keys are ints and texts; tuples of such -/
  | dK (kvs : List (D × D)) | dT (kvs : List (D × D))
  /-- such ones while they are walked -/
  | fK (o : Obj) (hv : List (Key × V)) (kvs : List (D × D)) | fT (o : Obj) (hv : List (List Key × V)) (kvs : List (D × D))
  /-- an instance of the class at C; of an own exception class; a caught exception's fields -/
  | ins (C : Addr) (fs : List (Str × D))
  | exi (C : Addr) (fs : List (Str × D))
  | exc (fs : List (Str × D))
abbrev Mem := Addr → Option DO
def put (M : Mem) (a : Addr) (o : DO) : Mem := fun b => if b = a then some o else M b
theorem put_same {M : Mem} {a : Addr} {o : DO} : put M a o a = some o := by unfold put; rw [if_pos rfl]
theorem put_ne {M : Mem} {a b : Addr} {o : DO} (h : b ≠ a) : put M a o b = M b := by unfold put; rw [if_neg h]
theorem put_put {M : Mem} {a : Addr} {o u : DO} : put (put M a o) a u = put M a u := by
  funext b; unfold put; split <;> rfl
theorem ne_none {M : Mem} {a b : Addr} {o : DO} (h : M a = some o) (h' : M b = none) : a ≠ b := by
  intro e; subst e; rw [h] at h'; cases h'
theorem put_eq {M : Mem} {a : Addr} {o : DO} (h : M a = some o) : put M a o = M := by
  funext b; unfold put; split
  · next e => rw [e, h]
  · rfl

def kD : Key → D
  | .inl i => .int i
  | .inr x => .str x
def RelKv (H : Hp) : List (D × D) → List (Key × V) → Prop := Paired fun p q => p.1 = kD q.1 ∧ Rel H p.2 q.2
def RelTv (H : Hp) : List (D × D) → List (List Key × V) → Prop := Paired fun p q => p.1 = .tup (q.1.map kD) ∧ Rel H p.2 q.2
def RelFs (H : Hp) : List (Str × D) → List (Str × V) → Prop := Paired fun p q => p.1 = q.1 ∧ Rel H p.2 q.2
theorem RelKv.tle {H H' : Hp} (t : Tle H H') {l : List (D × D)} {l' : List (Key × V)} (h : RelKv H l l') : RelKv H' l l' := Paired.mapP h fun _ _ z => ⟨z.1, z.2.tle t⟩
theorem RelTv.tle {H H' : Hp} (t : Tle H H') {l : List (D × D)} {l' : List (List Key × V)} (h : RelTv H l l') : RelTv H' l l' := Paired.mapP h fun _ _ z => ⟨z.1, z.2.tle t⟩
theorem RelFs.tle {H H' : Hp} (t : Tle H H') {l : List (Str × D)} {l' : List (Str × V)} (h : RelFs H l l') : RelFs H' l l' := Paired.mapP h fun _ _ z => ⟨z.1, z.2.tle t⟩

def RelO (K : PySem.W.Frag) (H : Hp) (a : Addr) : DO → Prop
  | .lst ds => ∃ vs, H a = some (.lst vs) ∧ RelL H ds vs
  | .ro ds => ∃ vs, Rd H a (.lst vs) ∧ RelL H ds vs
  | .dK kvs => ∃ hv, H a = some (.dK hv) ∧ RelKv H kvs hv
  | .dT kvs => ∃ hv, H a = some (.dT hv) ∧ RelTv H kvs hv
  | .fK o hv kvs => H a = some (.frz o (.dK hv)) ∧ RelKv H kvs hv
  | .fT o hv kvs => H a = some (.frz o (.dT hv)) ∧ RelTv H kvs hv
  | .ins C fs => ∃ dx vs, H a = some (.ins C dx vs) ∧ RelFs H fs vs
  | .exi C fs => (H a = some (exo a C none) ∧ fs = []) ∨ ∃ dx vs, H a = some (exo a C (some dx)) ∧ H dx = some (exd dx vs) ∧ RelFs H fs vs ∧ vs.length ≤ 900
  | .exc fs => ∃ vs, H a = some (.xd vs) ∧ RelFs H fs vs
def RelM (K : PySem.W.Frag) (H : Hp) (M : Mem) : Prop := ∀ a o, M a = some o → RelO K H a o

/-- the dicts of exceptions stay -/
def Xle (H H' : Hp) : Prop := ∀ a vs, H a = some (exd a vs) → H' a = some (exd a vs)
theorem RelO.tle {K : PySem.W.Frag} {H H' : Hp} {a : Addr} (t : Tle H H') (x : Xle H H') (e : ∀ u, H a = some u → H' a = some u) : ∀ {o : DO}, RelO K H a o → RelO K H' a o
  | .lst _, ⟨vs, h, r⟩ => ⟨vs, e _ h, r.tle t⟩
  | .ro _, ⟨vs, h, r⟩ => by
    refine ⟨vs, ?_, r.tle t⟩
    rcases h with h | ⟨o, h⟩
    · exact .inl (e _ h)
    · exact .inr ⟨o, e _ h⟩
  | .dK _, ⟨hv, h, r⟩ => ⟨hv, e _ h, r.tle t⟩
  | .dT _, ⟨hv, h, r⟩ => ⟨hv, e _ h, r.tle t⟩
  | .fK _ _ _, ⟨h, r⟩ => ⟨e _ h, r.tle t⟩
  | .fT _ _ _, ⟨h, r⟩ => ⟨e _ h, r.tle t⟩
  | .ins _ _, ⟨dx, vs, h, r⟩ => ⟨dx, vs, e _ h, r.tle t⟩
  | .exi _ _, .inl ⟨h, r⟩ => .inl ⟨e _ h, r⟩
  | .exi _ _, .inr ⟨dx, vs, h, hd, r, l⟩ => .inr ⟨dx, vs, e _ h, x _ _ hd, r.tle t, l⟩
  | .exc _, ⟨vs, h, r⟩ => ⟨vs, e _ h, r.tle t⟩
theorem RelM.fresh {K : PySem.W.Frag} {H : Hp} {M : Mem} {a : Addr} (m : RelM K H M) (h : H a = none) : M a = none := by
  cases e : M a with
  | none => rfl
  | some o =>
    have r := m a o e
    cases o with
    | lst _ => obtain ⟨_, q, _⟩ := r; rw [h] at q; cases q
    | ro _ => obtain ⟨_, q, _⟩ := r; rcases q with q | ⟨_, q⟩ <;> (rw [h] at q; cases q)
    | dK _ => obtain ⟨_, q, _⟩ := r; rw [h] at q; cases q
    | dT _ => obtain ⟨_, q, _⟩ := r; rw [h] at q; cases q
    | fK _ _ _ => obtain ⟨q, _⟩ := r; rw [h] at q; cases q
    | fT _ _ _ => obtain ⟨q, _⟩ := r; rw [h] at q; cases q
    | ins _ _ => obtain ⟨_, _, q, _⟩ := r; rw [h] at q; cases q
    | exi _ _ => rcases r with ⟨q, _⟩ | ⟨_, _, q, _⟩ <;> (rw [h] at q; cases q)
    | exc _ => obtain ⟨_, q, _⟩ := r; rw [h] at q; cases q
theorem Xle.new {H : Hp} {p : Addr} {o : HO} (h : H p = none) : Xle H (upd H p o) := fun a vs e => by
  rw [upd_ne (ne_of_none e h)]; exact e
theorem Xle.write {H : Hp} {p : Addr} {o u : HO} (h : H p = some u) (hu : ∀ φ, u ≠ .ext φ) : Xle H (upd H p o) := fun a vs e => by
  rw [upd_ne (fun z => by rw [z, h] at e; exact hu _ (Option.some.inj e))]; exact e
/-- a new object -/
theorem RelM.new {K : PySem.W.Frag} {H : Hp} {M : Mem} {p : Addr} {o : HO} {d : DO} (m : RelM K H M) (h : H p = none) (r : RelO K (upd H p o) p d) : RelM K (upd H p o) (put M p d) := fun a u e => by
  by_cases q : a = p
  · subst q; rw [put_same] at e; cases e; exact r
  · rw [put_ne q] at e
    exact (m a u e).tle (Tle.new h) (Xle.new h) fun v hv => by rw [upd_ne q]; exact hv
/-- a new object that nobody asks for -/
theorem RelM.more {K : PySem.W.Frag} {H : Hp} {M : Mem} {p : Addr} {o : HO} (m : RelM K H M) (h : H p = none) : RelM K (upd H p o) M := fun a u e =>
  (m a u e).tle (Tle.new h) (Xle.new h) fun v hv => by rw [upd_ne (ne_of_none hv h)]; exact hv
/-- an object changed -/
theorem RelM.write {K : PySem.W.Frag} {H : Hp} {M : Mem} {p : Addr} {o u : HO} {d : DO} (m : RelM K H M) (h : H p = some u) (hu : ∀ xs, u ≠ .tup xs) (r : RelO K (upd H p o) p d) (hx : ∀ φ, u ≠ .ext φ := by intro φ z; cases z) : RelM K (upd H p o) (put M p d) := fun a v e => by
  by_cases q : a = p
  · subst q; rw [put_same] at e; cases e; exact r
  · rw [put_ne q] at e
    exact (m a v e).tle (Tle.write h hu) (Xle.write h hx) fun z hz => by rw [upd_ne q]; exact hz
/-- less is asked for -/
theorem RelM.less {K : PySem.W.Frag} {H : Hp} {M M' : Mem} (m : RelM K H M) (h : ∀ a o, M' a = some o → M a = some o) : RelM K H M' := fun a o e => m a o (h a o e)

/-! ### the low readings -/
abbrev Envd := List (Option D)
abbrev VKd := D → Mem → Prop
abbrev TEd := Envd → Mem → VKd → Prop
abbrev TTd := Envd → Mem → (Bool → Mem → Prop) → Prop
abbrev TAd := Envd → Mem → (List D → Mem → Prop) → Prop
structure Endsd where
  nx : Envd → Mem → Prop
  rt : VKd
  bk : Envd → Mem → Prop := fun _ _ => False
  ct : Envd → Mem → Prop := fun _ _ => False
abbrev TSd := Endsd → Envd → Mem → Prop

def RelE (H : Hp) (ρ : Envd) (σ : St) : Prop := ρ.length = σ.length ∧ ∀ (i : Nat) (d : D), ρ[i]? = some (some d) → ∃ v, σ[i]? = some (some v) ∧ Rel H d v
theorem RelE.tle {H H' : Hp} {ρ : Envd} {σ : St} (t : Tle H H') (r : RelE H ρ σ) : RelE H' ρ σ := ⟨r.1, fun i d e => let ⟨v, a, b⟩ := r.2 i d e; ⟨v, a, b.tle t⟩⟩
theorem RelE.set {H : Hp} {ρ : Envd} {σ : St} {i : Nat} {d : D} {v : V} (r : RelE H ρ σ) (h : Rel H d v) : RelE H (ρ.set i (some d)) (σ.set i (some v)) := by
  refine ⟨by simp [r.1], fun j e q => ?_⟩
  by_cases hj : i = j
  · subst hj
    have hl : i < ρ.length := by
      have := (List.getElem?_eq_some_iff.mp q).1
      simpa using this
    rw [List.getElem?_set_self hl] at q
    cases q
    exact ⟨v, by rw [List.getElem?_set_self (r.1 ▸ hl)], h⟩
  · rw [List.getElem?_set_ne hj] at q
    obtain ⟨u, a, b⟩ := r.2 j e q
    exact ⟨u, by rw [List.getElem?_set_ne hj]; exact a, b⟩

def lowV (K : PySem.W.Frag) (H : Hp) (Q0 : VKd) (Q : VK) : Prop := ∀ v H' d M', Tle H H' → Rel H' d v → RelM K H' M' → Q0 d M' → Q v H'
def lowE (K : PySem.W.Frag) (t : TEd) : TE := fun σ H Q => ∃ ρ M Q0, RelE H ρ σ ∧ RelM K H M ∧ t ρ M Q0 ∧ lowV K H Q0 Q
def lowT (K : PySem.W.Frag) (t : TTd) : TT := fun σ H Q => ∃ ρ M Q0, RelE H ρ σ ∧ RelM K H M ∧ t ρ M Q0 ∧ ∀ b H' M', Tle H H' → RelM K H' M' → Q0 b M' → Q b H'
def lowA (K : PySem.W.Frag) (t : TAd) : TA := fun σ H Q => ∃ ρ M Q0, RelE H ρ σ ∧ RelM K H M ∧ t ρ M Q0 ∧ ∀ vs H' ds M', Tle H H' → RelL H' ds vs → RelM K H' M' → Q0 ds M' → Q vs H'
def lowN (K : PySem.W.Frag) (H : Hp) (Q0 : Envd → Mem → Prop) (Q : St → Hp → Prop) : Prop := ∀ σ H' ρ M', Tle H H' → RelE H' ρ σ → RelM K H' M' → Q0 ρ M' → Q σ H'
structure lowD (K : PySem.W.Frag) (H : Hp) (E0 : Endsd) (E : Ends) : Prop where
  nx : lowN K H E0.nx E.nx
  rt : lowV K H E0.rt E.rt
  bk : lowN K H E0.bk E.bk
  ct : lowN K H E0.ct E.ct
def lowS (K : PySem.W.Frag) (t : TSd) : TS := fun D σ H => ∃ ρ M E0, RelE H ρ σ ∧ RelM K H M ∧ t E0 ρ M ∧ lowD K H E0 D
theorem lowV.tle {K : PySem.W.Frag} {H H1 : Hp} {Q0 : VKd} {Q : VK} (h : lowV K H Q0 Q) (t : Tle H H1) : lowV K H1 Q0 Q := fun v H' d M' t' => h v H' d M' (t.trans t')
theorem lowN.tle {K : PySem.W.Frag} {H H1 : Hp} {Q0 : Envd → Mem → Prop} {Q : St → Hp → Prop} (h : lowN K H Q0 Q) (t : Tle H H1) : lowN K H1 Q0 Q := fun v H' d M' t' => h v H' d M' (t.trans t')
theorem lowD.tle {K : PySem.W.Frag} {H H1 : Hp} {E0 : Endsd} {E : Ends} (h : lowD K H E0 E) (t : Tle H H1) : lowD K H1 E0 E := ⟨h.nx.tle t, h.rt.tle t, h.bk.tle t, h.ct.tle t⟩

/-! ### the judgements -/
structure PEd (X : Cx) (e : Expr) (t : TEd) : Prop where
  pe : PE X e (lowE X.K t)
structure PTd (X : Cx) (e : Expr) (t : TTd) : Prop where
  pt : PT X e (lowT X.K t)
structure PWd (X : Cx) (e : Expr) (t : TTd) : Prop where
  pw : PW X e (lowT X.K t)
structure PAd (X : Cx) (es : List Expr) (t : TAd) : Prop where
  pa : PA X es (lowA X.K t)
structure PSd (X : Cx) (st : Stmt) (t : TSd) : Prop where
  ps : PS X st (lowS X.K t)
structure PSsd (X : Cx) (st : List Stmt) (t : TSd) : Prop where
  ps : PSs X st (lowS X.K t)
section
variable {X : Cx}
theorem PEd.of {e : Expr} {t : TEd} {t' : TE} (h : PE X e t') (sim : ∀ σ H Q, lowE X.K t σ H Q → t' σ H Q) : PEd X e t := ⟨⟨fun pins s σ H Q I w => h.run pins s σ H Q I (sim σ H Q w)⟩⟩
theorem PTd.of {e : Expr} {t : TTd} {t' : TT} (h : PT X e t') (sim : ∀ σ H Q, lowT X.K t σ H Q → t' σ H Q) : PTd X e t := ⟨⟨fun pins s σ H Q I w => h.run pins s σ H Q I (sim σ H Q w)⟩⟩
theorem PWd.of {e : Expr} {t : TTd} {t' : TT} (h : PW X e t') (sim : ∀ σ H Q, lowT X.K t σ H Q → t' σ H Q) : PWd X e t := ⟨⟨fun wh pins s σ H Q I w => h.run wh pins s σ H Q I (sim σ H Q w)⟩⟩
theorem PAd.of {e : List Expr} {t : TAd} {t' : TA} (h : PA X e t') (sim : ∀ σ H Q, lowA X.K t σ H Q → t' σ H Q) : PAd X e t := ⟨⟨fun pos pins s σ H Q I w => h.run pos pins s σ H Q I (sim σ H Q w)⟩⟩
theorem PSd.of {e : Stmt} {t : TSd} {t' : TS} (h : PS X e t') (sim : ∀ D σ H, lowS X.K t D σ H → t' D σ H) : PSd X e t := ⟨⟨fun pins s σ H D I w => h.run pins s σ H D I (sim D σ H w)⟩⟩
theorem PSsd.of {e : List Stmt} {t : TSd} {t' : TS} (h : PSs X e t') (sim : ∀ D σ H, lowS X.K t D σ H → t' D σ H) : PSsd X e t := ⟨⟨fun pins s σ H D I w => h.run pins s σ H D I (sim D σ H w)⟩⟩
theorem PWd.pt {e : Expr} {t : TTd} (h : PWd X e t) : PTd X e t := ⟨h.pw.pt⟩

/-! ### names and constants -/
def tvar (i : Nat) : TEd := fun ρ M Q => match ρ[i]? with
  | some (some d) => Q d M
  | _ => False
def tcon (d : D) : TEd := fun _ M Q => Q d M
theorem tvar_low {i : Nat} {K : PySem.W.Frag} (σ : St) (H : Hp) (Q : VK) (h : lowE K (tvar i) σ H Q) : tVar i σ H Q := by
  obtain ⟨ρ, M, Q0, re, rm, h, k⟩ := h
  unfold tvar at h
  split at h
  · rename_i d e
    obtain ⟨v, a, b⟩ := re.2 i d e
    exact ⟨v, a, k v H d M .refl b rm h⟩
  · exact h.elim
theorem ped_var {i : Nat} {x : Str} {pos : Pos} (hN : X.N[i]? = some x) (hv : Vis X.env.scope x) (hd : (x == ("__debug__" : Str)) = false := by decide) (hcd : (x == ("__classdict__" : Str)) = false := by decide) : PEd X (.Name x pos) (tvar i) :=
  .of (pe_var hN hv hd hcd) tvar_low
theorem tcon_low {K : PySem.W.Frag} {d : D} {v : V} (hr : ∀ H, Rel H d v) (σ : St) (H : Hp) (Q : VK) (h : lowE K (tcon d) σ H Q) : tC v σ H Q := by
  obtain ⟨ρ, M, Q0, re, rm, h, k⟩ := h
  exact k v H d M .refl (hr H) rm h
theorem ped_int {i j pos} : PEd X (.Constant (.int i) j pos) (tcon (.int i)) := .of pe_int (tcon_low (d := .int i) (v := .int i) fun _ => rfl)
theorem ped_bl {b j pos} : PEd X (.Constant (.bool b) j pos) (tcon (.bl b)) := .of pe_bl (tcon_low (d := .bl b) (v := .bl b) fun _ => rfl)
theorem ped_non {j pos} : PEd X (.Constant .none j pos) (tcon .non) := .of pe_non (tcon_low (d := .non) (v := .non) fun _ => rfl)
theorem ped_str {x j pos} : PEd X (.Constant (.str x) j pos) (tcon (.str x)) := .of pe_str (tcon_low (d := .str x) (v := .str x) fun _ => rfl)
theorem ped_glob {x : Str} {a : Addr} {pos : Pos} (hg : Gl X x) (hm : X.mg x = some (.ref a)) (hd : (x == ("__debug__" : Str)) = false := by decide) : PEd X (.Name x pos) (tcon (.ref a)) := .of (pe_glob (v := .ref a) hg hm rfl hd) (tcon_low (d := .ref a) (v := .ref a) fun _ => rfl)
theorem ped_ty {x : Str} {n : String} {pos : Pos} (hg : Gl X x) (hm : X.mg x = none) (hv : bootBuiltins x = some (.type n)) (hn : x ≠ "__name__" := by decide) (hd : (x == ("__debug__" : Str)) = false := by decide) : PEd X (.Name x pos) (tcon (.ty n)) :=
  .of (pe_bltn (v := .ty n) hg hm hv rfl hn hd) (tcon_low (d := .ty n) (v := .ty n) fun _ => rfl)

/-! ### operators by values -/
abbrev R2d := D → D → Mem → VKd → Prop
abbrev R1d := D → Mem → VKd → Prop
def lowR2 (K : PySem.W.Frag) (r : R2d) : R2 := fun x y H Q => ∃ a b M Q0, Rel H a x ∧ Rel H b y ∧ RelM K H M ∧ r a b M Q0 ∧ lowV K H Q0 Q
def lowR1 (K : PySem.W.Frag) (r : R1d) : V → Hp → VK → Prop := fun x H Q => ∃ a M Q0, Rel H a x ∧ RelM K H M ∧ r a M Q0 ∧ lowV K H Q0 Q
def top2 (r : R2d) (ta tb : TEd) : TEd := fun ρ M Q => ta ρ M fun x M1 => tb ρ M1 fun y M2 => r x y M2 Q
def top1 (r : R1d) (ta : TEd) : TEd := fun ρ M Q => ta ρ M fun x M1 => r x M1 Q
theorem top2_low {K : PySem.W.Frag} {r : R2d} {ta tb : TEd} (σ : St) (H : Hp) (Q : VK) (h : lowE K (top2 r ta tb) σ H Q) : tOp (lowR2 K r) (lowE K ta) (lowE K tb) σ H Q := by
  obtain ⟨ρ, M, Q0, re, rm, h, k⟩ := h
  exact ⟨ρ, M, _, re, rm, h, fun x H1 dx M1 t1 r1 m1 h1 => ⟨ρ, M1, _, re.tle t1, m1, h1, fun y H2 dy M2 t2 r2 m2 h2 => ⟨dx, dy, M2, Q0, r1.tle t2, r2, m2, h2, k.tle (t1.trans t2)⟩⟩⟩
theorem top1_low {K : PySem.W.Frag} {r : R1d} {ta : TEd} (σ : St) (H : Hp) (Q : VK) (h : lowE K (top1 r ta) σ H Q) : tUn (lowR1 K r) (lowE K ta) σ H Q := by
  obtain ⟨ρ, M, Q0, re, rm, h, k⟩ := h
  exact ⟨ρ, M, _, re, rm, h, fun x H1 dx M1 t1 r1 m1 h1 => ⟨dx, M1, Q0, r1, m1, h1, k.tle t1⟩⟩
theorem OpR.mono {f : Value → Value → Sem Value} {r r' : R2} (h : OpR X f r) (q : ∀ x y H Q, r' x y H Q → r x y H Q) : OpR X f r' := fun pins s σ H x y v u Q I rx ry w => h pins s σ H x y v u Q I rx ry (q x y H Q w)
theorem UnR.mono {f : Value → Sem Value} {r r' : V → Hp → VK → Prop} (h : UnR X f r) (q : ∀ x H Q, r' x H Q → r x H Q) : UnR X f r' := fun pins s σ H x v Q I rx w => h pins s σ H x v Q I rx (q x H Q w)
section
variable {op : Operator} {cop : CmpOp} {uop : UnaryOp} {r : R2d} {r1 : R1d} {a b : Expr} {ta tb : TEd} {pos : Pos}
theorem ped_op (ho : OpR X (binaryOp op) (lowR2 X.K r)) (ha : PEd X a ta) (hb : PEd X b tb) : PEd X (.BinOp a op b pos) (top2 r ta tb) := .of (pe_op ho ha.pe hb.pe) top2_low
theorem ped_un (ho : UnR X (unaryOp uop) (lowR1 X.K r1)) (ha : PEd X a ta) : PEd X (.UnaryOp uop a pos) (top1 r1 ta) := .of (pe_un ho ha.pe) top1_low
theorem ped_cmp (ho : OpR X (compareOp cop) (lowR2 X.K r)) (ha : PEd X a ta) (hb : PEd X b tb) (hm : behindInMarks cop b = false) : PEd X (.Compare a [cop] [b] pos) (top2 r ta tb) := .of (pe_cmpR ho ha.pe hb.pe hm) top2_low
end
end
end DL

end T_DL1

section T_DL2
set_option Elab.async false
set_option linter.all false
set_option maxRecDepth 100000
set_option maxHeartbeats 1000000
/-! The D layer, 2: operators, tests, simple statements. -/
namespace DL
open PySem PySem.Spec L2
open PyProof.Rows hiding St

theorem Rel.tupT {H : Hp} {ds : List D} {v : V} {K : PySem.W.Frag} (h : Rel H (.tup ds) v) : ∃ a vs, v = .ref a ∧ SqT K H a vs ∧ RelL H ds vs := by
  obtain ⟨a, vs, e, q, r⟩ := h
  exact ⟨a, vs, e, .of q, r⟩
theorem RelM.lst {K : PySem.W.Frag} {H : Hp} {M : Mem} {a : Addr} {ds : List D} (m : RelM K H M) (h : M a = some (.lst ds)) : ∃ vs, H a = some (.lst vs) ∧ RelL H ds vs := m a _ h
/-- what may be read at a as a list -/
def rdL (M : Mem) (a : Addr) : Option (List D) := match M a with
  | some (.lst xs) => some xs
  | some (.ro xs) => some xs
  | _ => none
theorem RelM.rdL {K : PySem.W.Frag} {H : Hp} {M : Mem} {a : Addr} {ds : List D} (m : RelM K H M) (h : rdL M a = some ds) : ∃ vs, SqL K H a vs ∧ RelL H ds vs := by
  unfold DL.rdL at h
  split at h
  · rename_i xs e; cases h; obtain ⟨vs, q, r⟩ := m a _ e; exact ⟨vs, .of q, r⟩
  · rename_i xs e; cases h; obtain ⟨vs, q, r⟩ := m a _ e; exact ⟨vs, .inl q, r⟩
  · cases h
theorem rdL_lst {M : Mem} {a : Addr} {ds : List D} (h : M a = some (.lst ds)) : rdL M a = some ds := by unfold rdL; rw [h]
theorem rdL_ro {M : Mem} {a : Addr} {ds : List D} (h : M a = some (.ro ds)) : rdL M a = some ds := by unfold rdL; rw [h]

/-! ### plain data, for == and in -/
mutual
inductive PyR (M : Mem) : D → PyData → Prop
  | non : PyR M .non .none
  | bl (b : Bool) : PyR M (.bl b) (.bool b)
  | int (i : Int) : PyR M (.int i) (.int i)
  | str (x : Str) : PyR M (.str x) (.str x)
  | tup {xs : List D} {ds : List PyData} : PyRL M xs ds → PyR M (.tup xs) (.tuple ds)
  | lst {a : Addr} {xs : List D} {ds : List PyData} : rdL M a = some xs → PyRL M xs ds → PyR M (.ref a) (.list ds)
inductive PyRL (M : Mem) : List D → List PyData → Prop
  | nil : PyRL M [] []
  | cons {x : D} {xs : List D} {d : PyData} {ds : List PyData} : PyR M x d → PyRL M xs ds → PyRL M (x :: xs) (d :: ds)
end
mutual
theorem PyR.dp {K : PySem.W.Frag} {H : Hp} {M : Mem} (m : RelM K H M) : ∀ (p : PyData) (d : D) (v : V), PyR M d p → Rel H d v → Dp K H v p
  | .none, _, _, .non, r => by cases r; exact .non
  | .bool _, _, _, .bl b, r => by cases r; exact .bl b
  | .int _, _, _, .int i, r => by cases r; exact .int i
  | .str _, _, _, .str x, r => by cases r; exact .str x
  | .tuple ps, _, _, .tup h, r => by
    obtain ⟨a, vs, e, q, rl⟩ := r
    subst e
    exact .tup (.of q) (PyRL.dp m ps _ _ h rl)
  | .list ps, _, _, .lst h hl, r => by
    cases r
    obtain ⟨vs, q, rl⟩ := m.rdL h
    exact .lst q (PyRL.dp m ps _ _ hl rl)
theorem PyRL.dp {K : PySem.W.Frag} {H : Hp} {M : Mem} (m : RelM K H M) : ∀ (ps : List PyData) (ds : List D) (vs : List V), PyRL M ds ps → RelL H ds vs → DpAll K H vs ps
  | [], _, _, .nil, r => by cases r; exact .nil
  | p :: ps, _, _, .cons h hl, r => by
    obtain ⟨v, vr, e, h1, h2⟩ := r
    subst e
    exact .cons (PyR.dp m p _ _ h h1) (PyRL.dp m ps _ _ hl h2)
end
mutual
/-- data without objects -/
def D.pure : D → Bool
  | .ref _ => false
  | .ty _ => false
  | .tup xs => D.pureL xs
  | _ => true
def D.pureL : List D → Bool
  | [] => true
  | x :: xs => D.pure x && D.pureL xs
end
mutual
def D.py : D → PyData
  | .non => .none
  | .bl b => .bool b
  | .int i => .int i
  | .str x => .str x
  | .ref _ => .none
  | .ty _ => .none
  | .tup xs => .tuple (D.pyL xs)
def D.pyL : List D → List PyData
  | [] => []
  | x :: xs => D.py x :: D.pyL xs
end
mutual
theorem PyR.of_pure {M : Mem} : ∀ {d : D}, d.pure = true → PyR M d d.py
  | .non, _ => .non
  | .bl b, _ => .bl b
  | .int i, _ => .int i
  | .str x, _ => .str x
  | .ref _, h => by simp [D.pure] at h
  | .ty _, h => by simp [D.pure] at h
  | .tup xs, h => .tup (PyRL.of_pure (by simpa [D.pure] using h))
theorem PyRL.of_pure {M : Mem} : ∀ {ds : List D}, D.pureL ds = true → PyRL M ds (D.pyL ds)
  | [], _ => .nil
  | x :: xs, h => by
    simp [D.pureL] at h
    exact .cons (PyR.of_pure h.1) (PyRL.of_pure h.2)
end

/-! ### operators -/
def addR : R2d
  | .int i, .int j, M, Q => Q (.int (i + j)) M
  | .str a, .str b, M, Q => a.length + b.length ≤ sizeLine ∧ Q (.str (a ++ b)) M
  | .tup xs, .tup ys, M, Q => xs.length + ys.length ≤ sizeLine ∧ Q (.tup (xs ++ ys)) M
  | .ref a, .ref b, M, Q => (match M a, M b with
    | some (.lst xs), some (.lst ys) => xs.length + ys.length ≤ sizeLine ∧ ∀ p, M p = none → Q (.ref p) (put M p (.lst (xs ++ ys)))
    | _, _ => False)
  | _, _, _, _ => False
def subR : R2d
  | .int i, .int j, M, Q => Q (.int (i - j)) M
  | _, _, _, _ => False
def mulR : R2d
  | .int i, .int j, M, Q => ((-(2 ^ 64) < i ∧ i < 2 ^ 64) ∨ (-(2 ^ 64) < j ∧ j < 2 ^ 64)) ∧ Q (.int (i * j)) M
  | .ref a, .int k, M, Q => (match M a with
    | some (.lst xs) => (-(2 ^ 63) ≤ k ∧ k < 2 ^ 63 ∧ xs.length * k.toNat ≤ sizeLine) ∧ ∀ p, M p = none → Q (.ref p) (put M p (.lst (List.replicate k.toNat xs).flatten))
    | _ => False)
  | .tup xs, .int k, M, Q => (xs ≠ [] ∧ 2 ≤ k ∧ k ≤ 1000 ∧ xs.length ≤ 1000) ∧ Q (.tup (List.replicate k.toNat xs).flatten) M
  | _, _, _, _ => False
def fdivR : R2d
  | .int i, .int j, M, Q => (0 < j ∧ j < 1073741824) ∧ Q (.int (i / j)) M
  | _, _, _, _ => False
def modR : R2d
  | .int i, .int j, M, Q => 0 < j ∧ Q (.int (i % j)) M
  | _, _, _, _ => False
def powR : R2d
  | .int i, .int j, M, Q => (0 ≤ j ∧ j ≤ 1000000 ∧ i.natAbs < 2 ^ 64) ∧ Q (.int (i ^ j.toNat)) M
  | _, _, _, _ => False
def negR : R1d
  | .int i, M, Q => Q (.int (-i)) M
  | _, _, _ => False
def ltR : R2d
  | .int i, .int j, M, Q => Q (.bl (decide (i < j))) M
  | _, _, _, _ => False
def leR : R2d
  | .int i, .int j, M, Q => Q (.bl (decide (i ≤ j))) M
  | _, _, _, _ => False
def gtR : R2d
  | .int i, .int j, M, Q => Q (.bl (decide (j < i))) M
  | _, _, _, _ => False
def geR : R2d
  | .int i, .int j, M, Q => Q (.bl (decide (j ≤ i))) M
  | _, _, _, _ => False
def eqD (x y : D) (M : Mem) (Q : Bool → Mem → Prop) : Prop := ∃ p q, PyR M x p ∧ PyR M y q ∧ SeqAt.shaped p = true ∧ SeqAt.shaped q = true ∧ Q (PyData.eqv p q) M
def eqR : R2d
  | .int i, .int j, M, Q => Q (.bl (decide (i = j))) M
  | .str i, .str j, M, Q => Q (.bl (decide (i = j))) M
  | .bl i, .bl j, M, Q => Q (.bl (decide (i = j))) M
  | x, y, M, Q => eqD x y M fun b M1 => Q (.bl b) M1
def neR : R2d
  | .int i, .int j, M, Q => Q (.bl (!decide (i = j))) M
  | .str i, .str j, M, Q => Q (.bl (!decide (i = j))) M
  | .bl i, .bl j, M, Q => Q (.bl (!decide (i = j))) M
  | x, y, M, Q => eqD x y M fun b M1 => Q (.bl (!b)) M1
/-- is None, is True, is False -/
def isR : R2d
  | x, .non, M, Q => Q (.bl (decide (x = .non))) M
  | .bl a, .bl b, M, Q => Q (.bl (decide (a = b))) M
  | _, _, _, _ => False
def isntR : R2d
  | x, .non, M, Q => Q (.bl (!decide (x = .non))) M
  | .bl a, .bl b, M, Q => Q (.bl (!decide (a = b))) M
  | _, _, _, _ => False
theorem lowV.int {K : PySem.W.Frag} {H : Hp} {M : Mem} {Q0 : VKd} {Q : VK} {i : Int} (k : lowV K H Q0 Q) (m : RelM K H M) (h : Q0 (.int i) M) : Q (.int i) H := k (.int i) H (.int i) M .refl rfl m h
theorem lowV.bl {K : PySem.W.Frag} {H : Hp} {M : Mem} {Q0 : VKd} {Q : VK} {i : Bool} (k : lowV K H Q0 Q) (m : RelM K H M) (h : Q0 (.bl i) M) : Q (.bl i) H := k (.bl i) H (.bl i) M .refl rfl m h
theorem lowV.str {K : PySem.W.Frag} {H : Hp} {M : Mem} {Q0 : VKd} {Q : VK} {i : Str} (k : lowV K H Q0 Q) (m : RelM K H M) (h : Q0 (.str i) M) : Q (.str i) H := k (.str i) H (.str i) M .refl rfl m h
theorem lowV.non {K : PySem.W.Frag} {H : Hp} {M : Mem} {Q0 : VKd} {Q : VK} (k : lowV K H Q0 Q) (m : RelM K H M) (h : Q0 .non M) : Q .non H := k .non H .non M .refl rfl m h
theorem lowV.ref {K : PySem.W.Frag} {H H' : Hp} {M : Mem} {Q0 : VKd} {Q : VK} {a : Addr} (k : lowV K H Q0 Q) (t : Tle H H') (m : RelM K H' M) (h : Q0 (.ref a) M) : Q (.ref a) H' := k (.ref a) H' (.ref a) M t rfl m h
theorem lowV.tup {K : PySem.W.Frag} {H H' : Hp} {M : Mem} {Q0 : VKd} {Q : VK} {a : Addr} {vs : List V} {ds : List D} (k : lowV K H Q0 Q) (t : Tle H H') (e : H' a = some (.tup vs)) (r : RelL H' ds vs) (m : RelM K H' M) (h : Q0 (.tup ds) M) : Q (.ref a) H' := k (.ref a) H' (.tup ds) M t ⟨a, vs, rfl, e, r⟩ m h
theorem lowV.any {K : PySem.W.Frag} {H : Hp} {M : Mem} {Q0 : VKd} {Q : VK} {d : D} {v : V} (k : lowV K H Q0 Q) (r : Rel H d v) (m : RelM K H M) (h : Q0 d M) : Q v H := k v H d M .refl r m h
/-- a list is new -/
theorem lowV.newL {K : PySem.W.Frag} {H : Hp} {M : Mem} {Q0 : VKd} {Q : VK} {p : Addr} {vs : List V} {ds : List D} (k : lowV K H Q0 Q) (m : RelM K H M) (hp : H p = none) (r : RelL H ds vs) (h : ∀ p, M p = none → Q0 (.ref p) (put M p (.lst ds))) : Q (.ref p) (upd H p (.lst vs)) :=
  k.ref (.new hp) (m.new (d := .lst ds) hp ⟨vs, upd_same, r.tle (.new hp)⟩) (h p (m.fresh hp))
/-- a tuple is new -/
theorem lowV.newT {K : PySem.W.Frag} {H : Hp} {M : Mem} {Q0 : VKd} {Q : VK} {p : Addr} {vs : List V} {ds : List D} (k : lowV K H Q0 Q) (m : RelM K H M) (hp : H p = none) (r : RelL H ds vs) (h : Q0 (.tup ds) M) : Q (.ref p) (upd H p (.tup vs)) :=
  k.tup (.new hp) upd_same (r.tle (.new hp)) (m.more hp) h
theorem Rel.non_iff {H : Hp} {d : D} {v : V} (h : Rel H d v) : decide (v = .non) = decide (d = D.non) := by
  cases d with
  | tup xs => obtain ⟨a, vs, e, _⟩ := h; subst e; simp
  | _ => cases h; simp
section
variable {X : Cx}
theorem op_addD : OpR X (binaryOp .Add) (lowR2 X.K addR) := by
  refine OpR.mono ((op_add.or op_add_str).or (op_catA.or op_cat)) fun x y H Q w => ?_
  obtain ⟨a, b, M, Q0, ra, rb, m, h, k⟩ := w
  cases a with
  | int i => cases b with
    | int j => cases ra; cases rb; exact .inl (.inl ⟨_, _, rfl, rfl, k.int m h⟩)
    | _ => exact h.elim
  | str i => cases b with
    | str j => cases ra; cases rb; exact .inl (.inr ⟨_, _, rfl, rfl, h.1, k.str m h.2⟩)
    | _ => exact h.elim
  | ref a => cases b with
    | ref b =>
      cases ra; cases rb
      refine .inr (.inr ?_)
      have h' : (match M a, M b with
        | some (.lst xs), some (.lst ys) => xs.length + ys.length ≤ sizeLine ∧ ∀ p, M p = none → Q0 (.ref p) (put M p (.lst (xs ++ ys)))
        | _, _ => False) := h
      split at h'
      · rename_i xs ys e1 e2
        obtain ⟨vs, q1, r1⟩ := m.lst e1
        obtain ⟨us, q2, r2⟩ := m.lst e2
        exact ⟨a, b, vs, us, rfl, rfl, q1, q2, by rw [r1.length, r2.length]; exact h'.1, fun p hp => k.newL m hp (r1.append r2) h'.2⟩
      · exact h'.elim
    | _ => exact h.elim
  | tup xs => cases b with
    | tup ys =>
      obtain ⟨a, vs, e1, q1, r1⟩ := ra
      obtain ⟨b, us, e2, q2, r2⟩ := rb
      subst e1 e2
      have h2 : Q0 (.tup (xs ++ ys)) M := h.2
      refine .inr (.inl ⟨a, b, vs, us, rfl, rfl, .of q1, .of q2, by rw [r1.length, r2.length]; exact h.1, fun e => ?_, fun _ e => ?_, fun _ _ p hp => ?_⟩)
      · subst e
        cases xs with
        | nil => exact k.tup .refl q2 r2 m h2
        | cons x xs => obtain ⟨_, _, e, _⟩ := r1; cases e
      · subst e
        cases ys with
        | nil => exact k.tup .refl q1 (by rw [List.append_nil]; exact r1) m h2
        | cons x xs => obtain ⟨_, _, e, _⟩ := r2; cases e
      · exact k.newT m hp (r1.append r2) h2
    | _ => exact h.elim
  | _ => cases b <;> exact h.elim
theorem op_mulD : OpR X (binaryOp .Mult) (lowR2 X.K mulR) := by
  refine OpR.mono (op_mul.or (op_rep.or op_repT)) fun x y H Q w => ?_
  obtain ⟨a, b, M, Q0, ra, rb, m, h, k⟩ := w
  cases a with
  | int i => cases b with
    | int j => cases ra; cases rb; exact .inl ⟨_, _, rfl, rfl, h.1, k.int m h.2⟩
    | _ => exact h.elim
  | ref a => cases b with
    | int n =>
      cases ra; cases rb
      have h' : (match M a with
        | some (.lst xs) => (-(2 ^ 63) ≤ n ∧ n < 2 ^ 63 ∧ xs.length * n.toNat ≤ sizeLine) ∧ ∀ p, M p = none → Q0 (.ref p) (put M p (.lst (List.replicate n.toNat xs).flatten))
        | _ => False) := h
      split at h'
      · rename_i xs e1
        obtain ⟨vs, q1, r1⟩ := m.lst e1
        exact .inr (.inl ⟨a, n, vs, rfl, rfl, q1, h'.1.1, h'.1.2.1, by rw [r1.length]; exact h'.1.2.2, fun p hp => k.newL m hp (r1.flat _) h'.2⟩)
      · exact h'.elim
    | _ => exact h.elim
  | tup xs => cases b with
    | int n =>
      cases rb
      obtain ⟨a, vs, e1, q1, r1⟩ := ra
      subst e1
      obtain ⟨⟨h1, h2, h3, h4⟩, h⟩ := h
      refine .inr (.inr ⟨a, n, vs, rfl, rfl, .of q1, fun e => ?_, h2, h3, by rw [r1.length]; exact h4, fun p hp => k.newT m hp (r1.flat _) h⟩)
      subst e
      cases xs with
      | nil => exact h1 rfl
      | cons x xs => obtain ⟨_, _, e, _⟩ := r1; cases e
    | _ => exact h.elim
  | _ => cases b <;> exact h.elim
theorem op_subD : OpR X (binaryOp .Sub) (lowR2 X.K subR) := by
  refine OpR.mono op_sub fun x y H Q w => ?_
  obtain ⟨a, b, M, Q0, ra, rb, m, h, k⟩ := w
  cases a with
  | int i => cases b with
    | int j => cases ra; cases rb; exact ⟨_, _, rfl, rfl, k.int m h⟩
    | _ => exact h.elim
  | _ => cases b <;> exact h.elim
theorem op_fdivD : OpR X (binaryOp .FloorDiv) (lowR2 X.K fdivR) := by
  refine OpR.mono op_fdiv fun x y H Q w => ?_
  obtain ⟨a, b, M, Q0, ra, rb, m, h, k⟩ := w
  cases a with
  | int i => cases b with
    | int j => cases ra; cases rb; exact ⟨_, _, rfl, rfl, h.1, k.int m h.2⟩
    | _ => exact h.elim
  | _ => cases b <;> exact h.elim
theorem op_modD : OpR X (binaryOp .Mod) (lowR2 X.K modR) := by
  refine OpR.mono op_mod fun x y H Q w => ?_
  obtain ⟨a, b, M, Q0, ra, rb, m, h, k⟩ := w
  cases a with
  | int i => cases b with
    | int j => cases ra; cases rb; exact ⟨_, _, rfl, rfl, h.1, k.int m h.2⟩
    | _ => exact h.elim
  | _ => cases b <;> exact h.elim
theorem op_powD : OpR X (binaryOp .Pow) (lowR2 X.K powR) := by
  refine OpR.mono op_pow fun x y H Q w => ?_
  obtain ⟨a, b, M, Q0, ra, rb, m, h, k⟩ := w
  cases a with
  | int i => cases b with
    | int j => cases ra; cases rb; exact ⟨_, _, rfl, rfl, h.1, k.int m h.2⟩
    | _ => exact h.elim
  | _ => cases b <;> exact h.elim
theorem op_ltD : OpR X (compareOp .Lt) (lowR2 X.K ltR) := by
  refine OpR.mono op_lt fun x y H Q w => ?_
  obtain ⟨a, b, M, Q0, ra, rb, m, h, k⟩ := w
  cases a with
  | int i => cases b with
    | int j => cases ra; cases rb; exact ⟨_, _, rfl, rfl, k.bl m h⟩
    | _ => exact h.elim
  | _ => cases b <;> exact h.elim
theorem op_leD : OpR X (compareOp .LtE) (lowR2 X.K leR) := by
  refine OpR.mono op_le fun x y H Q w => ?_
  obtain ⟨a, b, M, Q0, ra, rb, m, h, k⟩ := w
  cases a with
  | int i => cases b with
    | int j => cases ra; cases rb; exact ⟨_, _, rfl, rfl, k.bl m h⟩
    | _ => exact h.elim
  | _ => cases b <;> exact h.elim
theorem op_gtD : OpR X (compareOp .Gt) (lowR2 X.K gtR) := by
  refine OpR.mono op_gt fun x y H Q w => ?_
  obtain ⟨a, b, M, Q0, ra, rb, m, h, k⟩ := w
  cases a with
  | int i => cases b with
    | int j => cases ra; cases rb; exact ⟨_, _, rfl, rfl, k.bl m h⟩
    | _ => exact h.elim
  | _ => cases b <;> exact h.elim
theorem op_geD : OpR X (compareOp .GtE) (lowR2 X.K geR) := by
  refine OpR.mono op_ge fun x y H Q w => ?_
  obtain ⟨a, b, M, Q0, ra, rb, m, h, k⟩ := w
  cases a with
  | int i => cases b with
    | int j => cases ra; cases rb; exact ⟨_, _, rfl, rfl, k.bl m h⟩
    | _ => exact h.elim
  | _ => cases b <;> exact h.elim
theorem un_negD : UnR X (unaryOp .USub) (lowR1 X.K negR) := by
  refine UnR.mono un_neg fun x H Q w => ?_
  obtain ⟨a, M, Q0, ra, m, h, k⟩ := w
  cases a with
  | int i => cases ra; exact ⟨_, rfl, k.int m h⟩
  | _ => exact h.elim
theorem op_eqDD (hu : X.A.units + 64 < cLine) : OpR X (compareOp .Eq) (lowR2 X.K eqR) := by
  refine OpR.mono (op_eq.or (op_eqD hu)) fun x y H Q w => ?_
  obtain ⟨a, b, M, Q0, ra, rb, m, h, k⟩ := w
  have gen : (eqD a b M fun b M1 => Q0 (.bl (b)) M1) → rEqD X.K x y H Q := fun z => by
    obtain ⟨p, q, h1, h2, s1, s2, h⟩ := z
    exact ⟨p, q, PyR.dp m _ _ _ h1 ra, PyR.dp m _ _ _ h2 rb, s1, s2, k.bl m h⟩
  cases a with
  | int i => cases b with
    | int j => cases ra; cases rb; exact .inl ⟨rfl, by simp only [V.int.injEq]; exact k.bl m h⟩
    | _ => exact .inr (gen h)
  | str i => cases b with
    | str j => cases ra; cases rb; exact .inl ⟨rfl, by simp only [V.str.injEq]; exact k.bl m h⟩
    | _ => exact .inr (gen h)
  | bl i => cases b with
    | bl j => cases ra; cases rb; exact .inl ⟨rfl, by simp only [V.bl.injEq]; exact k.bl m h⟩
    | _ => exact .inr (gen h)
  | _ => cases b <;> exact .inr (gen h)
theorem op_neDD (hu : X.A.units + 64 < cLine) : OpR X (compareOp .NotEq) (lowR2 X.K neR) := by
  refine OpR.mono (op_ne.or (op_neD hu)) fun x y H Q w => ?_
  obtain ⟨a, b, M, Q0, ra, rb, m, h, k⟩ := w
  have gen : (eqD a b M fun b M1 => Q0 (.bl (!b)) M1) → rNeD X.K x y H Q := fun z => by
    obtain ⟨p, q, h1, h2, s1, s2, h⟩ := z
    exact ⟨p, q, PyR.dp m _ _ _ h1 ra, PyR.dp m _ _ _ h2 rb, s1, s2, k.bl m h⟩
  cases a with
  | int i => cases b with
    | int j => cases ra; cases rb; exact .inl ⟨rfl, by simp only [V.int.injEq]; exact k.bl m h⟩
    | _ => exact .inr (gen h)
  | str i => cases b with
    | str j => cases ra; cases rb; exact .inl ⟨rfl, by simp only [V.str.injEq]; exact k.bl m h⟩
    | _ => exact .inr (gen h)
  | bl i => cases b with
    | bl j => cases ra; cases rb; exact .inl ⟨rfl, by simp only [V.bl.injEq]; exact k.bl m h⟩
    | _ => exact .inr (gen h)
  | _ => cases b <;> exact .inr (gen h)
theorem op_isD : OpR X (compareOp .Is) (lowR2 X.K isR) := by
  refine OpR.mono (op_isN.or op_isBl) fun x y H Q w => ?_
  obtain ⟨a, b, M, Q0, ra, rb, m, h, k⟩ := w
  cases b with
  | non =>
    cases rb
    have h' : Q0 (.bl (decide (a = .non))) M := by cases a <;> exact h
    exact .inl ⟨rfl, by rw [ra.non_iff]; exact k.bl m h'⟩
  | bl j =>
    cases a with
    | bl i => cases ra; cases rb; exact .inr ⟨_, _, rfl, rfl, k.bl m h⟩
    | _ => exact h.elim
  | _ => cases a <;> exact h.elim
theorem op_isntD : OpR X (compareOp .IsNot) (lowR2 X.K isntR) := by
  refine OpR.mono (op_notN.or op_notBl) fun x y H Q w => ?_
  obtain ⟨a, b, M, Q0, ra, rb, m, h, k⟩ := w
  cases b with
  | non =>
    cases rb
    have h' : Q0 (.bl (!decide (a = .non))) M := by cases a <;> exact h
    exact .inl ⟨rfl, by rw [ra.non_iff]; exact k.bl m h'⟩
  | bl j =>
    cases a with
    | bl i => cases ra; cases rb; exact .inr ⟨_, _, rfl, rfl, k.bl m h⟩
    | _ => exact h.elim
  | _ => cases a <;> exact h.elim
end
end DL

end T_DL2

section T_DL3
set_option Elab.async false
set_option linter.all false
set_option maxRecDepth 100000
set_option maxHeartbeats 1000000
/-! The D layer, 3: tests, displays, small statements, while. -/
namespace DL
open PySem PySem.Spec L2
open PyProof.Rows hiding St

/-! ### tests -/
/-- the truth of a value -/
def truR (x : D) (M : Mem) (Q : Bool → Mem → Prop) : Prop := match x with
  | .bl b => Q b M
  | .non => Q false M
  | .int i => Q (i != 0) M
  | .str s => s.length ≤ sizeLine ∧ Q ((s.length : Int) != 0) M
  | .tup xs => Q (!xs.isEmpty) M
  | .ref a => (match M a with
    | some (.lst xs) => Q (!xs.isEmpty) M
    | some (.dK kvs) => Q (!kvs.isEmpty) M
    | _ => False)
  | .ty _ => False
def ttest (t : TEd) : TTd := fun ρ M Q => t ρ M fun x M1 => match x with
  | .bl b => Q b M1
  | _ => False
def ttru (t : TEd) : TTd := fun ρ M Q => t ρ M fun x M1 => truR x M1 Q
theorem ttest_low {K : PySem.W.Frag} {t : TEd} (σ : St) (H : Hp) (Q : Bool → Hp → Prop) (h : lowT K (ttest t) σ H Q) : tTest (lowE K t) σ H Q := by
  obtain ⟨ρ, M, Q0, re, rm, h, k⟩ := h
  refine ⟨ρ, M, _, re, rm, h, fun x H1 dx M1 t1 r1 m1 h1 => ?_⟩
  cases dx with
  | bl b => cases r1; exact ⟨b, rfl, k b H1 M1 t1 m1 h1⟩
  | _ => exact h1.elim
theorem RelL.isEmpty {H : Hp} {ds : List D} {vs : List V} (r : RelL H ds vs) : vs.isEmpty = ds.isEmpty := by
  have := r.length
  cases ds <;> cases vs <;> simp_all
theorem truR_low {K : PySem.W.Frag} {H : Hp} {M : Mem} {d : D} {v : V} {Q0 : Bool → Mem → Prop} {Q : Bool → Hp → Prop} (r : Rel H d v) (m : RelM K H M) (h : truR d M Q0) (k : ∀ b H' M', Tle H H' → RelM K H' M' → Q0 b M' → Q b H') : ∃ b, TruV K v H b ∧ Q b H := by
  cases d with
  | bl b => cases r; exact ⟨b, rfl, k b H M .refl m h⟩
  | non => cases r; exact ⟨false, rfl, k _ H M .refl m h⟩
  | int i => cases r; exact ⟨_, rfl, k _ H M .refl m h⟩
  | str s => cases r; exact ⟨_, ⟨h.1, rfl⟩, k _ H M .refl m h.2⟩
  | tup xs =>
    obtain ⟨a, vs, e, q, rl⟩ := r
    subst e
    exact ⟨_, .inr (.inl ⟨vs, .of q, rfl⟩), by rw [rl.isEmpty]; exact k _ H M .refl m h⟩
  | ref a =>
    cases r
    have h' : (match M a with
      | some (.lst xs) => Q0 (!xs.isEmpty) M
      | some (.dK kvs) => Q0 (!kvs.isEmpty) M
      | _ => False) := h
    split at h'
    · rename_i xs e
      obtain ⟨vs, q, rl⟩ := m.lst e
      exact ⟨_, .inl ⟨vs, .of q, rfl⟩, by rw [rl.isEmpty]; exact k _ H M .refl m h'⟩
    · rename_i kvs e
      obtain ⟨hv, q, rl⟩ := m a _ e
      have el : hv.isEmpty = kvs.isEmpty := by
        have := Paired.length rl
        cases hv <;> cases kvs <;> simp_all
      exact ⟨_, .inr (.inr ⟨hv, q, rfl⟩), by rw [el]; exact k _ H M .refl m h'⟩
    · exact h'.elim
  | ty _ => exact h.elim
def tandT (t u : TTd) : TTd := fun ρ M Q => t ρ M fun c M1 => if c = true then u ρ M1 Q else Q false M1
def torT (t u : TTd) : TTd := fun ρ M Q => t ρ M fun c M1 => if c = true then Q true M1 else u ρ M1 Q
def tnotT (t : TTd) : TTd := fun ρ M Q => t ρ M fun c M1 => Q (!c) M1
def tandV (ta tb : TEd) : TEd := fun ρ M Q => ta ρ M fun x M1 => match x with
  | .bl c => if c = true then tb ρ M1 Q else Q (.bl false) M1
  | _ => False
def torV (ta tb : TEd) : TEd := fun ρ M Q => ta ρ M fun x M1 => match x with
  | .bl c => if c = true then Q (.bl true) M1 else tb ρ M1 Q
  | _ => False
def tnotV (ta : TEd) : TEd := fun ρ M Q => ta ρ M fun x M1 => match x with
  | .bl c => Q (.bl (!c)) M1
  | _ => False
def tif (t : TTd) (ta tb : TEd) : TEd := fun ρ M Q => t ρ M fun c M1 => if c = true then ta ρ M1 Q else tb ρ M1 Q
/-- a op b op' c -/
def tchain (r r' : R2d) (ta tb tc : TEd) : TEd := fun ρ M Q => ta ρ M fun x M1 => tb ρ M1 fun y M2 => r x y M2 fun z M3 => match z with
  | .bl k => if k = true then tc ρ M3 fun w M4 => r' y w M4 Q else Q (.bl false) M3
  | _ => False
section
variable {X : Cx} {a b c e : Expr} {rest : List Expr} {ta tb tc : TEd} {tA tB : TTd} {pos : Pos} {cop cop' : CmpOp} {r r' : R2d}
theorem ptd_cmp (ho : OpR X (compareOp cop) (lowR2 X.K r)) (ha : PEd X a ta) (hb : PEd X b tb) (hm : behindInMarks cop b = false) : PTd X (.Compare a [cop] [b] pos) (ttest (top2 r ta tb)) := by
  refine .of (pt_cmpR ho ha.pe hb.pe hm) fun σ H Q h => ?_
  obtain ⟨ρ, M, Q0, re, rm, h, k⟩ := ttest_low σ H Q h
  exact top2_low σ H _ ⟨ρ, M, Q0, re, rm, h, k⟩
theorem tchain_low {K : PySem.W.Frag} (σ : St) (H : Hp) (Q : VK) (h : lowE K (tchain r r' ta tb tc) σ H Q) : tChain (lowR2 K r) (lowR2 K r') (lowE K ta) (lowE K tb) (lowE K tc) σ H Q := by
  obtain ⟨ρ, M, Q0, re, rm, h, k⟩ := h
  refine ⟨ρ, M, _, re, rm, h, fun x H1 dx M1 t1 r1 m1 h1 => ⟨ρ, M1, _, re.tle t1, m1, h1, fun y H2 dy M2 t2 r2 m2 h2 => ⟨dx, dy, M2, _, r1.tle t2, r2, m2, h2, fun z H3 dz M3 t3 rz m3 h3 => ?_⟩⟩⟩
  cases dz with
  | bl c =>
    cases rz
    refine ⟨c, rfl, ?_⟩
    have k3 := k.tle ((t1.trans t2).trans t3)
    cases c with
    | true => exact ⟨ρ, M3, _, re.tle ((t1.trans t2).trans t3), m3, h3, fun w H4 dw M4 t4 rw m4 h4 => ⟨dy, dw, M4, Q0, r2.tle (t3.trans t4), rw, m4, h4, k3.tle t4⟩⟩
    | false => exact k3.bl m3 h3
  | _ => exact h3.elim
theorem ped_chain (ho : OpR X (compareOp cop) (lowR2 X.K r)) (ho' : OpR X (compareOp cop') (lowR2 X.K r')) (ha : PEd X a ta) (hb : PEd X b tb) (hc : PEd X c tc)
    (hm : lastMarks [cop, cop'] [b, c] = false := by with_unfolding_all rfl) : PEd X (.Compare a [cop, cop'] [b, c] pos) (tchain r r' ta tb tc) := .of (pe_chain ho ho' ha.pe hb.pe hc.pe hm) tchain_low
theorem ptd_chain (ho : OpR X (compareOp cop) (lowR2 X.K r)) (ho' : OpR X (compareOp cop') (lowR2 X.K r')) (ha : PEd X a ta) (hb : PEd X b tb) (hc : PEd X c tc)
    (hm : lastMarks [cop, cop'] [b, c] = false := by with_unfolding_all rfl) : PTd X (.Compare a [cop, cop'] [b, c] pos) (ttest (tchain r r' ta tb tc)) := by
  refine .of (pt_chain ho ho' ha.pe hb.pe hc.pe hm) fun σ H Q h => ?_
  obtain ⟨ρ, M, Q0, re, rm, h, k⟩ := ttest_low σ H Q h
  exact tchain_low σ H _ ⟨ρ, M, Q0, re, rm, h, k⟩
theorem ptd_truth (ha : PEd X a ta) (he : ∀ whole, isTrue a X.env whole = (do let v ← whole; standAt a.pos; holding [v] (truthy v)) := by intro _; rfl) : PTd X a (ttru ta) := by
  refine .of (pt_truth ha.pe he) fun σ H Q h => ?_
  obtain ⟨ρ, M, Q0, re, rm, h, k⟩ := h
  exact ⟨ρ, M, _, re, rm, h, fun x H1 dx M1 t1 r1 m1 h1 => truR_low r1 m1 h1 fun b H' M' t' m' q => k b H' M' (t1.trans t') m' q⟩
theorem pwd_and1 (ha : PTd X a tA) : PWd X (.BoolOp .And [a] pos) tA := ⟨pw_and1 ha.pt⟩
theorem pwd_or1 (ha : PTd X a tA) : PWd X (.BoolOp .Or [a] pos) tA := ⟨pw_or1 ha.pt⟩
theorem pwd_and (ha : PTd X a tA) (hb : PWd X (.BoolOp .And (b :: rest) pos) tB) : PWd X (.BoolOp .And (a :: b :: rest) pos) (tandT tA tB) := by
  refine .of (pw_and ha.pt hb.pw) fun σ H Q h => ?_
  obtain ⟨ρ, M, Q0, re, rm, h, k⟩ := h
  refine ⟨ρ, M, _, re, rm, h, fun c H1 M1 t1 m1 h1 => ?_⟩
  cases c with
  | true => exact ⟨ρ, M1, Q0, re.tle t1, m1, h1, fun b H' M' t' m' q => k b H' M' (t1.trans t') m' q⟩
  | false => exact k false H1 M1 t1 m1 h1
theorem pwd_or (ha : PTd X a tA) (hb : PWd X (.BoolOp .Or (b :: rest) pos) tB) : PWd X (.BoolOp .Or (a :: b :: rest) pos) (torT tA tB) := by
  refine .of (pw_or ha.pt hb.pw) fun σ H Q h => ?_
  obtain ⟨ρ, M, Q0, re, rm, h, k⟩ := h
  refine ⟨ρ, M, _, re, rm, h, fun c H1 M1 t1 m1 h1 => ?_⟩
  cases c with
  | true => exact k true H1 M1 t1 m1 h1
  | false => exact ⟨ρ, M1, Q0, re.tle t1, m1, h1, fun b H' M' t' m' q => k b H' M' (t1.trans t') m' q⟩
theorem ptd_not (ha : PTd X a tA) : PTd X (.UnaryOp .Not a pos) (tnotT tA) := by
  refine .of (pt_not ha.pt) fun σ H Q h => ?_
  obtain ⟨ρ, M, Q0, re, rm, h, k⟩ := h
  exact ⟨ρ, M, _, re, rm, h, fun c H1 M1 t1 m1 h1 => k _ H1 M1 t1 m1 h1⟩
theorem ped_one {op} (h : PEd X a ta) : PEd X (.BoolOp op [a] pos) ta := ⟨pe_one h.pe⟩
theorem ped_and (ha : PEd X a ta) (hb : PEd X (.BoolOp .And (b :: rest) pos) tb) : PEd X (.BoolOp .And (a :: b :: rest) pos) (tandV ta tb) := by
  refine .of (pe_and ha.pe hb.pe) fun σ H Q h => ?_
  obtain ⟨ρ, M, Q0, re, rm, h, k⟩ := h
  refine ⟨ρ, M, _, re, rm, h, fun x H1 dx M1 t1 r1 m1 h1 => ?_⟩
  cases dx with
  | bl c =>
    cases r1
    refine ⟨c, rfl, ?_⟩
    cases c with
    | true => exact ⟨ρ, M1, Q0, re.tle t1, m1, h1, k.tle t1⟩
    | false => exact (k.tle t1).bl m1 h1
  | _ => exact h1.elim
theorem ped_or (ha : PEd X a ta) (hb : PEd X (.BoolOp .Or (b :: rest) pos) tb) : PEd X (.BoolOp .Or (a :: b :: rest) pos) (torV ta tb) := by
  refine .of (pe_or ha.pe hb.pe) fun σ H Q h => ?_
  obtain ⟨ρ, M, Q0, re, rm, h, k⟩ := h
  refine ⟨ρ, M, _, re, rm, h, fun x H1 dx M1 t1 r1 m1 h1 => ?_⟩
  cases dx with
  | bl c =>
    cases r1
    refine ⟨c, rfl, ?_⟩
    cases c with
    | true => exact (k.tle t1).bl m1 h1
    | false => exact ⟨ρ, M1, Q0, re.tle t1, m1, h1, k.tle t1⟩
  | _ => exact h1.elim
theorem ped_not (ha : PEd X a ta) : PEd X (.UnaryOp .Not a pos) (tnotV ta) := by
  refine .of (pe_not ha.pe) fun σ H Q h => ?_
  obtain ⟨ρ, M, Q0, re, rm, h, k⟩ := h
  refine ⟨ρ, M, _, re, rm, h, fun x H1 dx M1 t1 r1 m1 h1 => ?_⟩
  cases dx with
  | bl c => cases r1; exact ⟨c, rfl, (k.tle t1).bl m1 h1⟩
  | _ => exact h1.elim
theorem ped_if (hc : PTd X c tA) (ha : PEd X a ta) (hb : PEd X b tb) : PEd X (.IfExp c a b pos) (tif tA ta tb) := by
  refine .of (pe_ifExp hc.pt ha.pe hb.pe) fun σ H Q h => ?_
  obtain ⟨ρ, M, Q0, re, rm, h, k⟩ := h
  refine ⟨ρ, M, _, re, rm, h, fun c H1 M1 t1 m1 h1 => ?_⟩
  cases c with
  | true => exact ⟨ρ, M1, Q0, re.tle t1, m1, h1, k.tle t1⟩
  | false => exact ⟨ρ, M1, Q0, re.tle t1, m1, h1, k.tle t1⟩
end

/-! ### argument lists, displays -/
def tnil : TAd := fun _ M Q => Q [] M
def tcons (ta : TEd) (tr : TAd) : TAd := fun ρ M Q => ta ρ M fun x M1 => tr ρ M1 fun xs M2 => Q (x :: xs) M2
def ttup (t : TAd) : TEd := fun ρ M Q => t ρ M fun xs M1 => xs.length ≤ sizeLine ∧ Q (.tup xs) M1
def tlst (t : TAd) : TEd := fun ρ M Q => t ρ M fun xs M1 => xs.length ≤ sizeLine ∧ ∀ p, M1 p = none → Q (.ref p) (put M1 p (.lst xs))
section
variable {X : Cx} {e : Expr} {es : List Expr} {te : TEd} {t : TAd} {pos : Pos}
theorem pad_nil : PAd X [] tnil := by
  refine .of pa_nil fun σ H Q h => ?_
  obtain ⟨ρ, M, Q0, re, rm, h, k⟩ := h
  exact k [] H [] M .refl rfl rm h
theorem pad_cons (ha : PEd X e te) (hr : PAd X es t) (hs : starEach (e :: es) X.env = (false, eval e X.env) :: starEach es X.env := by rfl) : PAd X (e :: es) (tcons te t) := by
  refine .of (pa_cons ha.pe hr.pa hs) fun σ H Q h => ?_
  obtain ⟨ρ, M, Q0, re, rm, h, k⟩ := h
  exact ⟨ρ, M, _, re, rm, h, fun x H1 dx M1 t1 r1 m1 h1 => ⟨ρ, M1, _, re.tle t1, m1, h1, fun xs H2 ds M2 t2 r2 m2 h2 => k _ H2 _ M2 (t1.trans t2) (.cons (r1.tle t2) r2) m2 h2⟩⟩
theorem ped_tup {x1} (h : PAd X es t) : PEd X (.Tuple es x1 pos) (ttup t) := by
  refine .of (pe_tup h.pa) fun σ H Q h => ?_
  obtain ⟨ρ, M, Q0, re, rm, h, k⟩ := h
  exact ⟨ρ, M, _, re, rm, h, fun vs H1 ds M1 t1 r1 m1 h1 => ⟨by rw [r1.length]; exact h1.1, fun p hp => (k.tle t1).newT m1 hp r1 h1.2⟩⟩
theorem ped_lst (h : PAd X es t) : PEd X (.List es pos) (tlst t) := by
  refine .of (pe_lst h.pa) fun σ H Q h => ?_
  obtain ⟨ρ, M, Q0, re, rm, h, k⟩ := h
  exact ⟨ρ, M, _, re, rm, h, fun vs H1 ds M1 t1 r1 m1 h1 => ⟨by rw [r1.length]; exact h1.1, fun p hp => (k.tle t1).newL m1 hp r1 h1.2⟩⟩
end

/-! ### statements -/
def tnext : TSd := fun D ρ M => D.nx ρ M
def tseq (t u : TSd) : TSd := fun D ρ M => t { D with nx := u D } ρ M
def tbreak : TSd := fun D ρ M => D.bk ρ M
def tcont : TSd := fun D ρ M => D.ct ρ M
def tdrop (te : TEd) : TSd := fun D ρ M => te ρ M fun _ M1 => D.nx ρ M1
def tret (te : TEd) : TSd := fun D ρ M => te ρ M D.rt
def tretN : TSd := fun D _ M => D.rt .non M
def tifS (c : TTd) (t u : TSd) : TSd := fun D ρ M => c ρ M fun b M1 => if b = true then t D ρ M1 else u D ρ M1
def tnever : TSd := fun _ _ _ => False
section
variable {X : Cx} {st : Stmt} {rest : List Stmt} {t u : TSd} {e : Expr} {te : TEd} {pos : Pos}
theorem pssd_nil : PSsd X [] tnext := by
  refine .of pss_nil fun D σ H h => ?_
  obtain ⟨ρ, M, E0, re, rm, h, k⟩ := h
  exact k.nx σ H ρ M .refl re rm h
theorem pssd_cons (h1 : PSd X st t) (h2 : PSsd X rest u) : PSsd X (st :: rest) (tseq t u) := by
  refine .of (pss_cons h1.ps h2.ps) fun D σ H h => ?_
  obtain ⟨ρ, M, E0, re, rm, h, k⟩ := h
  exact ⟨ρ, M, _, re, rm, h, ⟨fun σ1 H1 ρ1 M1 t1 r1 m1 h1 => ⟨ρ1, M1, E0, r1, m1, h1, k.tle t1⟩, k.rt, k.bk, k.ct⟩⟩
theorem pssd_one (h1 : PSd X st t) : PSsd X [st] t := ⟨pss_one h1.ps⟩
theorem psd_pass : PSd X (.Pass pos) tnext := by
  refine .of ps_pass fun D σ H h => ?_
  obtain ⟨ρ, M, E0, re, rm, h, k⟩ := h
  exact k.nx σ H ρ M .refl re rm h
theorem psd_break : PSd X (.Break pos) tbreak := by
  refine .of ps_break fun D σ H h => ?_
  obtain ⟨ρ, M, E0, re, rm, h, k⟩ := h
  exact k.bk σ H ρ M .refl re rm h
theorem psd_continue : PSd X (.Continue pos) tcont := by
  refine .of ps_continue fun D σ H h => ?_
  obtain ⟨ρ, M, E0, re, rm, h, k⟩ := h
  exact k.ct σ H ρ M .refl re rm h
theorem psd_expr (he : PEd X e te) (hs : swapsWith e none pos.line X.env = pure false := by rfl) : PSd X (.Expr e pos) (tdrop te) := by
  refine .of (ps_expr he.pe hs) fun D σ H h => ?_
  obtain ⟨ρ, M, E0, re, rm, h, k⟩ := h
  exact ⟨ρ, M, _, re, rm, h, fun x H1 dx M1 t1 r1 m1 h1 => k.nx σ H1 ρ M1 t1 (re.tle t1) m1 h1⟩
theorem psd_ret (he : PEd X e te) : PSd X (.Return (some e) pos) (tret te) := by
  refine .of (ps_ret he.pe) fun D σ H h => ?_
  obtain ⟨ρ, M, E0, re, rm, h, k⟩ := h
  exact ⟨ρ, M, _, re, rm, h, k.rt⟩
theorem psd_retN : PSd X (.Return none pos) tretN := by
  refine .of ps_retN fun D σ H h => ?_
  obtain ⟨ρ, M, E0, re, rm, h, k⟩ := h
  exact k.rt.non rm h
theorem psd_if {c : Expr} {a b : List Stmt} {tc : TTd} (hc : PTd X c tc) (ha : PSsd X a t) (hb : PSsd X b u) : PSd X (.If c a b pos) (tifS tc t u) := by
  refine .of (ps_if hc.pt ha.ps hb.ps) fun D σ H h => ?_
  obtain ⟨ρ, M, E0, re, rm, h, k⟩ := h
  refine ⟨ρ, M, _, re, rm, h, fun c H1 M1 t1 m1 h1 => ?_⟩
  cases c with
  | true => exact ⟨ρ, M1, E0, re.tle t1, m1, h1, k.tle t1⟩
  | false => exact ⟨ρ, M1, E0, re.tle t1, m1, h1, k.tle t1⟩
theorem psd_never : PSd X st tnever := .of ps_never fun D σ H h => by
  obtain ⟨ρ, M, E0, re, rm, h, k⟩ := h
  exact h
theorem pssd_never {sts : List Stmt} : PSsd X sts tnever := .of pss_never fun D σ H h => by
  obtain ⟨ρ, M, E0, re, rm, h, k⟩ := h
  exact h
end

/-! ### targets -/
abbrev TGd := D → Envd → Mem → (Envd → Mem → Prop) → Prop
abbrev TGsd := List D → Envd → Mem → (Envd → Mem → Prop) → Prop
/-- only the places is have changed -/
def SameOut (js : List Nat) (σ σ' : St) : Prop := ∀ vs : List Nat, (∀ i ∈ js, i ∈ vs) → wipe σ' vs = wipe σ vs
theorem SameOut.refl {js : List Nat} {σ : St} : SameOut js σ σ := fun _ _ => rfl
theorem SameOut.trans {js : List Nat} {σ σ1 σ2 : St} (a : SameOut js σ σ1) (b : SameOut js σ1 σ2) : SameOut js σ σ2 := fun vs h => (b vs h).trans (a vs h)
theorem SameOut.mono {js ks : List Nat} {σ σ' : St} (a : SameOut js σ σ') (h : ∀ i ∈ js, i ∈ ks) : SameOut ks σ σ' := fun vs g => a vs fun i hi => g i (h i hi)
theorem wipe_get (σ : St) : ∀ (vs : List Nat) (j : Nat), (wipe σ vs)[j]? = if j ∈ vs then (σ[j]?).map (fun _ => none) else σ[j]?
  | [], j => by simp [wipe]
  | v :: vs, j => by
    unfold wipe
    by_cases h : v = j
    · subst h
      rw [List.getElem?_set]
      simp only [List.mem_cons, true_or, if_true]
      have hl := wipe_length σ vs
      by_cases hv : v < σ.length
      · rw [if_pos (by omega)]; simp [hv]
      · rw [if_neg (by omega)]; simp [hv]
    · rw [List.getElem?_set_ne h, wipe_get σ vs j]
      have : (j ∈ v :: vs) = (j ∈ vs) := by simp [Ne.symm h]
      simp only [this]
theorem SameOut.set {σ : St} {i : Nat} {v : Option V} : SameOut [i] σ (σ.set i v) := fun vs h => by
  have hi : i ∈ vs := h i (List.mem_singleton.mpr rfl)
  apply List.ext_getElem?
  intro j
  rw [wipe_get, wipe_get]
  by_cases hj : j ∈ vs
  · simp only [if_pos hj]
    by_cases e : i = j
    · subst e
      by_cases hl : i < σ.length
      · simp [hl]
      · simp [hl]
    · rw [List.getElem?_set_ne e]
  · have e : i ≠ j := fun z => hj (z ▸ hi)
    simp only [if_neg hj]
    rw [List.getElem?_set_ne e]
def lowN2 (K : PySem.W.Frag) (H : Hp) (js : List Nat) (σ0 : St) (Q0 : Envd → Mem → Prop) (Q : St → Hp → Prop) : Prop := ∀ σ H' ρ M', SameOut js σ0 σ → Tle H H' → RelE H' ρ σ → RelM K H' M' → Q0 ρ M' → Q σ H'
theorem lowN.two {K : PySem.W.Frag} {H : Hp} {js : List Nat} {σ0 : St} {Q0 : Envd → Mem → Prop} {Q : St → Hp → Prop} (h : lowN K H Q0 Q) : lowN2 K H js σ0 Q0 Q := fun σ H' ρ M' _ => h σ H' ρ M'
def lowG (K : PySem.W.Frag) (js : List Nat) (t : TGd) : TG := fun v σ H Q => ∃ d ρ M Q0, Rel H d v ∧ RelE H ρ σ ∧ RelM K H M ∧ t d ρ M Q0 ∧ lowN2 K H js σ Q0 Q
def lowGs (K : PySem.W.Frag) (js : List Nat) (t : TGsd) : TGs := fun v σ H Q => ∃ d ρ M Q0, RelL H d v ∧ RelE H ρ σ ∧ RelM K H M ∧ t d ρ M Q0 ∧ lowN2 K H js σ Q0 Q
structure PGd (X : Cx) (e : Expr) (js : List Nat) (t : TGd) : Prop where
  pg : PG X e (lowG X.K js t)
structure PGsd (X : Cx) (e : List Expr) (js : List Nat) (t : TGsd) : Prop where
  pg : PGs X e (lowGs X.K js t)
theorem PGd.of {X : Cx} {e : Expr} {js : List Nat} {t : TGd} {t' : TG} (h : PG X e t') (sim : ∀ v σ H Q, lowG X.K js t v σ H Q → t' v σ H Q) : PGd X e js t := ⟨⟨fun pins s σ H v u Q I r w => h.run pins s σ H v u Q I r (sim v σ H Q w)⟩⟩
theorem PGsd.of {X : Cx} {e : List Expr} {js : List Nat} {t : TGsd} {t' : TGs} (h : PGs X e t') (sim : ∀ v σ H Q, lowGs X.K js t v σ H Q → t' v σ H Q) : PGsd X e js t := ⟨⟨fun pins s σ H v u Q I r w => h.run pins s σ H v u Q I r (sim v σ H Q w)⟩⟩
def gname (i : Nat) : TGd := fun d ρ M Q => Q (ρ.set i (some d)) M
def gnil : TGsd := fun ds ρ M Q => match ds with
  | [] => Q ρ M
  | _ => False
def gcons (t : TGd) (u : TGsd) : TGsd := fun ds ρ M Q => match ds with
  | d :: r => t d ρ M fun ρ1 M1 => u r ρ1 M1 Q
  | [] => False
def gtup (n : Nat) (t : TGsd) : TGd := fun d ρ M Q => match d with
  | .tup ds => ds.length = n ∧ t ds ρ M Q
  | _ => False
def tasg (te : TEd) (g : TGd) : TSd := fun D ρ M => te ρ M fun x M1 => g x ρ M1 D.nx
def tpar (i j : Nat) (ta : TAd) : TSd := fun D ρ M => ta ρ M fun ds M1 => match ds with
  | [v, w] => D.nx ((ρ.set i (some v)).set j (some w)) M1
  | _ => False
section
variable {X : Cx} {pos : Pos}
theorem pgd_name {i : Nat} {x : Str} (hN : X.N.Nodup) (hi : X.N[i]? = some x) (hx : Loc X.env.scope x) (hf : X.fn x = true ∨ X.env.scope.names.lookup x = some .local := by first | exact .inl rfl | exact .inr rfl | assumption) : PGd X (.Name x pos) [i] (gname i) := by
  refine .of (pg_name hN hi hx hf) fun v σ H Q h => ?_
  obtain ⟨d, ρ, M, Q0, rd, re, rm, h, k⟩ := h
  exact k _ H _ M .set .refl (re.set rd) rm h
theorem pgsd_nil : PGsd X [] [] gnil := by
  refine .of pgs_nil fun v σ H Q h => ?_
  obtain ⟨d, ρ, M, Q0, rd, re, rm, h, k⟩ := h
  cases d with
  | nil => cases rd; exact ⟨rfl, k _ H _ M .refl .refl re rm h⟩
  | cons x xs => exact h.elim
theorem pgsd_cons {e : Expr} {es : List Expr} {js ks : List Nat} {t : TGd} {u : TGsd} (h1 : PGd X e js t) (h2 : PGsd X es ks u)
    (hs : (assignEach (e :: es) X.env).map (·.2) = assign e X.env :: (assignEach es X.env).map (·.2) := by rfl) : PGsd X (e :: es) (js ++ ks) (gcons t u) := by
  refine .of (pgs_cons h1.pg h2.pg hs) fun v σ H Q h => ?_
  obtain ⟨d, ρ, M, Q0, rd, re, rm, h, k⟩ := h
  cases d with
  | nil => exact h.elim
  | cons x xs =>
    obtain ⟨v, r, e, r1, r2⟩ := rd
    refine ⟨v, r, e, x, ρ, M, _, r1, re, rm, h, fun σ1 H1 ρ1 M1 s1 t1 e1 m1 h1 => ⟨xs, ρ1, M1, Q0, r2.tle t1, e1, m1, h1, fun σ2 H2 ρ2 M2 s2 t2 e2 m2 h2 => ?_⟩⟩
    exact k σ2 H2 ρ2 M2 ((s1.mono fun i hi => List.mem_append_left _ hi).trans (s2.mono fun i hi => List.mem_append_right _ hi)) (t1.trans t2) e2 m2 h2
theorem pgd_tup {es : List Expr} {k : Nat} {t : TGsd} {n : Nat} {js : List Nat} (hc : X.calm = true) (h : PGsd X es js t)
    (hn : (assignEach es X.env).length = n := by rfl) (hst : (assignEach es X.env).findIdx? (·.1) = none := by rfl) : PGd X (.Tuple es k pos) js (gtup n t) := by
  refine .of (pg_tup hc h.pg hn hst) fun v σ H Q h => ?_
  obtain ⟨d, ρ, M, Q0, rd, re, rm, h, k⟩ := h
  cases d with
  | tup ds =>
    obtain ⟨a, vs, e, q, rl⟩ := rd
    exact ⟨a, vs, e, .of q, by rw [rl.length]; exact h.1, ds, ρ, M, Q0, rl, re, rm, h.2, k⟩
  | _ => exact h.elim
theorem psd_asg {tg e : Expr} {te : TEd} {g : TGd} {js : List Nat} (he : PEd X e te) (hg : PGd X tg js g) (hs : swapsWithSole [tg] e pos.line X.env = pure false := by rfl) (hw : swappedStores [tg] e X.env = pure none := by rfl)
    (h1 : (assignEach [tg] X.env).map (·.2) = [assign tg X.env] := by rfl) : PSd X (.Assign [tg] e pos) (tasg te g) := by
  refine .of (ps_asg he.pe hg.pg hs hw h1) fun D σ H h => ?_
  obtain ⟨ρ, M, E0, re, rm, h, k⟩ := h
  exact ⟨ρ, M, _, re, rm, h, fun x H1 dx M1 t1 r1 m1 h1 => ⟨dx, ρ, M1, _, r1, re.tle t1, m1, h1, (k.nx.tle t1).two⟩⟩
theorem tset_low {K : PySem.W.Frag} {te : TEd} {te' : TE} {i : Nat} (hl : ∀ σ H Q, lowE K te σ H Q → te' σ H Q) (D : Ends) (σ : St) (H : Hp) (h : lowS K (tasg te (gname i)) D σ H) : tAsg te' (gName i) D σ H := by
  obtain ⟨ρ, M, E0, re, rm, h, k⟩ := h
  exact hl σ H _ ⟨ρ, M, _, re, rm, h, fun x H1 dx M1 t1 r1 m1 h1 => k.nx _ H1 _ M1 t1 ((re.tle t1).set r1) m1 h1⟩
theorem psd_set {i : Nat} {x : Str} {e : Expr} {te : TEd} {pos' : Pos} (hN : X.N.Nodup) (hi : X.N[i]? = some x) (hx : Loc X.env.scope x) (he : PEd X e te) (hs : swapsWith e (some (.Name x pos')) pos.line X.env = pure false := by rfl) (hf : X.fn x = true ∨ X.env.scope.names.lookup x = some .local := by first | exact .inl rfl | exact .inr rfl | assumption) :
    PSd X (.Assign [.Name x pos'] e pos) (tasg te (gname i)) := .of (ps_set hN hi hx he.pe hs hf) (tset_low fun _ _ _ h => h)
theorem tpar_low {K : PySem.W.Frag} {ta : TAd} {i j : Nat} (D : Ends) (σ : St) (H : Hp) (h : lowS K (tpar i j ta) D σ H) : tPar i j (lowA K ta) D σ H := by
  obtain ⟨ρ, M, E0, re, rm, h, k⟩ := h
  refine ⟨ρ, M, _, re, rm, h, fun vs H1 ds M1 t1 r1 m1 h1 => ?_⟩
  match ds, r1, h1 with
  | [v, w], ⟨v', _, e1, p1, w', _, e2, p2, e3⟩, h1 =>
    subst e1 e2 e3
    exact ⟨v', w', rfl, k.nx _ H1 _ M1 t1 (((re.tle t1).set p1).set p2) m1 h1⟩
end

/-! ### while -/
def twhile (c : TTd) (tb : TSd) : TSd := fun D ρ M => ∃ W : Nat → Envd → Mem → Prop, (∃ n, W n ρ M) ∧ ∀ n ρ M, W n ρ M →
  c ρ M fun b M1 => if b = true then tb { D with nx := fun ρ' M' => ∃ n', n' < n ∧ W n' ρ' M', ct := fun ρ' M' => ∃ n', n' < n ∧ W n' ρ' M', bk := D.nx } ρ M1 else D.nx ρ M1
theorem psd_while {X : Cx} {c : Expr} {body : List Stmt} {tc : TTd} {tb : TSd} {pos : Pos} (hp : PassesOwn (model X.prog X.w) X.A X.env X.xe) (hc : PTd X c tc) (hb : PSsd X body tb) : PSd X (.While c body [] pos) (twhile tc tb) := by
  refine .of (ps_while hp hc.pt hb.ps) fun D σ H h => ?_
  obtain ⟨ρ, M, E0, re, rm, h, k⟩ := h
  obtain ⟨W, ⟨n0, w0⟩, turn⟩ := h
  refine ⟨fun n σ' H' => ∃ ρ' M', Tle H H' ∧ RelE H' ρ' σ' ∧ RelM X.K H' M' ∧ W n ρ' M', ⟨n0, ρ, M, .refl, re, rm, w0⟩, fun n σ1 H1 w1 => ?_⟩
  obtain ⟨ρ1, M1, t1, re1, rm1, w1⟩ := w1
  refine ⟨ρ1, M1, _, re1, rm1, turn n ρ1 M1 w1, fun b H2 M2 t2 m2 h2 => ?_⟩
  cases b with
  | true =>
    refine ⟨fun σ' H' => ∃ n', n' < n ∧ ∃ ρ' M', Tle H H' ∧ RelE H' ρ' σ' ∧ RelM X.K H' M' ∧ W n' ρ' M', fun σ' H' q => q, ρ1, M2, _, re1.tle t2, m2, h2, ?_⟩
    exact ⟨fun σ3 H3 ρ3 M3 t3 e3 m3 ⟨n', l, w⟩ => ⟨n', l, ρ3, M3, (t1.trans t2).trans t3, e3, m3, w⟩, k.rt.tle (t1.trans t2), k.nx.tle (t1.trans t2), fun σ3 H3 ρ3 M3 t3 e3 m3 ⟨n', l, w⟩ => ⟨n', l, ρ3, M3, (t1.trans t2).trans t3, e3, m3, w⟩⟩
  | false => exact k.nx σ1 H2 ρ1 M2 (t1.trans t2) (re1.tle t2) m2 h2
end DL

end T_DL3

section T_DL4
set_option Elab.async false
set_option linter.all false
set_option maxRecDepth 100000
set_option maxHeartbeats 1000000
/-! The D layer, 4: what is walked, for, comprehensions. -/
namespace DL
open PySem PySem.Spec L2
open PyProof.Rows hiding St

/-! ### what is walked: the items, and what must stand while they are walked -/
abbrev TId := Envd → Mem → (List D → (Mem → Prop) → Mem → Prop) → Prop
structure ItRel (K : PySem.W.Frag) (H0 : Hp) (J : It) (items : List D) (ok : Mem → Prop) : Prop where
  go : ∀ i H M, Tle H0 H → RelM K H M → ok M → i < items.length → J.go i H
  stop : ∀ H M, Tle H0 H → RelM K H M → ok M → J.stop items.length H
  yld : ∀ i H M x H' d, Tle H0 H → RelM K H M → ok M → items[i]? = some d → J.yld i H x H' → Tle H H' ∧ RelM K H' M ∧ Rel H' d x
def lowI (K : PySem.W.Frag) (ti : TId) : TI := fun σ H R => ∃ ρ M R0, RelE H ρ σ ∧ RelM K H M ∧ ti ρ M R0 ∧ ∀ J H' items ok M', Tle H H' → RelM K H' M' → ItRel K H' J items ok → R0 items ok M' → R J H'
structure PId (X : Cx) (tg iter : Expr) (ti : TId) : Prop where
  pi : PI X tg iter (lowI X.K ti)
theorem PId.of {X : Cx} {tg iter : Expr} {ti : TId} {wi : TI} (h : PI X tg iter wi) (sim : ∀ σ H R, lowI X.K ti σ H R → wi σ H R) : PId X tg iter ti := ⟨⟨fun pins s σ H R I w => h.run pins s σ H R I (sim σ H R w)⟩⟩

theorem itrel_list {K : PySem.W.Frag} {H0 : Hp} {a : Addr} {ds : List D} : ItRel K H0 (Itl K a) ds (fun M => rdL M a = some ds) where
  go := fun i H M _ m ok hi => by
    obtain ⟨vs, q, r⟩ := m.rdL ok
    obtain ⟨v, e, _⟩ := r.get (List.getElem?_eq_getElem hi)
    exact ⟨vs, v, q, e⟩
  stop := fun H M _ m ok => by
    obtain ⟨vs, q, r⟩ := m.rdL ok
    exact ⟨vs, q, Nat.le_of_eq r.length⟩
  yld := fun i H M x H' d _ m ok hd y => by
    obtain ⟨vs, q, r⟩ := m.rdL ok
    obtain ⟨e, y⟩ := y
    subst e
    obtain ⟨v, ev, rv⟩ := r.get hd
    have := y vs q
    rw [ev] at this
    cases this
    exact ⟨.refl, m, rv⟩
theorem itrel_tup {K : PySem.W.Frag} {H0 : Hp} {a : Addr} {vs : List V} {ds : List D} (h0 : H0 a = some (.tup vs)) (r0 : RelL H0 ds vs) : ItRel K H0 (Itt K a) ds (fun _ => True) where
  go := fun i H M t m ok hi => by
    obtain ⟨v, e, _⟩ := r0.get (List.getElem?_eq_getElem hi)
    exact ⟨vs, v, .of (t a vs h0), e⟩
  stop := fun H M t m ok => ⟨vs, .of (t a vs h0), Nat.le_of_eq r0.length⟩
  yld := fun i H M x H' d t m ok hd y => by
    obtain ⟨e, y⟩ := y
    subst e
    obtain ⟨v, ev, rv⟩ := r0.get hd
    have := y vs (.of (t a vs h0))
    rw [ev] at this
    cases this
    exact ⟨.refl, m, rv.tle t⟩
def intsD (lo : Int) (n : Nat) : List D := (List.range n).map fun (i : Nat) => D.int (lo + (i : Int))
theorem intsD_length (lo : Int) (n : Nat) : (intsD lo n).length = n := by simp [intsD]
theorem intsD_get {lo : Int} {n i : Nat} (h : i < n) : (intsD lo n)[i]? = some (.int (lo + i)) := by simp [intsD, h]
theorem itrel_range {K : PySem.W.Frag} {H0 : Hp} {lo : Int} {n : Nat} : ItRel K H0 (Itr lo n) (intsD lo n) (fun _ => True) where
  go := fun i H M _ m ok hi => by rw [intsD_length] at hi; exact hi
  stop := fun H M _ m ok => by rw [intsD_length]; exact Nat.le_refl _
  yld := fun i H M x H' d _ m ok hd y => by
    obtain ⟨e, y⟩ := y
    subst e y
    have hi : i < n := by
      have := (List.getElem?_eq_some_iff.mp hd).1
      rwa [intsD_length] at this
    rw [intsD_get hi] at hd
    cases hd
    exact ⟨.refl, m, rfl⟩
/-- a list or a tuple -/
def iseq (te : TEd) : TId := fun ρ M R => te ρ M fun x M1 => match x with
  | .tup ds => R ds (fun _ => True) M1
  | .ref a => (match rdL M1 a with
    | some ds => R ds (fun M => rdL M a = some ds) M1
    | none => False)
  | _ => False
def irng1 (ta : TAd) : TId := fun ρ M R => ta ρ M fun xs M1 => match xs with
  | [.int j] => (-(2 ^ 62) ≤ j ∧ j < 2 ^ 62) ∧ R (intsD 0 j.toNat) (fun _ => True) M1
  | _ => False
def irng2 (ta : TAd) : TId := fun ρ M R => ta ρ M fun xs M1 => match xs with
  | [.int i, .int j] => (-(2 ^ 62) ≤ i ∧ i < 2 ^ 62 ∧ -(2 ^ 62) ≤ j ∧ j < 2 ^ 62) ∧ R (intsD i (j - i).toNat) (fun _ => True) M1
  | _ => False
def pairs (xs ys : List D) : List D := List.zipWith (fun x y => D.tup [x, y]) xs ys
def izip (ta : TAd) : TId := fun ρ M R => ta ρ M fun xs M1 => match xs with
  | [.tup xs, .tup ys] => R (pairs xs ys) (fun _ => True) M1
  | [.ref a, .ref b] => (match rdL M1 a, rdL M1 b with
    | some xs, some ys => R (pairs xs ys) (fun M => rdL M a = some xs ∧ rdL M b = some ys) M1
    | _, _ => False)
  | _ => False
def ienum (ta : TAd) : TId := fun ρ M R => ta ρ M fun xs M1 => match xs with
  | [.ref a] => (match rdL M1 a with
    | some ds => R (pairs (intsD 0 ds.length) ds) (fun M => rdL M a = some ds) M1
    | none => False)
  | _ => False
theorem pairs_get {xs ys : List D} {i : Nat} {d : D} (h : (pairs xs ys)[i]? = some d) : ∃ x y, xs[i]? = some x ∧ ys[i]? = some y ∧ d = .tup [x, y] := by
  unfold pairs at h
  rw [List.getElem?_zipWith] at h
  cases ex : xs[i]? with
  | none => rw [ex] at h; simp at h
  | some x =>
    cases ey : ys[i]? with
    | none => rw [ex, ey] at h; simp at h
    | some y => rw [ex, ey] at h; simp at h; exact ⟨x, y, rfl, rfl, h.symm⟩
theorem pairs_length (xs ys : List D) : (pairs xs ys).length = min xs.length ys.length := by simp [pairs]
theorem rel_pair {H : Hp} {T : Addr} {x y : V} {dx dy : D} (hT : H T = none) (rx : Rel H dx x) (ry : Rel H dy y) : Rel (upd H T (.tup [x, y])) (.tup [dx, dy]) (.ref T) :=
  ⟨T, [x, y], rfl, upd_same, .cons (rx.tle (.new hT)) (.cons (ry.tle (.new hT)) .nil)⟩
section
variable {X : Cx} {tg l : Expr} {te : TEd} {ta : TAd} {p pos : Pos}
theorem pid_seq (hl : PEd X l te) : PId X tg l (iseq te) := by
  have gen : PI X tg l (fun σ H R => lowE X.K te σ H fun x H1 => (∃ a, x = .ref a ∧ (∃ xs, SqL X.K H1 a xs) ∧ R (Itl X.K a) H1) ∨ (∃ a, x = .ref a ∧ (∃ xs, SqT X.K H1 a xs) ∧ R (Itt X.K a) H1)) := by
    refine ⟨fun pins s σ H R I h => ?_⟩
    refine thn (hl.pe.run pins s σ H _ I h) fun v s1 w => ?_
    obtain ⟨x, H1, I1, r1, q1⟩ := w
    rcases q1 with ⟨a, e, ⟨xs, hq⟩, q⟩ | ⟨a, e, ⟨xs, hq⟩, q⟩
    · subst e
      cases r1
      obtain ⟨its, rv, pl, hz⟩ := I1.list hq
      exact wpAny_pyIter_list pl.isList (pi_one (tk := s1.toks) I1 _ (turn_list a _) ⟨_, Heap.get?_push_size _ rfl, rfl, rfl⟩ q)
    · subst e
      cases r1
      obtain ⟨its, rv, pl, hz⟩ := I1.tuple hq
      exact wpAny_pyIter_tuple (show s1.heap.IsTuple a its.toArray from pl) (pi_one (tk := s1.toks) I1 _ (turn_tuple a _) ⟨_, Heap.get?_push_size _ rfl, rfl, rfl⟩ q)
  refine .of gen fun σ H R h => ?_
  obtain ⟨ρ, M, R0, re, rm, h, k⟩ := h
  refine ⟨ρ, M, _, re, rm, h, fun x H1 dx M1 t1 r1 m1 h1 => ?_⟩
  cases dx with
  | tup ds =>
    obtain ⟨a, vs, e, q, rl⟩ := r1
    exact .inr ⟨a, e, ⟨vs, .of q⟩, k _ H1 ds _ M1 t1 m1 (itrel_tup q rl) h1⟩
  | ref a =>
    cases r1
    have h' : (match rdL M1 a with
      | some ds => R0 ds (fun M => rdL M a = some ds) M1
      | none => False) := h1
    split at h'
    · rename_i ds e
      obtain ⟨vs, q, rl⟩ := m1.rdL e
      exact .inl ⟨a, rfl, ⟨vs, q⟩, k _ H1 ds _ M1 t1 m1 itrel_list h'⟩
    · exact h'.elim
  | _ => exact h1.elim
theorem pid_range1 {a : Expr} (hg : Gl X "range") (hm : X.mg "range" = none) (ha : PAd X [a] ta) (hs : starEach [a] X.env = [(false, eval a X.env)] := by rfl) : PId X tg (.Call (.Name "range" p) [a] [] pos) (irng1 ta) := by
  refine .of (pi_range1 hg hm ha.pa hs) fun σ H R h => ?_
  obtain ⟨ρ, M, R0, re, rm, h, k⟩ := h
  refine ⟨ρ, M, _, re, rm, h, fun vs H1 ds M1 t1 r1 m1 h1 => ?_⟩
  match ds, r1, h1 with
  | [.int j], ⟨v, _, e1, p1, e2⟩, h1 =>
    cases p1
    subst e1 e2
    exact ⟨j, rfl, h1.1.1, h1.1.2, k _ H1 _ _ M1 t1 m1 itrel_range h1.2⟩
theorem pid_range2 {a b : Expr} (hg : Gl X "range") (hm : X.mg "range" = none) (ha : PAd X [a, b] ta) (hs : starEach [a, b] X.env = [(false, eval a X.env), (false, eval b X.env)] := by rfl) (hs2 : starEach [b] X.env = [(false, eval b X.env)] := by rfl) :
    PId X tg (.Call (.Name "range" p) [a, b] [] pos) (irng2 ta) := by
  refine .of (pi_range2 hg hm ha.pa hs hs2) fun σ H R h => ?_
  obtain ⟨ρ, M, R0, re, rm, h, k⟩ := h
  refine ⟨ρ, M, _, re, rm, h, fun vs H1 ds M1 t1 r1 m1 h1 => ?_⟩
  match ds, r1, h1 with
  | [.int i, .int j], ⟨v, _, e1, p1, w, _, e2, p2, e3⟩, h1 =>
    cases p1
    cases p2
    subst e1 e2 e3
    exact ⟨i, j, rfl, h1.1, k _ H1 _ _ M1 t1 m1 itrel_range h1.2⟩
theorem pid_zip {e e2 : Expr} {elts : List Expr} {kk : Nat} {tpos : Pos} (hg : Gl X "zip") (hm : X.mg "zip" = none) (ha : PAd X [e, e2] ta)
    (hs : starEach [e, e2] X.env = (false, eval e X.env) :: starEach [e2] X.env := by rfl) (hpl : (backTo pos (starEach [e2] X.env)).any (·.1) = false := by rfl) :
    PId X (.Tuple elts kk tpos) (.Call (.Name "zip" p) [e, e2] [] pos) (izip ta) := by
  refine .of (RZ.pi_zipA hg hm ha.pa hs hpl) fun σ H R h => ?_
  obtain ⟨ρ, M, R0, re, rm, h, k⟩ := h
  refine ⟨ρ, M, _, re, rm, h, fun vs H1 ds M1 t1 r1 m1 h1 => ?_⟩
  match ds, r1, h1 with
  | [.tup xs, .tup ys], ⟨v, _, e1, ⟨a, us, ea, qa, ra⟩, w, _, e2, ⟨b, ws, eb, qb, rb⟩, e3⟩, h1 =>
    subst ea eb e3 e2 e1
    refine ⟨a, b, us, ws, rfl, .inr ⟨.of qa, .of qb, k _ H1 (pairs xs ys) (fun _ => True) M1 t1 m1 ⟨fun i H M t m _ hi => ?_, fun H M t m _ => ?_, fun i H M x H' d t m _ hd y => ?_⟩ h1⟩⟩
    · rw [pairs_length] at hi
      obtain ⟨x, ex, _⟩ := ra.get (List.getElem?_eq_getElem (show i < xs.length by omega))
      obtain ⟨y, ey, _⟩ := rb.get (List.getElem?_eq_getElem (show i < ys.length by omega))
      exact ⟨us, ws, x, y, .of (t a us qa), .of (t b ws qb), ex, ey⟩
    · refine ⟨us, ws, .of (t a us qa), .of (t b ws qb), ?_⟩
      rw [pairs_length, ra.length, rb.length]
      omega
    · obtain ⟨dx, dy, ex, ey, ed⟩ := pairs_get hd
      obtain ⟨T, x1, y1, e, hT, eH, qx, qy⟩ := y
      obtain ⟨x2, gx, rx⟩ := ra.get ex
      obtain ⟨y2, gy, ry⟩ := rb.get ey
      have := qx us (.of (t a us qa)); rw [gx] at this; cases this
      have := qy ws (.of (t b ws qb)); rw [gy] at this; cases this
      subst e eH ed
      exact ⟨.new hT, m.more hT, rel_pair hT (rx.tle t) (ry.tle t)⟩
  | [.ref a, .ref b], ⟨v, _, e1, p1, w, _, e2, p2, e3⟩, h1 =>
    cases p1
    cases p2
    subst e1 e2 e3
    have h' : (match rdL M1 a, rdL M1 b with
      | some xs, some ys => R0 (pairs xs ys) (fun M => rdL M a = some xs ∧ rdL M b = some ys) M1
      | _, _ => False) := h1
    split at h'
    · rename_i xs ys e1 e2
      obtain ⟨us, qa, ra0⟩ := m1.rdL e1
      obtain ⟨ws, qb, rb0⟩ := m1.rdL e2
      refine ⟨a, b, us, ws, rfl, .inl ⟨qa, qb, k _ H1 (pairs xs ys) (fun M => rdL M a = some xs ∧ rdL M b = some ys) M1 t1 m1 ⟨fun i H M t m ok hi => ?_, fun H M t m ok => ?_, fun i H M x H' d t m ok hd y => ?_⟩ h'⟩⟩
      · obtain ⟨us, qa, ra⟩ := m.rdL ok.1
        obtain ⟨ws, qb, rb⟩ := m.rdL ok.2
        rw [pairs_length] at hi
        obtain ⟨x, ex, _⟩ := ra.get (List.getElem?_eq_getElem (show i < xs.length by omega))
        obtain ⟨y, ey, _⟩ := rb.get (List.getElem?_eq_getElem (show i < ys.length by omega))
        exact ⟨us, ws, x, y, qa, qb, ex, ey⟩
      · obtain ⟨us, qa, ra⟩ := m.rdL ok.1
        obtain ⟨ws, qb, rb⟩ := m.rdL ok.2
        refine ⟨us, ws, qa, qb, ?_⟩
        rw [pairs_length, ra.length, rb.length]
        omega
      · obtain ⟨us, qa, ra⟩ := m.rdL ok.1
        obtain ⟨ws, qb, rb⟩ := m.rdL ok.2
        obtain ⟨dx, dy, ex, ey, ed⟩ := pairs_get hd
        obtain ⟨T, x1, y1, e, hT, eH, qx, qy⟩ := y
        obtain ⟨x2, gx, rx⟩ := ra.get ex
        obtain ⟨y2, gy, ry⟩ := rb.get ey
        have := qx us qa; rw [gx] at this; cases this
        have := qy ws qb; rw [gy] at this; cases this
        subst e eH ed
        exact ⟨.new hT, m.more hT, rel_pair hT rx ry⟩
    · exact h'.elim
theorem pid_enum {e : Expr} {elts : List Expr} {kk : Nat} {tpos : Pos} (hg : Gl X "enumerate") (hm : X.mg "enumerate" = none) (ha : PAd X [e] ta) (hs : starEach [e] X.env = [(false, eval e X.env)] := by rfl) :
    PId X (.Tuple elts kk tpos) (.Call (.Name "enumerate" p) [e] [] pos) (ienum ta) := by
  refine .of (pi_enum hg hm ha.pa hs) fun σ H R h => ?_
  obtain ⟨ρ, M, R0, re, rm, h, k⟩ := h
  refine ⟨ρ, M, _, re, rm, h, fun vs H1 ds M1 t1 r1 m1 h1 => ?_⟩
  match ds, r1, h1 with
  | [.ref a], ⟨v, _, e1, p1, e2⟩, h1 =>
    cases p1
    subst e1 e2
    have h' : (match rdL M1 a with
      | some ds => R0 (pairs (intsD 0 ds.length) ds) (fun M => rdL M a = some ds) M1
      | none => False) := h1
    split at h'
    · rename_i xs e1
      obtain ⟨us, qa, ra0⟩ := m1.rdL e1
      have hl : (pairs (intsD 0 xs.length) xs).length = xs.length := by rw [pairs_length, intsD_length]; omega
      refine ⟨a, us, rfl, qa, k _ H1 (pairs (intsD 0 xs.length) xs) (fun M => rdL M a = some xs) M1 t1 m1 ⟨fun i H M t m ok hi => ?_, fun H M t m ok => ?_, fun i H M x H' d t m ok hd y => ?_⟩ h'⟩
      · obtain ⟨us, qa, ra⟩ := m.rdL ok
        rw [hl] at hi
        obtain ⟨x, ex, _⟩ := ra.get (List.getElem?_eq_getElem hi)
        exact ⟨us, x, qa, ex⟩
      · obtain ⟨us, qa, ra⟩ := m.rdL ok
        exact ⟨us, qa, by rw [hl, ra.length]; exact Nat.le_refl _⟩
      · obtain ⟨us, qa, ra⟩ := m.rdL ok
        obtain ⟨dx, dy, ex, ey, ed⟩ := pairs_get hd
        obtain ⟨T, x1, e, hT, eH, qx⟩ := y
        obtain ⟨y2, gy, ry⟩ := ra.get ey
        have := qx us qa; rw [gy] at this; cases this
        have hi : i < xs.length := (List.getElem?_eq_some_iff.mp ey).1
        rw [intsD_get hi] at ex
        cases ex
        subst e eH ed
        refine ⟨.new hT, m.more hT, rel_pair hT ?_ ry⟩
        show V.int (i : Nat) = V.int (0 + (i : Int))
        rw [Int.zero_add]
    · exact h'.elim
end

/-! ### for -/
def tfor (ti : TId) (g : TGd) (tb : TSd) : TSd := fun D ρ M => ti ρ M fun items ok M1 => ∃ W : Nat → Envd → Mem → Prop, W 0 ρ M1 ∧ ∀ i ρ M, i ≤ items.length → W i ρ M → ok M ∧ (match items[i]? with
  | none => D.nx ρ M
  | some x => g x ρ M fun ρ2 M2 => tb { D with nx := W (i + 1), ct := W (i + 1), bk := D.nx } ρ2 M2)
theorem psd_for {X : Cx} {tg iter : Expr} {body : List Stmt} {ti : TId} {g : TGd} {js : List Nat} {tb : TSd} {pos : Pos} (hp : PassesOwn (model X.prog X.w) X.A X.env X.xe) (hc : X.calm = true) (hi : PId X tg iter ti) (hg : PGd X tg js g) (hb : PSsd X body tb)
    (hs : ∀ x, foldedSetIterable iter X.env x = pure x := by intro _; rfl) : PSd X (.For tg iter body [] pos) (tfor ti g tb) := by
  refine .of (ps_for hp hc hi.pi hg.pg hb.ps hs) fun D σ H h => ?_
  obtain ⟨ρ, M, E0, re, rm, h, k⟩ := h
  refine ⟨ρ, M, _, re, rm, h, fun J H1 items ok M1 t1 m1 rel h1 => ?_⟩
  obtain ⟨W, w0, turn⟩ := h1
  refine ⟨fun i m σ' H' => m + i = items.length ∧ ∃ ρ' M', Tle H1 H' ∧ RelE H' ρ' σ' ∧ RelM X.K H' M' ∧ W i ρ' M', ⟨items.length, rfl, ρ, M1, .refl, re.tle t1, m1, w0⟩, fun i m σ2 H2 w2 => ?_⟩
  obtain ⟨em, ρ2, M2, t2, re2, m2, w2⟩ := w2
  obtain ⟨hok, ht⟩ := turn i ρ2 M2 (by omega) w2
  by_cases hi : i < items.length
  · rw [List.getElem?_eq_getElem hi] at ht
    refine .inr ⟨rel.go i H2 M2 t2 m2 hok hi, fun σ' H' => ∃ ρ' M', Tle H1 H' ∧ RelE H' ρ' σ' ∧ RelM X.K H' M' ∧ W (i + 1) ρ' M', fun σ' H' q => ⟨m - 1, by omega, by omega, q⟩, fun x H3 y => ?_⟩
    obtain ⟨t3, m3, r3⟩ := rel.yld i H2 M2 x H3 _ t2 m2 hok (List.getElem?_eq_getElem hi) y
    refine ⟨_, ρ2, M2, _, r3, re2.tle t3, m3, ht, fun σ4 H4 ρ4 M4 _ t4 re4 m4 h4 => ⟨ρ4, M4, _, re4, m4, h4, ?_⟩⟩
    have tt : Tle H1 H4 := (t2.trans t3).trans t4
    exact ⟨fun σ5 H5 ρ5 M5 t5 e5 m5 w5 => ⟨ρ5, M5, tt.trans t5, e5, m5, w5⟩, k.rt.tle (t1.trans tt), k.nx.tle (t1.trans tt), fun σ5 H5 ρ5 M5 t5 e5 m5 w5 => ⟨ρ5, M5, tt.trans t5, e5, m5, w5⟩⟩
  · have e : i = items.length := by omega
    subst e
    rw [List.getElem?_eq_none (Nat.le_refl _)] at ht
    exact .inl ⟨rel.stop H2 M2 t2 m2 hok, k.nx σ2 H2 ρ2 M2 (t1.trans t2) re2 m2 ht⟩

/-! ### list comprehensions -/
def wiped (ρ : Envd) : List Nat → Envd
  | [] => ρ
  | v :: vs => (wiped ρ vs).set v none
theorem RelE.wipe {H : Hp} {ρ : Envd} {σ : St} (r : RelE H ρ σ) : ∀ vs, RelE H (wiped ρ vs) (wipe σ vs)
  | [] => r
  | v :: vs => by
    have q := RelE.wipe r vs
    refine ⟨by unfold wiped; unfold L2.wipe; rw [List.length_set, List.length_set]; exact q.1, fun j d e => ?_⟩
    unfold wiped at e
    unfold L2.wipe
    by_cases h : v = j
    · subst h
      rw [List.getElem?_set] at e
      simp only [if_true] at e
      split at e <;> cases e
    · rw [List.getElem?_set_ne h] at e ⊢
      exact q.2 j d e
structure PTsd (X : Cx) (es : List Expr) (t : TTd) : Prop where
  pt : PTs X es (lowT X.K t)
def tyes : TTd := fun _ M Q => Q true M
theorem ptsd_nil {X : Cx} : PTsd X [] tyes := ⟨⟨fun pins s σ H Q I w => by
  obtain ⟨ρ, M, Q0, re, rm, h, k⟩ := w
  exact pts_nil.run pins s σ H Q I (k true H M .refl rm h)⟩⟩
theorem ptsd_one {X : Cx} {c : Expr} {t : TTd} (h : PTd X c t) : PTsd X [c] t := ⟨pts_one h.pt⟩
/-- p: the new list; W: the turn, the items so far, the memory -/
def tlc (ti : TId) (g : TGd) (tt : TTd) (te : TEd) (vs : List Nat) : TEd := fun ρ M Q => ti ρ M fun items ok M1 => ∀ p, M1 p = none → ∃ W : Nat → List D → Mem → Prop, W 0 [] (put M1 p (.lst [])) ∧
  ∀ i acc M, i ≤ items.length → W i acc M → ok M ∧ (match items[i]? with
    | none => Q (.ref p) M
    | some x => g x (wiped ρ vs) M fun ρ2 M2 => tt ρ2 M2 fun b M3 => if b = true then te ρ2 M3 fun y M4 => M4 p = some (.lst acc) ∧ acc.length < sizeLine ∧ W (i + 1) (acc ++ [y]) (put M4 p (.lst (acc ++ [y]))) else W (i + 1) acc M3)
theorem tlc_low {K : PySem.W.Frag} {ti : TId} {g : TGd} {tt : TTd} {te : TEd} {vs js : List Nat} (hj : ∀ i ∈ js, i ∈ vs) (σ : St) (H : Hp) (Q : VK) (h : lowE K (tlc ti g tt te vs) σ H Q) : tLc (lowI K ti) (lowG K js g) (lowT K tt) (lowE K te) vs σ H Q := by
  obtain ⟨ρ, M, Q0, re, rm, h, k⟩ := h
  refine ⟨ρ, M, _, re, rm, h, fun J H1 items ok M1 t1 m1 rel h1 => ?_⟩
  intro p hp
  obtain ⟨W, w0, turn⟩ := h1 p (m1.fresh hp)
  have tp : Tle H1 (upd H1 p (.lst [])) := .new hp
  refine ⟨fun i m H' => m + i = items.length ∧ ∃ acc M', Tle H1 H' ∧ RelM K H' M' ∧ W i acc M', ⟨items.length, rfl, [], _, tp, m1.new (d := .lst []) hp ⟨[], upd_same, .nil⟩, w0⟩, fun i m H2 w2 => ?_⟩
  obtain ⟨em, acc, M2, t2, m2, w2⟩ := w2
  obtain ⟨hok, ht⟩ := turn i acc M2 (by omega) w2
  by_cases hi : i < items.length
  · rw [List.getElem?_eq_getElem hi] at ht
    refine .inr ⟨rel.go i H2 M2 t2 m2 hok hi, fun H' => ∃ acc M', Tle H1 H' ∧ RelM K H' M' ∧ W (i + 1) acc M', fun H' q => ⟨m - 1, by omega, by omega, q⟩, fun x H3 y => ?_⟩
    obtain ⟨t3, m3, r3⟩ := rel.yld i H2 M2 x H3 _ t2 m2 hok (List.getElem?_eq_getElem hi) y
    have re3 : RelE H3 (wiped ρ vs) (wipe σ vs) := (re.tle ((t1.trans t2).trans t3)).wipe vs
    refine ⟨_, _, M2, _, r3, re3, m3, ht, fun σ4 H4 ρ4 M4 so t4 re4 m4 h4 => ?_⟩
    have e4 : wipe σ4 vs = wipe σ vs := (so vs hj).trans (by
      apply List.ext_getElem?
      intro j
      rw [wipe_get, wipe_get]
      by_cases hj : j ∈ vs
      · simp only [if_pos hj, wipe_get]
        cases σ[j]? <;> simp
      · simp only [if_neg hj, wipe_get])
    refine ⟨e4, ρ4, M4, _, re4, m4, h4, fun b H5 M5 t5 m5 h5 => ?_⟩
    cases b with
    | true =>
      refine ⟨ρ4, M5, _, re4.tle t5, m5, h5, fun y H6 dy M6 t6 r6 m6 h6 => ?_⟩
      obtain ⟨e6, l6, w6⟩ := h6
      obtain ⟨us, q6, rl6⟩ := m6.lst e6
      refine ⟨us, q6, by rw [rl6.length]; exact l6, ?_⟩
      have t7 : Tle H6 (upd H6 p (.lst (us ++ [y]))) := .write q6 fun xs z => nomatch z
      exact ⟨_, _, ((((t2.trans t3).trans t4).trans t5).trans t6).trans t7, m6.write (d := .lst (acc ++ [dy])) q6 (fun xs z => nomatch z) ⟨_, upd_same, (rl6.append (.cons r6 .nil)).tle t7⟩, w6⟩
    | false => exact ⟨_, _, ((t2.trans t3).trans t4).trans t5, m5, h5⟩
  · have e : i = items.length := by omega
    subst e
    rw [List.getElem?_eq_none (Nat.le_refl _)] at ht
    exact .inl ⟨rel.stop H2 M2 t2 m2 hok, (k.tle t1).ref t2 m2 ht⟩
section
variable {X : Cx} {elt tg iter : Expr} {ifs : List Expr} {scope : Scope} {own : List (Str × Nat)} {pos spos : Pos} {ti : TId} {g : TGd} {js : List Nat} {tt : TTd} {te : TEd}
theorem ped_lc (hc : X.calm = true) (hN : X.N.Nodup) (hi : PId X tg iter ti) (ok : BlkOk X.N X.env.scope scope own) (hj : ∀ i ∈ js, i ∈ own.map (·.2))
    (hg : ∀ (s : Shared) (H : Hp) (C : Addr) (cl : List (Str × Addr)) (fp : List Addr), PGd (X.blk s H scope (compEnvC scope cl C X.env) fp) tg js g) (ht : ∀ (s : Shared) (H : Hp) (C : Addr) (cl : List (Str × Addr)) (fp : List Addr), PTsd (X.blk s H scope (compEnvC scope cl C X.env) fp) ifs tt)
    (he : ∀ (s : Shared) (H : Hp) (C : Addr) (cl : List (Str × Addr)) (fp : List Addr), PEd (X.blk s H scope (compEnvC scope cl C X.env) fp) elt te) (hs : ∀ x, foldedSetIterable iter X.env x = pure x := by intro _; rfl) :
    PEd X (.ListComp elt [⟨tg, iter, ifs, 0⟩] scope pos) (tlc ti g tt te (own.map (·.2))) :=
  .of (pe_lc hc hN hi.pi ok (fun s H C cl fp => (hg s H C cl fp).pg) (fun s H C cl fp => (ht s H C cl fp).pt) (fun s H C cl fp => (he s H C cl fp).pe) hs) (tlc_low hj)
theorem psd_setLc {i : Nat} {y : Str} {py : Pos} (hc : X.calm = true) (hN : X.N.Nodup) (hy : X.N[i]? = some y) (hyl : X.env.scope.names.lookup y = some .local)
    (hsw : swapsWith (.ListComp elt [⟨tg, iter, ifs, 0⟩] scope pos) (some (.Name y py)) spos.line X.env = pure true) (hi : PId X tg iter ti) (ok : BlkOk X.N X.env.scope scope own) (hj : ∀ i ∈ js, i ∈ own.map (·.2))
    (hg : ∀ (s : Shared) (H : Hp) (C : Addr) (cl : List (Str × Addr)) (fp : List Addr), PGd (X.blk s H scope (compEnvC scope cl C X.env) fp) tg js g) (ht : ∀ (s : Shared) (H : Hp) (C : Addr) (cl : List (Str × Addr)) (fp : List Addr), PTsd (X.blk s H scope (compEnvC scope cl C X.env) fp) ifs tt)
    (he : ∀ (s : Shared) (H : Hp) (C : Addr) (cl : List (Str × Addr)) (fp : List Addr), PEd (X.blk s H scope (compEnvC scope cl C X.env) fp) elt te) (hs : ∀ x, foldedSetIterable iter X.env x = pure x := by intro _; rfl) :
    PSd X (.Assign [.Name y py] (.ListComp elt [⟨tg, iter, ifs, 0⟩] scope pos) spos) (tasg (tlc ti g tt te (own.map (·.2))) (gname i)) :=
  .of (ps_setLc hc hN hy hyl hsw hi.pi ok (fun s H C cl fp => (hg s H C cl fp).pg) (fun s H C cl fp => (ht s H C cl fp).pt) (fun s H C cl fp => (he s H C cl fp).pe) hs) (tset_low (tlc_low hj))
end
end DL

end T_DL4

section T_DL5
set_option Elab.async false
set_option linter.all false
set_option maxRecDepth 100000
set_option maxHeartbeats 1000000
/-! The D layer, 5: subscripts, slices, methods of lists, dicts, built-ins. -/
namespace DL
open PySem PySem.Spec L2
open PyProof.Rows hiding St

/-! ### keys -/
def keyOf : D → Option Key
  | .int i => some (.inl i)
  | .str x => some (.inr x)
  | _ => none
def keysOf : List D → Option (List Key)
  | [] => some []
  | d :: ds => match keyOf d, keysOf ds with
    | some k, some ks => some (k :: ks)
    | _, _ => none
theorem keyOf_eq {d : D} {k : Key} (h : keyOf d = some k) : d = kD k := by
  cases d <;> simp [keyOf] at h <;> subst h <;> rfl
theorem keysOf_eq : ∀ {ds : List D} {ks : List Key}, keysOf ds = some ks → ds = ks.map kD
  | [], ks, h => by simp [keysOf] at h; subst h; rfl
  | d :: ds, ks, h => by
    unfold keysOf at h
    split at h
    · rename_i k r e1 e2
      cases h
      rw [keyOf_eq e1, keysOf_eq e2]
      rfl
    · cases h
theorem kD_rel {H : Hp} {k : Key} {v : V} (h : Rel H (kD k) v) : v = kV k := by cases k <;> exact h
theorem kD_relL {H : Hp} : ∀ {ks : List Key} {vs : List V}, RelL H (ks.map kD) vs → vs = ks.map kV
  | [], _, h => h
  | k :: ks, _, ⟨v, r, e, h1, h2⟩ => by rw [e, kD_rel h1, kD_relL h2]; rfl
theorem kD_inj {a b : Key} (h : kD a = kD b) : a = b := by
  cases a <;> cases b <;> simp [kD] at h <;> rw [h]
theorem kDs_inj : ∀ {a b : List Key}, a.map kD = b.map kD → a = b
  | [], [], _ => rfl
  | [], _ :: _, h => by simp at h
  | _ :: _, [], h => by simp at h
  | x :: xs, y :: ys, h => by
    simp only [List.map_cons, List.cons.injEq] at h
    rw [kD_inj h.1, kDs_inj h.2]
/-- what a dict holds -/
def look (kvs : List (D × D)) (k : D) : Option D := (kvs.find? fun p => decide (p.1 = k)).map (·.2)
def dput (kvs : List (D × D)) (k v : D) : List (D × D) := if (kvs.any fun p => decide (p.1 = k)) = true then kvs.map (fun p => if p.1 = k then (p.1, v) else p) else kvs ++ [(k, v)]
def ddel (kvs : List (D × D)) (k : D) : List (D × D) := kvs.filter fun p => decide (p.1 ≠ k)
section
variable {κ : Type} [DecidableEq κ] {f : κ → D} {H : Hp}
theorem look_gen (inj : ∀ a b, f a = f b → a = b) (k : κ) : ∀ {kvs : List (D × D)} {hv : List (κ × V)}, Paired (fun (p : D × D) (q : κ × V) => p.1 = f q.1 ∧ Rel H p.2 q.2) kvs hv →
    (∃ d v, look kvs (f k) = some d ∧ valV hv k = some v ∧ Rel H d v) ∨ (look kvs (f k) = none ∧ valV hv k = none)
  | _, _, .nil => .inr ⟨rfl, rfl⟩
  | (dk, dv) :: kvs, (q, v) :: hv, .cons ⟨e1, e2⟩ t => by
    simp only at e1 e2
    by_cases h : q = k
    · subst h
      exact .inl ⟨dv, v, by simp [look, e1], valV_pos rfl, e2⟩
    · have h' : ¬ dk = f k := fun z => h (inj _ _ (e1 ▸ z))
      have hl : look ((dk, dv) :: kvs) (f k) = look kvs (f k) := by simp [look, h']
      rw [hl, valV_neg (p := (q, v)) h]
      exact look_gen inj k t
theorem any_gen (inj : ∀ a b, f a = f b → a = b) (k : κ) : ∀ {kvs : List (D × D)} {hv : List (κ × V)}, Paired (fun (p : D × D) (q : κ × V) => p.1 = f q.1 ∧ Rel H p.2 q.2) kvs hv →
    (kvs.any fun p => decide (p.1 = f k)) = (hv.any fun kv => decide (kv.1 = k))
  | _, _, .nil => rfl
  | (dk, dv) :: kvs, (q, v) :: hv, .cons ⟨e1, e2⟩ t => by
    simp only at e1 e2
    simp only [List.any_cons, any_gen inj k t]
    congr 1
    by_cases h : q = k
    · simp [h, e1]
    · have h' : ¬ dk = f k := fun z => h (inj _ _ (e1 ▸ z))
      simp [h, h']
theorem paired_app {α β : Type} {F : α → β → Prop} : ∀ {a c : List α} {b d : List β}, Paired F a b → Paired F c d → Paired F (a ++ c) (b ++ d)
  | _, _, _, _, .nil, h => h
  | _, _, _, _, .cons r t, h => .cons r (paired_app t h)
theorem map_gen (inj : ∀ a b, f a = f b → a = b) (k : κ) {d : D} {v : V} (r : Rel H d v) : ∀ {kvs : List (D × D)} {hv : List (κ × V)}, Paired (fun (p : D × D) (q : κ × V) => p.1 = f q.1 ∧ Rel H p.2 q.2) kvs hv →
    Paired (fun (p : D × D) (q : κ × V) => p.1 = f q.1 ∧ Rel H p.2 q.2) (kvs.map fun p => if p.1 = f k then (p.1, d) else p) (hv.map fun q => if q.1 = k then (q.1, v) else q)
  | _, _, .nil => .nil
  | (dk, dv) :: kvs, (q, u) :: hv, .cons ⟨e1, e2⟩ t => by
    simp only at e1 e2
    simp only [List.map_cons]
    refine .cons ?_ (map_gen inj k r t)
    by_cases h : q = k
    · have h' : dk = f k := by rw [e1, h]
      simp only [h, h', if_true]
      exact ⟨trivial, r⟩
    · have h' : ¬ dk = f k := fun z => h (inj _ _ (e1 ▸ z))
      simp only [h, h', if_false]
      exact ⟨e1, e2⟩
theorem dput_gen (inj : ∀ a b, f a = f b → a = b) (k : κ) {d : D} {v : V} (r : Rel H d v) {kvs : List (D × D)} {hv : List (κ × V)} (h : Paired (fun (p : D × D) (q : κ × V) => p.1 = f q.1 ∧ Rel H p.2 q.2) kvs hv) :
    Paired (fun (p : D × D) (q : κ × V) => p.1 = f q.1 ∧ Rel H p.2 q.2) (dput kvs (f k) d) (putK hv k v) := by
  unfold dput putK
  rw [any_gen inj k h]
  split
  · exact map_gen inj k r h
  · exact paired_app h (.cons ⟨rfl, r⟩ .nil)
theorem ddel_gen (inj : ∀ a b, f a = f b → a = b) (k : κ) : ∀ {kvs : List (D × D)} {hv : List (κ × V)}, Paired (fun (p : D × D) (q : κ × V) => p.1 = f q.1 ∧ Rel H p.2 q.2) kvs hv →
    Paired (fun (p : D × D) (q : κ × V) => p.1 = f q.1 ∧ Rel H p.2 q.2) (ddel kvs (f k)) (dropK hv k)
  | _, _, .nil => .nil
  | (dk, dv) :: kvs, (q, v) :: hv, .cons ⟨e1, e2⟩ t => by
    simp only at e1 e2
    by_cases h : q = k
    · have h' : dk = f k := by rw [e1, h]
      simp only [ddel, dropK, List.filter_cons, h, h', ne_eq, not_true, decide_false, if_false]
      exact ddel_gen inj k t
    · have h' : ¬ dk = f k := fun z => h (inj _ _ (e1 ▸ z))
      simp only [ddel, dropK, List.filter_cons, h, h', ne_eq, not_false_eq_true, decide_true, if_true]
      exact .cons ⟨e1, e2⟩ (ddel_gen inj k t)
end
theorem tK_inj (a b : List Key) (h : D.tup (a.map kD) = D.tup (b.map kD)) : a = b := kDs_inj (by simpa using h)
/-- a dict that may be read: its pairs, whether its keys are tuples -/
def rdD (M : Mem) (a : Addr) : Option (Bool × List (D × D)) := match M a with
  | some (.dK kvs) => some (false, kvs)
  | some (.fK _ _ kvs) => some (false, kvs)
  | some (.dT kvs) => some (true, kvs)
  | some (.fT _ _ kvs) => some (true, kvs)
  | _ => none
/-- a value that may be a key of such a dict -/
def isKey : Bool → D → Bool
  | false, d => (keyOf d).isSome
  | true, .tup ds => (keysOf ds).isSome
  | true, _ => false
theorem rdD_get {K : PySem.W.Frag} {H : Hp} {M : Mem} {a : Addr} {t : Bool} {kvs : List (D × D)} {d : D} {y : V} (m : RelM K H M) (h : rdD M a = some (t, kvs)) (hk : isKey t d = true) (r : Rel H d y) :
    ∃ o, DGet H a y o ∧ ((∃ e v, look kvs d = some e ∧ o = some v ∧ Rel H e v) ∨ (look kvs d = none ∧ o = none)) := by
  have hK : ∀ hv, Rd H a (.dK hv) → RelKv H kvs hv → t = false → ∃ o, DGet H a y o ∧ ((∃ e v, look kvs d = some e ∧ o = some v ∧ Rel H e v) ∨ (look kvs d = none ∧ o = none)) := fun hv q rl et => by
    subst et
    obtain ⟨k, ek⟩ := Option.isSome_iff_exists.mp (show (keyOf d).isSome = true by cases d <;> exact hk)
    have ed := keyOf_eq ek
    subst ed
    refine ⟨valV hv k, .inl ⟨hv, k, q, kD_rel r, rfl⟩, ?_⟩
    rcases look_gen (f := kD) (fun _ _ => kD_inj) k rl with ⟨e, v, h1, h2, h3⟩ | ⟨h1, h2⟩
    · exact .inl ⟨e, v, h1, h2, h3⟩
    · exact .inr ⟨h1, h2⟩
  have hT : ∀ hv, Rd H a (.dT hv) → RelTv H kvs hv → t = true → ∃ o, DGet H a y o ∧ ((∃ e v, look kvs d = some e ∧ o = some v ∧ Rel H e v) ∨ (look kvs d = none ∧ o = none)) := fun hv q rl et => by
    subst et
    cases d with
    | tup ds =>
      obtain ⟨k, ek⟩ := Option.isSome_iff_exists.mp (show (keysOf ds).isSome = true from hk)
      have ed := keysOf_eq ek
      subst ed
      obtain ⟨b, vs, ey, qb, rb⟩ := r
      rw [kD_relL rb] at qb
      refine ⟨valV hv k, .inr ⟨hv, k, b, q, ey, qb, rfl⟩, ?_⟩
      rcases look_gen (κ := List Key) (f := fun k => D.tup (k.map kD)) tK_inj k rl with ⟨e, v, h1, h2, h3⟩ | ⟨h1, h2⟩
      · exact .inl ⟨e, v, h1, h2, h3⟩
      · exact .inr ⟨h1, h2⟩
    | _ => cases hk
  unfold rdD at h
  split at h
  · rename_i l e; cases h; obtain ⟨hv, q, rl⟩ := m a _ e; exact hK hv (.inl q) rl rfl
  · rename_i o hv l e; cases h; obtain ⟨q, rl⟩ := m a _ e; exact hK hv (.inr ⟨o, q⟩) rl rfl
  · rename_i l e; cases h; obtain ⟨hv, q, rl⟩ := m a _ e; exact hT hv (.inl q) rl rfl
  · rename_i o hv l e; cases h; obtain ⟨q, rl⟩ := m a _ e; exact hT hv (.inr ⟨o, q⟩) rl rfl
  · cases h

/-! ### subscripts -/
def ixRef (a : Addr) (y : D) (M : Mem) (Q : VKd) : Prop := match rdL M a with
  | some xs => (match y with
    | .int i => (match atI xs i with
      | some d => Q d M
      | none => False)
    | _ => False)
  | none => (match rdD M a with
    | some (t, kvs) => isKey t y = true ∧ (match look kvs y with
      | some d => Q d M
      | none => False)
    | none => False)
def ixR : R2d
  | .tup xs, .int i, M, Q => (match atI xs i with
    | some d => Q d M
    | none => False)
  | .str s, .int i, M, Q => s.length ≤ sizeLine ∧ (match atI s.cps.toList i with
    | some c => Q (.str ⟨#[c]⟩) M
    | none => False)
  | .ref a, y, M, Q => ixRef a y M Q
  | _, _, _, _ => False
theorem RelL.atI {H : Hp} {ds : List D} {vs : List V} {i : Int} {d : D} (r : RelL H ds vs) (h : L2.atI ds i = some d) : ∃ v, L2.atI vs i = some v ∧ Rel H d v := by
  unfold L2.atI at h ⊢
  rw [r.length]
  obtain ⟨j, e1, e2⟩ := Option.bind_eq_some_iff.mp h
  obtain ⟨v, e3, e4⟩ := r.get e2
  exact ⟨v, by rw [e1]; exact e3, e4⟩
/-- an item of a dict, by values -/
def rIxD : R2 := fun x y H Q => ∃ a v, x = .ref a ∧ DGet H a y (some v) ∧ Q v H
section
variable {X : Cx}
theorem ix_dict (hu : X.A.units + 1 < cLine) : IxR X rIxD := by
  intro value slice pins s σ H x y v u Q I rx ry h hs
  obtain ⟨a, z, ex, g, q⟩ := h
  subst ex
  cases (show v = Value.ref a from rx)
  have hT := dict_typeIs I g
  refine tail_any (ops := [.ref a, u]) hT PySem.F.slot_dict_getitem.lookup (d_getItem hu I g ry fun w' s' I' r' => ⟨z, H, I', r', q⟩) hs
theorem IxR.mono {r r' : R2} (h : IxR X r) (q : ∀ x y H Q, r' x y H Q → r x y H Q) : IxR X r' := fun a b pins s σ H x y v u Q I rx ry w => h a b pins s σ H x y v u Q I rx ry (q x y H Q w)
theorem ix_D (hu : X.A.units + 1 < cLine) : IxR X (lowR2 X.K ixR) := by
  refine IxR.mono ((ix_list.or ix_tup).or (ix_str.or (ix_dict hu))) fun x y H Q w => ?_
  obtain ⟨a, b, M, Q0, ra, rb, m, h, k⟩ := w
  cases a with
  | tup xs => cases b with
    | int i =>
      cases rb
      obtain ⟨p, vs, e, q, rl⟩ := ra
      have h' : (match L2.atI xs i with
        | some d => Q0 d M
        | none => False) := h
      split at h'
      · rename_i d e1
        obtain ⟨v, ev, rv⟩ := rl.atI e1
        exact .inl (.inr ⟨p, vs, i, v, e, rfl, .of q, ev, k.any rv m h'⟩)
      · exact h'.elim
    | _ => exact h.elim
  | str s => cases b with
    | int i =>
      cases ra
      cases rb
      obtain ⟨hl, h'⟩ := (show s.length ≤ sizeLine ∧ (match L2.atI s.cps.toList i with
        | some c => Q0 (.str ⟨#[c]⟩) M
        | none => False) from h)
      split at h'
      · rename_i c e1
        exact .inr (.inl ⟨s, i, c, rfl, rfl, hl, e1, k.str m h'⟩)
      · exact h'.elim
    | _ => exact h.elim
  | ref p =>
    cases ra
    have dict : (match rdD M p with
      | some (t, kvs) => isKey t b = true ∧ (match look kvs b with
        | some d => Q0 d M
        | none => False)
      | none => False) → rIxD (.ref p) y H Q := fun h' => by
      split at h'
      · rename_i t kvs e
        obtain ⟨hk, h'⟩ := h'
        split at h'
        · rename_i d ed
          obtain ⟨o, g, c⟩ := rdD_get m e hk rb
          rcases c with ⟨e, v, h1, h2, h3⟩ | ⟨h1, h2⟩
          · rw [ed] at h1
            cases h1
            subst h2
            exact ⟨p, v, rfl, g, k.any h3 m h'⟩
          · rw [ed] at h1; cases h1
        · exact h'.elim
      · exact h'.elim
    have h' : ixRef p b M Q0 := by cases b <;> exact h
    unfold ixRef at h'
    cases e : rdL M p with
    | none => rw [e] at h'; exact .inr (.inr (dict h'))
    | some xs =>
      rw [e] at h'
      obtain ⟨vs, q, rl⟩ := m.rdL e
      cases b with
      | int i =>
        cases rb
        simp only at h'
        split at h'
        · rename_i d e1
          obtain ⟨v, ev, rv⟩ := rl.atI e1
          exact .inl (.inl ⟨p, vs, i, v, rfl, rfl, q, ev, k.any rv m h'⟩)
        · exact h'.elim
      | _ => exact h'.elim
  | _ => cases b <;> exact h.elim
theorem ped_ix {a b : Expr} {ta tb : TEd} {pos : Pos} (hu : X.A.units + 1 < cLine) (ha : PEd X a ta) (hb : PEd X b tb) (hs : PlainIx b := by intro _ _; rfl) : PEd X (.Subscript a b pos) (top2 ixR ta tb) := .of (pe_ix (ix_D hu) ha.pe hb.pe hs) top2_low
end
def setLst (a : Addr) (xs : List D) (i v : D) (M : Mem) (Q : Mem → Prop) : Prop := match i with
  | .int k => (match ixN xs.length k with
    | some j => Q (put M a (.lst (xs.set j v)))
    | none => False)
  | _ => False
/-- o[i] = v -/
def setR (o i v : D) (M : Mem) (Q : Mem → Prop) : Prop := match o with
  | .ref a => (match M a with
    | some (.lst xs) => setLst a xs i v M Q
    | some (.dK kvs) => isKey false i = true ∧ kvs.length < sizeLine ∧ Q (put M a (.dK (dput kvs i v)))
    | some (.dT kvs) => isKey true i = true ∧ kvs.length < sizeLine ∧ Q (put M a (.dT (dput kvs i v)))
    | _ => False)
  | _ => False
def delR (o i : D) (M : Mem) (Q : Mem → Prop) : Prop := match o with
  | .ref a => (match M a with
    | some (.dK kvs) => isKey false i = true ∧ (look kvs i).isSome = true ∧ Q (put M a (.dK (ddel kvs i)))
    | some (.dT kvs) => isKey true i = true ∧ (look kvs i).isSome = true ∧ Q (put M a (.dT (ddel kvs i)))
    | _ => False)
  | _ => False
def gsub (to ti : TEd) : TGd := fun v ρ M Q => to ρ M fun o M1 => ti ρ M1 fun i M2 => setR o i v M2 fun M3 => Q ρ M3
def rSetD : V → V → V → Hp → (Hp → Prop) → Prop := fun o i v H Q => ∃ a H', o = .ref a ∧ DPut H a i v H' ∧ Q H'
def lowSet (K : PySem.W.Frag) : V → V → V → Hp → (Hp → Prop) → Prop := fun o i v H Q => ∃ dO dI dV M Q0, Rel H dO o ∧ Rel H dI i ∧ Rel H dV v ∧ RelM K H M ∧ setR dO dI dV M Q0 ∧ ∀ H' M', Tle H H' → RelM K H' M' → Q0 M' → Q H'
section
variable {X : Cx}
theorem set_dict (hu : X.A.units + 1 < cLine) : PSet X rSetD := by
  intro pins s σ H o i v ov iv u Q I ro ri rv h
  obtain ⟨a, H', eo, g, q⟩ := h
  subst eo
  cases (show ov = Value.ref a from ro)
  exact d_setItem hu I g ri rv fun s' I' => ⟨H', I', q⟩
theorem set_D (hu : X.A.units + 1 < cLine) : PSet X (lowSet X.K) := by
  intro pins s σ H o i v ov iv u Q I ro ri rv h
  obtain ⟨dO, dI, dV, M, Q0, r1, r2, r3, m, h, k⟩ := h
  cases dO with
  | ref a =>
    cases r1
    have h' : (match M a with
      | some (.lst xs) => setLst a xs dI dV M Q0
      | some (.dK kvs) => isKey false dI = true ∧ kvs.length < sizeLine ∧ Q0 (put M a (.dK (dput kvs dI dV)))
      | some (.dT kvs) => isKey true dI = true ∧ kvs.length < sizeLine ∧ Q0 (put M a (.dT (dput kvs dI dV)))
      | _ => False) := h
    split at h'
    · rename_i xs e
      obtain ⟨vs, q, rl⟩ := m.lst e
      cases dI with
      | int n =>
        cases r2
        unfold setLst at h'
        simp only at h'
        split at h'
        · rename_i j ej
          have t : Tle H (upd H a (.lst (vs.set j v))) := .write q fun xs z => nomatch z
          exact set_list pins s σ H (.ref a) (.int n) v ov iv u Q I ro ri rv ⟨a, vs, n, j, rfl, rfl, q, by rw [rl.length]; exact ej, k _ _ t (m.write (d := .lst (xs.set j dV)) q (fun xs z => nomatch z) ⟨_, upd_same, (rl.set r3 j).tle t⟩) h'⟩
        · exact h'.elim
      | _ => exact h'.elim
    · rename_i kvs e
      obtain ⟨hv, q, rl⟩ := m a _ e
      obtain ⟨hk, hl, h'⟩ := h'
      obtain ⟨key, ek⟩ := Option.isSome_iff_exists.mp (show (keyOf dI).isSome = true by cases dI <;> exact hk)
      have ed := keyOf_eq ek
      subst ed
      have t : Tle H (upd H a (.dK (putK hv key v))) := .write q fun xs z => nomatch z
      have el : kvs.length = hv.length := Paired.length rl
      have ei := kD_rel r2
      subst ei
      exact set_dict hu pins s σ H (.ref a) (kV key) v ov iv u Q I ro ri rv ⟨a, _, rfl, DPut.k q (by omega), k _ _ t (m.write (d := .dK (dput kvs (kD key) dV)) q (fun xs z => nomatch z) ⟨_, upd_same, RelKv.tle t (dput_gen (f := kD) (fun _ _ => kD_inj) key r3 rl)⟩) h'⟩
    · rename_i kvs e
      obtain ⟨hv, q, rl⟩ := m a _ e
      obtain ⟨hk, hl, h'⟩ := h'
      cases dI with
      | tup ds =>
        obtain ⟨key, ek⟩ := Option.isSome_iff_exists.mp (show (keysOf ds).isSome = true from hk)
        have ed := keysOf_eq ek
        subst ed
        obtain ⟨b, vs, ey, qb, rb⟩ := r2
        subst ey
        rw [kD_relL rb] at qb
        have t : Tle H (upd H a (.dT (putK hv key v))) := .write q fun xs z => nomatch z
        have el : kvs.length = hv.length := Paired.length rl
        exact set_dict hu pins s σ H (.ref a) (.ref b) v ov iv u Q I ro ri rv ⟨a, _, rfl, DPut.t q qb (by omega), k _ _ t (m.write (d := .dT (dput kvs (.tup (key.map kD)) dV)) q (fun xs z => nomatch z) ⟨_, upd_same, RelTv.tle t (dput_gen (κ := List Key) (f := fun k => D.tup (k.map kD)) tK_inj key r3 rl)⟩) h'⟩
      | _ => cases hk
    · exact h'.elim
  | _ => exact h.elim
theorem pgd_sub {o i : Expr} {to ti : TEd} {pos : Pos} (hu : X.A.units + 1 < cLine) (ho : PEd X o to) (hi : PEd X i ti)
    (ha : ∀ v, assign (.Subscript o i pos) X.env v = (do
      let ov ← holding [v] (eval o X.env)
      let iv ← holding [v, ov] (eval i X.env)
      standAt pos
      holding [v, ov, iv] (setItem ov iv v)
      release [v, ov, iv] []) := by intro _; rfl) : PGd X (.Subscript o i pos) [] (gsub to ti) := by
  refine .of (pg_sub ho.pe hi.pe (set_D hu) ha) fun v σ H Q h => ?_
  obtain ⟨d, ρ, M, Q0, rd, re, rm, h, k⟩ := h
  exact ⟨ρ, M, _, re, rm, h, fun o H1 dO M1 t1 r1 m1 h1 => ⟨ρ, M1, _, re.tle t1, m1, h1, fun i H2 dI M2 t2 r2 m2 h2 =>
    ⟨dO, dI, d, M2, _, r1.tle t2, r2, rd.tle (t1.trans t2), m2, h2, fun H3 M3 t3 m3 h3 => k σ H3 ρ M3 .refl ((t1.trans t2).trans t3) (re.tle ((t1.trans t2).trans t3)) m3 h3⟩⟩⟩
end
end DL

end T_DL5

section T_DL6
set_option Elab.async false
set_option linter.all false
set_option maxRecDepth 100000
set_option maxHeartbeats 1000000
/-! The D layer, 6: slices, methods, built-ins, calls of defs. -/
namespace DL
open PySem PySem.Spec L2
open PyProof.Rows hiding St

/-! ### in, not in -/
def inR (neg : Bool) : R2d := fun x y M Q => match y with
  | .ref a => (match rdD M a with
    | some (t, kvs) => isKey t x = true ∧ Q (.bl (if neg then !(look kvs x).isSome else (look kvs x).isSome)) M
    | none => (match rdL M a with
      | some ys => ∃ p qs, PyR M x p ∧ PyRL M ys qs ∧ SeqAt.shaped p = true ∧ SeqAt.shaped (.list qs) = true ∧ Q (.bl (if neg then !qs.any (fun q => PyData.eqv q p) else qs.any (fun q => PyData.eqv q p))) M
      | none => False))
  | .tup ys => (∃ vx vs, absD x = some vx ∧ absL ys = some vs ∧ flatV vx = true ∧ vs.all flatV = true ∧ Q (.bl (if neg then !inV vx vs else inV vx vs)) M)
  | .str j => (match x with
    | .str i => Q (.bl (if neg then !(!(Builtin.Str.occurrences j i 0 j.length 1).isEmpty) else !(Builtin.Str.occurrences j i 0 j.length 1).isEmpty)) M
    | _ => False)
  | _ => False
where
  absD : D → Option V
    | .non => some .non
    | .bl b => some (.bl b)
    | .int i => some (.int i)
    | .str x => some (.str x)
    | _ => none
  absL : List D → Option (List V)
    | [] => some []
    | d :: ds => match absD d, absL ds with
      | some v, some vs => some (v :: vs)
      | _, _ => none
theorem absD_rel {H : Hp} {d : D} {v w : V} (h : inR.absD d = some w) (r : Rel H d v) : v = w := by
  cases d <;> simp [inR.absD] at h <;> (cases r; exact h)
theorem absL_rel {H : Hp} : ∀ {ds : List D} {vs ws : List V}, inR.absL ds = some ws → RelL H ds vs → vs = ws
  | [], _, _, h, r => by cases r; simp [inR.absL] at h; exact h.symm
  | d :: ds, _, _, h, ⟨v, r, e, h1, h2⟩ => by
    unfold inR.absL at h
    split at h
    · rename_i w ws e1 e2
      cases h
      subst e
      rw [absD_rel e1 h1, absL_rel e2 h2]
    · cases h
def rDIn (neg : Bool) : R2 := fun y x H Q => ∃ a o, x = .ref a ∧ DGet H a y o ∧ Q (.bl (if neg then !o.isSome else o.isSome)) H
section
variable {X : Cx}
theorem op_inDict (hu : X.A.units + 1 < cLine) : OpR X (compareOp .In) (rDIn false) := by
  intro pins s σ H y x iv u Q I ry rx h
  obtain ⟨a, o, ex, g, q⟩ := h
  subst ex
  cases (show u = Value.ref a from rx)
  exact d_in hu I g ry fun s3 I3 => ⟨.bl o.isSome, H, I3, rfl, q⟩
theorem op_notInDict (hu : X.A.units + 1 < cLine) : OpR X (compareOp .NotIn) (rDIn true) := by
  intro pins s σ H y x iv u Q I ry rx h
  obtain ⟨a, o, ex, g, q⟩ := h
  subst ex
  cases (show u = Value.ref a from rx)
  exact d_notIn hu I g ry fun s3 I3 => ⟨.bl (!o.isSome), H, I3, rfl, q⟩
theorem inR_low {neg : Bool} {K : PySem.W.Frag} {x y : V} {H : Hp} {Q : VK} (h : lowR2 K (inR neg) x y H Q) :
    (rDIn neg x y H Q ∨ (∃ d ds, Dp K H x d ∧ Dp K H y (.list ds) ∧ SeqAt.shaped d = true ∧ SeqAt.shaped (.list ds) = true ∧ Q (.bl (if neg then !ds.any (fun q => PyData.eqv q d) else ds.any (fun q => PyData.eqv q d))) H)) ∨
    (rIn K neg x y H Q ∨ ∃ i j, x = .str i ∧ y = .str j ∧ Q (.bl (if neg then !(!(Builtin.Str.occurrences j i 0 j.length 1).isEmpty) else !(Builtin.Str.occurrences j i 0 j.length 1).isEmpty)) H) := by
  obtain ⟨a, b, M, Q0, ra, rb, m, h, k⟩ := h
  cases b with
  | ref p =>
    cases rb
    have h' : (match rdD M p with
      | some (t, kvs) => isKey t a = true ∧ Q0 (.bl (if neg then !(look kvs a).isSome else (look kvs a).isSome)) M
      | none => (match rdL M p with
        | some ys => ∃ q qs, PyR M a q ∧ PyRL M ys qs ∧ SeqAt.shaped q = true ∧ SeqAt.shaped (.list qs) = true ∧ Q0 (.bl (if neg then !qs.any (fun z => PyData.eqv z q) else qs.any (fun z => PyData.eqv z q))) M
        | none => False)) := h
    split at h'
    · rename_i t kvs e
      obtain ⟨o, g, c⟩ := rdD_get m e h'.1 ra
      refine .inl (.inl ⟨p, o, rfl, g, ?_⟩)
      have eo : o.isSome = (look kvs a).isSome := by
        rcases c with ⟨e, v, h1, h2, _⟩ | ⟨h1, h2⟩ <;> rw [h1, h2] <;> rfl
      rw [eo]
      exact k.bl m h'.2
    · split at h'
      · rename_i ys e
        obtain ⟨q, qs, h1, h2, s1, s2, h'⟩ := h'
        exact .inl (.inr ⟨q, qs, PyR.dp m _ _ _ h1 ra, PyR.dp m _ _ _ (.lst e h2) rfl, s1, s2, k.bl m h'⟩)
      · exact h'.elim
  | tup ys =>
    obtain ⟨p, vs, e, q, rl⟩ := rb
    obtain ⟨vx, ws, e1, e2, f1, f2, h⟩ := h
    have z1 := absD_rel e1 ra
    have z2 := absL_rel e2 rl
    subst z1 z2 e
    exact .inr (.inl ⟨p, vs, rfl, .inr (.of q), f1, f2, k.bl m h⟩)
  | str j => cases a with
    | str i => cases ra; cases rb; exact .inr (.inr ⟨i, j, rfl, rfl, k.bl m h⟩)
    | _ => exact h.elim
  | _ => exact h.elim
theorem op_inDD (hu : X.A.units + 65 < cLine) : OpR X (compareOp .In) (lowR2 X.K (inR false)) := by
  refine OpR.mono (((op_inDict (by omega)).or (op_inD hu)).or (op_in_seq.or op_in_str)) fun x y H Q w => ?_
  rcases inR_low w with (h | ⟨d, ds, h⟩) | (h | h)
  · exact .inl (.inl h)
  · exact .inl (.inr ⟨d, ds, h⟩)
  · exact .inr (.inl h)
  · exact .inr (.inr h)
theorem op_notInDD (hu : X.A.units + 65 < cLine) : OpR X (compareOp .NotIn) (lowR2 X.K (inR true)) := by
  refine OpR.mono (((op_notInDict (by omega)).or (op_notInD hu)).or (op_notIn_seq.or op_notIn_str)) fun x y H Q w => ?_
  rcases inR_low w with (h | ⟨d, ds, h⟩) | (h | h)
  · exact .inl (.inl h)
  · exact .inl (.inr ⟨d, ds, h⟩)
  · exact .inr (.inl h)
  · exact .inr (.inr h)
end

/-! ### slices -/
abbrev TOd := Envd → Mem → (Option Int → Mem → Prop) → Prop
def lowO (K : PySem.W.Frag) (t : TOd) : TO := fun σ H Q => ∃ ρ M Q0, RelE H ρ σ ∧ RelM K H M ∧ t ρ M Q0 ∧ ∀ o H' M', Tle H H' → RelM K H' M' → Q0 o M' → Q o H'
structure POd (X : Cx) (e : Option Expr) (t : TOd) : Prop where
  po : PO X e (lowO X.K t)
def tnopart : TOd := fun _ M Q => Q none M
def tpart (t : TEd) : TOd := fun ρ M Q => t ρ M fun x M1 => match x with
  | .int i => Q (some i) M1
  | _ => False
def cutD (xs : List D) (lo hi : Option Int) : List D := (xs.drop (HT.sIx xs.length 0 lo)).take (HT.sIx xs.length xs.length hi - HT.sIx xs.length 0 lo)
theorem RelL.cut {H : Hp} {ds : List D} {vs : List V} (r : RelL H ds vs) (lo hi : Option Int) : RelL H (cutD ds lo hi) (cutV vs lo hi) := by
  unfold cutD cutV
  rw [r.length]
  exact (r.drop _).take _
theorem cutD_whole {xs : List D} {lo hi : Option Int} (h : HT.sIx xs.length 0 lo = 0 ∧ HT.sIx xs.length xs.length hi = xs.length) : cutD xs lo hi = xs := by
  unfold cutD
  rw [h.1, h.2]
  simp
def slR (x : D) (lo hi : Option Int) (M : Mem) (Q : VKd) : Prop := match x with
  | .tup xs => Q (.tup (cutD xs lo hi)) M
  | .str s => s.length ≤ sizeLine ∧ Q (.str (cutS s lo hi)) M
  | .ref a => (match rdL M a with
    | some xs => ∀ p, M p = none → Q (.ref p) (put M p (.lst (cutD xs lo hi)))
    | none => False)
  | _ => False
def tslice (te : TEd) (tl th : TOd) : TEd := fun ρ M Q => te ρ M fun x M1 => tl ρ M1 fun l M2 => th ρ M2 fun u M3 => slR x l u M3 Q
def lowSl (K : PySem.W.Frag) : V → Option Int → Option Int → Hp → VK → Prop := fun x lo hi H Q => ∃ a M Q0, Rel H a x ∧ RelM K H M ∧ slR a lo hi M Q0 ∧ lowV K H Q0 Q
section
variable {X : Cx}
theorem SlR.mono {r r' : V → Option Int → Option Int → Hp → VK → Prop} (h : SlR X r) (q : ∀ x lo hi H Q, r' x lo hi H Q → r x lo hi H Q) : SlR X r' := fun pins s σ H x v vl vu lo hi sl Q I rx hs pl pu w => h pins s σ H x v vl vu lo hi sl Q I rx hs pl pu (q x lo hi H Q w)
theorem sl_D : SlR X (lowSl X.K) := by
  refine SlR.mono ((sl_list.or sl_tupA).or sl_str) fun x lo hi H Q w => ?_
  obtain ⟨a, M, Q0, ra, m, h, k⟩ := w
  cases a with
  | tup xs =>
    obtain ⟨p, vs, e, q, rl⟩ := ra
    subst e
    refine .inl (.inr ⟨p, vs, rfl, .of q, fun hw => ?_, fun _ p hp => k.newT m hp (rl.cut lo hi) h⟩)
    rw [rl.length] at hw
    have h2 : Q0 (.tup (cutD xs lo hi)) M := h
    rw [cutD_whole hw] at h2
    exact k.tup .refl q rl m h2
  | str s => cases ra; exact .inr ⟨s, rfl, h.1, k.str m h.2⟩
  | ref a =>
    cases ra
    have h' : (match rdL M a with
      | some xs => ∀ p, M p = none → Q0 (.ref p) (put M p (.lst (cutD xs lo hi)))
      | none => False) := h
    split at h'
    · rename_i xs e
      obtain ⟨vs, q, rl⟩ := m.rdL e
      exact .inl (.inl ⟨a, vs, rfl, q, fun p hp => k.newL m hp (rl.cut lo hi) h'⟩)
    · exact h'.elim
  | _ => exact h.elim
theorem pod_none : POd X none tnopart := ⟨⟨fun pins s σ H Q I w => by
  obtain ⟨ρ, M, Q0, re, rm, h, k⟩ := w
  exact po_none.run pins s σ H Q I (k none H M .refl rm h)⟩⟩
theorem pod_some {e : Expr} {te : TEd} (h : PEd X e te) : POd X (some e) (tpart te) := ⟨⟨fun pins s σ H Q I w => by
  obtain ⟨ρ, M, Q0, re, rm, hw, k⟩ := w
  refine (po_some h.pe).run pins s σ H Q I ⟨ρ, M, _, re, rm, hw, fun x H1 dx M1 t1 r1 m1 h1 => ?_⟩
  cases dx with
  | int i => cases r1; exact ⟨i, rfl, k _ H1 M1 t1 m1 h1⟩
  | _ => exact h1.elim⟩⟩
theorem ped_slice {e : Expr} {lo hi : Option Expr} {te : TEd} {tl th : TOd} {pos p2 : Pos} (he : PEd X e te) (hl : POd X lo tl) (hu : POd X hi th) : PEd X (.Subscript e (.Slice lo hi none p2) pos) (tslice te tl th) := by
  refine .of (pe_slice sl_D he.pe hl.po hu.po) fun σ H Q h => ?_
  obtain ⟨ρ, M, Q0, re, rm, h, k⟩ := h
  exact ⟨ρ, M, _, re, rm, h, fun x H1 dx M1 t1 r1 m1 h1 => ⟨ρ, M1, _, re.tle t1, m1, h1, fun l H2 M2 t2 m2 h2 => ⟨ρ, M2, _, re.tle (t1.trans t2), m2, h2, fun u H3 M3 t3 m3 h3 =>
    ⟨dx, M3, Q0, r1.tle (t2.trans t3), m3, h3, k.tle ((t1.trans t2).trans t3)⟩⟩⟩⟩
end

/-! ### built-ins called by name -/
abbrev RCd := List D → Mem → VKd → Prop
def lowCR (K : PySem.W.Frag) (r : RCd) : List V → Hp → VK → Prop := fun xs H Q => ∃ ds M Q0, RelL H ds xs ∧ RelM K H M ∧ r ds M Q0 ∧ lowV K H Q0 Q
def tcb (r : RCd) (t : TAd) : TEd := fun ρ M Q => t ρ M fun ds M1 => r ds M1 Q
theorem tcb_low {K : PySem.W.Frag} {r : RCd} {t : TAd} (σ : St) (H : Hp) (Q : VK) (h : lowE K (tcb r t) σ H Q) : tCB (lowCR K r) (lowA K t) σ H Q := by
  obtain ⟨ρ, M, Q0, re, rm, h, k⟩ := h
  exact ⟨ρ, M, _, re, rm, h, fun vs H1 ds M1 t1 r1 m1 h1 => ⟨ds, M1, Q0, r1, m1, h1, k.tle t1⟩⟩
section
variable {X : Cx} {id T : String} {r : RCd} {e : Expr} {es : List Expr} {t : TAd} {x : Str} {p pos : Pos}
theorem CallR.mono {f : Value} {r r' : List V → Hp → VK → Prop} (h : CallR X f r) (q : ∀ xs H Q, r' xs H Q → r xs H Q) : CallR X f r' := fun pins s σ H xs us Q I rv w => h pins s σ H xs us Q I rv (q xs H Q w)
theorem CallR.or {f : Value} {r r' : List V → Hp → VK → Prop} (h : CallR X f r) (h' : CallR X f r') : CallR X f (fun xs H Q => r xs H Q ∨ r' xs H Q) := fun pins s σ H xs us Q I rv w => w.elim (h pins s σ H xs us Q I rv) (h' pins s σ H xs us Q I rv)
theorem ped_callB (hc : CallR X (.builtin id) (lowCR X.K r)) (hg : Gl X x) (hm : X.mg x = none) (hv : bootBuiltins x = some (.builtin id)) (ha : PAd X (e :: es) t) (hn : x ≠ "__name__" := by decide) (hdb : (x == ("__debug__" : Str)) = false := by decide)
    (he : starEach (e :: es) X.env = (false, eval e X.env) :: starEach es X.env := by rfl) (hpl : (backTo pos (starEach es X.env)).any (·.1) = false := by rfl) : PEd X (.Call (.Name x p) (e :: es) [] pos) (tcb r t) :=
  .of (pe_callB hc hg hm hv ha.pa hn hdb he hpl) tcb_low
theorem ped_callTy (hc : CallR X (.type T) (lowCR X.K r)) (hg : Gl X x) (hm : X.mg x = none) (hv : bootBuiltins x = some (.type T)) (ha : PAd X (e :: es) t) (hn : x ≠ "__name__" := by decide) (hdb : (x == ("__debug__" : Str)) = false := by decide)
    (he : starEach (e :: es) X.env = (false, eval e X.env) :: starEach es X.env := by rfl) (hpl : (backTo pos (starEach es X.env)).any (·.1) = false := by rfl) : PEd X (.Call (.Name x p) (e :: es) [] pos) (tcb r t) :=
  .of (pe_callTy hc hg hm hv ha.pa hn hdb he hpl) tcb_low
end
/-- what may be read as a row -/
def rdS (M : Mem) : D → Option (List D)
  | .tup xs => some xs
  | .ref a => rdL M a
  | _ => none
theorem rdS_seq {K : PySem.W.Frag} {H : Hp} {M : Mem} {d : D} {v : V} {xs : List D} (m : RelM K H M) (r : Rel H d v) (h : rdS M d = some xs) : ∃ p vs, v = .ref p ∧ RelL H xs vs ∧ (SqL K H p vs ∨ (SqT K H p vs ∧ H p = some (.tup vs) ∧ d = .tup xs)) := by
  cases d with
  | tup ys =>
    simp [rdS] at h
    subst h
    obtain ⟨p, vs, e, q, rl⟩ := r
    exact ⟨p, vs, e, rl, .inr ⟨.of q, q, rfl⟩⟩
  | ref a =>
    cases r
    obtain ⟨vs, q, rl⟩ := m.rdL h
    exact ⟨a, vs, rfl, rl, .inl q⟩
  | _ => simp [rdS] at h
def lenR1 (d : D) (M : Mem) (Q : VKd) : Prop := match d with
  | .str s => s.length ≤ sizeLine ∧ Q (.int s.length) M
  | .tup xs => Q (.int xs.length) M
  | .ref a => (match rdL M a with
    | some xs => Q (.int xs.length) M
    | none => (match M a with
      | some (.dK kvs) => Q (.int kvs.length) M
      | _ => False))
  | _ => False
def lenR : RCd := fun ds M Q => match ds with
  | [d] => lenR1 d M Q
  | _ => False
def listR : RCd := fun ds M Q => match ds with
  | [d] => (match rdS M d with
    | some xs => ∀ p, M p = none → Q (.ref p) (put M p (.lst xs))
    | none => False)
  | _ => False
def tupleR : RCd := fun ds M Q => match ds with
  | [d] => (match rdS M d with
    | some xs => Q (.tup xs) M
    | none => False)
  | _ => False
def intR : RCd := fun ds M Q => match ds with
  | [.int i] => Q (.int i) M
  | [.bl k] => Q (.int (if k then 1 else 0)) M
  | _ => False
def absR : RCd := fun ds M Q => match ds with
  | [.int n] => Q (.int (if n < 0 then -n else n)) M
  | _ => False
/-- the ints of a row -/
def intsOf : List D → Option (List Int)
  | [] => some []
  | .int i :: ds => (intsOf ds).map (i :: ·)
  | _ => none
def boolsOf : List D → Option (List Bool)
  | [] => some []
  | .bl i :: ds => (boolsOf ds).map (i :: ·)
  | _ => none
theorem intsOf_rel {H : Hp} : ∀ {ds : List D} {ns : List Int} {vs : List V}, intsOf ds = some ns → RelL H ds vs → vs = ns.map V.int
  | [], _, _, h, r => by simp [intsOf] at h; subst h; exact r
  | .int i :: ds, _, _, h, ⟨v, r, e, h1, h2⟩ => by
    simp [intsOf] at h
    obtain ⟨ns, e1, e2⟩ := h
    subst e2 e
    cases h1
    rw [intsOf_rel e1 h2]
    rfl
  | .non :: _, _, _, h, _ => by simp [intsOf] at h
  | .bl _ :: _, _, _, h, _ => by simp [intsOf] at h
  | .str _ :: _, _, _, h, _ => by simp [intsOf] at h
  | .ref _ :: _, _, _, h, _ => by simp [intsOf] at h
  | .ty _ :: _, _, _, h, _ => by simp [intsOf] at h
  | .tup _ :: _, _, _, h, _ => by simp [intsOf] at h
theorem boolsOf_rel {H : Hp} : ∀ {ds : List D} {ns : List Bool} {vs : List V}, boolsOf ds = some ns → RelL H ds vs → vs = ns.map V.bl
  | [], _, _, h, r => by simp [boolsOf] at h; subst h; exact r
  | .bl i :: ds, _, _, h, ⟨v, r, e, h1, h2⟩ => by
    simp [boolsOf] at h
    obtain ⟨ns, e1, e2⟩ := h
    subst e2 e
    cases h1
    rw [boolsOf_rel e1 h2]
    rfl
  | .non :: _, _, _, h, _ => by simp [boolsOf] at h
  | .int _ :: _, _, _, h, _ => by simp [boolsOf] at h
  | .str _ :: _, _, _, h, _ => by simp [boolsOf] at h
  | .ref _ :: _, _, _, h, _ => by simp [boolsOf] at h
  | .ty _ :: _, _, _, h, _ => by simp [boolsOf] at h
  | .tup _ :: _, _, _, h, _ => by simp [boolsOf] at h
theorem intsOf_map (ns : List Int) : intsOf (ns.map D.int) = some ns := by
  induction ns with
  | nil => rfl
  | cons n ns ih => simp [intsOf, ih]
theorem boolsOf_map (ns : List Bool) : boolsOf (ns.map D.bl) = some ns := by
  induction ns with
  | nil => rfl
  | cons n ns ih => simp [boolsOf, ih]
def sumR : RCd := fun ds M Q => match ds with
  | [.ref a] => ∃ xs ns, rdL M a = some xs ∧ intsOf xs = some ns ∧ Q (.int ns.sum) M
  | _ => False
def allR : RCd := fun ds M Q => match ds with
  | [.ref a] => ∃ xs bs, rdL M a = some xs ∧ boolsOf xs = some bs ∧ Q (.bl (bs.all id)) M
  | _ => False
def anyR : RCd := fun ds M Q => match ds with
  | [.ref a] => ∃ xs bs, rdL M a = some xs ∧ boolsOf xs = some bs ∧ Q (.bl (bs.any id)) M
  | _ => False
def maxR : RCd := fun ds M Q => match ds with
  | [.int m, .int n] => Q (.int (if n > m then n else m)) M
  | [.ref a] => ∃ xs ns, rdL M a = some xs ∧ intsOf xs = some ns ∧ 0 < ns.length ∧ ∀ m, m ∈ ns → (∀ y, y ∈ ns → y ≤ m) → Q (.int m) M
  | _ => False
def minR : RCd := fun ds M Q => match ds with
  | [.int m, .int n] => Q (.int (if n < m then n else m)) M
  | [.ref a] => ∃ xs ns, rdL M a = some xs ∧ intsOf xs = some ns ∧ 0 < ns.length ∧ ∀ m, m ∈ ns → (∀ y, y ∈ ns → m ≤ y) → Q (.int m) M
  | _ => False
section
variable {X : Cx}
theorem one_arg {H : Hp} {d : D} {vs : List V} (r : RelL H [d] vs) : ∃ v, vs = [v] ∧ Rel H d v := by
  obtain ⟨v, r, e, h, e2⟩ := r
  cases e2
  exact ⟨v, e, h⟩
theorem two_arg {H : Hp} {d e : D} {vs : List V} (r : RelL H [d, e] vs) : ∃ v w, vs = [v, w] ∧ Rel H d v ∧ Rel H e w := by
  obtain ⟨v, r, e, h, r2⟩ := r
  obtain ⟨w, e2, h2⟩ := one_arg r2
  subst e2
  exact ⟨v, w, e, h, h2⟩
theorem call_lenK : CallR X (.builtin "len") (fun xs H Q => ∃ p kvs, xs = [.ref p] ∧ H p = some (.dK kvs) ∧ Q (.int kvs.length) H) := by
  intro pins s σ H xs us Q I r h
  obtain ⟨p, kvs, rfl, e, q⟩ := h
  obtain ⟨u, rfl, ru⟩ := vals1 r
  cases (show u = Value.ref p from ru)
  exact d_len I (.inl e) fun t s' I' => ⟨.int kvs.length, H, I', ⟨t, rfl⟩, q⟩
theorem call_lenD2 : CallR X (.builtin "len") (lowCR X.K lenR) := by
  refine CallR.mono ((call_len_seq.or call_len_str).or call_lenK) fun xs H Q w => ?_
  obtain ⟨ds, M, Q0, r, m, h, k⟩ := w
  match ds, r, h with
  | [d], r, h =>
    obtain ⟨v, e, r1⟩ := one_arg r
    subst e
    cases d with
    | str s => cases r1; exact .inl (.inr ⟨s, rfl, h.1, k.int m h.2⟩)
    | tup xs =>
      obtain ⟨p, vs, e, q, rl⟩ := r1
      subst e
      exact .inl (.inl ⟨p, vs, rfl, .inr (.of q), by rw [rl.length]; exact k.int m h⟩)
    | ref a =>
      have h' : (match rdL M a with
        | some xs => Q0 (.int xs.length) M
        | none => (match M a with
          | some (.dK kvs) => Q0 (.int kvs.length) M
          | _ => False)) := h
      cases r1
      split at h'
      · rename_i xs e
        obtain ⟨vs, q, rl⟩ := m.rdL e
        exact .inl (.inl ⟨a, vs, rfl, .inl q, by rw [rl.length]; exact k.int m h'⟩)
      · split at h'
        · rename_i kvs e
          obtain ⟨hv, q, rl⟩ := m a _ e
          exact .inr ⟨a, hv, rfl, q, by rw [← Paired.length rl]; exact k.int m h'⟩
        · exact h'.elim
    | _ => exact h.elim
theorem call_listD : CallR X (.type "list") (lowCR X.K listR) := by
  refine CallR.mono call_list_of fun xs H Q w => ?_
  obtain ⟨ds, M, Q0, r, m, h, k⟩ := w
  match ds, r, h with
  | [d], r, h =>
    obtain ⟨v, e, r1⟩ := one_arg r
    subst e
    have h' : (match rdS M d with
      | some xs => ∀ p, M p = none → Q0 (.ref p) (put M p (.lst xs))
      | none => False) := h
    split at h'
    · rename_i xs e
      obtain ⟨p, vs, ev, rl, q⟩ := rdS_seq m r1 e
      subst ev
      exact ⟨p, vs, rfl, q.imp id fun z => z.1, fun l hl => k.newL m hl rl h'⟩
    · exact h'.elim
theorem call_tupleD : CallR X (.type "tuple") (lowCR X.K tupleR) := by
  refine CallR.mono call_tuple_of fun xs H Q w => ?_
  obtain ⟨ds, M, Q0, r, m, h, k⟩ := w
  match ds, r, h with
  | [d], r, h =>
    obtain ⟨v, e, r1⟩ := one_arg r
    subst e
    have h' : (match rdS M d with
      | some xs => Q0 (.tup xs) M
      | none => False) := h
    split at h'
    · rename_i xs e
      obtain ⟨p, vs, ev, rl, q⟩ := rdS_seq m r1 e
      subst ev
      refine ⟨p, vs, rfl, ?_⟩
      rcases q with q | ⟨q, q2, ed⟩
      · exact .inl ⟨q, fun l hl => k.newT m hl rl h'⟩
      · exact .inr ⟨q, k.tup .refl q2 rl m h'⟩
    · exact h'.elim
theorem call_intD : CallR X (.type "int") (lowCR X.K intR) := by
  refine CallR.mono call_int1 fun xs H Q w => ?_
  obtain ⟨ds, M, Q0, r, m, h, k⟩ := w
  match ds, r, h with
  | _ :: _ :: _, _, h => exact False.elim (by simp [intR] at h)
  | [d], r, h =>
    obtain ⟨v, e, r1⟩ := one_arg r
    subst e
    cases d with
    | int i => cases r1; exact .inl ⟨i, rfl, k.int m h⟩
    | bl i => cases r1; exact .inr ⟨i, rfl, k.int m h⟩
    | _ => exact h.elim
theorem call_absD : CallR X (.builtin "abs") (lowCR X.K absR) := by
  refine CallR.mono call_abs fun xs H Q w => ?_
  obtain ⟨ds, M, Q0, r, m, h, k⟩ := w
  match ds, r, h with
  | [.int i], r, h =>
    obtain ⟨v, e, r1⟩ := one_arg r
    subst e
    cases r1
    exact ⟨i, rfl, k.int m h⟩
theorem call_sumD (hc : X.calm = true) : CallR X (.builtin "sum") (lowCR X.K sumR) := by
  refine CallR.mono (cr_sum hc) fun xs H Q w => ?_
  obtain ⟨ds, M, Q0, r, m, h, k⟩ := w
  match ds, r, h with
  | [.ref a], r, ⟨xs, ns, e1, e2, h⟩ =>
    obtain ⟨v, e, r1⟩ := one_arg r
    subst e
    cases r1
    obtain ⟨vs, q, rl⟩ := m.rdL e1
    have ev := intsOf_rel e2 rl
    subst ev
    exact ⟨a, ns, rfl, q, k.int m h⟩
theorem call_allD (hc : X.calm = true) : CallR X (.builtin "all") (lowCR X.K allR) := by
  refine CallR.mono (cr_all hc) fun xs H Q w => ?_
  obtain ⟨ds, M, Q0, r, m, h, k⟩ := w
  match ds, r, h with
  | [.ref a], r, ⟨xs, ns, e1, e2, h⟩ =>
    obtain ⟨v, e, r1⟩ := one_arg r
    subst e
    cases r1
    obtain ⟨vs, q, rl⟩ := m.rdL e1
    have ev := boolsOf_rel e2 rl
    subst ev
    exact ⟨a, ns, rfl, q, k.bl m h⟩
theorem call_anyD (hc : X.calm = true) : CallR X (.builtin "any") (lowCR X.K anyR) := by
  refine CallR.mono (cr_any hc) fun xs H Q w => ?_
  obtain ⟨ds, M, Q0, r, m, h, k⟩ := w
  match ds, r, h with
  | [.ref a], r, ⟨xs, ns, e1, e2, h⟩ =>
    obtain ⟨v, e, r1⟩ := one_arg r
    subst e
    cases r1
    obtain ⟨vs, q, rl⟩ := m.rdL e1
    have ev := boolsOf_rel e2 rl
    subst ev
    exact ⟨a, ns, rfl, q, k.bl m h⟩
theorem call_maxD (hc : X.calm = true) : CallR X (.builtin "max") (lowCR X.K maxR) := by
  refine CallR.mono ((call_max2 hc).or (cr_max hc)) fun xs H Q w => ?_
  obtain ⟨ds, M, Q0, r, m, h, k⟩ := w
  match ds, r, h with
  | [.int i, .int j], r, h =>
    obtain ⟨v, w, e, r1, r2⟩ := two_arg r
    subst e
    cases r1
    cases r2
    exact .inl ⟨i, j, rfl, k.int m h⟩
  | [.ref a], r, ⟨xs, ns, e1, e2, hl, h⟩ =>
    obtain ⟨v, e, r1⟩ := one_arg r
    subst e
    cases r1
    obtain ⟨vs, q, rl⟩ := m.rdL e1
    have ev := intsOf_rel e2 rl
    subst ev
    exact .inr ⟨a, ns, rfl, q, hl, fun z h1 h2 => k.int m (h z h1 h2)⟩
theorem call_minD (hc : X.calm = true) : CallR X (.builtin "min") (lowCR X.K minR) := by
  refine CallR.mono ((call_min2 hc).or (cr_min hc)) fun xs H Q w => ?_
  obtain ⟨ds, M, Q0, r, m, h, k⟩ := w
  match ds, r, h with
  | [.int i, .int j], r, h =>
    obtain ⟨v, w, e, r1, r2⟩ := two_arg r
    subst e
    cases r1
    cases r2
    exact .inl ⟨i, j, rfl, k.int m h⟩
  | [.ref a], r, ⟨xs, ns, e1, e2, hl, h⟩ =>
    obtain ⟨v, e, r1⟩ := one_arg r
    subst e
    cases r1
    obtain ⟨vs, q, rl⟩ := m.rdL e1
    have ev := intsOf_rel e2 rl
    subst ev
    exact .inr ⟨a, ns, rfl, q, hl, fun z h1 h2 => k.int m (h z h1 h2)⟩
end
end DL

end T_DL6

section T_DL7
set_option Elab.async false
set_option linter.all false
set_option maxRecDepth 100000
set_option maxHeartbeats 1000000
/-! The D layer, 7: methods, displays of dicts, defs. -/
namespace DL
open PySem PySem.Spec L2
open PyProof.Rows hiding St

/-! ### methods of lists -/
def isL (x : D) (M : Mem) : Prop := match x with
  | .ref a => (rdL M a).isSome = true
  | _ => False
abbrev RMd := D → List D → Mem → VKd → Prop
def lowMt (K : PySem.W.Frag) (r : RMd) : V → List V → Hp → VK → Prop := fun x xs H Q => ∃ d ds M Q0, Rel H d x ∧ RelL H ds xs ∧ RelM K H M ∧ r d ds M Q0 ∧ lowV K H Q0 Q
def tlm0 (r : RMd) (to : TEd) : TEd := fun ρ M Q => to ρ M fun x M1 => isL x M1 ∧ r x [] M1 Q
def tlm (r : RMd) (to : TEd) (t : TAd) : TEd := fun ρ M Q => to ρ M fun x M1 => isL x M1 ∧ t ρ M1 fun ds M2 => r x ds M2 Q
def appR : RMd := fun x ds M Q => match x, ds with
  | .ref a, [y] => (match M a with
    | some (.lst xs) => xs.length < sizeLine ∧ Q .non (put M a (.lst (xs ++ [y])))
    | _ => False)
  | _, _ => False
def extR : RMd := fun x ds M Q => match x, ds with
  | .ref a, [.ref b] => (match M a, M b with
    | some (.lst xs), some (.lst ys) => xs.length + ys.length ≤ sizeLine ∧ Q .non (put M a (.lst (xs ++ ys)))
    | _, _ => False)
  | _, _ => False
def popR : RMd := fun x ds M Q => match x, ds with
  | .ref a, [] => (match M a with
    | some (.lst xs) => (match xs[xs.length - 1]? with
      | some y => Q y (put M a (.lst xs.dropLast))
      | none => False)
    | _ => False)
  | _, _ => False
def popAtR : RMd := fun x ds M Q => match x, ds with
  | .ref a, [.int i] => (match M a with
    | some (.lst xs) => (-(2 ^ 63) ≤ i ∧ i < 2 ^ 63) ∧ (match seqIndex? i xs.length with
      | some k => (match xs[k]? with
        | some y => Q y (put M a (.lst (xs.eraseIdx k)))
        | none => False)
      | none => False)
    | _ => False)
  | _, _ => False
theorem RelL.dropLast {H : Hp} {ds : List D} {vs : List V} (r : RelL H ds vs) : RelL H ds.dropLast vs.dropLast := by
  rw [List.dropLast_eq_take, List.dropLast_eq_take, r.length]
  exact r.take _
theorem RelL.eraseIdx {H : Hp} {ds : List D} {vs : List V} (r : RelL H ds vs) (k : Nat) : RelL H (ds.eraseIdx k) (vs.eraseIdx k) := by
  rw [List.eraseIdx_eq_take_drop_succ, List.eraseIdx_eq_take_drop_succ]
  exact (r.take _).append (r.drop _)
section
variable {X : Cx} {o e : Expr} {es : List Expr} {to : TEd} {t : TAd} {name : Str} {apos cpos : Pos} {id : String} {r : RMd}
theorem isL_ty {K : PySem.W.Frag} {H : Hp} {M : Mem} {d : D} {v : V} (m : RelM K H M) (rd : Rel H d v) (h : isL d M) : tyV K "list" v H := by
  cases d with
  | ref a =>
    cases rd
    obtain ⟨xs, e⟩ := Option.isSome_iff_exists.mp (show (rdL M a).isSome = true from h)
    obtain ⟨vs, q, _⟩ := m.rdL e
    exact .inl ⟨rfl, vs, q⟩
  | _ => exact h.elim
theorem ped_lm0 (slot : Slot "list" name id) (hty : typeOf (.builtin id) = pure (.type "method_descriptor")) (hm : MtR X id (lowMt X.K r)) (ho : PEd X o to)
    (hbase : attributeBase o name X.env (eval o X.env) = eval o X.env := by rfl) (hline : (apos.endLine == cpos.line) = true := by rfl) : PEd X (.Call (.Attribute o name apos) [] [] cpos) (tlm0 r to) := by
  refine .of (pe_bm0 PySem.F.plainAttrs_list slot hty hm ho.pe hbase hline) fun σ H Q h => ?_
  obtain ⟨ρ, M, Q0, re, rm, h, k⟩ := h
  exact ⟨ρ, M, _, re, rm, h, fun x H1 dx M1 t1 r1 m1 h1 => ⟨isL_ty m1 r1 h1.1, dx, [], M1, Q0, r1, rfl, m1, h1.2, k.tle t1⟩⟩
theorem ped_lm (slot : Slot "list" name id) (hty : typeOf (.builtin id) = pure (.type "method_descriptor")) (hm : MtR X id (lowMt X.K r)) (ho : PEd X o to) (ha : PAd X (e :: es) t)
    (hbase : attributeBase o name X.env (eval o X.env) = eval o X.env := by rfl)
    (hfew : ((backTo cpos (starEach (e :: es) X.env)).all (fun x => !x.1) && (backToKw cpos (keywordEach [] X.env)).all (fun x => x.1.isSome)
      && decide ((e :: es).length + ([] : List Keyword).length + (if ([] : List Keyword).isEmpty then 0 else 1) < 30)) = true := by rfl)
    (hline : (apos.endLine == cpos.line) = true := by rfl) (hs : starEach (e :: es) X.env = (false, eval e X.env) :: starEach es X.env := by rfl) (hplain : (backTo cpos (starEach es X.env)).any (·.1) = false := by rfl) :
    PEd X (.Call (.Attribute o name apos) (e :: es) [] cpos) (tlm r to t) := by
  refine .of (pe_bm PySem.F.plainAttrs_list slot hty hm ho.pe ha.pa hbase hfew hline hs hplain) fun σ H Q h => ?_
  obtain ⟨ρ, M, Q0, re, rm, h, k⟩ := h
  exact ⟨ρ, M, _, re, rm, h, fun x H1 dx M1 t1 r1 m1 h1 => ⟨isL_ty m1 r1 h1.1, ρ, M1, _, re.tle t1, m1, h1.2, fun vs H2 ds M2 t2 r2 m2 h2 => ⟨dx, ds, M2, Q0, r1.tle t2, r2, m2, h2, k.tle (t1.trans t2)⟩⟩⟩
theorem MtR.mono {r r' : V → List V → Hp → VK → Prop} (h : MtR X id r) (q : ∀ x xs H Q, r' x xs H Q → r x xs H Q) : MtR X id r' := fun pins s σ H x xs v us Q I rx rv w => h pins s σ H x xs v us Q I rx rv (q x xs H Q w)
theorem mt_appD : MtR X "list.append" (lowMt X.K appR) := by
  refine MtR.mono mt_append fun x xs H Q w => ?_
  obtain ⟨d, ds, M, Q0, rd, rl, m, h, k⟩ := w
  match d, ds, rd, rl, h with
  | .ref a, [y], rd, rl, h =>
    cases rd
    obtain ⟨v, e, ry⟩ := one_arg rl
    subst e
    have h' : (match M a with
      | some (.lst xs) => xs.length < sizeLine ∧ Q0 .non (put M a (.lst (xs ++ [y])))
      | _ => False) := h
    split at h'
    · rename_i xs e
      obtain ⟨vs, q, rl⟩ := m.lst e
      have tw : Tle H (upd H a (.lst (vs ++ [v]))) := .write q fun xs z => nomatch z
      exact ⟨a, vs, v, rfl, rfl, q, by rw [rl.length]; exact h'.1, k .non _ .non _ tw rfl (m.write (d := .lst (xs ++ [y])) q (fun xs z => nomatch z) ⟨_, upd_same, (rl.append (.cons ry .nil)).tle tw⟩) h'.2⟩
    · exact h'.elim
theorem mt_extD : MtR X "list.extend" (lowMt X.K extR) := by
  refine MtR.mono mt_extend fun x xs H Q w => ?_
  obtain ⟨d, ds, M, Q0, rd, rl, m, h, k⟩ := w
  match d, ds, rd, rl, h with
  | .ref a, [.ref b], rd, rl, h =>
    cases rd
    obtain ⟨v, e, ry⟩ := one_arg rl
    cases ry
    subst e
    have h' : (match M a, M b with
      | some (.lst xs), some (.lst ys) => xs.length + ys.length ≤ sizeLine ∧ Q0 .non (put M a (.lst (xs ++ ys)))
      | _, _ => False) := h
    split at h'
    · rename_i xs ys e1 e2
      obtain ⟨vs, q, rl⟩ := m.lst e1
      obtain ⟨us, q2, rl2⟩ := m.lst e2
      have tw : Tle H (upd H a (.lst (vs ++ us))) := .write q fun xs z => nomatch z
      exact ⟨a, b, vs, us, rfl, rfl, q, q2, by rw [rl.length, rl2.length]; exact h'.1, k .non _ .non _ tw rfl (m.write (d := .lst (xs ++ ys)) q (fun xs z => nomatch z) ⟨_, upd_same, (rl.append rl2).tle tw⟩) h'.2⟩
    · exact h'.elim
theorem mt_popD : MtR X "list.pop" (lowMt X.K popR) := by
  refine MtR.mono mt_pop fun x xs H Q w => ?_
  obtain ⟨d, ds, M, Q0, rd, rl, m, h, k⟩ := w
  match d, ds, rd, rl, h with
  | .ref a, [], rd, rl, h =>
    cases rd
    cases rl
    have h' : (match M a with
      | some (.lst xs) => (match xs[xs.length - 1]? with
        | some y => Q0 y (put M a (.lst xs.dropLast))
        | none => False)
      | _ => False) := h
    split at h'
    · rename_i xs e
      obtain ⟨vs, q, rl⟩ := m.lst e
      split at h'
      · rename_i y ey
        obtain ⟨v, ev, rv⟩ := rl.get ey
        have tw : Tle H (upd H a (.lst vs.dropLast)) := .write q fun xs z => nomatch z
        exact ⟨a, vs, v, rfl, rfl, q, by rw [rl.length]; exact ev, k v _ y _ tw (rv.tle tw) (m.write (d := .lst xs.dropLast) q (fun xs z => nomatch z) ⟨_, upd_same, rl.dropLast.tle tw⟩) h'⟩
      · exact h'.elim
    · exact h'.elim
theorem mt_popAtD : MtR X "list.pop" (lowMt X.K popAtR) := by
  refine MtR.mono mt_popAt fun x xs H Q w => ?_
  obtain ⟨d, ds, M, Q0, rd, rl, m, h, k⟩ := w
  match d, ds, rd, rl, h with
  | .ref a, [.int i], rd, rl, h =>
    cases rd
    obtain ⟨v, e, ry⟩ := one_arg rl
    cases ry
    subst e
    have h' : (match M a with
      | some (.lst xs) => (-(2 ^ 63) ≤ i ∧ i < 2 ^ 63) ∧ (match seqIndex? i xs.length with
        | some k => (match xs[k]? with
          | some y => Q0 y (put M a (.lst (xs.eraseIdx k)))
          | none => False)
        | none => False)
      | _ => False) := h
    split at h'
    · rename_i xs e
      obtain ⟨vs, q, rl⟩ := m.lst e
      obtain ⟨⟨b1, b2⟩, h'⟩ := h'
      split at h'
      · rename_i j ej
        split at h'
        · rename_i y ey
          obtain ⟨v, ev, rv⟩ := rl.get ey
          have tw : Tle H (upd H a (.lst (vs.eraseIdx j))) := .write q fun xs z => nomatch z
          exact ⟨a, vs, i, j, v, rfl, rfl, q, b1, b2, by rw [rl.length]; exact ej, ev, k v _ y _ tw (rv.tle tw) (m.write (d := .lst (xs.eraseIdx j)) q (fun xs z => nomatch z) ⟨_, upd_same, (rl.eraseIdx j).tle tw⟩) h'⟩
        · exact h'.elim
      · exact h'.elim
    · exact h'.elim
theorem ped_append (ho : PEd X o to) (ha : PAd X [e] t) (hbase : attributeBase o "append" X.env (eval o X.env) = eval o X.env := by rfl)
    (hfew : ((backTo cpos (starEach [e] X.env)).all (fun x => !x.1) && (backToKw cpos (keywordEach [] X.env)).all (fun x => x.1.isSome)
      && decide ([e].length + ([] : List Keyword).length + (if ([] : List Keyword).isEmpty then 0 else 1) < 30)) = true := by rfl)
    (hline : (apos.endLine == cpos.line) = true := by rfl) (hs : starEach [e] X.env = (false, eval e X.env) :: starEach [] X.env := by rfl) :
    PEd X (.Call (.Attribute o "append" apos) [e] [] cpos) (tlm appR to t) := ped_lm PySem.F.slot_list_append PySem.F.type_list_append mt_appD ho ha hbase hfew hline hs
theorem ped_pop (ho : PEd X o to) (hbase : attributeBase o "pop" X.env (eval o X.env) = eval o X.env := by rfl) (hline : (apos.endLine == cpos.line) = true := by rfl) :
    PEd X (.Call (.Attribute o "pop" apos) [] [] cpos) (tlm0 popR to) := ped_lm0 PySem.F.slot_list_pop PySem.F.type_list_pop mt_popD ho hbase hline
theorem ped_popAt (ho : PEd X o to) (ha : PAd X [e] t) (hbase : attributeBase o "pop" X.env (eval o X.env) = eval o X.env := by rfl)
    (hfew : ((backTo cpos (starEach [e] X.env)).all (fun x => !x.1) && (backToKw cpos (keywordEach [] X.env)).all (fun x => x.1.isSome)
      && decide ([e].length + ([] : List Keyword).length + (if ([] : List Keyword).isEmpty then 0 else 1) < 30)) = true := by rfl)
    (hline : (apos.endLine == cpos.line) = true := by rfl) (hs : starEach [e] X.env = (false, eval e X.env) :: starEach [] X.env := by rfl) :
    PEd X (.Call (.Attribute o "pop" apos) [e] [] cpos) (tlm popAtR to t) := ped_lm PySem.F.slot_list_pop PySem.F.type_list_pop mt_popAtD ho ha hbase hfew hline hs
theorem ped_extend (ho : PEd X o to) (ha : PAd X [e] t) (hbase : attributeBase o "extend" X.env (eval o X.env) = eval o X.env := by rfl)
    (hfew : ((backTo cpos (starEach [e] X.env)).all (fun x => !x.1) && (backToKw cpos (keywordEach [] X.env)).all (fun x => x.1.isSome)
      && decide ([e].length + ([] : List Keyword).length + (if ([] : List Keyword).isEmpty then 0 else 1) < 30)) = true := by rfl)
    (hline : (apos.endLine == cpos.line) = true := by rfl) (hs : starEach [e] X.env = (false, eval e X.env) :: starEach [] X.env := by rfl) :
    PEd X (.Call (.Attribute o "extend" apos) [e] [] cpos) (tlm extR to t) := ped_lm PySem.F.slot_list_extend PySem.F.type_list_extend mt_extD ho ha hbase hfew hline hs
end

/-! ### dicts: displays, get, del -/
def tprs : List (TEd × TEd) → Envd → Mem → (List (D × D) → Mem → Prop) → Prop
  | [], _, M, Q => Q [] M
  | (tk, tv) :: r, ρ, M, Q => tk ρ M fun x M1 => tv ρ M1 fun y M2 => tprs r ρ M2 fun ps M3 => Q ((x, y) :: ps) M3
def mergeD (kvs more : List (D × D)) : List (D × D) := more.foldl (fun acc kv => dput acc kv.1 kv.2) kvs
def tdisp (trs : List (TEd × TEd)) : TEd := fun ρ M Q => ∀ p, M p = none → tprs trs ρ (put M p (.dK [])) fun ps M2 => M2 p = some (.dK []) ∧ (ps.all fun kv => (keyOf kv.1).isSome) = true ∧ ps.length ≤ 15 ∧ Q (.ref p) (put M2 p (.dK (mergeD [] ps)))
def tdnewK : TEd := fun _ M Q => ∀ p, M p = none → Q (.ref p) (put M p (.dK []))
def tdnewT : TEd := fun _ M Q => ∀ p, M p = none → Q (.ref p) (put M p (.dT []))
/-- d.get(k), d.get(k, x) -/
def tget1 (td ty : TEd) : TEd := fun ρ M Q => td ρ M fun x M1 => match x with
  | .ref a => (rdD M1 a).isSome = true ∧ ty ρ M1 fun y M2 => match rdD M2 a with
    | some (t, kvs) => isKey t y = true ∧ Q ((look kvs y).getD .non) M2
    | none => False
  | _ => False
def tget2 (td ty tx : TEd) : TEd := fun ρ M Q => td ρ M fun x M1 => match x with
  | .ref a => (rdD M1 a).isSome = true ∧ ty ρ M1 fun y M2 => tx ρ M2 fun z M3 => match rdD M3 a with
    | some (t, kvs) => isKey t y = true ∧ Q ((look kvs y).getD z) M3
    | none => False
  | _ => False
inductive PPsd (X : Cx) (pos : Pos) : List (Option Expr) → List Expr → List (TEd × TEd) → Prop
  | nil : PPsd X pos [] [] []
  | cons {k v : Expr} {ks : List (Option Expr)} {vs : List Expr} {tk tv : TEd} {trs : List (TEd × TEd)} : PEd X k tk → PEd X v tv → PPsd X pos ks vs trs → PPsd X pos (some k :: ks) (v :: vs) ((tk, tv) :: trs)
theorem PPsd.low {X : Cx} {pos : Pos} {ks : List (Option Expr)} {vs : List Expr} {trs : List (TEd × TEd)} (h : PPsd X pos ks vs trs) : PPs X pos ks vs (trs.map fun t => (lowE X.K t.1, lowE X.K t.2)) := by
  induction h with
  | nil => exact pps_nil
  | cons a b _ ih => exact pps_cons a.pe b.pe ih
theorem tprs_low {K : PySem.W.Frag} : ∀ (trs : List (TEd × TEd)) (ρ : Envd) (M : Mem) (σ : St) (H : Hp) (Q0 : List (D × D) → Mem → Prop) (Q : List (V × V) → Hp → Prop), RelE H ρ σ → RelM K H M → tprs trs ρ M Q0 →
    (∀ ps H' ds M', Tle H H' → RelM K H' M' → Paired (fun p q => Rel H' p.1 q.1 ∧ Rel H' p.2 q.2) ds ps → Q0 ds M' → Q ps H') → tPairs (trs.map fun t => (lowE K t.1, lowE K t.2)) σ H Q
  | [], ρ, M, σ, H, Q0, Q, re, rm, h, k => k [] H [] M .refl rm .nil h
  | (tk, tv) :: r, ρ, M, σ, H, Q0, Q, re, rm, h, k =>
    ⟨ρ, M, _, re, rm, h, fun x H1 dx M1 t1 r1 m1 h1 => ⟨ρ, M1, _, re.tle t1, m1, h1, fun y H2 dy M2 t2 r2 m2 h2 =>
      tprs_low r ρ M2 σ H2 _ _ (re.tle (t1.trans t2)) m2 h2 fun ps H3 ds M3 t3 m3 p3 h3 => k _ H3 _ M3 ((t1.trans t2).trans t3) m3 (.cons ⟨r1.tle (t2.trans t3), r2.tle t3⟩ p3) h3⟩⟩
theorem keys_back {H : Hp} : ∀ {ds : List (D × D)} {ps : List (V × V)}, (ds.all fun kv => (keyOf kv.1).isSome) = true → Paired (fun p q => Rel H p.1 q.1 ∧ Rel H p.2 q.2) ds ps →
    ∃ kvs : List (Key × V), ps = kvs.map (fun kv => (kV kv.1, kv.2)) ∧ RelKv H ds kvs
  | _, _, _, .nil => ⟨[], rfl, .nil⟩
  | (dk, dv) :: ds, (v, u) :: ps, h, .cons ⟨r1, r2⟩ t => by
    simp only [List.all_cons, Bool.and_eq_true] at h
    obtain ⟨k, ek⟩ := Option.isSome_iff_exists.mp h.1
    have ed := keyOf_eq ek
    simp only at ed r1 r2
    subst ed
    obtain ⟨kvs, e, rl⟩ := keys_back h.2 t
    exact ⟨(k, u) :: kvs, by rw [List.map_cons, ← e, kD_rel r1], .cons ⟨rfl, r2⟩ rl⟩
theorem merge_rel {H : Hp} : ∀ {more : List (D × D)} {hm : List (Key × V)} {kvs : List (D × D)} {hv : List (Key × V)}, RelKv H more hm → RelKv H kvs hv → RelKv H (mergeD kvs more) (mergeK hv hm)
  | _, _, _, _, .nil, r => r
  | (dk, dv) :: more, (k, v) :: hm, kvs, hv, .cons ⟨e, r⟩ t, r0 => by
    simp only at e r
    subst e
    exact merge_rel (more := more) (hm := hm) t (dput_gen (f := kD) (fun _ _ => kD_inj) k r r0)
section
variable {X : Cx} {o e f : Expr} {td ty tx : TEd} {apos cpos pos : Pos}
theorem ped_disp {keys : List (Option Expr)} {values : List Expr} {trs : List (TEd × TEd)} (h : PPsd X pos keys values trs) (hall : keys.all (·.isSome) = true) (hl : keys.length = values.length) (h0 : keys ≠ [])
    (h15 : keys.length ≤ 15) : PEd X (.Dict keys values pos) (tdisp trs) := by
  refine .of (pe_disp h.low hall hl h0 h15) fun σ H Q w => ?_
  obtain ⟨ρ, M, Q0, re, rm, h, k⟩ := w
  intro p hp
  refine tprs_low trs ρ _ σ _ _ _ (re.tle (.new hp)) (rm.new (d := .dK []) hp ⟨[], upd_same, .nil⟩) (h p (rm.fresh hp)) fun ps H2 ds M2 t2 m2 pr h2 => ?_
  obtain ⟨e2, hk, hl, h2⟩ := h2
  obtain ⟨hv, q2, rl2⟩ := m2 p _ e2
  have ev : hv = [] := by cases rl2; rfl
  subst ev
  obtain ⟨kvs, ep, rk⟩ := keys_back hk pr
  have lk : kvs.length = ds.length := (Paired.length rk).symm
  have tw : Tle H2 (upd H2 p (.dK (mergeK [] kvs))) := .write q2 fun xs z => nomatch z
  exact ⟨q2, kvs, ep, by omega, k _ _ (.ref p) _ (((Tle.new hp).trans t2).trans tw) rfl (m2.write (d := .dK (mergeD [] ds)) q2 (fun xs z => nomatch z) ⟨_, upd_same, RelKv.tle tw (merge_rel rk .nil)⟩) h2⟩
theorem ped_dnewK : PEd X (.Dict [] [] pos) tdnewK := by
  refine .of pe_dnewK fun σ H Q w => ?_
  obtain ⟨ρ, M, Q0, re, rm, h, k⟩ := w
  exact fun p hp => k.ref (.new hp) (rm.new (d := .dK []) hp ⟨[], upd_same, .nil⟩) (h p (rm.fresh hp))
theorem ped_dnewT : PEd X (.Dict [] [] pos) tdnewT := by
  refine .of pe_dnewT fun σ H Q w => ?_
  obtain ⟨ρ, M, Q0, re, rm, h, k⟩ := w
  exact fun p hp => k.ref (.new hp) (rm.new (d := .dT []) hp ⟨[], upd_same, .nil⟩) (h p (rm.fresh hp))
theorem rdD_isD {K : PySem.W.Frag} {H : Hp} {M : Mem} {a : Addr} {z : Bool × List (D × D)} (m : RelM K H M) (h : rdD M a = some z) : IsD H a := by
  unfold rdD at h
  split at h
  · rename_i l e; obtain ⟨hv, q, rl⟩ := m a _ e; exact .inl ⟨hv, .inl q⟩
  · rename_i o hv l e; obtain ⟨q, rl⟩ := m a _ e; exact .inl ⟨hv, .inr ⟨o, q⟩⟩
  · rename_i l e; obtain ⟨hv, q, rl⟩ := m a _ e; exact .inr ⟨hv, .inl q⟩
  · rename_i o hv l e; obtain ⟨q, rl⟩ := m a _ e; exact .inr ⟨hv, .inr ⟨o, q⟩⟩
  · cases h
end
end DL

end T_DL7

section T_DL8
set_option Elab.async false
set_option linter.all false
set_option maxRecDepth 100000
set_option maxHeartbeats 1000000
/-! The D layer, 8: defs and their calls. -/
namespace DL
open PySem PySem.Spec L2
open PyProof.Rows hiding St

section
variable {X : Cx} {o e f i : Expr} {td ty tx : TEd} {apos cpos pos tpos : Pos}
theorem get_gives {H : Hp} {M : Mem} {a : Addr} {t : Bool} {kvs : List (D × D)} {d : D} {y : V} {K : PySem.W.Frag} (m : RelM K H M) (h : rdD M a = some (t, kvs)) (hk : isKey t d = true) (r : Rel H d y) (z : D) (u : V) (rz : Rel H z u) :
    ∃ o, DGet H a y o ∧ Rel H ((look kvs d).getD z) (o.getD u) := by
  obtain ⟨o, g, c⟩ := rdD_get m h hk r
  refine ⟨o, g, ?_⟩
  rcases c with ⟨e, v, h1, h2, h3⟩ | ⟨h1, h2⟩
  · rw [h1, h2]; exact h3
  · rw [h1, h2]; exact rz
theorem ped_get1 (hu : X.A.units + 1 < cLine) (ho : PEd X o td) (he : PEd X e ty) (m : M1 X o "get" apos e cpos := by exact ⟨rfl, rfl, rfl, rfl⟩) : PEd X (.Call (.Attribute o "get" apos) [e] [] cpos) (tget1 td ty) := by
  refine .of (pe_dget1 hu ho.pe he.pe m) fun σ H Q w => ?_
  obtain ⟨ρ, M, Q0, re, rm, h, k⟩ := w
  refine ⟨ρ, M, _, re, rm, h, fun x H1 dx M1 t1 r1 m1 h1 => ?_⟩
  cases dx with
  | ref a =>
    cases r1
    obtain ⟨q1, h1⟩ := h1
    obtain ⟨z, ez⟩ := Option.isSome_iff_exists.mp q1
    refine ⟨a, rfl, rdD_isD m1 ez, ρ, M1, _, re.tle t1, m1, h1, fun y H2 dy M2 t2 r2 m2 h2 => ?_⟩
    have h3 : (match rdD M2 a with
      | some (t, kvs) => isKey t dy = true ∧ Q0 ((look kvs dy).getD .non) M2
      | none => False) := h2
    split at h3
    · rename_i t kvs e2
      obtain ⟨oo, g, rr⟩ := get_gives m2 e2 h3.1 r2 .non .non rfl
      exact ⟨oo, g, (k.tle (t1.trans t2)).any rr m2 h3.2⟩
    · exact h3.elim
  | _ => exact h1.elim
theorem ped_get2 (hu : X.A.units + 1 < cLine) (ho : PEd X o td) (he : PEd X e ty) (hf : PEd X f tx) (m : M2 X o "get" apos e f cpos := by exact ⟨rfl, rfl, rfl, rfl⟩) : PEd X (.Call (.Attribute o "get" apos) [e, f] [] cpos) (tget2 td ty tx) := by
  refine .of (pe_dget2 hu ho.pe he.pe hf.pe m) fun σ H Q w => ?_
  obtain ⟨ρ, M, Q0, re, rm, h, k⟩ := w
  refine ⟨ρ, M, _, re, rm, h, fun x H1 dx M1 t1 r1 m1 h1 => ?_⟩
  cases dx with
  | ref a =>
    cases r1
    obtain ⟨q1, h1⟩ := h1
    obtain ⟨z, ez⟩ := Option.isSome_iff_exists.mp q1
    refine ⟨a, rfl, rdD_isD m1 ez, ρ, M1, _, re.tle t1, m1, h1, fun y H2 dy M2 t2 r2 m2 h2 => ⟨ρ, M2, _, re.tle (t1.trans t2), m2, h2, fun zz H3 dz M3 t3 r3 m3 h3 => ?_⟩⟩
    have h4 : (match rdD M3 a with
      | some (t, kvs) => isKey t dy = true ∧ Q0 ((look kvs dy).getD dz) M3
      | none => False) := h3
    split at h4
    · rename_i t kvs e2
      obtain ⟨oo, g, rr⟩ := get_gives m3 e2 h4.1 (r2.tle t3) dz zz r3
      exact ⟨oo, g, (k.tle ((t1.trans t2).trans t3)).any rr m3 h4.2⟩
    · exact h4.elim
  | _ => exact h1.elim
end

/-! ### del d[k] -/
def tdel (td ty : TEd) : TSd := fun D ρ M => td ρ M fun x M1 => ty ρ M1 fun y M2 => delR x y M2 fun M3 => D.nx ρ M3
section
variable {X : Cx} {pins : List (Addr × Obj)} {σ : St} {H : Hp} {s : Shared} {a b : Addr} {kvs : List (List Key × V)} {k : List Key} {A : Around} {E : Value → Shared → Prop}
theorem d_delT {Q : Unit → Shared → Prop} (hu : A.units + 1 < cLine) (I : Inv X pins σ H s) (e : H a = some (.dT kvs)) (eb : H b = some (.tup (k.map kV))) (l : (valV kvs k).isSome = true)
    (h : ∀ s', Inv X pins σ (upd H a (.dT (dropK kvs k))) s' → Q () s') : wpAny (model X.prog X.w) A (delItem (.ref a) (.ref b)) Q E s := by
  obtain ⟨z, hd, xs, rel, dd⟩ := dt_of I.hok e
  have hz : xs.length ≤ sizeLine := by rw [← Paired.length rel]; exact z
  obtain ⟨v, hv⟩ := Option.isSome_iff_exists.mp l
  obtain ⟨w', hw, _⟩ := RelO.some_of (v := v) (o := (atKey xs k).map (·.2)) (by rw [← hv]; exact rel.val k)
  obtain ⟨p, hp, _⟩ := Option.map_eq_some_iff.mp hw
  refine wpAny_delItem_heap (hsz := hz) (tupleKind_room_in1 hu) (key_of I.hok eb) hd dd hp fun h' dd' hs => h _ ?_
  obtain ⟨q, es, ep, hq, h2, h3, h4, _, h5⟩ := dd'
  have kt := L2.DX.KT_drop (H := H) k rel
  refine d_write I (by rw [e]; exact True.intro) hs ⟨q, hq⟩ ⟨Nat.le_trans (dropK_le kvs k) z, hd, _, kt.keeps fun c ys ec => ?_, q, es, ep, hq, h2, h3, h4, h5⟩
  rw [upd_ne (ne_of ec e (fun z => nomatch z))]
  exact ec
end
section
variable {X : Cx} {o i : Expr} {td ty : TEd} {pos tpos : Pos}
def sDelA (td ty : TE) : TS := fun D σ H => td σ H fun x H1 => ty σ H1 fun y H2 => ∃ a, x = .ref a ∧ ((∃ kvs k, H2 a = some (.dK kvs) ∧ y = kV k ∧ (valV kvs k).isSome = true ∧ D.nx σ (upd H2 a (.dK (dropK kvs k)))) ∨
  ∃ kvs k b, H2 a = some (.dT kvs) ∧ y = .ref b ∧ H2 b = some (.tup (k.map kV)) ∧ (valV kvs k).isSome = true ∧ D.nx σ (upd H2 a (.dT (dropK kvs k))))
theorem ps_delA {td ty : TE} (hu : X.A.units + 1 < cLine) (ho : PE X o td) (hi : PE X i ty) : PS X (.Delete [.Subscript o i tpos] pos) (sDelA td ty) := by
  refine ⟨fun pins s σ H D I h => ?_⟩
  refine wpAny_Delete (wpAny_deleteEach_cons (wpAny_delete_Subscript (thn (ho.run pins s σ H _ I h) fun u s1 w1 => ?_)))
  obtain ⟨x, H1, I1, rx, q1⟩ := w1
  refine thn (hi.run pins s1 σ H1 _ I1 q1) fun iv s2 w2 => ?_
  obtain ⟨y, H2, I2, ry, a, ex, q2⟩ := w2
  subst ex
  obtain rfl : u = Value.ref a := rx
  rcases q2 with ⟨kvs, k, e, ey, l, q2⟩ | ⟨kvs, k, b, e, ey, eb, l, q2⟩
  · subst ey
    exact d_delItem I2 e ry l fun s3 I3 => wpAny_deleteEach_nil ⟨σ, _, I3, q2⟩
  · subst ey
    obtain rfl : iv = Value.ref b := ry
    exact d_delT hu I2 e eb l fun s3 I3 => wpAny_deleteEach_nil ⟨σ, _, I3, q2⟩
theorem look_val {κ : Type} [DecidableEq κ] {f : κ → D} {H : Hp} (inj : ∀ a b, f a = f b → a = b) (k : κ) {kvs : List (D × D)} {hv : List (κ × V)} (h : Paired (fun (p : D × D) (q : κ × V) => p.1 = f q.1 ∧ Rel H p.2 q.2) kvs hv) (l : (look kvs (f k)).isSome = true) : (valV hv k).isSome = true := by
  rcases look_gen inj k h with ⟨e, v, h1, h2, h3⟩ | ⟨h1, h2⟩
  · rw [h2]; rfl
  · rw [h1] at l; cases l
theorem psd_del (hu : X.A.units + 1 < cLine) (ho : PEd X o td) (hi : PEd X i ty) : PSd X (.Delete [.Subscript o i tpos] pos) (tdel td ty) := by
  refine .of (ps_delA hu ho.pe hi.pe) fun D σ H w => ?_
  obtain ⟨ρ, M, E0, re, rm, h, k⟩ := w
  refine ⟨ρ, M, _, re, rm, h, fun x H1 dx M1 t1 r1 m1 h1 => ⟨ρ, M1, _, re.tle t1, m1, h1, fun y H2 dy M2 t2 r2 m2 h2 => ?_⟩⟩
  cases dx with
  | ref a =>
    cases r1
    refine ⟨a, rfl, ?_⟩
    have h3 : (match M2 a with
      | some (.dK kvs) => isKey false dy = true ∧ (look kvs dy).isSome = true ∧ E0.nx ρ (put M2 a (.dK (ddel kvs dy)))
      | some (.dT kvs) => isKey true dy = true ∧ (look kvs dy).isSome = true ∧ E0.nx ρ (put M2 a (.dT (ddel kvs dy)))
      | _ => False) := h2
    split at h3
    · rename_i kvs e
      obtain ⟨hv, q, rl⟩ := m2 a _ e
      obtain ⟨hk, hl, h3⟩ := h3
      obtain ⟨key, ek⟩ := Option.isSome_iff_exists.mp (show (keyOf dy).isSome = true by cases dy <;> exact hk)
      have ed := keyOf_eq ek
      subst ed
      have tw : Tle H2 (upd H2 a (.dK (dropK hv key))) := .write q fun xs z => nomatch z
      exact .inl ⟨hv, key, q, kD_rel r2, look_val (f := kD) (fun _ _ => kD_inj) key rl hl, k.nx σ _ ρ _ ((t1.trans t2).trans tw) (re.tle ((t1.trans t2).trans tw))
        (m2.write (d := .dK (ddel kvs (kD key))) q (fun xs z => nomatch z) ⟨_, upd_same, RelKv.tle tw (ddel_gen (f := kD) (fun _ _ => kD_inj) key rl)⟩) h3⟩
    · rename_i kvs e
      obtain ⟨hv, q, rl⟩ := m2 a _ e
      obtain ⟨hk, hl, h3⟩ := h3
      cases dy with
      | tup ds =>
        obtain ⟨key, ek⟩ := Option.isSome_iff_exists.mp (show (keysOf ds).isSome = true from hk)
        have ed := keysOf_eq ek
        subst ed
        obtain ⟨b, vs, ey, qb, rb⟩ := r2
        rw [kD_relL rb] at qb
        have tw : Tle H2 (upd H2 a (.dT (dropK hv key))) := .write q fun xs z => nomatch z
        exact .inr ⟨hv, key, b, q, ey, qb, look_val (κ := List Key) (f := fun k => DL.D.tup (k.map kD)) tK_inj key rl hl, k.nx σ _ ρ _ ((t1.trans t2).trans tw) (re.tle ((t1.trans t2).trans tw))
          (m2.write (d := .dT (ddel kvs (.tup (key.map kD)))) q (fun xs z => nomatch z) ⟨_, upd_same, RelTv.tle tw (ddel_gen (κ := List Key) (f := fun k => DL.D.tup (k.map kD)) tK_inj key rl)⟩) h3⟩
      | _ => cases hk
    · exact h3.elim
  | _ => exact h2.elim
end

/-! ### what a def promises -/
abbrev XKd := Addr → List (Str × D) → Mem → Prop
abbrev SpD := List D → Mem → VKd → XKd → Prop
def lowX (K : PySem.W.Frag) (H : Hp) (E0 : XKd) (E : XK) : Prop := ∀ C d H' vs fs M', Tle H H' → H' d = some (.xd vs) → RelFs H' fs vs → RelM K H' M' → E0 C fs M' → E (.ref C) (some d) H'
def lowSp (K : PySem.W.Frag) (s : SpD) : Sp := fun vs H Q E => ∃ ds M Q0 E0, RelL H ds vs ∧ RelM K H M ∧ s ds M Q0 E0 ∧ lowV K H Q0 Q ∧ lowX K H E0 E
/-- the def x stands and keeps s -/
def FnD (P : Program) (w : World) (K : PySem.W.Frag) (mg : Str → Option Value) (base : Heap) (k : Nat) (x : Str) (ps : List Str) (s : SpD) : Prop :=
  ∃ (f : Addr) (fd : FuncData), FnOk P w K mg base (L2.CX P w) k f fd ps (lowSp K s) ∧ mg x = some (.ref f) ∧ PySem.W.keepIn K (.ref f) = true ∧ Binds K fd ps []
/-- what a body wishes of exceptions: class, fields, slots, memory -/
abbrev WXd := Addr → List (Str × D) → Envd → Mem → Prop
def lowW (X : Cx) (W : WXd) : WX := fun cls d σ H => ∃ C dd vs fs ρ M, cls = .ref C ∧ d = some dd ∧ H dd = some (.xd vs) ∧ RelFs H fs vs ∧ RelE H ρ σ ∧ RelM X.K H M ∧ Tle X.H_0 H ∧ W C fs ρ M
def TakesD (X : Cx) (W : WXd) : Prop := Takes X (lowW X W)
theorem takesD0 {X : Cx} : TakesD X (fun _ _ _ _ => False) := takes0.imp fun c d σ H h => by
  obtain ⟨_, _, _, _, _, _, _, _, _, _, _, _, _, z⟩ := h
  exact z
def tcall (W : WXd) (s : SpD) (t : TAd) : TEd := fun ρ M Q => t ρ M fun ds M1 => s ds M1 Q fun C fs M2 => W C fs ρ M2
/-- the entry's tuples stand -/
theorem PE.base {X : Cx} {e : Expr} {t : TE} (h : PE X e t) : PE X e (fun σ H Q => Tle X.H_0 H → t σ H Q) := ⟨fun pins s σ H Q I w => h.run pins s σ H Q I (w I.base.tups)⟩
section
variable {X : Cx} {k : Nat} {x : Str} {ps : List Str} {s : SpD} {W : WXd} {e : Expr} {es : List Expr} {t : TAd} {p pos : Pos}
theorem ped_call (F : FnD X.prog X.w X.K X.mg X.base k x ps s) (hr : Room k X.A) (hg : Gl X x) (tk : TakesD X W) (ha : PAd X (e :: es) t) (hdb : (x == ("__debug__" : Str)) = false := by decide)
    (he : starEach (e :: es) X.env = (false, eval e X.env) :: starEach es X.env := by rfl) (hpl : (backTo pos (starEach es X.env)).any (·.1) = false := by rfl) : PEd X (.Call (.Name x p) (e :: es) [] pos) (tcall W s t) := by
  obtain ⟨f, fd, fok, hm, hk, hb⟩ := F
  refine .of (PE.base (pe_callS (E := WE (lowW X W)) fok hr hg hm hk hb (passAt tk) ha.pa hdb he hpl)) fun σ H Q w => ?_
  obtain ⟨ρ, M, Q0, re, rm, h, kk⟩ := w
  intro tb
  exact ⟨ρ, M, _, re, rm, h, fun vs H1 ds M1 t1 r1 m1 h1 => ⟨ds, M1, Q0, _, r1, m1, h1, kk.tle t1, fun C d H2 us fs M2 t2 ed rf m2 h2 =>
    ⟨C, d, us, fs, ρ, M2, rfl, rfl, ed, rf, re.tle (t1.trans t2), m2, tb.trans (t1.trans t2), h2⟩⟩⟩
end
/-- less is told of the memory -/
def Down (Q : VKd) : VKd := fun d M' => ∃ M, (∀ a o, M a = some o → M' a = some o) ∧ Q d M
def startD (N : List Str) (ds : List D) : Envd := ds.map some ++ List.replicate (N.length - ds.length) none
theorem start_rel {H : Hp} {N : List Str} {ds : List D} {vs : List V} (r : RelL H ds vs) : RelE H (startD N ds) (L2.start N vs) := by
  have hl := r.length
  refine ⟨by simp [startD, L2.start, hl], fun i d e => ?_⟩
  unfold startD at e
  unfold L2.start
  by_cases hi : i < ds.length
  · rw [List.getElem?_append_left (by simpa using hi), List.getElem?_map] at e
    cases ed : ds[i]? with
    | none => rw [ed] at e; cases e
    | some d' =>
      rw [ed] at e
      cases e
      obtain ⟨v, ev, rv⟩ := r.get ed
      exact ⟨v, by rw [List.getElem?_append_left (by simpa [hl] using hi), List.getElem?_map, ev]; rfl, rv⟩
  · rw [List.getElem?_append_right (by simpa using hi), List.getElem?_replicate] at e
    split at e <;> cases e
section
variable {P : Program} {w : World} {K : PySem.W.Frag} {mg : Str → Option Value} {base : Heap}
theorem FnD.of {x : Str} {st : Stmt} {f : Addr} {fd : FuncData} {N ps : List Str} {k : Nat} {s : SpD} (F : Fun K x x st f fd) (S : FnScope N ps (defScope st)) (hm : mg x = some (.ref f)) (hb : Binds K fd ps [])
    (len : ∀ ds M Q E, s ds M Q E → ds.length = ps.length)
    (body : ∀ (cdv : Value) (A : Around) (outer : List Env) (s0 : Shared) (H0 : Hp) (E : XK) (E0 : XKd), Room k (A.deeper (envOfC x (defScope st) s0.heap.objs.size f cdv)) →
      TakesD (cxOf (L2.CX P w) P w K mg base N x (defScope st) f cdv A outer s0 H0 E) (fun C fs _ M' => ∃ M, (∀ a o, M a = some o → M' a = some o) ∧ E0 C fs M) →
      PassesOwn (model P w) (A.deeper (envOfC x (defScope st) s0.heap.objs.size f cdv)) (envOfC x (defScope st) s0.heap.objs.size f cdv) (cxOf (L2.CX P w) P w K mg base N x (defScope st) f cdv A outer s0 H0 E).xe →
      ∃ t, PSsd (cxOf (L2.CX P w) P w K mg base N x (defScope st) f cdv A outer s0 H0 E) (defBody st) t ∧ ∀ ds M Q, s ds M Q E0 → t { nx := fun _ M' => Down Q .non M', rt := Down Q } (startD N ds) M) :
    FnD P w K mg base (k + 1) x ps s := by
  refine ⟨f, fd, F.okX S (fun vs H Q E h => ?_) (fun cdv A outer s0 H vs Q E hr h => ?_), hm, F.kp, hb⟩
  · obtain ⟨ds, M, Q0, E0, rl, _, h, _⟩ := h
    rw [rl.length]
    exact len _ _ _ _ h
  · obtain ⟨ds, M, Q0, E0, rl, rm, h, kq, kx⟩ := h
    have down : lowV K H (Down Q0) Q := fun v H' d M' t r m q => by
      obtain ⟨M2, hs, q⟩ := q
      exact kq v H' d M2 t r (m.less hs) q
    obtain ⟨t, pt, ht⟩ := body cdv A outer s0 H E E0 hr ((takes_of rfl rfl rfl rfl).imp fun cls d σ H' h => by
      obtain ⟨C, dd, vs, fs, ρ, M', e1, e2, e3, e4, e5, e6, e7, M2, hs, q⟩ := h
      subst e1 e2
      exact kx C dd H' vs fs M2 e7 e3 e4 (e6.less hs) q) (passes_of rfl)
    exact ⟨_, pt.ps, startD N ds, M, _, start_rel rl, rm, ht ds M Q0 h, ⟨fun σ H' ρ M' t r m q => down .non H' .non M' t rfl m q, down, fun _ _ _ _ _ _ _ z => z.elim, fun _ _ _ _ _ _ _ z => z.elim⟩⟩
end
end DL

end T_DL8

section T_DL9
set_option Elab.async false
set_option linter.all false
set_option maxRecDepth 100000
set_option maxHeartbeats 1000000
/-! The D layer, 9: short words for printed terms. -/
namespace DL
open PySem PySem.Spec L2
open PyProof.Rows hiding St

theorem u1 {k : Nat} {A : Around} (r : Room k A) : A.units + 1 < cLine := by have := r.un; omega
theorem u64 {k : Nat} {A : Around} (r : Room k A) : A.units + 64 < cLine := by have := r.un; omega
theorem u65 {k : Nat} {A : Around} (r : Room k A) : A.units + 65 < cLine := by have := r.un; omega
section
variable {X : Cx}
theorem v (i : Nat) {x : Str} {pos : Pos} (hN : X.N[i]? = some x := by rfl) (hv : Vis X.env.scope x := by first | exact Or.inl rfl | exact Or.inr (Or.inl rfl) | exact Or.inr (Or.inr rfl)) (hd : (x == ("__debug__" : Str)) = false := by decide)
    (hcd : (x == ("__classdict__" : Str)) = false := by decide) : PEd X (.Name x pos) (tvar i) := ped_var hN hv hd hcd
theorem gn (i : Nat) {x : Str} {pos : Pos} (hN : X.N.Nodup) (hi : X.N[i]? = some x := by rfl) (hx : Loc X.env.scope x := by first | exact Or.inl rfl | exact Or.inr rfl)
    (hf : X.fn x = true ∨ X.env.scope.names.lookup x = some .local := by first | exact .inl rfl | exact .inr rfl) : PGd X (.Name x pos) [i] (gname i) := pgd_name hN hi hx hf
theorem sv (i : Nat) {x : Str} {e : Expr} {te : TEd} {pos pos' : Pos} (hN : X.N.Nodup) (he : PEd X e te) (hi : X.N[i]? = some x := by rfl) (hx : Loc X.env.scope x := by first | exact Or.inl rfl | exact Or.inr rfl)
    (hs : swapsWith e (some (.Name x pos')) pos.line X.env = pure false := by rfl) (hf : X.fn x = true ∨ X.env.scope.names.lookup x = some .local := by first | exact .inl rfl | exact .inr rfl) :
    PSd X (.Assign [.Name x pos'] e pos) (tasg te (gname i)) := psd_set hN hi hx he hs hf
/-- a, b = e, f -/
theorem sp2 (i j : Nat) {x y : Str} {a b : Expr} {ta : TAd} {px py pt pos : Pos} {kt k2 pt2} (hc : X.calm = true) (hN : X.N.Nodup) (ha : PAd X [a, b] ta) (hi : X.N[i]? = some x := by rfl) (hj : X.N[j]? = some y := by rfl) (hij : i ≠ j := by decide)
    (hx : X.env.scope.names.lookup x = some .local := by rfl) (hy : X.env.scope.names.lookup y = some .local := by rfl)
    (hw : swappedStores [.Tuple [.Name x px, .Name y py] kt pt] (.Tuple [a, b] k2 pt2) X.env = pure (some [x, y]) := by rfl)
    (hs : swapsWithSole [.Tuple [.Name x px, .Name y py] kt pt] (.Tuple [a, b] k2 pt2) pos.line X.env = pure false := by rfl) :
    PSd X (.Assign [.Tuple [.Name x px, .Name y py] kt pt] (.Tuple [a, b] k2 pt2) pos) (tpar i j ta) := .of (ps_par hc hN hi hj hij hx hy ha.pa hw hs) tpar_low
/-- a def as it stands -/
def Stands (K : PySem.W.Frag) (mg : Str → Option Value) (x : Str) (st : Stmt) (ps : List Str) : Prop := ∃ f fd, Fun K x x st f fd ∧ mg x = some (.ref f) ∧ Binds K fd ps []
end
end DL

end T_DL9

section T_DLA
set_option Elab.async false
set_option linter.all false
set_option maxRecDepth 100000
set_option maxHeartbeats 1000000
/-! The D layer, A: equations for stepping. -/
namespace DL
open PySem PySem.Spec L2
open PyProof.Rows hiding St
def tpar2 (i j : Nat) (ds : List D) (E : Endsd) (ρ : Envd) (M1 : Mem) : Prop := match ds with
  | [v, w] => E.nx ((ρ.set i (some v)).set j (some w)) M1
  | _ => False
def popK (o : Option D) (M : Mem) (Q : VKd) (a : Addr) (xs : List D) : Prop := match o with
  | some y => Q y (put M a (.lst xs.dropLast))
  | none => False
section
variable {M : Mem} {Q : VKd} {ρ : Envd} {d x y z : D} {a b p : Addr} {i j : Int} {n : Nat} {xs ys : List D} {s t' : Str} {ta tb tc te : TEd} {t u tt : TTd} {r : R2d} {r1 : R1d} {R : RCd} {T : TAd} {D : Endsd}
theorem e_seq {t u : TSd} : tseq t u D ρ M = t { D with nx := u D } ρ M := rfl
theorem e_next : tnext D ρ M = D.nx ρ M := rfl
theorem e_break : tbreak D ρ M = D.bk ρ M := rfl
theorem e_cont : tcont D ρ M = D.ct ρ M := rfl
theorem e_drop : tdrop te D ρ M = te ρ M fun _ M1 => D.nx ρ M1 := rfl
theorem e_ret : tret te D ρ M = te ρ M D.rt := rfl
theorem e_retN : tretN D ρ M = D.rt .non M := rfl
theorem e_ifS {t u : TSd} {c : TTd} : tifS c t u D ρ M = c ρ M fun b M1 => if b = true then t D ρ M1 else u D ρ M1 := rfl
theorem e_asg {g : TGd} : tasg te g D ρ M = te ρ M fun x M1 => g x ρ M1 D.nx := rfl
theorem e_par {i j : Nat} : tpar i j T D ρ M = T ρ M fun ds M1 => tpar2 i j ds D ρ M1 := rfl
theorem e_par2 {i j : Nat} : tpar2 i j [x, y] D ρ M = D.nx ((ρ.set i (some x)).set j (some y)) M := rfl
theorem e_del : tdel ta tb D ρ M = ta ρ M fun x M1 => tb ρ M1 fun y M2 => delR x y M2 fun M3 => D.nx ρ M3 := rfl
theorem e_gname {i : Nat} {Q : Envd → Mem → Prop} : gname i d ρ M Q = Q (ρ.set i (some d)) M := rfl
theorem e_gsub {Q : Envd → Mem → Prop} : gsub ta tb d ρ M Q = ta ρ M fun o M1 => tb ρ M1 fun i M2 => setR o i d M2 fun M3 => Q ρ M3 := rfl
theorem e_gtup {Q : Envd → Mem → Prop} {g : TGsd} : gtup n g (.tup xs) ρ M Q = (xs.length = n ∧ g xs ρ M Q) := rfl
theorem e_gcons {Q : Envd → Mem → Prop} {g : TGd} {h : TGsd} : gcons g h (x :: xs) ρ M Q = g x ρ M fun ρ1 M1 => h xs ρ1 M1 Q := rfl
theorem e_gnil {Q : Envd → Mem → Prop} : gnil [] ρ M Q = Q ρ M := rfl
theorem e_var0 : tvar 0 (some d :: ρ) M Q = Q d M := rfl
theorem e_varS {o : Option DL.D} : tvar (n + 1) (o :: ρ) M Q = tvar n ρ M Q := rfl
theorem e_con : tcon d ρ M Q = Q d M := rfl
theorem e_top2 : top2 r ta tb ρ M Q = ta ρ M fun x M1 => tb ρ M1 fun y M2 => r x y M2 Q := rfl
theorem e_top1 : top1 r1 ta ρ M Q = ta ρ M fun x M1 => r1 x M1 Q := rfl
theorem e_cb : tcb R T ρ M Q = T ρ M fun ds M1 => R ds M1 Q := rfl
theorem e_nil {Q : List DL.D → Mem → Prop} : tnil ρ M Q = Q [] M := rfl
theorem e_cons {Q : List DL.D → Mem → Prop} : tcons te T ρ M Q = te ρ M fun x M1 => T ρ M1 fun xs M2 => Q (x :: xs) M2 := rfl
theorem e_tup : ttup T ρ M Q = T ρ M fun xs M1 => xs.length ≤ sizeLine ∧ Q (.tup xs) M1 := rfl
theorem e_lst : tlst T ρ M Q = T ρ M fun xs M1 => xs.length ≤ sizeLine ∧ ∀ p, M1 p = none → Q (.ref p) (put M1 p (.lst xs)) := rfl
def testK (x : DL.D) (M1 : Mem) (Q : Bool → Mem → Prop) : Prop := match x with
  | .bl b => Q b M1
  | _ => False
theorem e_test {Q : Bool → Mem → Prop} : ttest te ρ M Q = te ρ M fun x M1 => testK x M1 Q := rfl
theorem e_testK {b : Bool} {Q : Bool → Mem → Prop} : testK (.bl b) M Q = Q b M := rfl
theorem e_tru {Q : Bool → Mem → Prop} : ttru te ρ M Q = te ρ M fun x M1 => truR x M1 Q := rfl
theorem e_truB {b : Bool} {Q : Bool → Mem → Prop} : truR (.bl b) M Q = Q b M := rfl
theorem e_truN {Q : Bool → Mem → Prop} : truR .non M Q = Q false M := rfl
theorem e_truL {Q : Bool → Mem → Prop} (h : M a = some (.lst xs)) : truR (.ref a) M Q = Q (!xs.isEmpty) M := by simp only [truR, h]
theorem e_and {Q : Bool → Mem → Prop} : tandT t u ρ M Q = t ρ M fun c M1 => if c = true then u ρ M1 Q else Q false M1 := rfl
theorem e_or {Q : Bool → Mem → Prop} : torT t u ρ M Q = t ρ M fun c M1 => if c = true then Q true M1 else u ρ M1 Q := rfl
theorem e_not {Q : Bool → Mem → Prop} : tnotT t ρ M Q = t ρ M fun c M1 => Q (!c) M1 := rfl
theorem e_if : tif tt ta tb ρ M Q = tt ρ M fun c M1 => if c = true then ta ρ M1 Q else tb ρ M1 Q := rfl
def andK (x : DL.D) (ρ : Envd) (M1 : Mem) (tb : TEd) (Q : VKd) : Prop := match x with
  | .bl c => if c = true then tb ρ M1 Q else Q (.bl false) M1
  | _ => False
def orK (x : DL.D) (ρ : Envd) (M1 : Mem) (tb : TEd) (Q : VKd) : Prop := match x with
  | .bl c => if c = true then Q (.bl true) M1 else tb ρ M1 Q
  | _ => False
def notK (x : DL.D) (M1 : Mem) (Q : VKd) : Prop := match x with
  | .bl c => Q (.bl (!c)) M1
  | _ => False
theorem e_andV : tandV ta tb ρ M Q = ta ρ M fun x M1 => andK x ρ M1 tb Q := rfl
theorem e_andK {c : Bool} : andK (.bl c) ρ M tb Q = if c = true then tb ρ M Q else Q (.bl false) M := rfl
theorem e_orV : torV ta tb ρ M Q = ta ρ M fun x M1 => orK x ρ M1 tb Q := rfl
theorem e_orK {c : Bool} : orK (.bl c) ρ M tb Q = if c = true then Q (.bl true) M else tb ρ M Q := rfl
theorem e_notV : tnotV ta ρ M Q = ta ρ M fun x M1 => notK x M1 Q := rfl
theorem e_notK {c : Bool} : notK (.bl c) M Q = Q (.bl (!c)) M := rfl
theorem e_add : addR (.int i) (.int j) M Q = Q (.int (i + j)) M := rfl
theorem e_addS {s t : Str} : addR (.str s) (.str t) M Q = (s.length + t.length ≤ sizeLine ∧ Q (.str (s ++ t)) M) := rfl
theorem e_addT : addR (.tup xs) (.tup ys) M Q = (xs.length + ys.length ≤ sizeLine ∧ Q (.tup (xs ++ ys)) M) := rfl
theorem e_addL (ha : M a = some (.lst xs)) (hb : M b = some (.lst ys)) : addR (.ref a) (.ref b) M Q = (xs.length + ys.length ≤ sizeLine ∧ ∀ p, M p = none → Q (.ref p) (put M p (.lst (xs ++ ys)))) := by
  show (match M a, M b with
    | some (.lst xs), some (.lst ys) => xs.length + ys.length ≤ sizeLine ∧ ∀ p, M p = none → Q (.ref p) (put M p (.lst (xs ++ ys)))
    | _, _ => False) = _
  rw [ha, hb]
theorem e_sub : subR (.int i) (.int j) M Q = Q (.int (i - j)) M := rfl
theorem e_mul : mulR (.int i) (.int j) M Q = (((-(2 ^ 64) < i ∧ i < 2 ^ 64) ∨ (-(2 ^ 64) < j ∧ j < 2 ^ 64)) ∧ Q (.int (i * j)) M) := rfl
theorem e_mulL (ha : M a = some (.lst xs)) : mulR (.ref a) (.int i) M Q = ((-(2 ^ 63) ≤ i ∧ i < 2 ^ 63 ∧ xs.length * i.toNat ≤ sizeLine) ∧ ∀ p, M p = none → Q (.ref p) (put M p (.lst (List.replicate i.toNat xs).flatten))) := by
  show (match M a with
    | some (.lst xs) => (-(2 ^ 63) ≤ i ∧ i < 2 ^ 63 ∧ xs.length * i.toNat ≤ sizeLine) ∧ ∀ p, M p = none → Q (.ref p) (put M p (.lst (List.replicate i.toNat xs).flatten))
    | _ => False) = _
  rw [ha]
theorem e_mulT : mulR (.tup xs) (.int i) M Q = ((xs ≠ [] ∧ 2 ≤ i ∧ i ≤ 1000 ∧ xs.length ≤ 1000) ∧ Q (.tup (List.replicate i.toNat xs).flatten) M) := rfl
theorem e_fdiv : fdivR (.int i) (.int j) M Q = ((0 < j ∧ j < 1073741824) ∧ Q (.int (i / j)) M) := rfl
theorem e_mod : modR (.int i) (.int j) M Q = (0 < j ∧ Q (.int (i % j)) M) := rfl
theorem e_pow : powR (.int i) (.int j) M Q = ((0 ≤ j ∧ j ≤ 1000000 ∧ i.natAbs < 2 ^ 64) ∧ Q (.int (i ^ j.toNat)) M) := rfl
theorem e_neg : negR (.int i) M Q = Q (.int (-i)) M := rfl
theorem e_lt : ltR (.int i) (.int j) M Q = Q (.bl (decide (i < j))) M := rfl
theorem e_le : leR (.int i) (.int j) M Q = Q (.bl (decide (i ≤ j))) M := rfl
theorem e_gt : gtR (.int i) (.int j) M Q = Q (.bl (decide (j < i))) M := rfl
theorem e_ge : geR (.int i) (.int j) M Q = Q (.bl (decide (j ≤ i))) M := rfl
theorem e_eqI : eqR (.int i) (.int j) M Q = Q (.bl (decide (i = j))) M := rfl
theorem e_eqS {s t : Str} : eqR (.str s) (.str t) M Q = Q (.bl (decide (s = t))) M := rfl
theorem e_neI : neR (.int i) (.int j) M Q = Q (.bl (!decide (i = j))) M := rfl
theorem e_neS {s t : Str} : neR (.str s) (.str t) M Q = Q (.bl (!decide (s = t))) M := rfl
theorem e_isN : isR x .non M Q = Q (.bl (decide (x = .non))) M := by cases x <;> rfl
theorem e_isntN : isntR x .non M Q = Q (.bl (!decide (x = .non))) M := by cases x <;> rfl
theorem e_isB {c d : Bool} : isR (.bl c) (.bl d) M Q = Q (.bl (decide (c = d))) M := rfl
theorem e_isntB {c d : Bool} : isntR (.bl c) (.bl d) M Q = Q (.bl (!decide (c = d))) M := rfl
/-- items -/
def atK (o : Option DL.D) (M : Mem) (Q : VKd) : Prop := match o with
  | some d => Q d M
  | none => False
theorem e_atK : atK (some d) M Q = Q d M := rfl
theorem e_ixT : ixR (.tup xs) (.int i) M Q = atK (atI xs i) M Q := rfl
theorem e_ixL (h : M a = some (.lst xs)) : ixR (.ref a) (.int i) M Q = atK (atI xs i) M Q := by
  show ixRef a (.int i) M Q = _
  simp only [ixRef, rdL, h]
  rfl
theorem e_ixK {kvs : List (DL.D × DL.D)} (h : M a = some (.dK kvs)) : ixR (.ref a) y M Q = (isKey false y = true ∧ atK (look kvs y) M Q) := by
  have e : ixR (.ref a) y M Q = ixRef a y M Q := by cases y <;> rfl
  rw [e]
  simp only [ixRef, rdL, rdD, h]
  rfl
theorem e_ixDT {kvs : List (DL.D × DL.D)} (h : M a = some (.dT kvs)) : ixR (.ref a) y M Q = (isKey true y = true ∧ atK (look kvs y) M Q) := by
  have e : ixR (.ref a) y M Q = ixRef a y M Q := by cases y <;> rfl
  rw [e]
  simp only [ixRef, rdL, rdD, h]
  rfl
theorem e_setK {kvs : List (DL.D × DL.D)} {Q : Mem → Prop} (h : M a = some (.dK kvs)) : setR (.ref a) y d M Q = (isKey false y = true ∧ kvs.length < sizeLine ∧ Q (put M a (.dK (dput kvs y d)))) := by simp only [setR, h]
theorem e_setDT {kvs : List (DL.D × DL.D)} {Q : Mem → Prop} (h : M a = some (.dT kvs)) : setR (.ref a) y d M Q = (isKey true y = true ∧ kvs.length < sizeLine ∧ Q (put M a (.dT (dput kvs y d)))) := by simp only [setR, h]
def setK (o : Option Nat) (a : Addr) (xs : List DL.D) (d : DL.D) (M : Mem) (Q : Mem → Prop) : Prop := match o with
  | some j => Q (put M a (.lst (xs.set j d)))
  | none => False
theorem e_setSome {j : Nat} {Q : Mem → Prop} : setK (some j) a xs d M Q = Q (put M a (.lst (xs.set j d))) := rfl
theorem e_setL {Q : Mem → Prop} (h : M a = some (.lst xs)) : setR (.ref a) (.int i) d M Q = setK (ixN xs.length i) a xs d M Q := by simp only [setR, h]; rfl
theorem e_delK {kvs : List (DL.D × DL.D)} {Q : Mem → Prop} (h : M a = some (.dK kvs)) : delR (.ref a) y M Q = (isKey false y = true ∧ (look kvs y).isSome = true ∧ Q (put M a (.dK (ddel kvs y)))) := by simp only [delR, h]
theorem e_delT {kvs : List (DL.D × DL.D)} {Q : Mem → Prop} (h : M a = some (.dT kvs)) : delR (.ref a) y M Q = (isKey true y = true ∧ (look kvs y).isSome = true ∧ Q (put M a (.dT (ddel kvs y)))) := by simp only [delR, h]
theorem e_inT {kvs : List (DL.D × DL.D)} {neg : Bool} (h : M a = some (.dT kvs)) : inR neg x (.ref a) M Q = (isKey true x = true ∧ Q (.bl (if neg then !(look kvs x).isSome else (look kvs x).isSome)) M) := by
  simp only [inR, rdD, h]
theorem e_inK {kvs : List (DL.D × DL.D)} {neg : Bool} (h : M a = some (.dK kvs)) : inR neg x (.ref a) M Q = (isKey false x = true ∧ Q (.bl (if neg then !(look kvs x).isSome else (look kvs x).isSome)) M) := by
  simp only [inR, rdD, h]
theorem e_lenL (h : M a = some (.lst xs)) : lenR [.ref a] M Q = Q (.int xs.length) M := by
  show lenR1 (.ref a) M Q = _
  simp only [lenR1, rdL, h]
theorem e_lenT : lenR [.tup xs] M Q = Q (.int xs.length) M := rfl
theorem e_lenK {kvs : List (DL.D × DL.D)} (h : M a = some (.dK kvs)) : lenR [.ref a] M Q = Q (.int kvs.length) M := by
  show lenR1 (.ref a) M Q = _
  simp only [lenR1, rdL, h]
theorem e_lenS {s : Str} : lenR [.str s] M Q = (s.length ≤ sizeLine ∧ Q (.int s.length) M) := rfl
theorem e_listL (h : M a = some (.lst xs)) : listR [.ref a] M Q = ∀ p, M p = none → Q (.ref p) (put M p (.lst xs)) := by
  simp only [listR, rdS, rdL, h]
theorem e_listO (h : M a = some (.ro xs)) : listR [.ref a] M Q = ∀ p, M p = none → Q (.ref p) (put M p (.lst xs)) := by
  simp only [listR, rdS, rdL, h]
theorem e_listT : listR [.tup xs] M Q = ∀ p, M p = none → Q (.ref p) (put M p (.lst xs)) := rfl
theorem e_tupleL (h : M a = some (.lst xs)) : tupleR [.ref a] M Q = Q (.tup xs) M := by
  simp only [tupleR, rdS, rdL, h]
theorem e_tupleT : tupleR [.tup xs] M Q = Q (.tup xs) M := rfl
theorem e_int : intR [.int i] M Q = Q (.int i) M := rfl
theorem e_lm0 {r : RMd} : tlm0 r te ρ M Q = te ρ M fun x M1 => isL x M1 ∧ r x [] M1 Q := rfl
theorem e_lm {r : RMd} : tlm r te T ρ M Q = te ρ M fun x M1 => isL x M1 ∧ T ρ M1 fun ds M2 => r x ds M2 Q := rfl
theorem e_isL (h : M a = some (.lst xs)) : isL (.ref a) M = True := by
  simp only [isL, rdL, h, Option.isSome_some]
theorem e_app (h : M a = some (.lst xs)) : appR (.ref a) [d] M Q = (xs.length < sizeLine ∧ Q .non (put M a (.lst (xs ++ [d])))) := by
  simp only [appR, h]
theorem e_pop (h : M a = some (.lst xs)) : popR (.ref a) [] M Q = popK (xs[xs.length - 1]?) M Q a xs := by
  simp only [popR, h]; rfl
theorem e_popSome : popK (some d) M Q a xs = Q d (put M a (.lst xs.dropLast)) := rfl
theorem e_call {W : WXd} {s : SpD} : tcall W s T ρ M Q = T ρ M fun ds M1 => s ds M1 Q fun C fs M2 => W C fs ρ M2 := rfl
theorem e_newT : tdnewT ρ M Q = ∀ p, M p = none → Q (.ref p) (put M p (.dT [])) := rfl
theorem e_newK : tdnewK ρ M Q = ∀ p, M p = none → Q (.ref p) (put M p (.dK [])) := rfl
theorem e_disp {trs : List (TEd × TEd)} : tdisp trs ρ M Q = ∀ p, M p = none → tprs trs ρ (put M p (.dK [])) fun ps M2 => M2 p = some (.dK []) ∧ (ps.all fun kv => (keyOf kv.1).isSome) = true ∧ ps.length ≤ 15 ∧ Q (.ref p) (put M2 p (.dK (mergeD [] ps))) := rfl
theorem e_prs0 {Q : List (DL.D × DL.D) → Mem → Prop} : tprs [] ρ M Q = Q [] M := rfl
theorem e_prsS {tr : TEd × TEd} {r : List (TEd × TEd)} {Q : List (DL.D × DL.D) → Mem → Prop} : tprs (tr :: r) ρ M Q = tr.1 ρ M fun x M1 => tr.2 ρ M1 fun y M2 => tprs r ρ M2 fun ps M3 => Q ((x, y) :: ps) M3 := rfl
theorem e_start {N : List Str} : startD N xs = xs.map some ++ List.replicate (N.length - xs.length) none := rfl
theorem e_for {ti : TId} {g : TGd} {tb : TSd} : tfor ti g tb D ρ M = ti ρ M fun items ok M1 => ∃ W : Nat → Envd → Mem → Prop, W 0 ρ M1 ∧ ∀ i ρ M, i ≤ items.length → W i ρ M → ok M ∧ (match items[i]? with
  | none => D.nx ρ M
  | some x => g x ρ M fun ρ2 M2 => tb { D with nx := W (i + 1), ct := W (i + 1), bk := D.nx } ρ2 M2) := rfl
end
end DL
namespace DL
open PySem PySem.Spec L2
/-- what holds behind the first statement -/
theorem seq_cut {t u : TSd} {E : Endsd} {ρ : Envd} {M : Mem} (J : Envd → Mem → Prop) (main : ∀ N : Envd → Mem → Prop, (∀ ρ' M', J ρ' M' → N ρ' M') → t { E with nx := N } ρ M) (fin : ∀ ρ' M', J ρ' M' → u E ρ' M') : tseq t u E ρ M := main (u E) fin
theorem Down.of {Q : VKd} {d : D} {M : Mem} (h : Q d M) : Down Q d M := ⟨M, fun _ _ e => e, h⟩
end DL

end T_DLA

section T_DLB
set_option Elab.async false
set_option linter.all false
set_option maxRecDepth 100000
set_option maxHeartbeats 1000000
/-! The D layer, B: defs that ask for texts of data (repr), and the kinds of data. -/
namespace DL
open PySem PySem.Spec L2
open PyProof.Rows hiding St

/-! ### promises that hold where no text is being made -/
structure FnQ (P : Program) (w : World) (K : PySem.W.Frag) (mg : Str → Option Value) (base : Heap) (k : Nat) (f : Addr) (fd : FuncData) (ps : List Str) (sp : Sp) : Prop where
  len : ∀ vs H Q E, sp vs H Q E → vs.length = ps.length
  go : ∀ (A : Around) (outer : List Env) (s : Shared) (H : Hp) (args : Args) (us : List Value) (vs : List V) (Q : VK) (E : XK), A.guards = some [] → Room k A →
    Env0 P w K mg base A outer s H → BindsTo s fd args (ps.zip us) → Vals vs us → sp vs H Q E → codeAny (model P w) A (.call (.ref f) args) (CR (L2.CX P w) outer P w H s Q E) s
theorem FnQ.ofOk {P : Program} {w : World} {K : PySem.W.Frag} {mg : Str → Option Value} {base : Heap} {k : Nat} {f : Addr} {fd : FuncData} {ps : List Str} {sp : Sp}
    (F : FnOk P w K mg base (L2.CX P w) k f fd ps sp) : FnQ P w K mg base k f fd ps sp :=
  ⟨F.len, fun A outer s H args us vs Q E _ => F.run A outer s H args us vs Q E⟩
theorem FnQ.byBody {P : Program} {w : World} {K : PySem.W.Frag} {mg : Str → Option Value} {base : Heap} {k : Nat} {x q : Str} {st : Stmt} {f : Addr} {fd : FuncData} {N ps : List Str} {sp : Sp}
    (F : Fun K x q st f fd) (S : FnScope N ps (defScope st)) (len : ∀ vs H Q E, sp vs H Q E → vs.length = ps.length)
    (body : ∀ (cv : Value) (A : Around) (outer : List Env) (s : Shared) (H : Hp) (vs : List V) (Q : VK) (E : XK), A.guards = some [] →
      Room k (A.deeper (envOfC q (defScope st) s.heap.objs.size f cv)) → sp vs H Q E →
      ∃ t, PSs (cxOf (L2.CX P w) P w K mg base N q (defScope st) f cv A outer s H E) (defBody st) t ∧ t { nx := fun _ H2 => Q .non H2, rt := Q } (L2.start N vs) H) :
    FnQ P w K mg base (k + 1) f fd ps sp := by
  obtain ⟨oc, od, kV, doc, pm, an, cv, ct, osl, rfl, lk, code⟩ := F.ex
  refine ⟨len, fun A outer s H args us vs Q E hA room e0 binds rv hsp => ?_⟩
  have kin : K.In s.heap := e0.mod.kin.keeps fun b o z => (e0.bs b o z).1
  have nolim : s.heap.NoLimit := e0.mod.nolimit.keeps fun b o z => (e0.bs b o z).1
  have kinds : ∀ y ∈ ps.zip us, (defScope st).names.lookup y.1 = some .local ∨
      ((defScope st).names.lookup y.1 = some .cell ∧ ((cellsFrom (s.heap.objs.size + 1) (defScope st).names []).lookup y.1).isSome = true) := by
    rintro ⟨n, u⟩ hy
    rcases S.par n (List.of_mem_zip hy).1 with z | z
    · exact .inl z
    · exact .inr ⟨z, PySem.W.cellsFrom_some _ _ _ (.inl z)⟩
  refine codeAny_call_function room.depth (kin _ _ lk) rfl S.co S.gen rfl (PySem.W.codeRec_of kin code) (binds _ _ _ _ ?_)
  refine wpAny_newFunctionEnv_cells S.kind kinds ?_
  intro env ee s1 inC
  subst ee
  refine ⟨nolim.keeps inC.toInCall.keep, codeAny_func ?_⟩
  obtain ⟨t, pt, tq⟩ := body cv A outer s H vs Q E hA (room.deeper _) hsp
  have I := inv_start (CX := L2.CX P w) (P := P) (w := w) (K := K) (mg := mg) (base := base) (E := E) S room.hd e0 (len _ _ _ _ hsp) rv inC
  refine wpAny_mono (pt.run [] s1 (L2.start N vs) H _ I tq) ?_ (fun _ _ z => z)
  intro fl s' hs
  cases fl with
  | next => obtain ⟨σ', H', J, q⟩ := hs; exact ⟨V.non, H', J.os, J.bare, J.base, J.hok, rfl, q⟩
  | ret u => obtain ⟨y, σ', H', J, ry, q⟩ := hs; exact ⟨y, H', J.os, J.bare, J.base, J.hok, ry, q⟩
  | brk => obtain ⟨_, _, _, q⟩ := hs; exact q.elim
  | cont => obtain ⟨_, _, _, q⟩ := hs; exact q.elim
/-- the def x stands and keeps s, where no text is being made -/
def FnG (P : Program) (w : World) (K : PySem.W.Frag) (mg : Str → Option Value) (base : Heap) (k : Nat) (x : Str) (ps : List Str) (s : SpD) : Prop :=
  ∃ (f : Addr) (fd : FuncData), FnQ P w K mg base k f fd ps (lowSp K s) ∧ mg x = some (.ref f) ∧ PySem.W.keepIn K (.ref f) = true ∧ Binds K fd ps []
theorem FnD.g {P : Program} {w : World} {K : PySem.W.Frag} {mg : Str → Option Value} {base : Heap} {k : Nat} {x : Str} {ps : List Str} {s : SpD} (F : FnD P w K mg base k x ps s) : FnG P w K mg base k x ps s := by
  obtain ⟨f, fd, ok, r⟩ := F
  exact ⟨f, fd, .ofOk ok, r⟩
section
variable {P : Program} {w : World} {K : PySem.W.Frag} {mg : Str → Option Value} {base : Heap}
theorem FnQ.ofD {x : Str} {st : Stmt} {f : Addr} {fd : FuncData} {N ps : List Str} {k : Nat} {s : SpD} (F : Fun K x x st f fd) (S : FnScope N ps (defScope st))
    (len : ∀ ds M Q E, s ds M Q E → ds.length = ps.length)
    (body : ∀ (cdv : Value) (A : Around) (outer : List Env) (s0 : Shared) (H0 : Hp) (E : XK) (E0 : XKd), A.guards = some [] → Room k (A.deeper (envOfC x (defScope st) s0.heap.objs.size f cdv)) →
      TakesD (cxOf (L2.CX P w) P w K mg base N x (defScope st) f cdv A outer s0 H0 E) (fun C fs _ M' => ∃ M, (∀ a o, M a = some o → M' a = some o) ∧ E0 C fs M) →
      PassesOwn (model P w) (A.deeper (envOfC x (defScope st) s0.heap.objs.size f cdv)) (envOfC x (defScope st) s0.heap.objs.size f cdv) (cxOf (L2.CX P w) P w K mg base N x (defScope st) f cdv A outer s0 H0 E).xe →
      ∃ t, PSsd (cxOf (L2.CX P w) P w K mg base N x (defScope st) f cdv A outer s0 H0 E) (defBody st) t ∧ ∀ ds M Q, s ds M Q E0 → t { nx := fun _ M' => Down Q .non M', rt := Down Q } (startD N ds) M) :
    FnQ P w K mg base (k + 1) f fd ps (lowSp K s) := by
  refine .byBody F S (fun vs H Q E h => ?_) (fun cdv A outer s0 H vs Q E hA hr h => ?_)
  · obtain ⟨ds, M, Q0, E0, rl, _, h, _⟩ := h
    rw [rl.length]
    exact len _ _ _ _ h
  · obtain ⟨ds, M, Q0, E0, rl, rm, h, kq, kx⟩ := h
    have down : lowV K H (Down Q0) Q := fun v H' d M' t r m q => by
      obtain ⟨M2, hs, q⟩ := q
      exact kq v H' d M2 t r (m.less hs) q
    obtain ⟨t, pt, ht⟩ := body cdv A outer s0 H E E0 hA hr ((takes_of rfl rfl rfl rfl).imp fun cls d σ H' h => by
      obtain ⟨C, dd, vs, fs, ρ, M', e1, e2, e3, e4, e5, e6, e7, M2, hs, q⟩ := h
      subst e1 e2
      exact kx C dd H' vs fs M2 e7 e3 e4 (e6.less hs) q) (passes_of rfl)
    exact ⟨_, pt.ps, startD N ds, M, _, start_rel rl, rm, ht ds M Q0 h, ⟨fun σ H' ρ M' t r m q => down .non H' .non M' t rfl m q, down, fun _ _ _ _ _ _ _ z => z.elim, fun _ _ _ _ _ _ _ z => z.elim⟩⟩
theorem FnG.of {x : Str} {st : Stmt} {f : Addr} {fd : FuncData} {N ps : List Str} {k : Nat} {s : SpD} (F : Fun K x x st f fd) (S : FnScope N ps (defScope st)) (hm : mg x = some (.ref f)) (hb : Binds K fd ps [])
    (len : ∀ ds M Q E, s ds M Q E → ds.length = ps.length)
    (body : ∀ (cdv : Value) (A : Around) (outer : List Env) (s0 : Shared) (H0 : Hp) (E : XK) (E0 : XKd), A.guards = some [] → Room k (A.deeper (envOfC x (defScope st) s0.heap.objs.size f cdv)) →
      TakesD (cxOf (L2.CX P w) P w K mg base N x (defScope st) f cdv A outer s0 H0 E) (fun C fs _ M' => ∃ M, (∀ a o, M a = some o → M' a = some o) ∧ E0 C fs M) →
      PassesOwn (model P w) (A.deeper (envOfC x (defScope st) s0.heap.objs.size f cdv)) (envOfC x (defScope st) s0.heap.objs.size f cdv) (cxOf (L2.CX P w) P w K mg base N x (defScope st) f cdv A outer s0 H0 E).xe →
      ∃ t, PSsd (cxOf (L2.CX P w) P w K mg base N x (defScope st) f cdv A outer s0 H0 E) (defBody st) t ∧ ∀ ds M Q, s ds M Q E0 → t { nx := fun _ M' => Down Q .non M', rt := Down Q } (startD N ds) M) :
    FnG P w K mg base (k + 1) x ps s := ⟨f, fd, .ofD F S len body, hm, F.kp, hb⟩
end
section
variable {X : Cx} {k : Nat} {x : Str} {ps : List Str} {s : SpD} {W : WXd} {e : Expr} {es : List Expr} {t : TAd} {p pos : Pos}
theorem ped_callG (F : FnG X.prog X.w X.K X.mg X.base k x ps s) (hA : X.A.guards = some []) (hr : Room k X.A) (hg : Gl X x) (tk : TakesD X W) (ha : PAd X (e :: es) t) (hdb : (x == ("__debug__" : Str)) = false := by decide)
    (he : starEach (e :: es) X.env = (false, eval e X.env) :: starEach es X.env := by rfl) (hpl : (backTo pos (starEach es X.env)).any (·.1) = false := by rfl) : PEd X (.Call (.Name x p) (e :: es) [] pos) (tcall W s t) := by
  obtain ⟨f, fd, fok, hm, hk, hb⟩ := F
  refine ⟨⟨fun pins s0 σ H Q I w => ?_⟩⟩
  obtain ⟨ρ, M, Q0, re, rm, h, kk⟩ := w
  have tb : Tle X.H_0 H := I.base.tups
  refine wpAny_Call_Name_kw (ld_glob I hg hm ?_ hdb)
  refine PySem.W.callWith_K (h₀ := X.base) I.ok.mod.kin hk (thn (ha.pa.run pos pins s0 σ H (fun vs H1 => Tle H H1 ∧ lowSp X.K s vs H1 Q (WE (lowW X W) σ)) I ⟨ρ, M, _, re, rm, h, fun vs H1 ds M1 t1 r1 m1 h1 => ?_⟩) fun us s1 ⟨vs, H1, I1, rv, q⟩ => ⟨I1.kIn, ?_⟩) he hpl
  · exact ⟨t1, ds, M1, Q0, _, r1, m1, h1, kk.tle t1, fun C d H2 us fs M2 t2 ed rf m2 h2 => ⟨C, d, us, fs, ρ, M2, rfl, rfl, ed, rf, re.tle (t1.trans t2), m2, tb.trans (t1.trans t2), h2⟩⟩
  · have hl : us.length = ps.length := by rw [← rv.length]; exact fok.len _ _ _ _ q.2
    have b := hb s1 us I1.kIn (by rw [List.append_nil]; exact hl)
    rw [List.append_nil] at b
    refine wpAny_call (codeAny_mono (fok.go X.A X.stack s1 H1 ⟨us, []⟩ us vs Q _ hA hr I1.env0 b rv q.2) ?_)
    intro r s' hq
    cases r with
    | error e => exact passAt tk σ pins H1 s1 e s' I1 hq
    | ok fl =>
      cases fl with
      | ret u => exact I1.after hq
      | next => exact hq.elim
      | brk => exact hq.elim
      | cont => exact hq.elim
end

/-! ### repr -/
def reprR : RCd := fun ds M Q => match ds with
  | [d] => (∃ p, PyR M d p ∧ p.showable = true ∧ p.depth ≤ 32 ∧ p.shown.length ≤ sizeLine ∧ Q (.str p.shown) M) ∨ (∃ a, d = .ref a ∧ (M a = some (.dK []) ∨ M a = some (.dT [])) ∧ Q (.str (PyData.dict []).shown) M)
  | _ => False
theorem PyR.noDict {M : Mem} : ∀ (p : PyData) (d : D), PyR M d p → p.hasDict = false
  | .none, _, _ => rfl
  | .bool _, _, _ => rfl
  | .int _, _, _ => rfl
  | .str _, _, _ => rfl
  | .tuple ps, _, .tup h => all ps _ h
  | .list ps, _, .lst _ h => all ps _ h
where all : ∀ {M : Mem} (ps : List PyData) (ds : List D), PyRL M ds ps → PyData.hasDictAll ps = false
  | _, [], _, .nil => rfl
  | _, p :: ps, _, .cons h t => by simp [PyData.hasDictAll, PyR.noDict p _ h, all ps _ t]
section
variable {X : Cx}
theorem call_reprD {k : Nat} (hA : X.A.guards = some []) (hr : Room k X.A) : CallR X (.builtin "repr") (lowCR X.K reprR) := by
  intro pins s σ H xs us Q I rv w
  obtain ⟨ds, M, Q0, r, m, h, kk⟩ := w
  have un := hr.un
  match ds, r, h with
  | [d], r, h =>
    obtain ⟨v, e, r1⟩ := one_arg r
    subst e
    obtain ⟨u, rfl, ru⟩ := vals1 rv
    rcases h with ⟨p, hp, hs, hd, hl, q⟩ | ⟨a, rfl, hM, q⟩
    · have dp := PyR.dp m p d v hp r1
      obtain ⟨as, rd⟩ := Dp.reads I p v u dp ru
      have nd := PyR.noDict p d hp
      have fin : ∀ h' (u' : Tok) tk, (∀ b o, s.heap.get? b = some o → h'.get? b = some o) → EP X pins σ Q (.str p.shown u') { s with heap := h', toks := tk } := fun h' u' tk hk =>
        ⟨.str p.shown, H, I.kept (t' := tk) hk, ⟨u', rfl⟩, kk.str m q⟩
      cases rd with
      | none => exact PySem.P.repr_of_none (fin s.heap _ _ fun _ _ z => z)
      | bool b => exact PySem.P.repr_of_bool (fin s.heap _ _ fun _ _ z => z)
      | int i t => exact PySem.P.repr_of_int (of_decide_eq_true hs) (fin s.heap _ _ fun _ _ z => z)
      | str y t => exact PySem.P.repr_of_str (fin s.heap _ _ fun _ _ z => z) hl
      | list h1 h2 h3 h4 => exact repr_of_reads' (.list h1 h2 h3 h4) hs (fun z => by rw [nd] at z; cases z) hA (by omega) (fun _ _ z => z) fin hl
      | tuple h1 h2 h3 h4 => exact repr_of_reads' (.tuple h1 h2 h3 h4) hs (fun z => by rw [nd] at z; cases z) hA (by omega) (fun _ _ z => z) fin hl
      | dict h1 h2 h3 h4 h5 => cases nd
    · cases r1
      cases ru
      have fin : ∀ h' (u' : Tok) tk, (∀ b o, s.heap.get? b = some o → h'.get? b = some o) → EP X pins σ Q (.str (PyData.dict []).shown u') { s with heap := h', toks := tk } := fun h' u' tk hk =>
        ⟨.str (PyData.dict []).shown, H, I.kept (t' := tk) hk, ⟨u', rfl⟩, kk.str m q⟩
      have done : ∀ (o : Obj) (es : Array DictEntry) (n : Nat), s.heap.get? a = some o → o.cls = .type "dict" → o.data = .dict es n → es.toList = [] → (a == sysModules) = false → wpAny (model X.prog X.w) X.A (call (.builtin "repr") [.ref a]) (EP X pins σ Q) X.xe s := fun o es n h1 h2 h3 h4 h5 => by
        refine repr_of_reads' (d := .dict []) (as := a :: [] ++ []) (.dict h1 h2 h3 (by rw [h4]; exact .nil) (by rw [h4]; exact .nil)) rfl (fun _ z => ?_) hA (by have : (PyData.dict []).depth = 1 := rfl; omega) (fun _ _ z => z) fin (by decide +kernel)
        have e : sysModules = a := by simpa using z
        rw [e] at h5
        simp at h5
      rcases hM with e | e
      · obtain ⟨hv, q2, rl⟩ := m a _ e
        have ev : hv = [] := by cases rl; rfl
        subst ev
        obtain ⟨_, hy, vs, kv, o, es, ep, h1, h2, h3, h4⟩ := (show ObjOk X.prog X.w H s.heap a (.dK []) from I.hok a _ q2)
        cases kv
        exact done o es ep h1 h2.1 h3 (by have h5 := h4.2.1; generalize es.toList = l at h5; cases h5; rfl) hy
      · obtain ⟨hv, q2, rl⟩ := m a _ e
        have ev : hv = [] := by cases rl; rfl
        subst ev
        obtain ⟨_, hy, vs, kv, o, es, ep, h1, h2, h3, h4, _⟩ := (show ObjOk X.prog X.w H s.heap a (.dT []) from I.hok a _ q2)
        cases kv
        exact done o es ep h1 h2.1 h3 (by simpa using h4) hy
end

/-! ### isinstance -/
/-- the name of a datum's type -/
def kindD (M : Mem) : D → Option String
  | .non => some "NoneType"
  | .bl _ => some "bool"
  | .int _ => some "int"
  | .str _ => some "str"
  | .tup _ => some "tuple"
  | .ref a => (match M a with
    | some (.lst _) => some "list"
    | some (.dK _) => some "dict"
    | some (.dT _) => some "dict"
    | _ => none)
  | .ty _ => none
def isiK (o : Option Bool) (M : Mem) (Q : VKd) : Prop := match o with
  | some b => Q (.bl b) M
  | none => False
def isiR : RCd := fun ds M Q => match ds with
  | [d, .ty n] => isiK ((kindD M d).bind fun t => kitB t n) M Q
  | _ => False
section
variable {X : Cx} {pins : List (Addr × Obj)} {σ : St} {H : Hp} {s : Shared}
theorem kit_D {M : Mem} {d : D} {v : V} {u : Value} {t : String} (I : Inv X pins σ H s) (m : RelM X.K H M) (r : Rel H d v) (ru : RelV v u) (h : kindD M d = some t) :
    ∃ P : Heap → Prop, PySem.W.KitX X.K u (.type t) P ∧ P s.heap ∧ u ≠ .builtin "__main__.__loader__#opaque" := by
  cases d with
  | non => cases h; cases r; exact kit_of I ru (.base .non)
  | bl b => cases h; cases r; exact kit_of I ru (.base (.bl b))
  | int i => cases h; cases r; exact kit_of I ru (.base (.int i))
  | str x => cases h; cases r; exact kit_of I ru (.base (.str x))
  | tup xs =>
    cases h
    obtain ⟨a, vs, e, q, _⟩ := r
    subst e
    exact kit_of I ru (.base (.tup q))
  | ty n => cases h
  | ref a =>
    cases r
    have h' : (match M a with
      | some (.lst _) => some "list"
      | some (.dK _) => some "dict"
      | some (.dT _) => some "dict"
      | _ => none) = some t := h
    split at h'
    · rename_i xs e; cases h'; obtain ⟨vs, q, _⟩ := m.lst e; exact kit_of I ru (.base (.lst q))
    · rename_i xs e; cases h'; obtain ⟨vs, q, _⟩ := m a _ e; exact kit_of I ru (.base (.dK q))
    · rename_i xs e
      cases h'
      obtain ⟨hv, q, _⟩ := m a _ e
      cases ru
      obtain ⟨_, _, _, _, o, es, ep, h1, h2, _⟩ := (show ObjOk X.prog X.w H s.heap a (.dT hv) from I.hok a _ q)
      exact ⟨_, PySem.W.kitx_dict, ⟨o, h1, h2.1⟩, fun z => nomatch z⟩
    · cases h'
theorem call_isiD : CallR X (.builtin "isinstance") (lowCR X.K isiR) := by
  intro pins s σ H xs us Q I rv w
  obtain ⟨ds, M, Q0, r, m, h, kk⟩ := w
  match ds, r, h with
  | [d, .ty n], r, h =>
    obtain ⟨v, y, e, r1, r2⟩ := two_arg r
    subst e
    cases r2
    obtain ⟨u1, u2, rfl, q1, q2⟩ := vals2 rv
    cases (show u2 = Value.type n from q2)
    cases e1 : kindD M d with
    | none => exact False.elim (by simpa [isiR, e1, isiK] using h)
    | some t =>
      cases e2 : kitB t n with
      | none => exact False.elim (by simpa [isiR, e1, e2, isiK] using h)
      | some b =>
        have h' : Q0 (.bl b) M := by simpa [isiR, e1, e2, isiK] using h
        obtain ⟨P, Z, p, hx⟩ := kit_D I m r1 q1 e1
        exact PySem.W.kia_one Z I.kIn p (kit_ty e2) hx fun tk => ⟨.bl b, H, I.tok tk, rfl, kk.bl m h'⟩
end
end DL

end T_DLB

section T_DLC
set_option Elab.async false
set_option linter.all false
set_option maxRecDepth 100000
set_option maxHeartbeats 1000000
/-! The D layer, C: rows of any kind, sorted. -/
namespace DL
open PySem PySem.Spec L2
open PyProof.Rows hiding St

theorem pyL_map : ∀ xs : List D, D.pyL xs = xs.map D.py
  | [] => rfl
  | x :: xs => by rw [D.pyL, pyL_map xs, List.map_cons]
/-- what is told, one by one, by lists, tuples and dicts -/
def rdI (M : Mem) : D → Option (List D)
  | .tup xs => some xs
  | .ref a => (match M a with
    | some (.lst xs) => some xs
    | some (.ro xs) => some xs
    | some (.dK kvs) => some (kvs.map (·.1))
    | some (.fK _ _ kvs) => some (kvs.map (·.1))
    | some (.dT kvs) => some (kvs.map (·.1))
    | some (.fT _ _ kvs) => some (kvs.map (·.1))
    | _ => none)
  | _ => none
theorem keys_relK {H : Hp} : ∀ {kvs : List (D × D)} {hv : List (Key × V)}, RelKv H kvs hv → RelL H (kvs.map (·.1)) (hv.map fun q => kV q.1)
  | _, _, .nil => .nil
  | (k, d) :: _, (q, y) :: _, .cons h t => by
    refine .cons ?_ (keys_relK t)
    have e : k = kD q := h.1
    show Rel H k (kV q)
    rw [e]
    cases q <;> rfl
theorem relL_keys {H : Hp} : ∀ (ks : List Key), RelL H (ks.map kD) (ks.map kV)
  | [] => .nil
  | k :: ks => .cons (by cases k <;> rfl) (relL_keys ks)
theorem keys_relT {H : Hp} : ∀ {kvs : List (D × D)} {hv : List (List Key × V)} {bs : List Addr}, RelTv H kvs hv → IsKeys H hv bs → RelL H (kvs.map (·.1)) (bs.map V.ref)
  | _, _, _, .nil, .nil => .nil
  | (k, d) :: _, (q, y) :: _, b :: _, .cons h t, .cons g u => by
    refine .cons ?_ (keys_relT t u)
    have e : k = .tup (q.map kD) := h.1
    show Rel H k (.ref b)
    rw [e]
    exact ⟨b, _, rfl, g, relL_keys q⟩
section
variable {X : Cx} {pins : List (Addr × Obj)} {σ : St} {H : Hp} {s : Shared}
theorem dk_vals {P : Program} {w : World} {acc : Array Value} {kvs : List (Key × V)} {vs : List (Key × Value)} (rk : KV kvs vs)
    (h : ItemsOf (fun i v => ∃ k y, vs[i]? = some (k, y) ∧ (mixKind P w).is k v = true) acc vs.length) : Vals (kvs.map fun q => kV q.1) acc.toList := by
  have hl : kvs.length = vs.length := Paired.length rk
  have el : acc.toList.length = acc.size := by simp
  refine vals_of_at (by rw [List.length_map, el, h.1, hl]) fun j x u h1 h2 => ?_
  obtain ⟨k, y, e1, e2⟩ := h.2 j u (by rw [← Array.getElem?_toList]; exact h2)
  have e3 : (kvs.map (·.1))[j]? = some k := by rw [KV.keys rk, List.getElem?_map, e1] <;> rfl
  have e4 : (kvs.map fun kv => kV kv.1)[j]? = some (kV k) := by
    have e5 : (kvs.map fun kv => kV kv.1) = (kvs.map (·.1)).map kV := by rw [List.map_map] <;> rfl
    rw [e5, List.getElem?_map, e3] <;> rfl
  rw [e4] at h1
  cases h1
  exact keyIs_rel e2
theorem collectD {M : Mem} {d : D} {v : V} {u : Value} {xs : List D} {A : Around} {E : Value → Shared → Prop} {Q : List Value → Shared → Prop} (hh : A.handled = none) (I : Inv X pins σ H s) (m : RelM X.K H M) (r : Rel H d v) (ru : RelV v u) (e : rdI M d = some xs)
    (hz : xs.length ≤ sizeLine) (h : ∀ (vs : List V) (us : List Value) (h' : Heap) (tk : Nat), RelL H xs vs → Vals vs us → (∀ b o, s.heap.get? b = some o → h'.get? b = some o) → Q us { s with heap := h', toks := tk }) :
    wpAny (model X.prog X.w) A (collect u) Q E s := by
  have seq : ∀ (T : String) (a : Addr) (o : Obj) (its : List Value) (n : Nat) (vs : List V), (T = "list" ∨ T = "tuple") → s.heap.get? a = some o → o.cls = .type T → o.data = .seq its.toArray n → Vals vs its → RelL H xs vs → wpAny (model X.prog X.w) A (collect (.ref a)) Q E s :=
    fun T a o its n vs hT ho hc hd rv rl => wpAny_collect_seq a hT ho hc hd (fun h' k => by
      have := h vs its h' s.toks rl rv k
      simpa using this) (by have := rl.length; have := rv.length; simp; omega)
  have lst : ∀ (a : Addr) (vs : List V), SqL X.K H a vs → RelL H xs vs → wpAny (model X.prog X.w) A (collect (.ref a)) Q E s := fun a vs q rl => by
    obtain ⟨its, rv, ⟨o, n, ho, hc, _, hd⟩, _⟩ := I.list q
    exact seq "list" a o its n vs (.inl rfl) ho hc hd rv rl
  have dK : ∀ (a : Addr) (kvs : List (D × D)) (hv : List (Key × V)), xs = kvs.map (·.1) → Rd H a (.dK hv) → RelKv H kvs hv → wpAny (model X.prog X.w) A (collect (.ref a)) Q E s := fun a kvs hv ex q rl => by
    obtain ⟨z, lo, vs, rel, dd⟩ := dk_rd I.hok q
    obtain ⟨ep, hat⟩ := dd.dictAt
    have hl : hv.length = vs.length := Paired.length rel
    refine PySem.W.kdu_collect (PySem.W.kdl_dict (knd := mixKind X.prog X.w) (kvs := vs) (ep := ep) lo) hh hat (by omega) fun h' tk acc hk hacc => ?_
    exact h _ _ h' tk (by rw [ex]; exact keys_relK rl) (dk_vals rel hacc) hk
  have dT : ∀ (a : Addr) (kvs : List (D × D)) (hv : List (List Key × V)), xs = kvs.map (·.1) → Rd H a (.dT hv) → RelTv H kvs hv → wpAny (model X.prog X.w) A (collect (.ref a)) Q E s := fun a kvs hv ex q rl => by
    obtain ⟨z, hs, ks, pr, o, es, ep, ho, hx, hdt, he, hn⟩ := (show ObjOk X.prog X.w H s.heap a (.dT hv) from q.ok I.hok)
    have l1 : es.size = ks.length := size_of_entries he
    have l2 : hv.length = ks.length := Paired.length pr
    refine PySem.W.kdu_collect (kdl_raw hs hx hdt) hh ho (by omega) fun h' tk acc hk it => ?_
    have ea : acc.toList = (ks.map fun x => x.2.1).map Value.ref := by
      rw [List.map_map]
      have hl : acc.toList.length = ks.length := by rw [Array.length_toList, it.1]; exact l1
      apply List.ext_getElem?
      intro j
      rw [List.getElem?_map]
      cases hj : acc.toList[j]? with
      | none =>
        have h1 := List.getElem?_eq_none_iff.mp hj
        rw [List.getElem?_eq_none (by omega)]
        rfl
      | some y =>
        obtain ⟨en, hen, hy⟩ := it.2 j y (by rw [← Array.getElem?_toList]; exact hj)
        have qe := entry_at he j
        rw [hen] at qe
        cases hb : ks[j]? with
        | none => rw [hb] at qe; cases qe
        | some b =>
          rw [hb] at qe
          have e2 : en = entryOfKey (tupleKind (mixKind X.prog X.w)) b := Option.some.inj qe
          rw [hy, e2]
          rfl
    refine h _ _ h' tk (by rw [ex]; exact keys_relT rl (isKeys_of pr)) ?_ hk
    rw [ea]
    exact vals_refs _
  cases d with
  | tup ys =>
    cases e
    obtain ⟨a, vs, ev, q, rl⟩ := r
    subst ev
    cases ru
    obtain ⟨_, its, rv, o, ho, hc, n, hd⟩ := I.hok a _ q
    exact seq "tuple" a o its n vs (.inr rfl) ho hc hd rv rl
  | ref a =>
    cases r
    cases ru
    have e' : (match M a with
      | some (.lst xs) => some xs
      | some (.ro xs) => some xs
      | some (.dK kvs) => some (kvs.map (·.1))
      | some (.fK _ _ kvs) => some (kvs.map (·.1))
      | some (.dT kvs) => some (kvs.map (·.1))
      | some (.fT _ _ kvs) => some (kvs.map (·.1))
      | _ => none) = some xs := e
    split at e'
    · rename_i ys em; cases e'; obtain ⟨vs, q, rl⟩ := m.rdL (rdL_lst em); exact lst a vs q rl
    · rename_i ys em; cases e'; obtain ⟨vs, q, rl⟩ := m.rdL (rdL_ro em); exact lst a vs q rl
    · rename_i ys em; cases e'; obtain ⟨hv, q, rl⟩ := m a _ em; exact dK a ys hv rfl (.inl q) rl
    · rename_i o hv ys em; cases e'; obtain ⟨q, rl⟩ := m a _ em; exact dK a ys hv rfl (.inr ⟨o, q⟩) rl
    · rename_i ys em; cases e'; obtain ⟨hv, q, rl⟩ := m a _ em; exact dT a ys hv rfl (.inl q) rl
    · rename_i o hv ys em; cases e'; obtain ⟨q, rl⟩ := m a _ em; exact dT a ys hv rfl (.inr ⟨o, q⟩) rl
    · cases e'
  | _ => cases e
end

/-! ### sorted -/
def leD : D → D → Bool := PySem.W.dataLe false D.py
def srt (xs : List D) : List D := xs.mergeSort leD
structure SortOk (xs : List D) : Prop where
  len : xs.length < sizeLine
  pure : D.pureL xs = true
  alike : PySem.W.AllAlike (D.pyL xs)
  able : PySem.W.Sortable (D.pyL xs)
  deep : ∀ d ∈ xs, d.py.depth ≤ 32
def sortedR : RCd := fun ds M Q => match ds with
  | [d] => ∃ xs, rdI M d = some xs ∧ SortOk xs ∧ ∀ p, M p = none → Q (.ref p) (put M p (.lst (srt xs)))
  | _ => False
theorem each_of {H : Hp} : ∀ {xs : List D} {vs : List V} {us : List Value}, RelL H xs vs → Vals vs us → PySem.W.EachIs (fun u d => ∃ v, Rel H d v ∧ RelV v u) us xs
  | [], _, _, h, r => by cases h; cases r; exact .nil
  | _ :: _, _, _, ⟨v, vr, e, h1, h2⟩, r => by
    subst e
    cases r with
    | cons a b => exact .cons ⟨v, h1, a⟩ (each_of h2 b)
theorem of_each {H : Hp} : ∀ {xs : List D} {us : List Value}, PySem.W.EachIs (fun u d => ∃ v, Rel H d v ∧ RelV v u) us xs → ∃ vs, RelL H xs vs ∧ Vals vs us
  | _, _, .nil => ⟨[], .nil, .nil⟩
  | _, _, .cons ⟨v, h1, h2⟩ t => by
    obtain ⟨vs, a, b⟩ := of_each t
    exact ⟨v :: vs, .cons h1 a, .cons h2 b⟩
section
variable {X : Cx}
theorem pureL_mem : ∀ {xs : List D} {d : D}, D.pureL xs = true → d ∈ xs → d.pure = true
  | x :: xs, d, h, hm => by
    simp only [D.pureL, Bool.and_eq_true] at h
    rcases List.mem_cons.mp hm with e | hm
    · rw [e]; exact h.1
    · exact pureL_mem h.2 hm
  | [], _, _, hm => by cases hm
theorem each_reads {pins : List (Addr × Obj)} {σ : St} {H : Hp} {s : Shared} (I : Inv X pins σ H s) {M : Mem} (m : RelM X.K H M) : ∀ {xs : List D} {vs : List V} {us : List Value}, D.pureL xs = true → RelL H xs vs → Vals vs us → PySem.W.EachIs (fun u d => ∃ as, Reads s.heap u (D.py d) as) us xs
  | [], _, _, _, h, r => by cases h; cases r; exact .nil
  | x :: xs, _, _, hp, ⟨v, vr, e, h1, h2⟩, r => by
    subst e
    simp only [D.pureL, Bool.and_eq_true] at hp
    cases r with
    | cons a b => exact .cons (Dp.reads I _ _ _ (PyR.dp m _ _ _ (PyR.of_pure hp.1) h1) a) (each_reads I m hp.2 h2 b)
theorem call_sortedAny (hc : X.calm = true) {k : Nat} (hr : Room k X.A) : CallR X (.builtin "sorted") (lowCR X.K sortedR) := by
  intro pins s σ H zs us Q I rv w
  obtain ⟨ds, M, Q0, r, m, h, kk⟩ := w
  match ds, r, h with
  | [d], r, ⟨xs, e, ok, h⟩ =>
    obtain ⟨v, ez, r1⟩ := one_arg r
    subst ez
    obtain ⟨u, rfl, ru⟩ := vals1 rv
    have un := hr.un
    refine Calls.call_function_entry PyProof.Rows.kind_sorted PyProof.Rows.plain_sorted PyProof.Rows.entry_sorted (PyProof.Rows.args_sorted1 _) ?_
    unfold Builtin.«sorted»
    refine wpAny_bind (m := checkCount "sorted" 1 1 _) (wpAny_pure ?_)
    refine wpAny_bind (collectD (A := X.A.in1) (I.ok.hd hc) I m r1 ru e (Nat.le_of_lt ok.len) fun vs its h' tk rl ri hk => ?_)
    have hl : its.length = xs.length := by rw [← ri.length, rl.length]
    have hz : its.length ≤ sizeLine := by rw [hl]; exact Nat.le_of_lt ok.len
    have I1 : Inv X pins σ H { s with heap := h', toks := tk } := I.kept hk
    refine wpAny_bind (wpAny_newList ?_ hz)
    have hoL : (h'.push (seqObj "list" its.toArray 0)).get? h'.objs.size = some (seqObj "list" its.toArray 0) := Heap.get?_push_size _ rfl
    show wpAny _ _ _ _ _ { s with heap := h'.push (seqObj "list" its.toArray 0), toks := tk }
    -- what the items read as, in the heap in which they are sorted
    have old : ∀ b o, h'.get? b = some o → (PySem.W.sortingHeap (h'.push (seqObj "list" its.toArray 0)) h'.objs.size its).get? b = some o := fun b o q =>
      PySem.W.sortingHeap_old (Nat.ne_of_lt (Heap.lt_size q)) (Heap.get?_push_of_some _ q)
    have I2 : Inv X pins σ H { s with heap := PySem.W.sortingHeap (h'.push (seqObj "list" its.toArray 0)) h'.objs.size its, toks := tk } := I1.kept old
    have rd := each_reads I2 m ok.pure rl ri
    have bnd : ∀ d, d ∈ xs.map D.py → X.A.in1.in1.units + d.depth < cLine := by
      intro p hp
      obtain ⟨d, hd, rfl⟩ := List.mem_map.mp hp
      have := ok.deep d hd
      show X.A.units + 1 + 1 + _ < _
      omega
    have al : PySem.W.AllAlike (xs.map D.py) := by rw [← pyL_map]; exact ok.alike
    have ab : PySem.W.Sortable (xs.map D.py) := by rw [← pyL_map]; exact ok.able
    have S := PySem.W.SortsAt.data (prog := X.prog) (w := X.w) (A := X.A.in1.in1) (s := { s with heap := PySem.W.sortingHeap (h'.push (seqObj "list" its.toArray 0)) h'.objs.size its, toks := tk }) (vs := its) (ds := xs.map D.py)
      (PySem.W.each_map (R := fun v d => ∃ as, Reads (PySem.W.sortingHeap (h'.push (seqObj "list" its.toArray 0)) h'.objs.size its) v d as) D.py rd) al ab bnd
    refine wpAny_bind (wpAny_holding (wpAny_call_entry PyProof.Rows.slot_list_sort ⟨_, hoL, rfl⟩ PyProof.Rows.entry_list_sort
      (PySem.W.list_sort_vals (s := { s with heap := h'.push (seqObj "list" its.toArray 0), toks := tk }) hoL S hz ⟨_, rfl, ?_⟩) (PyProof.Rows.args_list_sort _)))
    have out := PySem.W.sortVals_data (h' := PySem.W.sortingHeap (h'.push (seqObj "list" its.toArray 0)) h'.objs.size its) (R := fun u d => ∃ v, Rel H d v ∧ RelV v u) (enc := D.py) false (each_of rl ri) rd al
    obtain ⟨ws, rw1, rw2⟩ := of_each out
    obtain ⟨e', he'⟩ := PyProof.Rows.sortedHeap_at (vs := its) (out := (PySem.W.sortVals (PySem.W.dataKind (PySem.W.sortingHeap (h'.push (seqObj "list" its.toArray 0)) h'.objs.size its) (xs.map D.py)) false its its).toArray) hoL
    have hp := I1.hok.fresh (Nat.le_refl h'.objs.size)
    have lw : ws.length ≤ sizeLine := by
      rw [rw1.length]
      show (xs.mergeSort _).length ≤ _
      rw [List.length_mergeSort]
      exact Nat.le_of_lt ok.len
    refine wpAny_pure ⟨_, rfl, .ref h'.objs.size, upd H h'.objs.size (.lst ws), I1.laid (t' := tk) (fun b o q => ?_) (Nat.le_refl _) (show ObjOk X.prog X.w _ _ _ (.lst ws) from ⟨lw, _, e', rw2, he'⟩), rfl, ?_⟩
    · have hb : b < h'.objs.size := Heap.lt_size q
      rw [PyProof.Rows.sortedHeap_old (Nat.ne_of_lt hb) (by rw [size_push']; exact Nat.lt_succ_of_lt hb)]
      exact Heap.get?_push_of_some _ q
    · exact kk.newL m hp rw1 h
end
end DL

end T_DLC

section T_DLD
set_option Elab.async false
set_option linter.all false
set_option maxRecDepth 100000
set_option maxHeartbeats 2000000
/-! The D layer, D: dicts made from rows, dicts walked. -/
namespace DL
open PySem PySem.Spec L2
open PyProof.Rows hiding St

section
variable {X : Cx} {pins : List (Addr × Obj)} {σ : St} {H : Hp} {s : Shared}
theorem d_dictSetA {A : Around} {E : Value → Shared → Prop} {Q : Unit → Shared → Prop} {a : Addr} {y v : V} {u r : Value} {H' : Hp} (hu : A.units + 1 < cLine) (I : Inv X pins σ H s) (g : DPut H a y v H') (ry : RelV y u) (rv : RelV v r)
    (h : ∀ s', Inv X pins σ H' s' → Q () s') : wpAny (model X.prog X.w) A (dictSet a u r) Q E s := by
  rcases g with ⟨kvs, k, e, rfl, l, rfl⟩ | ⟨kvs, k, b, e, rfl, eb, l, rfl⟩
  · obtain ⟨z, hd, vs, rel, dd⟩ := dk_of I.hok e
    have hl : (putK kvs k v).length ≤ sizeLine := by have := length_putK kvs k v; omega
    refine wpAny_dictSet_pairs (hsz := by rw [← rel.length]; exact z) (kV_is ry) dd fun h' dd' hs => h _ (d_write I (by rw [e]; trivial) hs ?_ (dk_new hl hd (rel.put k rv) dd'))
    obtain ⟨q, _, _, hq, _⟩ := dd'
    exact ⟨q, hq⟩
  · cases ry
    obtain ⟨z, hd, xs, rel, dd⟩ := dt_of I.hok e
    have hl : (putK kvs k v).length ≤ sizeLine := by have := length_putK kvs k v; omega
    refine wpAny_dictSet_heap (hsz := by rw [← Paired.length rel]; exact z) (show A.units < cLine by omega) (key_of I.hok eb) dd fun h' ⟨q, es, ep, hq, h2, h3, h4, _, h5⟩ hs => h _ ?_
    refine d_write I (by rw [e]; trivial) hs ⟨q, hq⟩ ⟨hl, hd, _, (rel.put k eb rv).keeps fun c ys ec => ?_, q, es, ep, hq, h2, h3, h4, h5⟩
    rw [upd_ne (ne_of ec e (by intro z; cases z)), ec]
/-- a dict from a row: e0 the empty one, of the keys' kind -/
def tDcA (e0 : HO) (wi : TI) (g : TG) (tt : TT) (tk tv : TE) (vs : List Nat) : TE := fun σ H Q => wi σ H fun J H1 => ∀ D, H1 D = none → ∃ W : Nat → Nat → Hp → Prop, (∃ m, W 0 m (upd H1 D e0)) ∧ ∀ i m H, W i m H →
  (J.stop i H ∧ Q (.ref D) H) ∨ (J.go i H ∧ ∃ Nx : Hp → Prop, (∀ H', Nx H' → ∃ m', m' < m ∧ W (i + 1) m' H') ∧ ∀ x H', J.yld i H x H' → g x (L2.wipe σ vs) H' fun σ2 H2 => L2.wipe σ2 vs = L2.wipe σ vs ∧ tt σ2 H2 fun b H3 =>
    if b = true then tk σ2 H3 fun y H4 => tv σ2 H4 fun z H5 => ∃ H6, DPut H5 D y z H6 ∧ Nx H6 else Nx H3)
end
def isE (e0 : HO) : Prop := e0 = .dK [] ∨ e0 = .dT []
theorem empty_ok {P : Program} {w : World} {H : Hp} {h : Heap} {e0 : HO} (he : isE e0) (big : sysModules < h.objs.size) : ObjOk P w H (h.push { cls := .type "dict", data := .dict #[] }) h.objs.size e0 := by
  rcases he with rfl | rfl
  · exact dk_empty h big
  · exact dt_empty h big
section
variable {X : Cx}
theorem pe_dcA {e0 : HO} {kx vx tg iter : Expr} {ifs : List Expr} {scope : Scope} {own : List (Str × Nat)} {pos : Pos} {wi : TI} {g : TG} {tt : TT} {tk tv : TE} (he0 : isE e0) (hu : X.A.units + 1 < cLine) (hc : X.calm = true) (hN : X.N.Nodup)
    (hi : PI X tg iter wi) (ok : BlkOk X.N X.env.scope scope own)
    (hg : ∀ (s : Shared) (H : Hp) (C : Addr) (cl : List (Str × Addr)) (fp : List Addr), PG (X.blk s H scope (compEnvC scope cl C X.env) fp) tg g)
    (ht : ∀ (s : Shared) (H : Hp) (C : Addr) (cl : List (Str × Addr)) (fp : List Addr), PTs (X.blk s H scope (compEnvC scope cl C X.env) fp) ifs tt)
    (hk : ∀ (s : Shared) (H : Hp) (C : Addr) (cl : List (Str × Addr)) (fp : List Addr), PE (X.blk s H scope (compEnvC scope cl C X.env) fp) kx tk)
    (hv : ∀ (s : Shared) (H : Hp) (C : Addr) (cl : List (Str × Addr)) (fp : List Addr), PE (X.blk s H scope (compEnvC scope cl C X.env) fp) vx tv)
    (hs : ∀ x, foldedSetIterable iter X.env x = pure x := by intro _; rfl) : PE X (.DictComp kx vx [⟨tg, iter, ifs, 0⟩] scope pos) (tDcA e0 wi g tt tk tv (own.map (·.2))) := by
  refine ⟨fun pins s σ H Q I h => ?_⟩
  rw [arm_eval_DictComp]
  have free : ∀ y ∈ scope.names, y.2 = .free → ∃ c, X.env.cells.lookup y.1 = some c := fun y hy e => I.ok.has _ (ok.free y hy e)
  refine wpAny_comprehension_free rfl hs (closure_ok free) ok.kind (fun y hy e => by rw [ok.uniq y hy, e]) (thn (hi.run pins s σ H _ I h) fun xv s1 hx => thn hx fun itv s2 h2 => ?_)
  obtain ⟨it, fp, tn, J, H2, rfl, I2, T, st2, f2, q⟩ := h2
  refine wpAny_newObj_type (newEnv_comp ?_)
  have old : ∀ b o, s2.heap.get? b = some o → b < s2.heap.objs.size := fun b o e => Heap.lt_size e
  obtain ⟨d, ed⟩ : ∃ d, s2.heap.objs.size = d := ⟨_, rfl⟩
  rw [ed]
  have dn : H2 d = none := I2.hok.fresh (Nat.le_of_eq ed)
  obtain ⟨W, ⟨m0, w0⟩, turn⟩ := q d dn
  obtain ⟨t3, e3⟩ : ∃ t : Shared, t = { s2 with heap := s2.heap.push { cls := .type "dict", data := .dict #[] } } := ⟨_, rfl⟩
  have hp3 : t3.heap = s2.heap.push { cls := .type "dict", data := .dict #[] } := by rw [e3]
  have I3 : Inv X pins σ (upd H2 d e0) t3 := by
    rw [e3]
    refine I2.laid (t' := s2.toks) (fun b o e => Heap.get?_push_of_some _ e) (Nat.le_of_eq ed) ?_
    rw [← ed]
    exact empty_ok he0 I2.big
  have fps : ∀ b ∈ fp, FpOk X pins (upd H2 d e0) b ∧ b < t3.heap.objs.size := by
    intro b hb
    obtain ⟨o, eo, _⟩ := T.obj _ _ st2 b hb
    have lt := old b o eo
    have ne : b ≠ d := by rw [← ed]; exact Nat.ne_of_lt lt
    exact ⟨⟨by rw [upd_ne ne]; exact (f2 b hb).1, (f2 b hb).2⟩, by rw [hp3, Heap.size_push]; exact Nat.lt_succ_of_lt lt⟩
  have st3 : tn 0 t3.heap := T.keep _ _ _ st2 fun b _ o eo => by rw [hp3]; exact Heap.get?_push_of_some _ eo
  have I4 := block_start I3 ok hN fps
  rw [← e3]
  obtain ⟨cl, ecl⟩ : ∃ cl, cl = cellsFrom (t3.heap.objs.size + 1) scope.names (cloFrom X.env.cells scope.names []) := ⟨_, rfl⟩
  have pg := hg t3 (upd H2 d e0) t3.heap.objs.size cl fp
  have pt := ht t3 (upd H2 d e0) t3.heap.objs.size cl fp
  have pk := hk t3 (upd H2 d e0) t3.heap.objs.size cl fp
  have pv := hv t3 (upd H2 d e0) t3.heap.objs.size cl fp
  rw [← ecl] at I4
  have nfp : ∀ b ∈ fp, (upd H2 d e0) b = none := fun b hb => (fps b hb).1.1
  show codeAny _ _ (.compStart (.DictComp kx vx [⟨tg, iter, ifs, 0⟩] scope pos) 0 (.ref it) (.ref d) (compEnvC scope (cellsFrom (t3.heap.objs.size + 1) scope.names (cloFrom X.env.cells scope.names [])) t3.heap.objs.size X.env)) (compPost (model X.prog X.w) X.A X.xe _ _ (.ref d) t3.heap.objs.size) { t3 with heap := pushCells (t3.heap.push { cls := .type "dict", data := .dict #[] }) scope.names }
  rw [← ecl]
  obtain ⟨ce, ece⟩ : ∃ ce, ce = compEnvC scope cl t3.heap.objs.size X.env := ⟨_, rfl⟩
  rw [← ece] at I4 pg pt pk pv ⊢
  have ceL : ce.locals = t3.heap.objs.size := by rw [ece]; rfl
  obtain ⟨H3, eH3⟩ : ∃ H3, H3 = upd H2 d e0 := ⟨_, rfl⟩
  rw [← eH3] at I3 I4 pg pt pk pv w0 nfp fps
  obtain ⟨t4, e4⟩ : ∃ t : Shared, t = { t3 with heap := pushCells (t3.heap.push { cls := .type "dict", data := .dict #[] }) scope.names } := ⟨_, rfl⟩
  rw [← e4] at I4 ⊢
  have st4 : tn 0 t4.heap := T.keep _ _ _ st3 fun b _ o eo => by rw [e4]; exact pushCells_keeps _ _ _ _ (Heap.get?_push_of_some _ eo)
  have stat : ∀ {σ' : St} {H' : Hp} {s' : Shared}, Inv (X.blk t3 H3 scope ce fp) [] σ' H' s' → (∀ b ∈ fp, H' b = none) → ∀ b ∈ fp, FpOk (X.blk t3 H3 scope ce fp) [] H' b := fun {σ' H' s'} J nn b hb =>
    ⟨nn b hb, (J.ok.exf b hb).1, J.ok.exfs b hb, .inl hb, fun x c e => (J.ok.exf b hb).2 x c e, fun p hp => by cases (show p ∈ ([] : List (Addr × Obj)) from hp)⟩
  have loop : codeAny (model X.prog X.w) X.A (.compLoop (.DictComp kx vx [⟨tg, iter, ifs, 0⟩] scope pos) 0 (.ref it) (.ref d) ce) (compPost (model X.prog X.w) X.A X.xe Option.none (EP X pins σ Q) (.ref d) t3.heap.objs.size) t4 := by
    refine compLoop_anyD (fun n s' => ∃ i H', Inv (X.blk t3 H3 scope ce fp) [] (L2.wipe σ (own.map (·.2))) H' s' ∧ tn i s'.heap ∧ (∀ b ∈ fp, H' b = none) ∧ W i n H') ?_ m0 ⟨0, H3, I4, st4, nfp, w0⟩
    rintro n s5 ⟨i, H5, I5, st5, n5, w5⟩
    rcases turn i n H5 w5 with ⟨stop, qq⟩ | ⟨go, Nx, hNx, step⟩
    · refine thnF (T.done (X.blk t3 H3 scope ce fp) rfl rfl rfl hc i [] s5 _ H5 (fun _ _ => False) I5 (stat I5 n5) st5 stop) fun r s6 ⟨er, I6⟩ => ?_
      subst er
      have I7 : Inv X pins σ H5 s6 := I3.call' (ch := fp) I6.os I6.base I6.hok I6.bare fun b hb => ⟨(fps b hb).1.2.2.2.1, (fps b hb).1.2.1, (fps b hb).1.2.2.2.2.1, (fps b hb).1.2.2.2.2.2⟩
      have nC : H5 t3.heap.objs.size = none := by rw [← ceL]; exact I6.free
      obtain ⟨mm, ns, _⟩ := I6.loc
      have ns : s6.heap.Ns t3.heap.objs.size mm := by rw [← ceL]; exact ns
      obtain ⟨g0, g1, g2, g3, g4, g5⟩ := I3.fpOk (Nat.le_refl _) nC
      exact ⟨mm, ns, fun h'' sb => ⟨.ref d, H5, I7.turned (t' := s6.toks) (fun b o hb e => (sb.2 b hb).trans e) g0 g1 g3 g4 g5, rfl, qq⟩⟩
    · refine thnF (T.item (X.blk t3 H3 scope ce fp) rfl rfl rfl hc i [] s5 _ H5 (fun _ _ => False) I5 (stat I5 n5) st5 go) fun r s6 ⟨u, er, h6⟩ => ?_
      subst er
      refine thnF h6 fun _ s7 ⟨x, H7, I7, r7, y7, st7, n7⟩ => ?_
      refine thnF (pg.run _ s7 _ H7 x u _ (I7.pinned (stat I7 n7) (T.obj _ _ st7)) r7 (step x H7 y7)) fun _ s8 ⟨σ8, H8, I8, hw8, q8⟩ => ?_
      refine thnF (pt.run _ s8 σ8 H8 _ I8 q8) fun b s9 ⟨H9, I9, q9⟩ => ?_
      have fin : ∀ {s' : Shared} {H' : Hp}, Inv (X.blk t3 H3 scope ce fp) ([] ++ pinsAt fp s7.heap) σ8 H' s' → Nx H' →
          ∃ m, m < n ∧ ∃ i H', Inv (X.blk t3 H3 scope ce fp) [] (L2.wipe σ (own.map (·.2))) H' s' ∧ tn i s'.heap ∧ (∀ b ∈ fp, H' b = none) ∧ W i m H' := by
        intro s' H' I' nx
        obtain ⟨m', lt, w'⟩ := hNx H' nx
        have pin' : ∀ b ∈ fp, ∀ o, s7.heap.get? b = some o → s'.heap.get? b = some o ∧ H' b = none := fun b hb o e => by
          have z := I'.pin (b, o) (List.mem_append_right _ (List.mem_append_right _ (mem_pinsAt hb e)))
          exact ⟨z.1, z.2.1⟩
        refine ⟨m', lt, i + 1, H', (I'.unpinned (pins := [])).weak (by rw [← hw8, wipe_length]) (fun j v e => ?_), T.keep _ _ _ st7 fun b hb o e => (pin' b hb o e).1, fun b hb => ?_, w'⟩
        · rw [← hw8] at e
          exact (wipe_some e).1
        · obtain ⟨o, e, _⟩ := T.obj _ _ st7 b hb
          exact (pin' b hb o e).2
      cases b with
      | false => exact fin I9 q9
      | true =>
        refine thnF (pk.run _ s9 σ8 H9 _ I9 q9) fun z s10 ⟨yk, H10, I10, r10, q10⟩ => ?_
        refine thnF (pv.run _ s10 σ8 H10 _ I10 q10) fun z2 s11 ⟨yv, H11, I11, r11, H12, dp, nx⟩ => ?_
        exact d_dictSetA (X := X.blk t3 H3 scope ce fp) hu I11 dp r10 r11 fun s12 I12 => fin I12 nx
  exact codeAny_compStart_dict loop (T.self X.A 0 _ _ _ st4 loop)
end
end DL

end T_DLD

section T_DLE
set_option Elab.async false
set_option linter.all false
set_option maxRecDepth 100000
set_option maxHeartbeats 2000000
/-! The D layer, E: dict comprehensions, dicts walked under a lock, list(d), dict(pairs). -/
namespace DL
open PySem PySem.Spec L2
open PyProof.Rows hiding St

/-- a dict; of tuple keys (true) or others -/
def dX : Bool → List (D × D) → DO
  | false, kvs => .dK kvs
  | true, kvs => .dT kvs
def dE : Bool → HO
  | false => .dK []
  | true => .dT []
theorem dE_is (t : Bool) : isE (dE t) := by cases t <;> simp [dE, isE]
theorem dX_new {K : PySem.W.Frag} {H : Hp} {M : Mem} {p : Addr} (t : Bool) (m : RelM K H M) (h : H p = none) : RelM K (upd H p (dE t)) (put M p (dX t [])) := by
  cases t with
  | false => exact m.new (d := .dK []) h ⟨[], upd_same, .nil⟩
  | true => exact m.new (d := .dT []) h ⟨[], upd_same, .nil⟩
theorem dput_low {K : PySem.W.Frag} {H : Hp} {M : Mem} {p : Addr} {t : Bool} {acc : List (D × D)} {k d : D} {y z : V} (m : RelM K H M) (e : M p = some (dX t acc)) (hk : isKey t k = true) (hl : acc.length < sizeLine) (ry : Rel H k y) (rz : Rel H d z) :
    ∃ H6, DPut H p y z H6 ∧ Tle H H6 ∧ RelM K H6 (put M p (dX t (dput acc k d))) := by
  cases t with
  | false =>
    obtain ⟨hv, q, rl⟩ := m p _ e
    obtain ⟨key, ek⟩ := Option.isSome_iff_exists.mp (show (keyOf k).isSome = true by cases k <;> exact hk)
    have ed := keyOf_eq ek
    subst ed
    have tw : Tle H (upd H p (.dK (putK hv key z))) := .write q fun xs z => nomatch z
    have el : acc.length = hv.length := Paired.length rl
    have ei := kD_rel ry
    subst ei
    exact ⟨_, DPut.k q (by omega), tw, m.write (d := .dK (dput acc (kD key) d)) q (fun xs z => nomatch z) ⟨_, upd_same, RelKv.tle tw (dput_gen (f := kD) (fun _ _ => kD_inj) key rz rl)⟩⟩
  | true =>
    obtain ⟨hv, q, rl⟩ := m p _ e
    cases k with
    | tup ds =>
      obtain ⟨key, ek⟩ := Option.isSome_iff_exists.mp (show (keysOf ds).isSome = true from hk)
      have ed := keysOf_eq ek
      subst ed
      obtain ⟨b, vs, ey, qb, rb⟩ := ry
      subst ey
      rw [kD_relL rb] at qb
      have tw : Tle H (upd H p (.dT (putK hv key z))) := .write q fun xs z => nomatch z
      have el : acc.length = hv.length := Paired.length rl
      exact ⟨_, DPut.t q qb (by omega), tw, m.write (d := .dT (dput acc (.tup (key.map kD)) d)) q (fun xs z => nomatch z) ⟨_, upd_same, RelTv.tle tw (dput_gen (κ := List Key) (f := fun k => D.tup (k.map kD)) tK_inj key rz rl)⟩⟩
    | _ => cases hk
/-- {k: v for .. in ..} -/
def tdc (b : Bool) (ti : TId) (g : TGd) (tt : TTd) (tk tv : TEd) (vs : List Nat) : TEd := fun ρ M Q => ti ρ M fun items ok M1 => ∀ p, M1 p = none → ∃ W : Nat → List (D × D) → Mem → Prop, W 0 [] (put M1 p (dX b [])) ∧
  ∀ i acc M, i ≤ items.length → W i acc M → ok M ∧ (match items[i]? with
    | none => Q (.ref p) M
    | some x => g x (wiped ρ vs) M fun ρ2 M2 => tt ρ2 M2 fun c M3 => if c = true then tk ρ2 M3 fun k M4 => tv ρ2 M4 fun y M5 => M5 p = some (dX b acc) ∧ isKey b k = true ∧ acc.length < sizeLine ∧ W (i + 1) (dput acc k y) (put M5 p (dX b (dput acc k y)))
      else W (i + 1) acc M3)
theorem tdc_low {K : PySem.W.Frag} {b : Bool} {ti : TId} {g : TGd} {tt : TTd} {tk tv : TEd} {vs js : List Nat} (hj : ∀ i ∈ js, i ∈ vs) (σ : St) (H : Hp) (Q : VK) (h : lowE K (tdc b ti g tt tk tv vs) σ H Q) :
    tDcA (dE b) (lowI K ti) (lowG K js g) (lowT K tt) (lowE K tk) (lowE K tv) vs σ H Q := by
  obtain ⟨ρ, M, Q0, re, rm, h, k⟩ := h
  refine ⟨ρ, M, _, re, rm, h, fun J H1 items ok M1 t1 m1 rel h1 => ?_⟩
  intro p hp
  obtain ⟨W, w0, turn⟩ := h1 p (m1.fresh hp)
  have tp : Tle H1 (upd H1 p (dE b)) := .new hp
  refine ⟨fun i m H' => m + i = items.length ∧ ∃ acc M', Tle H1 H' ∧ RelM K H' M' ∧ W i acc M', ⟨items.length, rfl, [], _, tp, dX_new b m1 hp, w0⟩, fun i m H2 w2 => ?_⟩
  obtain ⟨em, acc, M2, t2, m2, w2⟩ := w2
  obtain ⟨hok, ht⟩ := turn i acc M2 (by omega) w2
  by_cases hi : i < items.length
  · rw [List.getElem?_eq_getElem hi] at ht
    refine .inr ⟨rel.go i H2 M2 t2 m2 hok hi, fun H' => ∃ acc M', Tle H1 H' ∧ RelM K H' M' ∧ W (i + 1) acc M', fun H' q => ⟨m - 1, by omega, by omega, q⟩, fun x H3 y => ?_⟩
    obtain ⟨t3, m3, r3⟩ := rel.yld i H2 M2 x H3 _ t2 m2 hok (List.getElem?_eq_getElem hi) y
    have re3 : RelE H3 (wiped ρ vs) (L2.wipe σ vs) := (re.tle ((t1.trans t2).trans t3)).wipe vs
    refine ⟨_, _, M2, _, r3, re3, m3, ht, fun σ4 H4 ρ4 M4 so t4 re4 m4 h4 => ?_⟩
    have e4 : L2.wipe σ4 vs = L2.wipe σ vs := (so vs hj).trans (by
      apply List.ext_getElem?
      intro j
      rw [wipe_get, wipe_get]
      by_cases hj : j ∈ vs
      · simp only [if_pos hj, wipe_get]
        cases σ[j]? <;> simp
      · simp only [if_neg hj, wipe_get])
    refine ⟨e4, ρ4, M4, _, re4, m4, h4, fun c H5 M5 t5 m5 h5 => ?_⟩
    cases c with
    | true =>
      refine ⟨ρ4, M5, _, re4.tle t5, m5, h5, fun y H6 dy M6 t6 r6 m6 h6 => ⟨ρ4, M6, _, re4.tle (t5.trans t6), m6, h6, fun z H7 dz M7 t7 r7 m7 h7 => ?_⟩⟩
      obtain ⟨e7, hk, l7, w7⟩ := h7
      obtain ⟨H8, dp, t8, m8⟩ := dput_low m7 e7 hk l7 (r6.tle t7) r7
      exact ⟨H8, dp, _, _, (((((t2.trans t3).trans t4).trans t5).trans t6).trans t7).trans t8, m8, w7⟩
    | false => exact ⟨_, _, ((t2.trans t3).trans t4).trans t5, m5, h5⟩
  · have e : i = items.length := by omega
    subst e
    rw [List.getElem?_eq_none (Nat.le_refl _)] at ht
    exact .inl ⟨rel.stop H2 M2 t2 m2 hok, (k.tle t1).ref t2 m2 ht⟩
section
variable {X : Cx} {kx vx tg iter : Expr} {ifs : List Expr} {scope : Scope} {own : List (Str × Nat)} {pos : Pos} {ti : TId} {g : TGd} {js : List Nat} {tt : TTd} {tk tv : TEd}
theorem ped_dc (b : Bool) (hu : X.A.units + 1 < cLine) (hc : X.calm = true) (hN : X.N.Nodup) (hi : PId X tg iter ti) (ok : BlkOk X.N X.env.scope scope own) (hj : ∀ i ∈ js, i ∈ own.map (·.2))
    (hg : ∀ (s : Shared) (H : Hp) (C : Addr) (cl : List (Str × Addr)) (fp : List Addr), PGd (X.blk s H scope (compEnvC scope cl C X.env) fp) tg js g) (ht : ∀ (s : Shared) (H : Hp) (C : Addr) (cl : List (Str × Addr)) (fp : List Addr), PTsd (X.blk s H scope (compEnvC scope cl C X.env) fp) ifs tt)
    (hk : ∀ (s : Shared) (H : Hp) (C : Addr) (cl : List (Str × Addr)) (fp : List Addr), PEd (X.blk s H scope (compEnvC scope cl C X.env) fp) kx tk) (hv : ∀ (s : Shared) (H : Hp) (C : Addr) (cl : List (Str × Addr)) (fp : List Addr), PEd (X.blk s H scope (compEnvC scope cl C X.env) fp) vx tv)
    (hs : ∀ x, foldedSetIterable iter X.env x = pure x := by intro _; rfl) : PEd X (.DictComp kx vx [⟨tg, iter, ifs, 0⟩] scope pos) (tdc b ti g tt tk tv (own.map (·.2))) :=
  .of (pe_dcA (dE_is b) hu hc hN hi.pi ok (fun s H C cl fp => (hg s H C cl fp).pg) (fun s H C cl fp => (ht s H C cl fp).pt) (fun s H C cl fp => (hk s H C cl fp).pe) (fun s H C cl fp => (hv s H C cl fp).pe) hs) (tdc_low hj)
end

/-! ### while a dict is walked -/
def isF (b : Bool) (kvs : List (D × D)) : DO → Prop
  | .fK _ _ l => b = false ∧ l = kvs
  | .fT _ _ l => b = true ∧ l = kvs
  | _ => False
def tlock (t : TSd) : TSd := fun D ρ M => ∃ a b kvs, M a = some (dX b kvs) ∧ ∀ f, isF b kvs f → t ⟨fun ρ' M' => M' a = some f ∧ D.nx ρ' (put M' a (dX b kvs)), fun v M' => M' a = some f ∧ D.rt v (put M' a (dX b kvs)), fun ρ' M' => M' a = some f ∧ D.bk ρ' (put M' a (dX b kvs)),
  fun ρ' M' => M' a = some f ∧ D.ct ρ' (put M' a (dX b kvs))⟩ ρ (put M a f)
def tlockE (t : TEd) : TEd := fun ρ M Q => ∃ a b kvs, M a = some (dX b kvs) ∧ ∀ f, isF b kvs f → t ρ (put M a f) fun v M' => M' a = some f ∧ Q v (put M' a (dX b kvs))
theorem lock_in {K : PySem.W.Frag} {H : Hp} {M : Mem} {a : Addr} {b : Bool} {kvs : List (D × D)} (m : RelM K H M) (e : M a = some (dX b kvs)) :
    ∃ u, H a = some u ∧ L2.Mut (some u) ∧ ∀ od, ∃ f, isF b kvs f ∧ Tle H (upd H a (.frz od u)) ∧ RelM K (upd H a (.frz od u)) (put M a f) ∧
      ∀ H' M', RelM K H' M' → M' a = some f → H' a = some (.frz od u) ∧ Tle H' (upd H' a u) ∧ RelM K (upd H' a u) (put M' a (dX b kvs)) := by
  cases b with
  | false =>
    obtain ⟨hv, q, rl⟩ := m a _ e
    refine ⟨_, q, trivial, fun od => ?_⟩
    have tw : Tle H (upd H a (.frz od (.dK hv))) := .write q fun xs z => nomatch z
    refine ⟨.fK od hv kvs, ⟨rfl, rfl⟩, tw, m.write (d := .fK od hv kvs) q (fun xs z => nomatch z) ⟨upd_same, RelKv.tle tw rl⟩, fun H' M' m' e' => ?_⟩
    obtain ⟨q', rl'⟩ := m' a _ e'
    have tv : Tle H' (upd H' a (.dK hv)) := .write q' fun xs z => nomatch z
    exact ⟨q', tv, m'.write (d := .dK kvs) q' (fun xs z => nomatch z) ⟨hv, upd_same, RelKv.tle tv rl'⟩⟩
  | true =>
    obtain ⟨hv, q, rl⟩ := m a _ e
    refine ⟨_, q, trivial, fun od => ?_⟩
    have tw : Tle H (upd H a (.frz od (.dT hv))) := .write q fun xs z => nomatch z
    refine ⟨.fT od hv kvs, ⟨rfl, rfl⟩, tw, m.write (d := .fT od hv kvs) q (fun xs z => nomatch z) ⟨upd_same, RelTv.tle tw rl⟩, fun H' M' m' e' => ?_⟩
    obtain ⟨q', rl'⟩ := m' a _ e'
    have tv : Tle H' (upd H' a (.dT hv)) := .write q' fun xs z => nomatch z
    exact ⟨q', tv, m'.write (d := .dT kvs) q' (fun xs z => nomatch z) ⟨hv, upd_same, RelTv.tle tv rl'⟩⟩
section
variable {X : Cx}
theorem psd_lock {st : Stmt} {t : TSd} (h : PSd X st t) : PSd X st (tlock t) := by
  refine .of (ps_lock h.ps) fun D σ H w => ?_
  obtain ⟨ρ, M, E0, re, rm, ⟨a, b, kvs, e, h⟩, k⟩ := w
  obtain ⟨u, q, mu, lk⟩ := lock_in rm e
  refine ⟨a, u, q, mu, fun od => ?_⟩
  obtain ⟨f, hf, t1, m1, back⟩ := lk od
  refine ⟨ρ, put M a f, _, re.tle t1, m1, h f hf, ?_⟩
  have side : ∀ {Q0 : Envd → Mem → Prop} {Q : St → Hp → Prop}, lowN X.K H Q0 Q → lowN X.K (upd H a (.frz od u)) (fun ρ' M' => M' a = some f ∧ Q0 ρ' (put M' a (dX b kvs))) (fun σ' H' => H' a = some (.frz od u) ∧ Q σ' (upd H' a u)) := fun {Q0 Q} hh σ' H' ρ' M' t2 r2 m2 q2 => by
    obtain ⟨q3, t3, m3⟩ := back H' M' m2 q2.1
    exact ⟨q3, hh σ' _ ρ' _ ((t1.trans t2).trans t3) (r2.tle t3) m3 q2.2⟩
  refine ⟨side k.nx, fun v H' d M' t2 r2 m2 q2 => ?_, side k.bk, side k.ct⟩
  obtain ⟨q3, t3, m3⟩ := back H' M' m2 q2.1
  exact ⟨q3, k.rt v _ d _ ((t1.trans t2).trans t3) (r2.tle t3) m3 q2.2⟩
theorem ped_lock {x : Expr} {t : TEd} (h : PEd X x t) : PEd X x (tlockE t) := by
  refine .of (pe_lock h.pe) fun σ H Q w => ?_
  obtain ⟨ρ, M, Q0, re, rm, ⟨a, b, kvs, e, h⟩, k⟩ := w
  obtain ⟨u, q, mu, lk⟩ := lock_in rm e
  refine ⟨a, u, q, mu, fun od => ?_⟩
  obtain ⟨f, hf, t1, m1, back⟩ := lk od
  refine ⟨ρ, put M a f, _, re.tle t1, m1, h f hf, fun v H' d M' t2 r2 m2 q2 => ?_⟩
  obtain ⟨q3, t3, m3⟩ := back H' M' m2 q2.1
  exact ⟨q3, k v _ d _ ((t1.trans t2).trans t3) (r2.tle t3) m3 q2.2⟩
/-- the keys of a locked dict -/
def ikeys (td : TEd) : TId := fun ρ M R => td ρ M fun x M1 => match x with
  | .ref a => (match M1 a with
    | some (.fK o hv kvs) => R (kvs.map (·.1)) (fun M => M a = some (.fK o hv kvs)) M1
    | some (.fT o hv kvs) => R (kvs.map (·.1)) (fun M => M a = some (.fT o hv kvs)) M1
    | _ => False)
  | _ => False
theorem paired_at {α β : Type} {F : α → β → Prop} : ∀ {l : List α} {r : List β} {i : Nat} {x : α}, Paired F l r → l[i]? = some x → ∃ y, r[i]? = some y ∧ F x y
  | _, _, _, _, .nil, e => by simp at e
  | _, _, 0, _, .cons h t, e => by simp at e; subst e; exact ⟨_, rfl, h⟩
  | _, _, i + 1, _, .cons h t, e => by
    obtain ⟨y, a, b⟩ := paired_at (i := i) t (by simpa using e)
    exact ⟨y, by simpa using a, b⟩
theorem pid_keys {tg e : Expr} {td : TEd} (he : PEd X e td) : PId X tg e (ikeys td) := by
  refine .of (pi_keys he.pe) fun σ H R h => ?_
  obtain ⟨ρ, M, R0, re, rm, h, k⟩ := h
  refine ⟨ρ, M, _, re, rm, h, fun x H1 dx M1 t1 r1 m1 h1 => ?_⟩
  cases dx with
  | ref a =>
    cases r1
    have h2 : (match M1 a with
      | some (.fK o hv kvs) => R0 (kvs.map (·.1)) (fun M => M a = some (.fK o hv kvs)) M1
      | some (.fT o hv kvs) => R0 (kvs.map (·.1)) (fun M => M a = some (.fT o hv kvs)) M1
      | _ => False) := h1
    split at h2
    · rename_i o hv kvs e1
      obtain ⟨q, rl⟩ := m1 a _ e1
      have ll : kvs.length = hv.length := Paired.length rl
      refine ⟨a, o, rfl, .inl ⟨hv, q, k (Itk a o hv) H1 _ _ M1 t1 m1 ⟨fun i H M _ m ok hi => ?_, fun H M _ m ok => ?_, fun i H M x H' d t m ok hd y => ?_⟩ h2⟩⟩
      · obtain ⟨q, _⟩ := m a _ ok
        exact ⟨q, by rw [List.length_map] at hi; omega⟩
      · obtain ⟨q, _⟩ := m a _ ok
        exact ⟨q, by rw [List.length_map]; omega⟩
      · obtain ⟨e2, kk, v, e3, e4⟩ := y
        subst e2 e4
        refine ⟨.refl, m, ?_⟩
        rw [List.getElem?_map] at hd
        obtain ⟨p, ep, ed⟩ := Option.map_eq_some_iff.mp hd
        obtain ⟨y, ey, f1, f2⟩ := paired_at rl ep
        rw [e3] at ey
        cases ey
        rw [← ed, f1]
        show Rel H' (kD kk) (kV kk)
        cases kk <;> rfl
    · rename_i o hv kvs e1
      obtain ⟨q, rl⟩ := m1 a _ e1
      have ll : kvs.length = hv.length := Paired.length rl
      refine ⟨a, o, rfl, .inr ⟨hv, q, k (Itkt a o hv) H1 _ _ M1 t1 m1 ⟨fun i H M _ m ok hi => ?_, fun H M _ m ok => ?_, fun i H M x H' d t m ok hd y => ?_⟩ h2⟩⟩
      · obtain ⟨q, _⟩ := m a _ ok
        exact ⟨q, by rw [List.length_map] at hi; omega⟩
      · obtain ⟨q, _⟩ := m a _ ok
        exact ⟨q, by rw [List.length_map]; omega⟩
      · obtain ⟨e2, kk, v, b, e3, e4, e5⟩ := y
        subst e2 e4
        refine ⟨.refl, m, ?_⟩
        rw [List.getElem?_map] at hd
        obtain ⟨p, ep, ed⟩ := Option.map_eq_some_iff.mp hd
        obtain ⟨y, ey, f1, f2⟩ := paired_at rl ep
        rw [e3] at ey
        cases ey
        rw [← ed, f1]
        exact ⟨b, _, rfl, e5, relL_keys kk⟩
    · exact h2.elim
  | _ => exact h1.elim

/-! ### list(d) -/
def listIR : RCd := fun ds M Q => match ds with
  | [d] => ∃ xs, rdI M d = some xs ∧ xs.length ≤ sizeLine ∧ ∀ p, M p = none → Q (.ref p) (put M p (.lst xs))
  | _ => False
theorem call_list_dKr (hc : X.calm = true) : CallR X (.type "list") (fun xs H Q => ∃ p kvs, xs = [.ref p] ∧ Rd H p (.dK kvs) ∧ ∀ q, H q = none → Q (.ref q) (upd H q (.lst (kvs.map fun kv => kV kv.1)))) := L2.call_listD hc
theorem call_listI (hc : X.calm = true) : CallR X (.type "list") (lowCR X.K listIR) := by
  refine CallR.mono ((call_list_of.or (L2.call_listD hc)).or (call_list_dT hc)) fun zs H Q w => ?_
  obtain ⟨ds, M, Q0, r, m, h, k⟩ := w
  match ds, r, h with
  | [d], r, ⟨xs, ex, lx, h⟩ =>
    obtain ⟨v, e, r1⟩ := one_arg r
    subst e
    cases d with
    | tup ys =>
      cases ex
      obtain ⟨a, vs, ev, q, rl⟩ := r1
      subst ev
      exact .inl (.inl ⟨a, vs, rfl, .inr (.of q), fun l hl => k.newL m hl rl h⟩)
    | ref a =>
      cases r1
      have e' : (match M a with
        | some (.lst xs) => some xs
        | some (.ro xs) => some xs
        | some (.dK kvs) => some (kvs.map (·.1))
        | some (.fK _ _ kvs) => some (kvs.map (·.1))
        | some (.dT kvs) => some (kvs.map (·.1))
        | some (.fT _ _ kvs) => some (kvs.map (·.1))
        | _ => none) = some xs := ex
      split at e'
      · rename_i ys em; cases e'; obtain ⟨vs, q, rl⟩ := m.rdL (rdL_lst em); exact .inl (.inl ⟨a, vs, rfl, .inl q, fun l hl => k.newL m hl rl h⟩)
      · rename_i ys em; cases e'; obtain ⟨vs, q, rl⟩ := m.rdL (rdL_ro em); exact .inl (.inl ⟨a, vs, rfl, .inl q, fun l hl => k.newL m hl rl h⟩)
      · rename_i ys em; cases e'; obtain ⟨hv, q, rl⟩ := m a _ em; exact .inl (.inr ⟨a, hv, rfl, .inl q, fun l hl => k.newL m hl (keys_relK rl) h⟩)
      · rename_i o hv ys em; cases e'; obtain ⟨q, rl⟩ := m a _ em; exact .inl (.inr ⟨a, hv, rfl, .inr ⟨o, q⟩, fun l hl => k.newL m hl (keys_relK rl) h⟩)
      · rename_i ys em; cases e'; obtain ⟨hv, q, rl⟩ := m a _ em; exact .inr ⟨a, hv, rfl, .inl q, fun l bs hl hb => k.newL m hl (keys_relT rl hb) h⟩
      · rename_i o hv ys em; cases e'; obtain ⟨q, rl⟩ := m a _ em; exact .inr ⟨a, hv, rfl, .inr ⟨o, q⟩, fun l bs hl hb => k.newL m hl (keys_relT rl hb) h⟩
      · cases e'
    | _ => cases ex
end
end DL

end T_DLE

section T_DLF
set_option Elab.async false
set_option linter.all false
set_option maxRecDepth 100000
set_option maxHeartbeats 2000000
/-! The D layer, F: dict(xs) of a list of pairs, keys of any kind. -/
namespace DL
open PySem PySem.Spec L2
open PyProof.Rows hiding St

def prsOf : List D → Option (List (D × D))
  | [] => some []
  | .tup [k, y] :: r => (prsOf r).map ((k, y) :: ·)
  | _ => none
theorem prsOf_cons {xs : List D} {ps : List (D × D)} {x : D} (h : prsOf (x :: xs) = some ps) : ∃ k y r, x = .tup [k, y] ∧ ps = (k, y) :: r ∧ prsOf xs = some r := by
  cases x with
  | tup zs =>
    match zs, h with
    | [k, y], h =>
      simp only [prsOf] at h
      obtain ⟨r, e1, e2⟩ := Option.map_eq_some_iff.mp h
      exact ⟨k, y, r, rfl, e2.symm, e1⟩
    | [], h => simp [prsOf] at h
    | [_], h => simp [prsOf] at h
    | _ :: _ :: _ :: _, h => simp [prsOf] at h
  | _ => simp [prsOf] at h
theorem dput_len (kvs : List (D × D)) (k d : D) : (dput kvs k d).length ≤ kvs.length + 1 := by
  unfold dput
  split
  · rw [List.length_map]; omega
  · simp
theorem rdL_put {M : Mem} {l p : Addr} {xs : List D} {o : DO} (h : rdL M l = some xs) (ne : l ≠ p) : rdL (put M p o) l = some xs := by
  unfold rdL
  rw [put_ne ne]
  exact h
theorem rdL_dX {M : Mem} {a : Addr} {b : Bool} {kvs : List (D × D)} (h : M a = some (dX b kvs)) : rdL M a = none := by
  unfold rdL
  rw [h]
  cases b <;> rfl
section
variable {X : Cx} {pins : List (Addr × Obj)} {σ : St}
theorem dict_walk {A : Around} {R : Result → Shared → Prop} {S I l : Addr} {b : Bool} {xs : List D} {res : Value} (hh : A.handled = none) (hu : A.units + 2 < cLine) (hSI : S ≠ I) (fI : ∀ H' : Hp, H' I = none → FpOk X pins H' I) :
    ∀ (ps : List (D × D)) (i : Nat) (acc : List (D × D)) (M : Mem) (H : Hp) (ix : Int) (t : Tok) (s : Shared), prsOf (xs.drop i) = some ps → i ≤ xs.length → rdL M l = some xs → M S = some (dX b acc) → (∀ p ∈ ps, isKey b p.1 = true) →
      acc.length + ps.length < sizeLine → Inv X pins σ H s → RelM X.K H M → H I = none → s.heap.IsListIter I l i →
      (∀ H' s', Tle H H' → Inv X pins σ H' s' → RelM X.K H' (put M S (dX b (mergeD acc ps))) → R (.ok (.ret res)) s') →
      codeAny (model X.prog X.w) A (.builtin "dict.update.loop" ⟨[.ref S, .ref I, .int ix t, res], []⟩) R s
  | ps, i, acc, M, H, ix, t, s, hp, hi, hl, hS, hk, hz, J, m, hI, it, hR => by
    have lS : l ≠ S := fun e => by rw [e, rdL_dX hS] at hl; cases hl
    obtain ⟨vs, sq, rl⟩ := m.rdL hl
    obtain ⟨its, rv, ⟨o, n, ho, hc, _, hd⟩, _⟩ := J.list sq
    have lI : l ≠ I := fun e => by
      obtain ⟨q, q1, q2, _⟩ := id it
      rw [← e, ho] at q1
      cases q1
      rw [hc] at q2
      exact absurd (Value.type.inj q2) (by decide)
    have L0 : s.heap.IsList l its.toArray := ⟨o, ho, hc, n, hd⟩
    have len : its.length = xs.length := by rw [← rv.length, rl.length]
    obtain ⟨f0, f1, f2, f3, f4, f5⟩ := fI H hI
    refine codeAny_builtin ud_entry ?_
    rw [Around.under_plainId ud_plain _]
    show wpAny _ A.in1 (pyNext (.ref I) >>= _) _ _ s
    by_cases hlt : i < xs.length
    · rw [List.drop_eq_getElem_cons hlt] at hp
      obtain ⟨k, y, r, ex, rfl, hp'⟩ := prsOf_cons hp
      have gx : xs[i]? = some (.tup [k, y]) := by rw [List.getElem?_eq_getElem hlt, ex]
      obtain ⟨v, gv, relv⟩ := rl.get gx
      obtain ⟨u, gu, ru⟩ := rv.get gv
      obtain ⟨a, ws, ev, ta, rw2⟩ := relv
      subst ev
      cases ru
      obtain ⟨vk, vy, ews, rk, ry⟩ := two_arg rw2
      subst ews
      refine wpAny_bind (wpAny_pyNext_list_item (x := .ref a) it L0 (by simpa using gu) fun h1 it1 hs1 => ?_)
      have J1 : Inv X pins σ H { s with heap := h1 } := J.turned (t' := s.toks) (fun b ob hb e => (hs1.2 b hb).trans e) f0 f1 f3 f4 f5
      obtain ⟨_, tits, rt, to, t1, t2, tn, t3⟩ := J1.hok a _ ta
      obtain ⟨uk, uy, e2, ruk, ruy⟩ := vals2 rt
      subst e2
      show wpAny _ A.in1 (holding [Value.ref a] _ >>= _) _ _ _
      refine wpAny_bind (wpAny_holding ?_)
      refine wpAny_bind (wpAny_tryCatch ?_)
      unfold Builtin.Dict.pairItems
      refine wpAny_bind (wpAny_typeOf (T := "tuple") ⟨to, t1, t2⟩ ?_)
      rw [if_pos (by first | decide | rfl | simp)]
      refine wpAny_bind (wpAny_seqItems t1 t3 (wpAny_pure ?_))
      show wpAny _ A.in1 (holding [uk, uy] (dictSet S uk uy)) _ _ _
      simp only [List.length_cons] at hz
      obtain ⟨H2, dp, t2', m2⟩ := dput_low m hS (hk _ List.mem_cons_self) (by omega) rk ry
      have hI2 : H2 I = none := by
        have up : ∀ {w : HO}, upd H S w I = none := fun {w} => by rw [upd_ne (Ne.symm hSI)]; exact hI
        rcases dp with ⟨_, _, _, _, _, e⟩ | ⟨_, _, _, _, _, _, _, e⟩ <;> (rw [e]; exact up)
      obtain ⟨io, i1, i2, i3⟩ := id it1
      have J1p := J1.pinned (fp := [I]) (fun c hc => by rw [List.mem_singleton.mp hc]; exact fI H hI) (fun c hc => by rw [List.mem_singleton.mp hc]; exact ⟨io, i1, fun v z => by rw [i3] at z; cases z⟩)
      refine wpAny_holding (d_dictSetA (by show A.units + 1 + 1 < cLine; omega) J1p dp ruk ruy fun s2 J2 => ?_)
      have i4 := (J2.pin (I, io) (List.mem_append_right _ (List.mem_append_right _ (mem_pinsAt (List.mem_singleton.mpr rfl) i1)))).1
      refine wpAny_pure ⟨plainId_quiet ud_plain _, ?_⟩
      refine dict_walk hh hu hSI fI r (i + 1) (dput acc k y) _ H2 (ix + 1) 0 s2 hp' hlt (rdL_put hl lS) put_same (fun p hp => hk p (List.mem_cons_of_mem _ hp)) (by have := dput_len acc k y; omega) J2.unpinned m2 hI2 ⟨io, i4, i2, i3⟩ fun H' s' t3 J3 m3 => hR H' s' (t2'.trans t3) J3 ?_
      rw [put_put] at m3
      exact m3
    · have e : i = xs.length := by omega
      subst e
      rw [List.drop_length] at hp
      cases hp
      refine wpAny_bind (wpAny_pyNext_list_end (A := A.in1) hh it L0 (by simp [len]) fun h' he => ?_)
      show wpAny _ A.in1 (Builtin.Dict.addKeywords S [] >>= _) _ _ _
      refine wpAny_bind (wpAny_pure (wpAny_pure ?_))
      refine hR H _ .refl (J.turned (t' := s.toks) (fun b o hb e => he b o hb e) f0 f1 f3 f4 f5) ?_
      show RelM X.K H (put M S (dX b acc))
      rw [put_eq hS]
      exact m
  termination_by ps => ps.length
end
/-- dict(xs), xs a list of pairs -/
def dictR (b : Bool) : RCd := fun ds M Q => match ds with
  | [.ref a] => ∃ xs ps, rdL M a = some xs ∧ prsOf xs = some ps ∧ (∀ p ∈ ps, isKey b p.1 = true) ∧ ps.length < sizeLine ∧ ∀ q, M q = none → Q (.ref q) (put M q (dX b (mergeD [] ps)))
  | _ => False
section
variable {X : Cx}
theorem call_dictB (b : Bool) (hc : X.calm = true) {k : Nat} (hr : Room k X.A) : CallR X (.type "dict") (lowCR X.K (dictR b)) := by
  intro pins s σ H zs us Q J rv w
  obtain ⟨ds, M, Q0, r, m, h, kk⟩ := w
  match ds, r, h with
  | [.ref l], r, ⟨xs, ps, hl, hp, hk, hz, h⟩ =>
    obtain ⟨v, ez, r1⟩ := one_arg r
    subst ez
    cases r1
    obtain ⟨u, rfl, ru⟩ := vals1 rv
    cases ru
    have un := hr.un
    have hh : X.A.handled = none := J.ok.hd hc
    obtain ⟨vs, sq, rl⟩ := m.rdL hl
    obtain ⟨its, rv2, ⟨o, n, ho, hcl, hdo, hd⟩, _⟩ := J.list sq
    obtain ⟨S, eS⟩ : ∃ S, s.heap.objs.size = S := ⟨_, rfl⟩
    refine callType_codes (Q₁ := fun obj s₁ => obj = .ref s.heap.objs.size ∧ s₁ = { s with heap := s.heap.push { cls := .type "dict", data := .dict #[] } }) PySem.F.kt_called_dict (PySem.F.kt_typeCall_dict_1 _) PySem.F.entry_dict_init (kt_code_dict_new _ ⟨rfl, rfl⟩) ?_
    rintro obj s₁ ⟨rfl, rfl⟩
    have ty : ({ s with heap := s.heap.push { cls := .type "dict", data := .dict #[] } } : Shared).TypeIs (.ref s.heap.objs.size) "dict" := ⟨_, Heap.get?_push_size _ rfl, rfl⟩
    have k0 : ∀ b o, s.heap.get? b = some o → (s.heap.push { cls := .type "dict", data := .dict #[] }).get? b = some o := fun b o e => Heap.get?_push_of_some _ e
    have J0 : Inv X pins σ (upd H s.heap.objs.size (dE b)) { s with heap := s.heap.push { cls := .type "dict", data := .dict #[] } } := J.laid (t' := s.toks) k0 (Nat.le_refl _) (empty_ok (dE_is b) J.big)
    have hf := J.hok.fresh (Nat.le_refl s.heap.objs.size)
    have m0 := dX_new b m hf
    refine ⟨ty, PySem.F.args_dict_init_2 _ _, ?_⟩
    unfold Builtin.«dict.__init__»
    refine wpAny_bind ?_
    unfold Builtin.Dict.selfAndRest
    refine wpAny_bind (wpAny_notOrdered_dict ty ?_)
    show wpAny _ _ (pure (s.heap.objs.size, [Value.ref l])) _ _ _
    refine wpAny_pure ?_
    show wpAny _ _ (Builtin.Dict.updateFrom "dict.__init__" s.heap.objs.size (.ref l) [] .none) _ _ _
    unfold Builtin.Dict.updateFrom
    refine wpAny_bind (wpAny_typeOf (T := "list") ⟨o, k0 _ _ ho, hcl⟩ ?_)
    rw [if_pos (by first | decide | rfl | simp)]
    refine wpAny_bind (miss_list (k0 _ _ ho) hcl hd hdo hh fun h1 tk1 hk1 => ?_)
    rw [if_pos (show (none : Option Value).isNone = true from rfl)]
    refine wpAny_bind (wpAny_rule ?_)
    have J1 : Inv X pins σ (upd H s.heap.objs.size (dE b)) { s with heap := h1, toks := tk1 } := J0.kept (t' := tk1) hk1
    have L1 : h1.IsList l its.toArray := ⟨o, hk1 _ _ (k0 _ _ ho), hcl, n, hd⟩
    refine wpAny_bind (wpAny_pyIter_list L1 ?_)
    have J2 : Inv X pins σ (upd H s.heap.objs.size (dE b)) { s with heap := h1.push { cls := .type "list_iterator", data := .fields #[.ref l, .int 0 0] }, toks := tk1 } := J1.kept (t' := tk1) fun b o e => Heap.get?_push_of_some _ e
    have hS1 : s.heap.objs.size < h1.objs.size := Heap.lt_size (hk1 _ _ (Heap.get?_push_size _ rfl))
    have hI : upd H s.heap.objs.size (dE b) h1.objs.size = none := J1.hok.fresh (Nat.le_refl _)
    have key := dict_walk (X := X) (pins := pins) (σ := σ) (A := X.A.in1) (R := wants (fun r s₂ => r = .none ∧ EP X pins σ Q (.ref s.heap.objs.size) s₂) X.xe) (S := s.heap.objs.size) (I := h1.objs.size) (l := l) (b := b) (xs := xs) (res := Value.none) hh
      (by show X.A.units + 1 + 2 < cLine; omega) (Nat.ne_of_lt hS1) (fun H' hn => J1.fpOk (Nat.le_refl _) hn) ps 0 [] (put M s.heap.objs.size (dX b [])) _ 0 0
      { s with heap := h1.push { cls := .type "list_iterator", data := .fields #[.ref l, .int 0 0] }, toks := tk1 } hp (Nat.zero_le _) (rdL_put hl (Nat.ne_of_lt (Heap.lt_size ho))) put_same hk (by simpa using hz) J2 m0 hI ⟨_, Heap.get?_push_size _ rfl, rfl, rfl⟩
      (fun H' s' t J3 m3 => ⟨rfl, .ref s.heap.objs.size, H', J3, rfl, by
        rw [put_put] at m3
        exact kk (.ref s.heap.objs.size) H' (.ref s.heap.objs.size) _ ((Tle.new hf).trans t) rfl m3 (h _ (m.fresh hf))⟩)
    first
      | exact wpAny_pure ⟨plainId_quiet ud_plain _, key⟩
      | exact wpAny_bind (wpAny_pure (wpAny_pure ⟨plainId_quiet ud_plain _, key⟩))
end
end DL

end T_DLF

section T_DLX
set_option Elab.async false
set_option linter.all false
set_option maxRecDepth 100000
set_option maxHeartbeats 2000000
/-! The D layer, X: own exceptions as values: made, looked at, asked for their kind. -/
namespace DL
open PySem PySem.Spec L2
open PyProof.Rows hiding St

/-- what is asked of a class of exceptions, so that its instances may be looked at -/
structure ExK (K : PySem.W.Frag) (C : Addr) : Prop where
  ga : PySem.W.findIn K (.ref C) "__getattribute__" = some (some (.builtin "BaseException.__getattribute__"))
  gg : PySem.W.findIn K (.ref C) "__getattr__" = some none
  su : PySem.W.subIn K (.ref C) (.type "BaseException") = some true
  hd : PySem.W.hasDictIn K C = true
  ca : PySem.W.findIn K (.ref C) "__class__" = some (some (.builtin "object.__class__"))
  gn : PySem.W.specialIn K (.builtin "object.__class__") "__get__" = some (some (.builtin "getset_descriptor.__get__"))
  tk : PySem.W.takesIn K (.builtin "object.__class__") = some true
  mo : PySem.W.mroIn K C (.type "object") = some true
def exKB (K : PySem.W.Frag) (C : Addr) : Bool :=
  decide (PySem.W.findIn K (.ref C) "__getattribute__" = some (some (.builtin "BaseException.__getattribute__"))) && decide (PySem.W.findIn K (.ref C) "__getattr__" = some none) &&
  decide (PySem.W.subIn K (.ref C) (.type "BaseException") = some true) && PySem.W.hasDictIn K C && decide (PySem.W.findIn K (.ref C) "__class__" = some (some (.builtin "object.__class__"))) &&
  decide (PySem.W.specialIn K (.builtin "object.__class__") "__get__" = some (some (.builtin "getset_descriptor.__get__"))) && decide (PySem.W.takesIn K (.builtin "object.__class__") = some true) && decide (PySem.W.mroIn K C (.type "object") = some true)
theorem exKB_ok {K : PySem.W.Frag} {C : Addr} (h : exKB K C = true) : ExK K C := by
  unfold exKB at h
  simp only [Bool.and_eq_true, decide_eq_true_eq] at h
  obtain ⟨⟨⟨⟨⟨⟨⟨h1, h2⟩, h3⟩, h4⟩, h5⟩, h6⟩, h7⟩, h8⟩ := h
  exact ⟨h1, h2, h3, h4, h5, h6, h7, h8⟩
theorem look_fs {H : Hp} {f : Str} : ∀ {fs : List (Str × D)} {vs : List (Str × V)} {d : D}, RelFs H fs vs → fs.lookup f = some d → ∃ v, vs.lookup f = some v ∧ Rel H d v
  | _, _, _, .nil, e => by simp at e
  | (g, d0) :: fs, (g', v0) :: vs, d, .cons ⟨e1, e2⟩ t, e => by
    simp only at e1 e2
    subst e1
    by_cases h : f = g
    · subst h
      simp [List.lookup] at e
      subst e
      exact ⟨v0, by simp [List.lookup], e2⟩
    · have hn : (f == g) = false := by simpa using h
      simp only [List.lookup, hn] at e ⊢
      exact look_fs t e
/-- e.f -/
def tfld (K : PySem.W.Frag) (f : Str) (te : TEd) : TEd := fun ρ M Q => te ρ M fun x M1 => ∃ a C fs d, x = .ref a ∧ M1 a = some (.exi C fs) ∧ ExK K C ∧ PySem.W.findIn K (.ref C) f = some none ∧ fs.lookup f = some d ∧ Q d M1
section
variable {X : Cx}
theorem ped_fld {e : Expr} {f : Str} {pos : Pos} {te : TEd} (he : PEd X e te) (hb : attributeBase e f X.env (eval e X.env) = eval e X.env := by rfl) : PEd X (.Attribute e f pos) (tfld X.K f te) := by
  refine ⟨⟨fun pins s σ H Q I w => ?_⟩⟩
  obtain ⟨ρ, M, Q0, re, rm, h, k⟩ := w
  refine attr_of hb (thn (he.pe.run pins s σ H (fun v H1 => Tle H H1 ∧ ∃ a C dx vs v', v = .ref a ∧ H1 a = some (exo a C (some dx)) ∧ H1 dx = some (exd dx vs) ∧ ExK X.K C ∧ PySem.W.findIn X.K (.ref C) f = some none ∧ vs.lookup f = some v' ∧ Q v' H1) I
    ⟨ρ, M, _, re, rm, h, fun x H1 dd M1 t1 r1 m1 h1 => ⟨t1, ?_⟩⟩) fun u s1 hh => ?_)
  · obtain ⟨a, C, fs, d, rfl, hM, T, no, lk, q⟩ := h1
    cases r1
    rcases m1 a _ hM with ⟨_, rfl⟩ | ⟨dx, vs, q1, q2, rf, _⟩
    · simp at lk
    · obtain ⟨v, l1, l2⟩ := look_fs rf lk
      exact ⟨a, C, dx, vs, v, rfl, q1, q2, T, no, l1, k v H1 d M1 t1 l2 m1 q⟩
  · obtain ⟨x, H1, I1, rx, _, a, C, dx, vs, v, ex, q1, q2, T, no, l, q⟩ := hh
    subst ex
    cases rx
    obtain ⟨t1, ho⟩ := exo_at I1.hok q1
    obtain ⟨mA, hns, rel⟩ := exd_at I1.hok q2
    obtain ⟨od, hod, hl⟩ := lookIn_ns hns
    obtain ⟨u, hu, ru⟩ := RelO.some_of (v := v) (o := mA f) (by rw [← l]; exact rel f)
    exact PySem.HandSPX.exc_get I1.kIn (ox := { cls := .ref C, dict := some dx, data := .fields #[.ref t1, .none, .none, .none, .bool false, .none] }) (od := some od) ⟨ho, rfl, rfl, hod⟩ T.ga T.gg T.su (PySem.W.findObj_own T.hd no rfl (by rw [hl, hu])) (handed_of ru) ⟨v, H1, I1.tok _, ru, q⟩

/-! ### isinstance(e, C) -/
def clsV : D → Option Value
  | .ref C => some (.ref C)
  | .ty n => some (.type n)
  | _ => none
def isiER (K : PySem.W.Frag) : RCd := fun ds M Q => match ds with
  | [.ref a, c] => ∃ C fs cv b, M a = some (.exi C fs) ∧ ExK K C ∧ clsV c = some cv ∧ PySem.W.kitOne K (.ref C) cv = some b ∧ Q (.bl b) M
  | _ => False
theorem call_isiE : CallR X (.builtin "isinstance") (lowCR X.K (isiER X.K)) := by
  intro pins s σ H xs us Q I rv w
  obtain ⟨ds, M, Q0, r, m, h, kk⟩ := w
  match ds, r, h with
  | [.ref a, c], r, ⟨C, fs, cv, b, hM, T, hc, hb, q⟩ =>
    obtain ⟨v, y, e, r1, r2⟩ := two_arg r
    subst e
    cases r1
    obtain ⟨u1, u2, rfl, q1, q2⟩ := vals2 rv
    cases q1
    have e2 : u2 = cv := by
      cases c with
      | ref D => cases hc; cases r2; cases q2; rfl
      | ty n => cases hc; cases r2; exact q2
      | _ => cases hc
    subst e2
    have cl : (PySem.W.clsIn X.K C).isSome = true := by
      obtain ⟨cd, hcd, _⟩ := PySem.W.any_some T.hd
      rw [hcd]
      rfl
    have go : ∀ (ox : Obj) (od : Option Obj), PySem.W.InstAt s.heap a ox C od → wpAny (model X.prog X.w) X.A (call (.builtin "isinstance") [.ref a, u2]) (EP X pins σ Q) X.xe s := fun ox od J =>
      PySem.W.kia_one (PySem.W.kitx_exc (ox := ox) (od := od) cl T.ga T.gg T.su T.ca T.gn T.tk T.mo) I.kIn J hb (fun z => nomatch z) fun tk => ⟨.bl b, H, I.tok tk, rfl, kk.bl m q⟩
    rcases m a _ hM with ⟨q1, _⟩ | ⟨dx, vs, q1, qd, _⟩
    · obtain ⟨t1, ho⟩ := exo_at I.hok q1
      exact go { cls := .ref C, dict := none, data := .fields #[.ref t1, .none, .none, .none, .bool false, .none] } none ⟨ho, rfl, rfl, trivial⟩
    · obtain ⟨t1, ho⟩ := exo_at I.hok q1
      obtain ⟨mA, hns, _⟩ := exd_at I.hok qd
      obtain ⟨od, hod, _⟩ := lookIn_ns hns
      exact go { cls := .ref C, dict := some dx, data := .fields #[.ref t1, .none, .none, .none, .bool false, .none] } (some od) ⟨ho, rfl, rfl, hod⟩
end

/-! ### C(..) -/
/-- what __init__ promises: the fields, in their order -/
def spIni (C : Addr) (ns : List Str) : Sp := fun vs H Q _ => ∃ a xs, vs = .ref a :: xs ∧ xs.length = ns.length ∧ H a = some (exo a C none) ∧
  ∀ dx, H dx = none → dx ≠ a → Q .non (upd (upd H dx (exd dx (ns.zip xs).reverse)) a (exo a C (some dx)))
/-- a class with such an __init__ -/
def ExI (P : Program) (w : World) (K : PySem.W.Frag) (base : Heap) (k : Nat) (C : Addr) (ns : List Str) : Prop := ∃ (fI : Addr) (fd : FuncData) (ps : List Str), OexC K C ∧ PySem.W.findIn K (.ref C) "__init__" = some (some (.ref fI)) ∧
  PySem.W.typeIn K (.ref fI) = some (.type "function") ∧ L2.Binds K fd ps [] ∧ ns.length ≤ 900 ∧ ∀ mg : Str → Option Value, FnOk P w K mg base (L2.CX P w) k fI fd ps (spIni C ns)
def tmkE (C : Addr) (ns : List Str) (ta : TAd) : TEd := fun ρ M Q => ta ρ M fun ds M1 => ds.length = ns.length ∧ ∀ a, M1 a = none → Q (.ref a) (put M1 a (.exi C (ns.zip ds).reverse))
theorem relFs_zip {H : Hp} : ∀ {ns : List Str} {ds : List D} {vs : List V}, RelL H ds vs → RelFs H (ns.zip ds) (ns.zip vs)
  | [], _, _, _ => by simp only [List.zip_nil_left]; exact .nil
  | _ :: _, [], _, h => by cases h; simp only [List.zip_nil_right]; exact .nil
  | n :: ns, d :: ds, _, ⟨v, r, e, h1, h2⟩ => by
    subst e
    simp only [List.zip_cons_cons]
    exact .cons ⟨rfl, h1⟩ (relFs_zip h2)
theorem paired_rev {α β : Type} {F : α → β → Prop} : ∀ {l : List α} {r : List β}, Paired F l r → Paired F l.reverse r.reverse
  | _, _, .nil => .nil
  | _, _, .cons h t => by
    rw [List.reverse_cons, List.reverse_cons]
    exact paired_app (paired_rev t) (.cons h .nil)
section
variable {X : Cx} {x : Str} {C : Addr} {k : Nat} {ns : List Str} {e : Expr} {es : List Expr} {ta : TAd} {p pos : Pos}
theorem ped_mkE (F : ExI X.prog X.w X.K X.base k C ns) (hr : Room (k + 1) X.A) (hg : Gl X x) (hm : X.mg x = some (.ref C)) (ha : PAd X (e :: es) ta) (hdb : (x == ("__debug__" : Str)) = false := by decide)
    (he : starEach (e :: es) X.env = (false, eval e X.env) :: starEach es X.env := by rfl) (hpl : (backTo pos (starEach es X.env)).any (·.1) = false := by rfl) : PEd X (.Call (.Name x p) (e :: es) [] pos) (tmkE C ns ta) := by
  obtain ⟨fI, fd, ps, T, iC, tI, hb, hn9, F1⟩ := F
  refine ⟨⟨fun pins s σ H Q I w => ?_⟩⟩
  obtain ⟨ρ, M, Q0, re, rm, h, kk⟩ := w
  obtain ⟨nm, q, N, bs, bm, sn, sub, ab, col, dd, k0, k1, k2, k3, k5, hC, hbm⟩ := T.cls
  refine wpAny_Call_Name_kw (ld_glob I hg hm ?_ hdb)
  refine PySem.W.callWith_K (h₀ := X.base) I.ok.mod.kin T.kC (thn (ha.pa.run pos pins s σ H (fun vs H1 => vs.length = ns.length ∧ ∀ a dx, H1 a = none → H1 dx = none → dx ≠ a → Q (.ref a) (upd (upd (upd H1 a (exo a C none)) dx (exd dx (ns.zip vs).reverse)) a (exo a C (some dx)))) I
    ⟨ρ, M, _, re, rm, h, fun vs H1 ds M1 t1 r1 m1 h1 => ⟨r1.length.trans h1.1, fun a dx na ndx ne => ?_⟩⟩) fun us s1 ⟨vs, H1, I1, r1, hl0, q1⟩ => ⟨I1.kIn, ?_⟩) he hpl
  · -- the D side
    have na' : upd H1 a (exo a C none) dx = none := by rw [upd_ne ne]; exact ndx
    have t2 : Tle H1 (upd (upd (upd H1 a (exo a C none)) dx (exd dx (ns.zip vs).reverse)) a (exo a C (some dx))) := fun b xs z => by
      rw [upd_ne (ne_of_none z na), upd_ne (ne_of_none z ndx), upd_ne (ne_of_none z na)]
      exact z
    have m2 : RelM X.K (upd (upd (upd H1 a (exo a C none)) dx (exd dx (ns.zip vs).reverse)) a (exo a C (some dx))) (put M1 a (.exi C (ns.zip ds).reverse)) := fun b o z => by
      by_cases hb : b = a
      · subst hb
        rw [put_same] at z
        cases z
        refine .inr ⟨dx, (ns.zip vs).reverse, upd_same, by rw [upd_ne ne, upd_same], paired_rev (relFs_zip (r1.tle t2)), ?_⟩
        rw [List.length_reverse, List.length_zip]
        omega
      · rw [put_ne hb] at z
        refine (m1 b o z).tle t2 (fun c vs' y => ?_) fun u y => ?_
        · rw [upd_ne (ne_of_none y na), upd_ne (ne_of_none y ndx), upd_ne (ne_of_none y na)]
          exact y
        · rw [upd_ne hb, upd_ne (ne_of_none y ndx), upd_ne hb]
          exact y
    exact kk (.ref a) _ (.ref a) _ (t1.trans t2) rfl m2 (h1.2 a (m1.fresh na))
  · -- the call
    show wpAny _ _ (call (.ref C) us) _ _ _
    obtain ⟨hp, g, dr, tk, os⟩ := s1
    have hsz : hp.objs.size ≤ hp.objs.size + 1 := Nat.le_succ _
    have hn : H1 (hp.objs.size + 1) = none := I1.hok.fresh hsz
    have old : ∀ b o, hp.get? b = some o → ((hp.push (PySem.W.kdv_tup us)).push (PySem.HandSPX.excO C hp.objs.size)).get? b = some o := fun b o z => Heap.get?_push_of_some _ (Heap.get?_push_of_some _ z)
    have got : ((hp.push (PySem.W.kdv_tup us)).push (PySem.HandSPX.excO C hp.objs.size)).get? (hp.objs.size + 1) = some (PySem.HandSPX.excO C hp.objs.size) := by heap_get
    have I2 : Inv X pins σ (upd H1 (hp.objs.size + 1) (exo (hp.objs.size + 1) C none)) ⟨(hp.push (PySem.W.kdv_tup us)).push (PySem.HandSPX.excO C hp.objs.size), g, dr, tk, os⟩ :=
      I1.laid (t' := tk) (a := hp.objs.size + 1) (o := exo (hp.objs.size + 1) C none) (h' := (hp.push (PySem.W.kdv_tup us)).push (PySem.HandSPX.excO C hp.objs.size)) old hsz (exo_ok got)
    have r2 : Vals (V.ref (hp.objs.size + 1) :: vs) (Value.ref (hp.objs.size + 1) :: us) := .cons rfl r1
    have hq : spIni C ns (V.ref (hp.objs.size + 1) :: vs) (upd H1 (hp.objs.size + 1) (exo (hp.objs.size + 1) C none)) (fun v H2 => v = .non ∧ Q (.ref (hp.objs.size + 1)) H2) (fun _ _ _ => False) := by
      refine ⟨_, vs, rfl, hl0, upd_same, fun dx hdx ne => ⟨rfl, q1 _ dx hn ?_ ne⟩⟩
      rw [upd_ne ne] at hdx
      exact hdx
    have lps : (Value.ref (hp.objs.size + 1) :: us).length = ps.length := by
      have z := r2.length
      rw [(F1 X.mg).len _ _ _ _ hq] at z
      exact z.symm
    have hus : us.length ≤ sizeLine := by
      rw [← Paired.length r1, sizeLine_eq]
      omega
    have bb := hb ⟨(hp.push (PySem.W.kdv_tup us)).push (PySem.HandSPX.excO C hp.objs.size), g, dr, tk, os⟩ (Value.ref (hp.objs.size + 1) :: us) I2.kIn (by rw [List.append_nil]; exact lps)
    rw [List.append_nil] at bb
    refine wpAny_call (PySem.HandSPX.call_own F.excBase_ValueError (fun Y => PySem.HandSPX.refsVE_contains Y bm hbm) (I1.kIn _ _ hC) (PySem.W.looks_findIn I1.kIn iC) (fun self => PySem.W.bind_fn I1.kIn self tI) hus
      (codeAny_mono ((F1 X.mg).run _ X.stack _ _ ⟨Value.ref (hp.objs.size + 1) :: us, []⟩ (Value.ref (hp.objs.size + 1) :: us) _ _ (fun _ _ _ => False) (hr.make C us []) (I2.env0.make C us []) bb r2 hq) fun r s' hq' => ?_))
    cases r with
    | error er =>
      obtain ⟨_, _, _, _, _, _, _, _, _, _, _, _, z⟩ := hq'
      exact z.elim
    | ok fl =>
      cases fl with
      | ret u =>
        obtain ⟨v, H2, os2, bare2, un2, hok2, rv, ev, q2⟩ := hq'
        subst ev
        exact ⟨rv, I2.after ⟨.ref (hp.objs.size + 1), H2, os2, bare2, un2, hok2, rfl, q2⟩⟩
      | next => exact hq'.elim
      | brk => exact hq'.elim
      | cont => exact hq'.elim
/-- C(), C without fields of its own -/
def tmk0 (C : Addr) : TEd := fun _ M Q => ∀ a, M a = none → Q (.ref a) (put M a (.exi C []))
theorem ped_mk0 (q : PySem.W.excIn X.K C He.veBase "ValueError.__new__" = true) (kC : PySem.W.keepIn X.K (.ref C) = true) (hg : Gl X x) (hm : X.mg x = some (.ref C)) (hdb : (x == ("__debug__" : Str)) = false := by decide) : PEd X (.Call (.Name x p) [] [] pos) (tmk0 C) := by
  refine ⟨⟨fun pins s σ H Q I w => ?_⟩⟩
  obtain ⟨ρ, M, Q0, re, rm, h, kk⟩ := w
  refine wpAny_Call_Name_kw (ld_glob I hg hm ?_ hdb)
  refine PySem.W.callWith_K0 I.kIn kC ?_
  show wpAny _ _ (call (.ref C) []) _ _ _
  obtain ⟨bm, N, nm, qn, bs, hdct, sn, sub, ab, col, dd, k0, k1, k2, k3, k5, mN, hC, hN, hni, T⟩ := exc_obj I.kIn q
  obtain ⟨hp, g, dr, tk, os⟩ := s
  refine wpAny_call_exc_subT F.excBase_ValueError T hC hN hni (fun h' a mo => ?_) (Nat.zero_le _)
  have hn : H a = none := I.hok.gone mo.new
  obtain ⟨t, ht, _, _⟩ := mo.there
  refine ⟨.ref a, upd H a (exo a C none), I.laidN mo.keeps mo.new hn (exo_ok ht), rfl, ?_⟩
  exact kk.ref (.new hn) (rm.new (d := .exi C []) hn (.inl ⟨upd_same, rfl⟩)) (h a (rm.fresh hn))
end
end DL

end T_DLX

section T_DLZ
set_option Elab.async false
set_option linter.all false
set_option maxRecDepth 100000
set_option maxHeartbeats 2000000
/-! The D layer, Z: the law's own call, where no text is being made. -/
namespace DL
open PySem PySem.Spec L2
open PyProof.Rows hiding St

/-- what is tracked as the law begins: the script (if it's none of the module's own objects), the tables at T -/
def entH (K : PySem.W.Frag) (a : Addr) (o : Obj) (xs : List V) (T : List Addr) : Hp := fun b => if b = a then (if (K.lookup a).isSome = true then none else some (.frz o (.lst xs))) else if b ∈ T then some (.tbl #[]) else none
section
variable {K : PySem.W.Frag} {a b : Addr} {o : Obj} {xs : List V} {T : List Addr}
theorem entH_tab (h : b ≠ a) (hb : b ∈ T) : entH K a o xs T b = some (.tbl #[]) := by unfold entH; rw [if_neg h, if_pos hb]
theorem entH_a (h : K.lookup a = none) : entH K a o xs T a = some (.frz o (.lst xs)) := by unfold entH; rw [if_pos rfl, h]; rfl
theorem entH_ak {u : Obj} (h : K.lookup a = some u) : entH K a o xs T a = none := by unfold entH; rw [if_pos rfl, h]; rfl
theorem entH_no (h : b ≠ a) (hb : b ∉ T) : entH K a o xs T b = none := by unfold entH; rw [if_neg h, if_neg hb]
end
section
variable {P : Program} {w : World} {K : PySem.W.Frag} {mg mb : Str → Option Value} {k : Nat} {fa a : Addr} {cs : List (Addr × Addr)} {fd : FuncData} {x : Str} {sp : Sp} {s : Shared} {vs : List Value} {ns : List Int}
theorem law_callQ (KX : K.In s.heap) (hns : s.heap.Ns mainGlobals mg) (hb : s.heap.Ns builtinsNs mb) (hbb : ∀ x : Str, x ≠ "__name__" → mb x = bootBuiltins x) (hlim : s.heap.NoLimit) (hg : s.gens = #[])
    (hT : ∀ p ∈ cs, s.heap.get? p.2 = some { cls := .none, data := .fields #[] }) (nT : ∀ p ∈ cs, K.lookup p.2 = none) (C : ∀ p ∈ cs, PySem.W.CodeHd s.heap p.1 p.2)
    (hbm : ∃ (bm : Addr) (ob : Obj), mg "__builtins__" = some (.ref bm) ∧ bm ≠ builtinsNs ∧ s.heap.get? bm = some ob ∧ ob.cls = .type "module" ∧ ob.dict = some builtinsNs ∧ ob.data = .plain)
    (ha : s.heap.get? a = some { cls := .type "list", data := .seq vs.toArray }) (hi : IntsAre vs ns) (hl : ns.length ≤ sizeLine) (hr : Room k callerA)
    (F : ∀ base : Heap, K.In base → base.Ns mainGlobals mg → (∀ p ∈ cs, LamX.TabB base mg p.1 p.2) → FnQ P w K mg base k fa fd [x] sp) (bind : ∀ (s : Shared) (u : Value), BindsTo s fd ⟨[u], []⟩ [(x, u)])
    (hsp : ∀ H : Hp, (∀ p ∈ cs, H p.2 = some (.tbl #[])) → SqL K H a (ns.map V.int) → sp [.ref a] H (fun v _ => v = .bl true) fun _ _ _ => False) :
    codeAny (model P w) callerA (.call (.ref fa) ⟨[.ref a], []⟩) (fun r s' => r = .ok (.ret (.bool true)) ∧ OldK s.heap s'.heap ∧ s'.os = s.os ∧ AllBare s'.gens) s := by
  have rv := vals_ints hi
  have isT : ∀ b : Addr, b ∈ cs.map (·.2) → s.heap.get? b = some { cls := .none, data := .fields #[] } ∧ K.lookup b = none := by
    intro b hb
    obtain ⟨p, hp, rfl⟩ := List.mem_map.mp hb
    exact ⟨hT p hp, nT p hp⟩
  have tNa : ∀ b ∈ cs.map (·.2), b ≠ a := by
    rintro b hb rfl
    have z := (isT b hb).1
    rw [ha] at z
    cases z
  obtain ⟨H, eH⟩ : ∃ H, H = entH K a { cls := .type "list", data := .seq vs.toArray } (ns.map V.int) (cs.map (·.2)) := ⟨_, rfl⟩
  have hTab : ∀ p ∈ cs, H p.2 = some (.tbl #[]) := fun p hp => by
    have hm : p.2 ∈ cs.map (·.2) := List.mem_map.mpr ⟨p, hp, rfl⟩
    rw [eH]
    exact entH_tab (tNa _ hm) hm
  -- what is tracked at b
  have what : ∀ b u, H b = some u → (b = a ∧ K.lookup a = none ∧ u = .frz { cls := .type "list", data := .seq vs.toArray } (.lst (ns.map V.int))) ∨ (b ∈ cs.map (·.2) ∧ u = .tbl #[]) := by
    intro b u e
    rw [eH] at e
    by_cases h1 : b = a
    · subst h1
      cases hk : K.lookup b with
      | some q => rw [entH_ak hk] at e; cases e
      | none => rw [entH_a hk] at e; cases e; exact .inl ⟨rfl, rfl, rfl⟩
    · by_cases h2 : b ∈ cs.map (·.2)
      · rw [entH_tab h1 h2] at e; cases e; exact .inr ⟨h2, rfl⟩
      · rw [entH_no h1 h2] at e; cases e
  have lst : SqL K H a (ns.map V.int) := by
    cases hk : K.lookup a with
    | none => exact .inl (.inr ⟨_, by rw [eH]; exact entH_a hk⟩)
    | some q =>
      have e := KX a q hk
      rw [ha] at e
      cases e
      exact .inr ⟨_, vs.toArray, _, hk, rfl, rfl, rfl, by rw [List.size_toArray, hi.length]; exact hl, by simpa using rv⟩
  have hok : HOk P w H s.heap := by
    intro b u e
    rcases what b u e with ⟨rfl, _, rfl⟩ | ⟨hm, rfl⟩
    · exact ⟨ha, by rw [List.length_map]; exact hl, vs, _, rv, ha⟩
    · exact (isT b hm).1
  -- objects of other kinds are not tracked
  have noD : ∀ {b : Addr} {o : Obj}, s.heap.get? b = some o → (∀ l n, o.data ≠ .seq l n) → o.data ≠ .fields #[] → H b = none := by
    intro b o e h1 h2
    cases q : H b with
    | none => rfl
    | some u =>
      rcases what b u q with ⟨rfl, _, _⟩ | ⟨hm, _⟩
      · rw [ha] at e; cases e; exact absurd rfl (h1 _ _)
      · rw [(isT b hm).1] at e; cases e; exact absurd rfl h2
  have keepN : ∀ {b : Addr} {m : Str → Option Value}, s.heap.Ns b m → (hidT s.heap H).Ns b m := by
    rintro b m ⟨q, es, ep, e, d, r⟩
    exact ⟨q, es, ep, hidT_get e (noD e (fun l n z => by rw [d] at z; cases z) (fun z => by rw [d] at z; cases z)), d, r⟩
  have inB : K.In (hidT s.heap H) := by
    intro b q e
    refine hidT_get (KX b q e) ?_
    cases y : H b with
    | none => rfl
    | some u =>
      rcases what b u y with ⟨rfl, h2, _⟩ | ⟨hm, _⟩
      · rw [h2] at e; cases e
      · rw [(isT b hm).2] at e; cases e
  obtain ⟨mc, c1, c2⟩ := hlim
  have md : L2.Mod K mg (hidT s.heap H) := ⟨inB, keepN hns, ⟨mb, keepN hb, hbb⟩, ⟨mc, keepN c1, c2⟩⟩
  have tabs : ∀ p ∈ cs, LamX.TabB (hidT s.heap H) mg p.1 p.2 := by
    intro p hp
    have e2 := hT p hp
    obtain ⟨g1, g2, g3, gE, gD, _⟩ := id hns
    refine ⟨?_, ?_, ?_⟩
    · obtain ⟨q, us, file, tf, flags, tg, inF, text, tt, e1, r1, r2, r3, r⟩ := C p hp
      refine ⟨q, us, file, tf, flags, tg, inF, text, tt, hidT_get e1 (noD e1 (fun l n z => by rw [r2] at z; cases z) fun z => ?_), r1, r2, r3, r⟩
      rw [r2] at z
      cases z
      simp at r3
    · obtain ⟨bm, ob, b1, b2, b3, b4, b5, b6⟩ := hbm
      have y1 : bm ≠ mainGlobals := by
        rintro rfl
        rw [gE] at b3
        cases b3
        rw [gD] at b6
        cases b6
      have y2 : bm ≠ p.2 := by
        rintro rfl
        rw [e2] at b3
        cases b3
        cases b6
      exact ⟨bm, ob, b1, b2, y1, y2, hidT_get b3 (noD b3 (fun l n z => by rw [b6] at z; cases z) (fun z => by rw [b6] at z; cases z)), b4, b5, b6⟩
    · intro z
      rw [z, e2] at gE
      cases gE
      cases gD
  have env : Env0 P w K mg (hidT s.heap H) callerA [] s H := ⟨rfl, md, fun b q e => of_hidT e, Nat.le_of_eq (hidT_size _ _), trivial, fun b hm => (by cases (show b ∈ ([] : List Addr) from hm)), hok, .of_eq hg⟩
  refine codeAny_mono ((F _ inB (keepN hns) tabs).go callerA [] s H ⟨[.ref a], []⟩ [.ref a] [.ref a] _ _ rfl hr env (bind s (.ref a)) (.cons rfl .nil) (hsp H hTab lst)) ?_
  intro r s' hq
  match r, hq with
  | .error e, hq =>
    obtain ⟨_, _, _, _, _, _, _, _, _, _, _, _, z⟩ := hq
    exact z.elim
  | .ok .next, hq => exact hq.elim
  | .ok .brk, hq => exact hq.elim
  | .ok .cont, hq => exact hq.elim
  | .ok (.ret u), hq =>
    obtain ⟨v, H', os, bare, un, hok', r', q⟩ := hq
    have q' : v = .bl true := q
    subst q'
    cases r'
    have other : ∀ b q, b ∉ cs.map (·.2) → s.heap.get? b = some q → s'.heap.get? b = some q := by
      intro b q nb e
      cases y : H b with
      | none => exact un.keep b q e y (by intro z; cases (show b ∈ ([] : List Addr) from z)) (by simp)
      | some u =>
        rcases what b u y with ⟨rfl, _, rfl⟩ | ⟨hm, _⟩
        · have e3 := (hok' b _ (un.frzs b _ _ y)).1
          rw [ha] at e
          cases e
          exact e3
        · exact absurd hm nb
    have grown : ∀ p ∈ cs, ∃ more : Array Value, s'.heap.get? p.2 = some { cls := .none, data := .fields more } := by
      intro p hp
      obtain ⟨more, z⟩ := un.tbls p.2 #[] (hTab p hp)
      exact ⟨_, hok' p.2 _ z⟩
    refine ⟨rfl, ⟨fun b q e => ?_, fun b q e => ?_⟩, os, bare⟩
    · by_cases hm : b ∈ cs.map (·.2)
      · obtain ⟨p, hp, rfl⟩ := List.mem_map.mp hm
        obtain ⟨more, hmo⟩ := grown p hp
        rw [hT p hp] at e
        cases e
        exact .inr (.inl ⟨((C p hp).tab (hT p hp)).isCodeTable, rfl, #[], more, rfl, by rw [Array.empty_append]; exact hmo⟩)
      · exact .inl (other b q hm e)
    · by_cases hm : b ∈ cs.map (·.2)
      · obtain ⟨p, hp, rfl⟩ := List.mem_map.mp hm
        obtain ⟨more, hmo⟩ := grown p hp
        exact ⟨_, hmo⟩
      · exact ⟨q, other b q hm e⟩
end
/-- what the head's heap must give of the law -/
def LawAtQ (l : PySem.W.OpenLaw) (w : World) (k n : Nat) (x : Str) (mg : Str → Option Value) (fa : Addr) (h : Heap) : Prop :=
  ∃ (K : PySem.W.Frag) (fd : FuncData) (cs : List (Addr × Addr)) (sp : Sp), K.In h ∧ (∀ p ∈ cs, h.get? p.2 = some { cls := .none, data := .fields #[] }) ∧ (∀ p ∈ cs, K.lookup p.2 = none) ∧ (∀ p ∈ cs, PySem.W.CodeHd h p.1 p.2) ∧
    (∀ (s : Shared) (u : Value), BindsTo s fd ⟨[u], []⟩ [(x, u)]) ∧
    (∀ (H : Hp) (a : Addr) (ns : List Int), ns.length ≤ n → (∀ z ∈ ns, Builtin.Int.intBits z ≤ 1048576) → (∀ p ∈ cs, H p.2 = some (.tbl #[])) → SqL K H a (ns.map V.int) → sp [.ref a] H (fun v _ => v = .bl true) fun _ _ _ => False) ∧
    ∀ base : Heap, K.In base → base.Ns mainGlobals mg → (∀ p ∈ cs, LamX.TabB base mg p.1 p.2) → FnQ l.prog w K mg base k fa fd [x] sp
theorem walk_Q {l : PySem.W.OpenLaw} {n k : Nat} {q : Program} {loose : List Str} {XP : (Str → Option Value) → Heap → Prop} {YP : World → Heap → Prop} {d : DefRec} {x : Str} (hn : l.most = some n) (hn2 : n ≤ sizeLine) (hdf : d.params.defaults = []) (hr : Room k callerA)
    (F : ∀ (w : World) (mg : Str → Option Value) (fa : Addr) (h : Heap), YP w h → h.Ns mainGlobals mg → mg d.name = some (.ref fa) → LawAtQ l w k n x mg fa h) :
    PySem.W.WalkO q loose XP YP l.row.toRowW d [] (fun f vs => PySem.call f vs) := by
  refine Att.attach_callB hn hdf fun w s0 s mg mb fa o pm cd doc a vs ns G Y ho hd hcd hmg hobj hints hlen hbits hg => ?_
  obtain ⟨K, fd, cs, sp, KX, hT, nT, C, bd, hsp, hF⟩ := F w mg fa _ Y G.T.g hmg
  exact law_callQ KX G.T.g G.T.b G.T.builtins G.T.nolimit hg hT nT C G.T.bmain hobj hints (Nat.le_trans hlen hn2) hr hF bd fun H hH hS => hsp H a ns hlen hbits hH hS
end DL

end T_DLZ

section T_DLY
set_option Elab.async false
set_option linter.all false
set_option maxRecDepth 100000
set_option maxHeartbeats 2000000
/-! The D layer, Y: more stepping: loops, comprehensions, texts, kinds. -/
namespace DL
open PySem PySem.Spec L2
open PyProof.Rows hiding St

/-! ### words -/
def tpar3 (i j l : Nat) (ds : List D) (E : Endsd) (ρ : Envd) (M1 : Mem) : Prop := match ds with
  | [x, y, z] => E.nx (((ρ.set i (some x)).set j (some y)).set l (some z)) M1
  | _ => False
def tparT (i j l : Nat) (ta : TAd) : TSd := fun E ρ M => ta ρ M fun ds M1 => tpar3 i j l ds E ρ M1
theorem tpar3_get {i j l : Nat} {ds : List D} {E : Endsd} {ρ : Envd} {M : Mem} (h : tpar3 i j l ds E ρ M) : ∃ x y z, ds = [x, y, z] ∧ E.nx (((ρ.set i (some x)).set j (some y)).set l (some z)) M := by
  unfold tpar3 at h
  split at h
  · exact ⟨_, _, _, rfl, h⟩
  · exact h.elim
theorem tpar3_low {K : PySem.W.Frag} {ta : TAd} {i j l : Nat} (D : Ends) (σ : St) (H : Hp) (w : lowS K (tparT i j l ta) D σ H) : tPar3 i j l (lowA K ta) D σ H := by
  obtain ⟨ρ, M, E0, re, rm, h, k⟩ := w
  refine ⟨ρ, M, fun ds M1 => tpar3 i j l ds E0 ρ M1, re, rm, h, fun vs H1 ds M1 t1 r1 m1 h1 => ?_⟩
  obtain ⟨d1, d2, d3, eds, h2⟩ := tpar3_get h1
  subst eds
  obtain ⟨v1, r, e1, q1, r2⟩ := r1
  obtain ⟨v2, v3, e2, q2, q3⟩ := two_arg r2
  subst e2 e1
  exact ⟨v1, v2, v3, rfl, k.nx _ _ _ _ t1 ((((re.tle t1).set q1).set q2).set q3) m1 h2⟩
section
variable {X : Cx}
theorem sp3 (i j l : Nat) {x y z : Str} {a b c : Expr} {ta : TAd} {px py pz pt pos : Pos} {kt k2 pt2} (hc : X.calm = true) (hN : X.N.Nodup) (ha : PAd X [a, b, c] ta) (hi : X.N[i]? = some x := by rfl) (hj : X.N[j]? = some y := by rfl) (hl : X.N[l]? = some z := by rfl)
    (hij : i ≠ j := by decide) (hil : i ≠ l := by decide) (hjl : j ≠ l := by decide) (hx : X.env.scope.names.lookup x = some .local := by rfl) (hy : X.env.scope.names.lookup y = some .local := by rfl) (hz : X.env.scope.names.lookup z = some .local := by rfl)
    (hw : swappedStores [.Tuple [.Name x px, .Name y py, .Name z pz] kt pt] (.Tuple [a, b, c] k2 pt2) X.env = pure (some [x, y, z]) := by rfl)
    (hs : swapsWithSole [.Tuple [.Name x px, .Name y py, .Name z pz] kt pt] (.Tuple [a, b, c] k2 pt2) pos.line X.env = pure false := by rfl) :
    PSd X (.Assign [.Tuple [.Name x px, .Name y py, .Name z pz] kt pt] (.Tuple [a, b, c] k2 pt2) pos) (tparT i j l ta) := .of (ps_par3 hc hN hi hj hl hij hil hjl hx hy hz ha.pa hw hs) tpar3_low
/-- y = [.. for ..] -/
theorem svL (i : Nat) {y : Str} {py pos spos : Pos} {elt tg iter : Expr} {ifs : List Expr} {scope : Scope} {own : List (Str × Nat)} {ti : TId} {g : TGd} {js : List Nat} {tt : TTd} {te : TEd} (hN : X.N.Nodup) (hi : PId X tg iter ti) (ok : BlkOk X.N X.env.scope scope own) (hj : ∀ i ∈ js, i ∈ own.map (·.2))
    (hg : ∀ (s : Shared) (H : Hp) (C : Addr) (cl : List (Str × Addr)) (fp : List Addr), PGd (X.blk s H scope (compEnvC scope cl C X.env) fp) tg js g) (ht : ∀ (s : Shared) (H : Hp) (C : Addr) (cl : List (Str × Addr)) (fp : List Addr), PTsd (X.blk s H scope (compEnvC scope cl C X.env) fp) ifs tt)
    (he : ∀ (s : Shared) (H : Hp) (C : Addr) (cl : List (Str × Addr)) (fp : List Addr), PEd (X.blk s H scope (compEnvC scope cl C X.env) fp) elt te) (hc : X.calm = true := by rfl) (hy : X.N[i]? = some y := by rfl) (hyl : X.env.scope.names.lookup y = some .local := by rfl)
    (hsw : swapsWith (.ListComp elt [⟨tg, iter, ifs, 0⟩] scope pos) (some (.Name y py)) spos.line X.env = pure true := by rfl) (hs : ∀ x, foldedSetIterable iter X.env x = pure x := by intro _; rfl) :
    PSd X (.Assign [.Name y py] (.ListComp elt [⟨tg, iter, ifs, 0⟩] scope pos) spos) (tasg (tlc ti g tt te (own.map (·.2))) (gname i)) := psd_setLc hc hN hy hyl hsw hi ok hj hg ht he hs
end

/-! ### equations -/
/-- for: the turns -/
def forK (items : List D) (ok : Mem → Prop) (g : TGd) (tb : TSd) (E : Endsd) (ρ : Envd) (M : Mem) : Prop := ∃ W : Nat → Envd → Mem → Prop, W 0 ρ M ∧ ∀ i ρ M, i ≤ items.length → W i ρ M → ok M ∧ (match items[i]? with
  | none => E.nx ρ M
  | some x => g x ρ M fun ρ2 M2 => tb { E with nx := W (i + 1), ct := W (i + 1), bk := E.nx } ρ2 M2)
def lcK (items : List D) (ok : Mem → Prop) (g : TGd) (tt : TTd) (te : TEd) (vs : List Nat) (p : Addr) (ρ : Envd) (M1 : Mem) (Q : VKd) : Prop := ∃ W : Nat → List D → Mem → Prop, W 0 [] (put M1 p (.lst [])) ∧
  ∀ i acc M, i ≤ items.length → W i acc M → ok M ∧ (match items[i]? with
    | none => Q (.ref p) M
    | some x => g x (wiped ρ vs) M fun ρ2 M2 => tt ρ2 M2 fun b M3 => if b = true then te ρ2 M3 fun y M4 => M4 p = some (.lst acc) ∧ acc.length < sizeLine ∧ W (i + 1) (acc ++ [y]) (put M4 p (.lst (acc ++ [y]))) else W (i + 1) acc M3)
def dcK (b : Bool) (items : List D) (ok : Mem → Prop) (g : TGd) (tt : TTd) (tk tv : TEd) (vs : List Nat) (p : Addr) (ρ : Envd) (M1 : Mem) (Q : VKd) : Prop := ∃ W : Nat → List (D × D) → Mem → Prop, W 0 [] (put M1 p (dX b [])) ∧
  ∀ i acc M, i ≤ items.length → W i acc M → ok M ∧ (match items[i]? with
    | none => Q (.ref p) M
    | some x => g x (wiped ρ vs) M fun ρ2 M2 => tt ρ2 M2 fun c M3 => if c = true then tk ρ2 M3 fun k M4 => tv ρ2 M4 fun y M5 => M5 p = some (dX b acc) ∧ isKey b k = true ∧ acc.length < sizeLine ∧ W (i + 1) (dput acc k y) (put M5 p (dX b (dput acc k y)))
      else W (i + 1) acc M3)
section
variable {M : Mem} {Q : VKd} {ρ : Envd} {d x y z : D} {a b p : Addr} {i j : Int} {n : Nat} {xs ys : List D} {ta tb tc te : TEd} {t u tt : TTd} {T : TAd} {E : Endsd} {ti : TId} {g : TGd} {R : List D → (Mem → Prop) → Mem → Prop}
theorem f_for {tb : TSd} : tfor ti g tb E ρ M = ti ρ M fun items ok M1 => forK items ok g tb E ρ M1 := rfl
theorem f_lc {vs : List Nat} : tlc ti g tt te vs ρ M Q = ti ρ M fun items ok M1 => ∀ p, M1 p = none → lcK items ok g tt te vs p ρ M1 Q := rfl
theorem f_dc {b : Bool} {tk tv : TEd} {vs : List Nat} : tdc b ti g tt tk tv vs ρ M Q = ti ρ M fun items ok M1 => ∀ p, M1 p = none → dcK b items ok g tt tk tv vs p ρ M1 Q := rfl
def seqK (x : D) (M1 : Mem) (R : List D → (Mem → Prop) → Mem → Prop) : Prop := match x with
  | .tup ds => R ds (fun _ => True) M1
  | .ref a => (match rdL M1 a with
    | some ds => R ds (fun M => rdL M a = some ds) M1
    | none => False)
  | _ => False
theorem f_iseq : iseq te ρ M R = te ρ M fun x M1 => seqK x M1 R := rfl
theorem f_seqT : seqK (.tup xs) M R = R xs (fun _ => True) M := rfl
theorem f_seqR (h : rdL M a = some xs) : seqK (.ref a) M R = R xs (fun M => rdL M a = some xs) M := by simp only [seqK, h]
theorem f_seqL (h : M a = some (.lst xs)) : seqK (.ref a) M R = R xs (fun M => rdL M a = some xs) M := f_seqR (rdL_lst h)
theorem f_seqO (h : M a = some (.ro xs)) : seqK (.ref a) M R = R xs (fun M => rdL M a = some xs) M := f_seqR (rdL_ro h)
def rngK (ds : List D) (M1 : Mem) (R : List D → (Mem → Prop) → Mem → Prop) : Prop := match ds with
  | [.int j] => (-(2 ^ 62) ≤ j ∧ j < 2 ^ 62) ∧ R (intsD 0 j.toNat) (fun _ => True) M1
  | _ => False
theorem f_rng1 : irng1 T ρ M R = T ρ M fun ds M1 => rngK ds M1 R := rfl
theorem f_rngK : rngK [.int j] M R = ((-(2 ^ 62) ≤ j ∧ j < 2 ^ 62) ∧ R (intsD 0 j.toNat) (fun _ => True) M) := rfl
def zipK (ds : List D) (M1 : Mem) (R : List D → (Mem → Prop) → Mem → Prop) : Prop := match ds with
  | [.tup xs, .tup ys] => R (pairs xs ys) (fun _ => True) M1
  | [.ref a, .ref b] => (match rdL M1 a, rdL M1 b with
    | some xs, some ys => R (pairs xs ys) (fun M => rdL M a = some xs ∧ rdL M b = some ys) M1
    | _, _ => False)
  | _ => False
theorem f_zip : izip T ρ M R = T ρ M fun ds M1 => zipK ds M1 R := rfl
theorem f_zipT : zipK [.tup xs, .tup ys] M R = R (pairs xs ys) (fun _ => True) M := rfl
theorem f_yes {Q : Bool → Mem → Prop} : tyes ρ M Q = Q true M := rfl
theorem f_par3 {i j l : Nat} : tparT i j l T E ρ M = T ρ M fun ds M1 => tpar3 i j l ds E ρ M1 := rfl
theorem f_par3K {i j l : Nat} : tpar3 i j l [x, y, z] E ρ M = E.nx (((ρ.set i (some x)).set j (some y)).set l (some z)) M := rfl
theorem f_isi {n : String} : isiR [d, .ty n] M Q = isiK ((kindD M d).bind fun t => kitB t n) M Q := rfl
theorem f_isiK {b : Bool} : isiK (some b) M Q = Q (.bl b) M := rfl
theorem f_fld {K : PySem.W.Frag} {f : Str} : tfld K f te ρ M Q = te ρ M fun x M1 => ∃ a C fs d, x = .ref a ∧ M1 a = some (.exi C fs) ∧ ExK K C ∧ PySem.W.findIn K (.ref C) f = some none ∧ fs.lookup f = some d ∧ Q d M1 := rfl
theorem f_mkE {C : Addr} {ns : List Str} : tmkE C ns T ρ M Q = T ρ M fun ds M1 => ds.length = ns.length ∧ ∀ a, M1 a = none → Q (.ref a) (put M1 a (.exi C (ns.zip ds).reverse)) := rfl
theorem f_mk0 {C : Addr} : tmk0 C ρ M Q = ∀ a, M a = none → Q (.ref a) (put M a (.exi C [])) := rfl
theorem f_slice {tl th : TOd} : tslice te tl th ρ M Q = te ρ M fun x M1 => tl ρ M1 fun lo M2 => th ρ M2 fun hi M3 => slR x lo hi M3 Q := rfl
theorem f_nopart {Q : Option Int → Mem → Prop} : tnopart ρ M Q = Q none M := rfl
def partK (x : D) (M1 : Mem) (Q : Option Int → Mem → Prop) : Prop := match x with
  | .int i => Q (some i) M1
  | _ => False
theorem f_part {Q : Option Int → Mem → Prop} : tpart te ρ M Q = te ρ M fun x M1 => partK x M1 Q := rfl
theorem f_partK {Q : Option Int → Mem → Prop} : partK (.int i) M Q = Q (some i) M := rfl
theorem f_slT {lo hi : Option Int} : slR (.tup xs) lo hi M Q = Q (.tup (cutD xs lo hi)) M := rfl
end

/-! ### rows, whatever bears them -/
theorem g_len {M : Mem} {d : D} {xs : List D} {Q : VKd} (h : rdS M d = some xs) : lenR [d] M Q = Q (.int xs.length) M := by
  show lenR1 d M Q = _
  cases d with
  | tup ys => simp [rdS] at h; subst h; rfl
  | ref a => simp only [rdS] at h; simp only [lenR1, h]
  | _ => simp [rdS] at h
theorem g_ix {M : Mem} {d x : D} {xs : List D} {i : Int} {Q : VKd} (h : rdS M d = some xs) (e : atI xs i = some x) : ixR d (.int i) M Q = Q x M := by
  cases d with
  | tup ys => simp [rdS] at h; subst h; simp only [ixR, e]
  | ref a => simp only [rdS] at h; simp only [ixR, ixRef, h, e]
  | _ => simp [rdS] at h
theorem atI_mem {xs : List D} {i : Int} (h0 : 0 ≤ i) (h1 : i < xs.length) : ∃ x, x ∈ xs ∧ atI xs i = some x := by
  have hl : i.toNat < xs.length := by omega
  refine ⟨xs[i.toNat], List.getElem_mem hl, ?_⟩
  unfold atI ixN
  rw [if_pos h0, if_pos (by omega)]
  simp [hl]
theorem rdS_keep {M M' : Mem} {d : D} (h : ∀ a, d = .ref a → M' a = M a) : rdS M' d = rdS M d := by
  cases d with
  | ref a => simp only [rdS, rdL, h a rfl]
  | _ => rfl

/-! ### loops by invariants -/
theorem for_inv {items : List D} {ok : Mem → Prop} {g : TGd} {tb : TSd} {E : Endsd} {ρ : Envd} {M : Mem} (W : Nat → Envd → Mem → Prop) (w0 : W 0 ρ M) (hok : ∀ i ρ M, i ≤ items.length → W i ρ M → ok M)
    (step : ∀ i x ρ M, items[i]? = some x → W i ρ M → g x ρ M fun ρ2 M2 => tb { E with nx := W (i + 1), ct := W (i + 1), bk := E.nx } ρ2 M2) (fin : ∀ ρ M, W items.length ρ M → E.nx ρ M) : forK items ok g tb E ρ M := by
  refine ⟨W, w0, fun i ρ M hi w => ⟨hok i ρ M hi w, ?_⟩⟩
  cases e : items[i]? with
  | none =>
    have : i = items.length := by
      have := List.getElem?_eq_none_iff.mp e
      omega
    subst this
    exact fin ρ M w
  | some x => exact step i x ρ M e w
/-- what stood stays -/
def Keep (M M' : Mem) : Prop := ∀ b o, M b = some o → M' b = some o
theorem Keep.refl {M : Mem} : Keep M M := fun _ _ h => h
theorem Keep.trans {M1 M2 M3 : Mem} (h : Keep M1 M2) (k : Keep M2 M3) : Keep M1 M3 := fun b o e => k b o (h b o e)
theorem Keep.new {M : Mem} {p : Addr} {o : DO} (h : M p = none) : Keep M (put M p o) := fun b u e => by rw [put_ne (ne_none e h)]; exact e
theorem Keep.put {M M' : Mem} {p : Addr} {o : DO} (k : Keep M M') (h : M p = none) : Keep M (put M' p o) := fun b u e => by rw [put_ne (ne_none e h)]; exact k b u e
theorem lc_inv {items : List D} {ok : Mem → Prop} {g : TGd} {tt : TTd} {te : TEd} {vs : List Nat} {p : Addr} {ρ : Envd} {M1 : Mem} {Q : VKd} (W : Nat → List D → Mem → Prop) (w0 : W 0 [] (put M1 p (.lst []))) (hok : ∀ i acc M, i ≤ items.length → W i acc M → ok M)
    (step : ∀ i x acc M, items[i]? = some x → W i acc M → g x (wiped ρ vs) M fun ρ2 M2 => tt ρ2 M2 fun b M3 => if b = true then te ρ2 M3 fun y M4 => M4 p = some (.lst acc) ∧ acc.length < sizeLine ∧ W (i + 1) (acc ++ [y]) (put M4 p (.lst (acc ++ [y]))) else W (i + 1) acc M3)
    (fin : ∀ acc M, W items.length acc M → Q (.ref p) M) : lcK items ok g tt te vs p ρ M1 Q := by
  refine ⟨W, w0, fun i acc M hi w => ⟨hok i acc M hi w, ?_⟩⟩
  cases e : items[i]? with
  | none =>
    have : i = items.length := by
      have := List.getElem?_eq_none_iff.mp e
      omega
    subst this
    exact fin acc M w
  | some x => exact step i x acc M e w
theorem take_succ_some {α : Type} {l : List α} {i : Nat} {x : α} (h : l[i]? = some x) : l.take (i + 1) = l.take i ++ [x] := by
  rw [List.take_add_one, h]
  rfl
/-- each item gives F x, or nothing; what stood stays -/
theorem lc_pure {items : List D} {ok : Mem → Prop} {g : TGd} {tt : TTd} {te : TEd} {vs : List Nat} {p : Addr} {ρ : Envd} {M1 : Mem} {Q : VKd} (F : D → Option D) (hp : M1 p = none) (hl : items.length < sizeLine) (hok : ∀ M, Keep M1 M → ok M)
    (step : ∀ x ∈ items, ∀ (M : Mem) (acc : List D), Keep M1 M → M p = some (.lst acc) → ∀ (Ky : D → Mem → Prop) (Kn : Mem → Prop), (∀ M' y, F x = some y → Keep M M' → Ky y M') → (∀ M', F x = none → Keep M M' → Kn M') →
      g x (wiped ρ vs) M fun ρ2 M2 => tt ρ2 M2 fun b M3 => if b = true then te ρ2 M3 Ky else Kn M3)
    (fin : ∀ M, Keep M1 M → M p = some (.lst (items.filterMap F)) → Q (.ref p) M) : lcK items ok g tt te vs p ρ M1 Q := by
  refine lc_inv (fun i acc M => Keep M1 M ∧ M p = some (.lst acc) ∧ acc = (items.take i).filterMap F) ⟨Keep.new hp, put_same, by simp⟩ (fun i acc M _ w => hok M w.1) (fun i x acc M e w => ?_) fun acc M w => ?_
  · obtain ⟨k, hM, ea⟩ := w
    have hlen : acc.length ≤ i := by
      rw [ea]
      exact Nat.le_trans (List.length_filterMap_le _ _) (by rw [List.length_take]; omega)
    have hi : i < items.length := (List.getElem?_eq_some_iff.mp e).1
    refine step x (List.mem_of_getElem? e) M acc k hM _ _ (fun M' y ey kM => ⟨kM p _ hM, by omega, (k.trans kM).put hp, put_same, ?_⟩) fun M' ey kM => ⟨k.trans kM, kM p _ hM, ?_⟩
    · rw [take_succ_some e, List.filterMap_append, ← ea]
      simp [ey]
    · rw [take_succ_some e, List.filterMap_append, ← ea]
      simp [ey]
  · obtain ⟨k, hM, ea⟩ := w
    rw [List.take_length] at ea
    rw [ea] at hM
    exact fin M k hM

theorem fun_of {K : PySem.W.Frag} {x q : Str} {st : Stmt} {kws : List (Str × V)} {f : Addr} {fd : FuncData} (F : FunD K x q (defArgs st) (defBody st) (defScope st) [] kws f fd) : Fun K x q st f fd := by
  obtain ⟨oc, od, dV, kV, doc, pm, an, cdv, ct, osl, e, lk, hcd, hD, hK⟩ := F.ex
  rcases hD with ⟨_, rfl⟩ | ⟨z, _⟩
  · exact ⟨⟨oc, od, kV, doc, pm, an, cdv, ct, osl, e, lk, hcd⟩, F.kp⟩
  · exact absurd rfl z
end DL

end T_DLY

section T_DLI
set_option Elab.async false
set_option linter.all false
set_option maxRecDepth 100000
set_option maxHeartbeats 2000000
/-! The D layer, I: what __init__ of an own exception does. -/
namespace DL
open PySem PySem.Spec L2
open PyProof.Rows hiding St

/-! ### __init__ of an own exception -/
section
variable {P : Program} {w : World} {K : PySem.W.Frag} {mg : Str → Option Value} {base : Heap} {C f : Addr} {fd : FuncData} {q : Str} {st : Stmt}
theorem upd_turn {H : Hp} {a b : Addr} {x y z : HO} (h : a ≠ b) : upd (upd (upd H a x) b y) a z = upd (upd H a z) b y := by
  funext c
  unfold upd
  by_cases h1 : c = a
  · subst h1
    simp [h]
  · simp [h1]
theorem ini1 {n1 : Str} {p1 p2 p3 p4 : Pos} (F : Fun K "__init__" q st f fd) (S : FnScope ["self", n1] ["self", n1] (defScope st)) (hb : defBody st = [.Assign [.Attribute (.Name "self" p1) n1 p2] (.Name n1 p3) p4]) (T : OexC K C)
    (h1 : PySem.W.findIn K (.ref C) n1 = some none) (d1 : (n1 == ("__debug__" : Str)) = false) (c1 : (n1 == ("__classdict__" : Str)) = false) (v1 : (defScope st).names.lookup n1 = some .local) (v0 : (defScope st).names.lookup ("self" : Str) = some .local) : FnOk P w K mg base (L2.CX P w) 1 f fd ["self", n1] (spIni C [n1]) := by
  refine F.okX S (fun vs H Q E h => ?_) (fun cdv A outer s H vs Q E hr h => ⟨tOst K n1 (tVar 0) (tVar 1), ?_, ?_⟩)
  · obtain ⟨a, xs, rfl, hl, _⟩ := h
    simp [hl]
  · rw [hb]
    exact pss_one (ps_ost (pe_var rfl (.inl v0) (by decide) (by decide)) (pe_var rfl (.inl v1) d1 c1))
  · obtain ⟨a, xs, rfl, hl, ha, k⟩ := h
    match xs, hl with
    | [x], _ => exact ⟨_, rfl, _, rfl, a, C, rfl, T, h1, .inl ⟨ha, fun dx n ne => k dx n ne⟩⟩
theorem ini2 {n1 n2 : Str} {p1 p2 p3 p4 q1 q2 q3 q4 : Pos} (F : Fun K "__init__" q st f fd) (S : FnScope ["self", n1, n2] ["self", n1, n2] (defScope st))
    (hb : defBody st = [.Assign [.Attribute (.Name "self" p1) n1 p2] (.Name n1 p3) p4, .Assign [.Attribute (.Name "self" q1) n2 q2] (.Name n2 q3) q4]) (T : OexC K C)
    (h1 : PySem.W.findIn K (.ref C) n1 = some none) (d1 : (n1 == ("__debug__" : Str)) = false) (c1 : (n1 == ("__classdict__" : Str)) = false) (v1 : (defScope st).names.lookup n1 = some .local) (v0 : (defScope st).names.lookup ("self" : Str) = some .local)
    (h2 : PySem.W.findIn K (.ref C) n2 = some none) (d2 : (n2 == ("__debug__" : Str)) = false) (c2 : (n2 == ("__classdict__" : Str)) = false) (v2 : (defScope st).names.lookup n2 = some .local) : FnOk P w K mg base (L2.CX P w) 1 f fd ["self", n1, n2] (spIni C [n1, n2]) := by
  refine F.okX S (fun vs H Q E h => ?_) (fun cdv A outer s H vs Q E hr h => ⟨tSeq (tOst K n1 (tVar 0) (tVar 1)) (tOst K n2 (tVar 0) (tVar 2)), ?_, ?_⟩)
  · obtain ⟨a, xs, rfl, hl, _⟩ := h
    simp [hl]
  · rw [hb]
    exact pss_cons (ps_ost (pe_var rfl (.inl v0) (by decide) (by decide)) (pe_var rfl (.inl v1) d1 c1)) (pss_one (ps_ost (pe_var rfl (.inl v0) (by decide) (by decide)) (pe_var rfl (.inl v2) d2 c2)))
  · obtain ⟨a, xs, rfl, hl, ha, k⟩ := h
    match xs, hl with
    | [x, y], _ =>
      refine ⟨_, rfl, _, rfl, a, C, rfl, T, h1, .inl ⟨ha, fun dx n ne => ⟨_, rfl, _, rfl, a, C, rfl, T, h2, .inr ⟨dx, [(n1, x)], upd_same, by rw [upd_ne ne, upd_same], by simp, ?_⟩⟩⟩⟩
      have e := k dx n ne
      rw [upd_turn ne]
      exact e
theorem ini3 {n1 n2 n3 : Str} {p1 p2 p3 p4 q1 q2 q3 q4 r1 r2 r3 r4 : Pos} (F : Fun K "__init__" q st f fd) (S : FnScope ["self", n1, n2, n3] ["self", n1, n2, n3] (defScope st))
    (hb : defBody st = [.Assign [.Attribute (.Name "self" p1) n1 p2] (.Name n1 p3) p4, .Assign [.Attribute (.Name "self" q1) n2 q2] (.Name n2 q3) q4, .Assign [.Attribute (.Name "self" r1) n3 r2] (.Name n3 r3) r4]) (T : OexC K C)
    (h1 : PySem.W.findIn K (.ref C) n1 = some none) (d1 : (n1 == ("__debug__" : Str)) = false) (c1 : (n1 == ("__classdict__" : Str)) = false) (v1 : (defScope st).names.lookup n1 = some .local) (v0 : (defScope st).names.lookup ("self" : Str) = some .local)
    (h2 : PySem.W.findIn K (.ref C) n2 = some none) (d2 : (n2 == ("__debug__" : Str)) = false) (c2 : (n2 == ("__classdict__" : Str)) = false) (v2 : (defScope st).names.lookup n2 = some .local)
    (h3 : PySem.W.findIn K (.ref C) n3 = some none) (d3 : (n3 == ("__debug__" : Str)) = false) (c3 : (n3 == ("__classdict__" : Str)) = false) (v3 : (defScope st).names.lookup n3 = some .local) : FnOk P w K mg base (L2.CX P w) 1 f fd ["self", n1, n2, n3] (spIni C [n1, n2, n3]) := by
  refine F.okX S (fun vs H Q E h => ?_) (fun cdv A outer s H vs Q E hr h => ⟨tSeq (tOst K n1 (tVar 0) (tVar 1)) (tSeq (tOst K n2 (tVar 0) (tVar 2)) (tOst K n3 (tVar 0) (tVar 3))), ?_, ?_⟩)
  · obtain ⟨a, xs, rfl, hl, _⟩ := h
    simp [hl]
  · rw [hb]
    exact pss_cons (ps_ost (pe_var rfl (.inl v0) (by decide) (by decide)) (pe_var rfl (.inl v1) d1 c1)) (pss_cons (ps_ost (pe_var rfl (.inl v0) (by decide) (by decide)) (pe_var rfl (.inl v2) d2 c2)) (pss_one (ps_ost (pe_var rfl (.inl v0) (by decide) (by decide)) (pe_var rfl (.inl v3) d3 c3))))
  · obtain ⟨a, xs, rfl, hl, ha, k⟩ := h
    match xs, hl with
    | [x, y, z], _ =>
      refine ⟨_, rfl, _, rfl, a, C, rfl, T, h1, .inl ⟨ha, fun dx n ne => ⟨_, rfl, _, rfl, a, C, rfl, T, h2, .inr ⟨dx, [(n1, x)], upd_same, by rw [upd_ne ne, upd_same], by simp, ⟨_, rfl, _, rfl, a, C, rfl, T, h3, .inr ⟨dx, [(n2, y), (n1, x)], by rw [upd_ne (Ne.symm ne), upd_same], upd_same, by simp, ?_⟩⟩⟩⟩⟩⟩
      have e := k dx n ne
      rw [upd_upd, upd_turn ne]
      exact e
end
end DL

end T_DLI

section T_DLH
set_option Elab.async false
set_option linter.all false
set_option maxRecDepth 100000
set_option maxHeartbeats 2000000
/-! The D layer, H: facts of the head, as Bools. -/
namespace DL
open PySem PySem.Spec L2
open PyProof.Rows hiding St

/-- the method m of the class that the top statement st makes -/
def methOf (st : Stmt) (j : Nat) : Stmt := match st with
  | .ClassDef _ _ _ body _ _ _ _ _ _ _ => body.getD j (.Pass ⟨0, 0, 0, 0⟩)
  | _ => .Pass ⟨0, 0, 0, 0⟩
def topDef (x : Str) (st : Stmt) : He.DefD := ⟨(x, none), x, x, defArgs st, defBody st, defScope st, [], []⟩
def metDef (c m : Str) (q : Str) (st : Stmt) : He.DefD := ⟨(c, some m), m, q, defArgs st, defBody st, defScope st, [], []⟩
def oexB (K : PySem.W.Frag) (C : Addr) : Bool := (match K.lookup C with
  | some ⟨.type "type", _, .cls cd, sl⟩ => (match cd.mro, sl.toList with
    | .ref C' :: bm, [_, _, _, _, some (.builtin n), _] => C' == C && n == "ValueError.__new__" && cd.hasDict && !cd.hasDel && PySem.HandSPX.refsVE bm
    | _, _ => false)
  | _ => false) && decide (PySem.W.findIn K (.ref C) "__setattr__" = some (some (.builtin "object.__setattr__"))) && decide (PySem.W.subIn K (.ref C) (.type "BaseException") = some true) && decide (PySem.W.typeIn K (.ref C) = some (.type "type")) && PySem.W.keepIn K (.ref C)
theorem oexB_ok {K : PySem.W.Frag} {C : Addr} (h : oexB K C = true) : OexC K C := by
  unfold oexB at h
  simp only [Bool.and_eq_true, decide_eq_true_eq] at h
  obtain ⟨⟨⟨⟨q, h2⟩, h3⟩, h4⟩, h5⟩ := h
  refine ⟨?_, h2, h3, h4, h5⟩
  split at q
  · rename_i dd cd sl ho
    split at q
    · rename_i C' bm k0 k1 k2 k3 n k5 hm hs
      simp only [Bool.and_eq_true, beq_iff_eq, Bool.not_eq_true'] at q
      obtain ⟨⟨⟨⟨e1, e2⟩, e3⟩, e4⟩, e5⟩ := q
      subst e1 e2
      obtain ⟨nm, bs, mro, ns, qn, hd, sn, sub, ab, col, dl⟩ := cd
      dsimp only at hm e3 e4
      subst hm e3 e4
      obtain ⟨l⟩ := sl
      have hsl : l = [k0, k1, k2, k3, some (.builtin "ValueError.__new__"), k5] := hs
      subst hsl
      exact ⟨nm, qn, ns, bs, bm, sn, sub, ab, col, dd, k0, k1, k2, k3, k5, ho, e5⟩
    · cases q
  · cases q
def iniB (K : PySem.W.Frag) (x : Str) : Bool := decide (PySem.W.findIn K (.ref (He.ga K x)) "__init__" = some (some (.ref (He.fAd K (x, some "__init__"))))) && decide (PySem.W.typeIn K (.ref (He.fAd K (x, some "__init__"))) = some (.type "function"))
/-- no list stands in the written part -/
def noLst (K : PySem.W.Frag) : Bool := K.all fun p => !decide (p.2.cls = .type "list")
theorem noLst_rd {K : PySem.W.Frag} {H : Hp} {a : Addr} {xs : List V} (h : noLst K = true) (s : SqL K H a xs) : Rd H a (.lst xs) := by
  rcases s with s | ⟨o, its, n, hk, hc, _⟩
  · exact s
  · have z := List.all_eq_true.mp h (a, o) (He.lookup_mem hk)
    simp [hc] at z
/-- the law's call, from its promise on data -/
theorem lowLaw {K : PySem.W.Frag} {H : Hp} {a : Addr} {ns : List Int} {s : SpD} (hl : noLst K = true) (hS : SqL K H a (ns.map V.int)) (h : ∀ M : Mem, M a = some (.ro (ns.map D.int)) → s [.ref a] M (fun d _ => d = .bl true) fun _ _ _ => False) :
    lowSp K s [.ref a] H (fun v _ => v = .bl true) fun _ _ _ => False := by
  have rl : ∀ l : List Int, RelL H (l.map D.int) (l.map V.int) := fun l => by
    induction l with
    | nil => exact .nil
    | cons x l ih => exact .cons rfl ih
  refine ⟨[.ref a], fun b => if b = a then some (.ro (ns.map D.int)) else none, fun d _ => d = .bl true, fun _ _ _ => False, .cons rfl .nil, fun b o e => ?_, h _ (if_pos rfl), fun v H' d M' _ r _ q => ?_, fun _ _ _ _ _ _ _ _ _ _ z => z⟩
  · by_cases hb : b = a
    · subst hb
      have e2 := (if_pos rfl).symm.trans e
      cases e2
      exact ⟨ns.map V.int, noLst_rd hl hS, rl ns⟩
    · have e2 := (if_neg hb).symm.trans e
      cases e2
  · subst q
    exact r
end DL

end T_DLH

section T_Head_law_k00
set_option Elab.async false
set_option linter.all false
set_option maxRecDepth 100000
set_option maxHeartbeats 4000000
namespace Lw
open PySem PySem.Spec L2 DL
open PyProof.Rows hiding St
def top (i : Nat) : Stmt := PySem.Challenge.pw_climbabout_k00_errors.main.body.getD i (.Pass ⟨0, 0, 0, 0⟩)
/-- the built-ins' names are free -/
structure Free (mg : Str → Option Value) : Prop where
  len : mg "len" = none
  range : mg "range" = none
  list : mg "list" = none
  tuple : mg "tuple" = none
  int : mg "int" = none
  sum : mg "sum" = none
  all : mg "all" = none
  any : mg "any" = none
  max : mg "max" = none
  min : mg "min" = none
  abs : mg "abs" = none
  sorted : mg "sorted" = none
  zip : mg "zip" = none
  enumerate : mg "enumerate" = none
  isinstance : mg "isinstance" = none
  repr : mg "repr" = none
  dict : mg "dict" = none
  set : mg "set" = none
  bool : mg "bool" = none
  str : mg "str" = none
  ValueError : mg "ValueError" = none

abbrev s_law_pen : Stmt := top 18
theorem sc_law_pen : FnScope ["script", "fold", "cell"] ["script"] (defScope s_law_pen) := ⟨rfl, rfl, rfl, by decide +kernel, rfl, by decide +kernel, by decide +kernel⟩

abbrev s_law_draw : Stmt := top 19
theorem sc_law_draw : FnScope ["pen", "many", "cell", "digit", "blend"] ["pen", "many"] (defScope s_law_draw) := ⟨rfl, rfl, rfl, by decide +kernel, rfl, by decide +kernel, by decide +kernel⟩

abbrev s_law_pick : Stmt := top 20
theorem sc_law_pick : FnScope ["pen", "some"] ["pen", "some"] (defScope s_law_pick) := ⟨rfl, rfl, rfl, by decide +kernel, rfl, by decide +kernel, by decide +kernel⟩

abbrev s_law_one : Stmt := top 21
theorem sc_law_one : FnScope ["kind", "a", "b", "c", "e"] ["kind", "a", "b", "c"] (defScope s_law_one) := ⟨rfl, rfl, rfl, by decide +kernel, rfl, by decide +kernel, by decide +kernel⟩

abbrev s_law_more : Stmt := top 22
theorem sc_law_more : FnScope ["kind", "a", "b", "c", "e"] ["kind", "a", "b", "c"] (defScope s_law_more) := ⟨rfl, rfl, rfl, by decide +kernel, rfl, by decide +kernel, by decide +kernel⟩

abbrev s_law_kinds : Stmt := top 23
theorem sc_law_kinds : FnScope ["e", "found"] ["e"] (defScope s_law_kinds) := ⟨rfl, rfl, rfl, by decide +kernel, rfl, by decide +kernel, by decide +kernel⟩

abbrev s_law : Stmt := top 24
theorem sc_law : FnScope ["script", "pen", "menu", "kind", "a", "b", "c", "dues", "e", "fields", "many", "k"] ["script"] (defScope s_law) := ⟨rfl, rfl, rfl, by decide +kernel, rfl, by decide +kernel, by decide +kernel⟩
end Lw

end T_Head_law_k00

section T_Pen
set_option Elab.async false
set_option linter.all false
set_option maxRecDepth 100000
set_option maxHeartbeats 4000000
namespace Lw
open PySem PySem.Spec L2 DL
open PyProof.Rows hiding St
/-! ### the pen -/
def penD (c : Addr) (at_ digits count fold : Int) : List (D × D) := [(.str "cells", .ref c), (.str "at", .int at_), (.str "digits", .int digits), (.str "count", .int count), (.str "fold", .int fold)]
section
variable {c : Addr} {a d n f x : Int}
theorem pen1 : look (penD c a d n f) (.str "cells") = some (.ref c) := rfl
theorem pen2 : look (penD c a d n f) (.str "at") = some (.int a) := rfl
theorem pen3 : look (penD c a d n f) (.str "digits") = some (.int d) := rfl
theorem pen4 : look (penD c a d n f) (.str "count") = some (.int n) := rfl
theorem pen5 : look (penD c a d n f) (.str "fold") = some (.int f) := rfl
theorem pun2 : dput (penD c a d n f) (.str "at") (.int x) = penD c x d n f := rfl
theorem pun3 : dput (penD c a d n f) (.str "digits") (.int x) = penD c a x n f := rfl
theorem pun4 : dput (penD c a d n f) (.str "count") (.int x) = penD c a d x f := rfl
theorem pun5 : dput (penD c a d n f) (.str "fold") (.int x) = penD c a d n x := rfl
theorem penk {s : Str} : isKey false (.str s) = true := rfl
theorem penl : (penD c a d n f).length < sizeLine := by show 5 < sizeLine; decide
end
structure Pen (M : Mem) (p c : Addr) (ns : List Int) (n : Nat) : Prop where
  ex : ∃ at_ digits count fold : Int, M p = some (.dK (penD c at_ digits count fold)) ∧ 0 ≤ at_ ∧ 0 ≤ digits ∧ 0 ≤ count ∧ count ≤ n ∧ 0 ≤ fold ∧ fold < 2147483648
  cl : M c = some (.lst (ns.map D.int))
def Chg (p : Addr) (M M' : Mem) : Prop := ∀ b, b ≠ p → M' b = M b
def spDraw : SpD := fun ds M Q _ => ∃ p c ns n many, ds = [.ref p, .int many] ∧ Pen M p c ns n ∧ n < 2 ^ 40 ∧ 0 < many ∧ many < 2 ^ 30 ∧ ∀ (r : Int) M', 0 ≤ r → r < many → Chg p M M' → Pen M' p c ns (n + 1) → Q (.int r) M'
section
variable {P : Program} {w : World} {K : PySem.W.Frag} {mg : Str → Option Value} {base : Heap}
theorem ok_draw (Z : Free mg) (S : Stands K mg "_law_draw" s_law_draw ["pen", "many"]) : FnD P w K mg base 1 "_law_draw" ["pen", "many"] spDraw := by
  obtain ⟨f, fd, F, hm, hb⟩ := S
  refine FnD.of F sc_law_draw hm hb (fun ds M Q E h => ?_) fun cdv A outer s0 H0 E E0 hr tk hp => ?_
  · obtain ⟨p, c, ns, n, many, rfl, _⟩ := h; rfl
  have nd := sc_law_draw.nd
  refine ⟨_, (pssd_cons (psd_asg (ped_op op_addD (ped_ix (u1 hr) (v 0) ped_str) ped_int) (pgd_sub (u1 hr) (v 0) ped_str))
  (pssd_cons (psd_if (PWd.pt (pwd_and (ptd_cmp (op_eqDD (u64 hr)) (ped_ix (u1 hr) (v 0) ped_str) ped_int (nomark _)) (pwd_and1 (ptd_cmp op_ltD (ped_ix (u1 hr) (v 0) ped_str) (ped_callB call_lenD2 rfl Z.len PySem.boot_len (pad_cons (ped_ix (u1 hr) (v 0) ped_str) pad_nil)) (nomark _))))) (pssd_cons (sv 2 nd (ped_ix (u1 hr) (ped_ix (u1 hr) (v 0) ped_str) (ped_ix (u1 hr) (v 0) ped_str)))
      (pssd_cons (psd_asg (ped_op op_addD (ped_ix (u1 hr) (v 0) ped_str) ped_int) (pgd_sub (u1 hr) (v 0) ped_str))
      (pssd_one (psd_if (ptd_cmp op_geD (v 2) (ped_op op_powD ped_int ped_int) (nomark _)) (pssd_one (psd_asg (ped_op op_subD (v 2) (ped_op op_powD ped_int ped_int)) (pgd_sub (u1 hr) (v 0) ped_str))) (pssd_one (psd_asg (ped_op op_modD (ped_callTy call_intD rfl Z.int (by decide +kernel) (pad_cons (ped_op op_addD (ped_op op_mulD (ped_ix (u1 hr) (v 0) ped_str) ped_int) (v 2)) pad_nil)) ped_int) (pgd_sub (u1 hr) (v 0) ped_str))))))) pssd_nil)
  (pssd_cons (psd_if (ptd_cmp op_gtD (ped_ix (u1 hr) (v 0) ped_str) ped_int (nomark _)) (pssd_cons (sv 3 nd (ped_op op_modD (ped_callTy call_intD rfl Z.int (by decide +kernel) (pad_cons (ped_ix (u1 hr) (v 0) ped_str) pad_nil)) (v 1)))
      (pssd_cons (psd_asg (ped_op op_fdivD (ped_ix (u1 hr) (v 0) ped_str) (v 1)) (pgd_sub (u1 hr) (v 0) ped_str))
      (pssd_one (psd_ret (v 3))))) pssd_nil)
  (pssd_cons (sv 4 nd (ped_op op_addD (ped_op op_addD (ped_ix (u1 hr) (v 0) ped_str) (ped_op op_mulD (ped_ix (u1 hr) (v 0) ped_str) ped_int)) ped_int))
  (pssd_one (psd_ret (ped_op op_modD (ped_op op_fdivD (ped_callTy call_intD rfl Z.int (by decide +kernel) (pad_cons (ped_op op_modD (ped_op op_powD (v 4) ped_int) ped_int) pad_nil)) ped_int) (v 1)))))))), fun ds M Q h => ?_⟩
  obtain ⟨p, c, ns, n, many, rfl, hpen, hn, h0, h1, k⟩ := h
  obtain ⟨⟨at_, digits, count, fold, hM, a0, d0, c0, cn, f0, f1⟩, hc⟩ := hpen
  have hpc : c ≠ p := fun e => by rw [e, hM] at hc; cases hc
  refine seq_cut (fun ρ M1 => ρ = [some (.ref p), some (.int many), none, none, none] ∧ Chg p M M1 ∧ M1 p = some (.dK (penD c at_ digits (count + 1) fold))) (fun N hN => ?_) ?_
  · show tasg _ _ _ [some (.ref p), some (.int many), none, none, none] M
    simp only [DL.e_next, DL.e_break, DL.e_cont, DL.e_drop, DL.e_ret, DL.e_retN, DL.e_ifS, DL.e_asg, DL.e_par, DL.e_par2, DL.e_del, DL.e_gname, DL.e_gsub, DL.e_gtup, DL.e_gcons, DL.e_gnil, DL.e_var0, DL.e_varS, DL.e_con, DL.e_top2, DL.e_top1, DL.e_cb, DL.e_nil, DL.e_cons, DL.e_tup, DL.e_lst, DL.e_test, DL.e_testK, DL.e_tru, DL.e_truB, DL.e_truN, DL.e_truL, DL.e_and, DL.e_or, DL.e_not, DL.e_if, DL.e_andV, DL.e_andK, DL.e_orV, DL.e_orK, DL.e_notV, DL.e_notK, DL.e_add, DL.e_addS, DL.e_addT, DL.e_addL, DL.e_sub, DL.e_mul, DL.e_mulL, DL.e_mulT, DL.e_fdiv, DL.e_mod, DL.e_pow, DL.e_neg, DL.e_lt, DL.e_le, DL.e_gt, DL.e_ge, DL.e_eqI, DL.e_eqS, DL.e_neI, DL.e_neS, DL.e_isN, DL.e_isntN, DL.e_isB, DL.e_isntB, DL.e_atK, DL.e_ixT, DL.e_ixL, DL.e_ixK, DL.e_ixDT, DL.e_setK, DL.e_setDT, DL.e_setSome, DL.e_setL, DL.e_delK, DL.e_delT, DL.e_inT, DL.e_inK, DL.e_lenL, DL.e_lenT, DL.e_lenK, DL.e_lenS, DL.e_listL, DL.e_listO, DL.e_listT, DL.e_tupleL, DL.e_tupleT, DL.e_int, DL.e_lm0, DL.e_lm, DL.e_isL, DL.e_app, DL.e_pop, DL.e_popSome, DL.e_call, DL.e_newT, DL.e_newK, DL.e_disp, DL.e_prs0, DL.e_prsS, DL.f_for, DL.f_lc, DL.f_dc, DL.f_iseq, DL.f_seqT, DL.f_rng1, DL.f_rngK, DL.f_zip, DL.f_zipT, DL.f_yes, DL.f_par3, DL.f_par3K, DL.f_isi, DL.f_isiK, DL.f_fld, DL.f_mkE, DL.f_mk0, DL.f_slice, DL.f_nopart, DL.f_part, DL.f_partK, DL.f_slT, List.set_cons_zero, List.set_cons_succ, List.length_cons, List.length_nil, decide_eq_true_eq, Bool.not_eq_true, true_and, and_true, if_true, Bool.false_eq_true, if_false, Nat.reduceAdd, Nat.reduceLT, Nat.reduceLeDiff, e_ixK hM, e_setK hM, pen4, pun4, penk, penl]
    exact hN _ _ ⟨rfl, fun b hb => put_ne hb, put_same⟩
  rintro ρ M1 ⟨rfl, C1, hM1⟩
  have hc1 : M1 c = some (.lst (ns.map D.int)) := by rw [C1 c hpc]; exact hc
  refine seq_cut (fun ρ M' => ∃ cl a d f, ρ = [some (.ref p), some (.int many), cl, none, none] ∧ Chg p M M' ∧ M' p = some (.dK (penD c a d (count + 1) f)) ∧ 0 ≤ a ∧ 0 ≤ d ∧ 0 ≤ f ∧ f < 2147483648) (fun N hN => ?_) ?_
  · simp only [DL.e_next, DL.e_break, DL.e_cont, DL.e_drop, DL.e_ret, DL.e_retN, DL.e_ifS, DL.e_asg, DL.e_par, DL.e_par2, DL.e_del, DL.e_gname, DL.e_gsub, DL.e_gtup, DL.e_gcons, DL.e_gnil, DL.e_var0, DL.e_varS, DL.e_con, DL.e_top2, DL.e_top1, DL.e_cb, DL.e_nil, DL.e_cons, DL.e_tup, DL.e_lst, DL.e_test, DL.e_testK, DL.e_tru, DL.e_truB, DL.e_truN, DL.e_truL, DL.e_and, DL.e_or, DL.e_not, DL.e_if, DL.e_andV, DL.e_andK, DL.e_orV, DL.e_orK, DL.e_notV, DL.e_notK, DL.e_add, DL.e_addS, DL.e_addT, DL.e_addL, DL.e_sub, DL.e_mul, DL.e_mulL, DL.e_mulT, DL.e_fdiv, DL.e_mod, DL.e_pow, DL.e_neg, DL.e_lt, DL.e_le, DL.e_gt, DL.e_ge, DL.e_eqI, DL.e_eqS, DL.e_neI, DL.e_neS, DL.e_isN, DL.e_isntN, DL.e_isB, DL.e_isntB, DL.e_atK, DL.e_ixT, DL.e_ixL, DL.e_ixK, DL.e_ixDT, DL.e_setK, DL.e_setDT, DL.e_setSome, DL.e_setL, DL.e_delK, DL.e_delT, DL.e_inT, DL.e_inK, DL.e_lenL, DL.e_lenT, DL.e_lenK, DL.e_lenS, DL.e_listL, DL.e_listO, DL.e_listT, DL.e_tupleL, DL.e_tupleT, DL.e_int, DL.e_lm0, DL.e_lm, DL.e_isL, DL.e_app, DL.e_pop, DL.e_popSome, DL.e_call, DL.e_newT, DL.e_newK, DL.e_disp, DL.e_prs0, DL.e_prsS, DL.f_for, DL.f_lc, DL.f_dc, DL.f_iseq, DL.f_seqT, DL.f_rng1, DL.f_rngK, DL.f_zip, DL.f_zipT, DL.f_yes, DL.f_par3, DL.f_par3K, DL.f_isi, DL.f_isiK, DL.f_fld, DL.f_mkE, DL.f_mk0, DL.f_slice, DL.f_nopart, DL.f_part, DL.f_partK, DL.f_slT, List.set_cons_zero, List.set_cons_succ, List.length_cons, List.length_nil, decide_eq_true_eq, Bool.not_eq_true, true_and, and_true, if_true, Bool.false_eq_true, if_false, Nat.reduceAdd, Nat.reduceLT, Nat.reduceLeDiff, e_ixK hM1, pen3, pen2, pen1, penk, penl, e_lenL hc1, List.length_map]
    refine ite2 (fun hd => ?_) (fun hd => ?_)
    · refine ite2 (fun ha => ?_) (fun ha => hN _ _ ⟨_, _, _, _, rfl, C1, hM1, a0, d0, f0, f1⟩)
      -- cell = pen['cells'][pen['at']]
      have ei : atI (ns.map D.int) at_ = some (.int (ns[at_.toNat]'(by omega))) := by
        unfold atI ixN
        rw [if_pos a0, if_pos (by rw [List.length_map]; omega)]
        simp [show at_.toNat < ns.length by omega]
      generalize ns[at_.toNat]'(by omega) = x at ei
      rw [e_seq]
      simp only [DL.e_next, DL.e_break, DL.e_cont, DL.e_drop, DL.e_ret, DL.e_retN, DL.e_ifS, DL.e_asg, DL.e_par, DL.e_par2, DL.e_del, DL.e_gname, DL.e_gsub, DL.e_gtup, DL.e_gcons, DL.e_gnil, DL.e_var0, DL.e_varS, DL.e_con, DL.e_top2, DL.e_top1, DL.e_cb, DL.e_nil, DL.e_cons, DL.e_tup, DL.e_lst, DL.e_test, DL.e_testK, DL.e_tru, DL.e_truB, DL.e_truN, DL.e_truL, DL.e_and, DL.e_or, DL.e_not, DL.e_if, DL.e_andV, DL.e_andK, DL.e_orV, DL.e_orK, DL.e_notV, DL.e_notK, DL.e_add, DL.e_addS, DL.e_addT, DL.e_addL, DL.e_sub, DL.e_mul, DL.e_mulL, DL.e_mulT, DL.e_fdiv, DL.e_mod, DL.e_pow, DL.e_neg, DL.e_lt, DL.e_le, DL.e_gt, DL.e_ge, DL.e_eqI, DL.e_eqS, DL.e_neI, DL.e_neS, DL.e_isN, DL.e_isntN, DL.e_isB, DL.e_isntB, DL.e_atK, DL.e_ixT, DL.e_ixL, DL.e_ixK, DL.e_ixDT, DL.e_setK, DL.e_setDT, DL.e_setSome, DL.e_setL, DL.e_delK, DL.e_delT, DL.e_inT, DL.e_inK, DL.e_lenL, DL.e_lenT, DL.e_lenK, DL.e_lenS, DL.e_listL, DL.e_listO, DL.e_listT, DL.e_tupleL, DL.e_tupleT, DL.e_int, DL.e_lm0, DL.e_lm, DL.e_isL, DL.e_app, DL.e_pop, DL.e_popSome, DL.e_call, DL.e_newT, DL.e_newK, DL.e_disp, DL.e_prs0, DL.e_prsS, DL.f_for, DL.f_lc, DL.f_dc, DL.f_iseq, DL.f_seqT, DL.f_rng1, DL.f_rngK, DL.f_zip, DL.f_zipT, DL.f_yes, DL.f_par3, DL.f_par3K, DL.f_isi, DL.f_isiK, DL.f_fld, DL.f_mkE, DL.f_mk0, DL.f_slice, DL.f_nopart, DL.f_part, DL.f_partK, DL.f_slT, List.set_cons_zero, List.set_cons_succ, List.length_cons, List.length_nil, decide_eq_true_eq, Bool.not_eq_true, true_and, and_true, if_true, Bool.false_eq_true, if_false, Nat.reduceAdd, Nat.reduceLT, Nat.reduceLeDiff, e_ixK hM1, pen3, pen2, pen1, penk, penl, e_ixL hc1, ei]
      rw [e_seq]
      simp only [DL.e_next, DL.e_break, DL.e_cont, DL.e_drop, DL.e_ret, DL.e_retN, DL.e_ifS, DL.e_asg, DL.e_par, DL.e_par2, DL.e_del, DL.e_gname, DL.e_gsub, DL.e_gtup, DL.e_gcons, DL.e_gnil, DL.e_var0, DL.e_varS, DL.e_con, DL.e_top2, DL.e_top1, DL.e_cb, DL.e_nil, DL.e_cons, DL.e_tup, DL.e_lst, DL.e_test, DL.e_testK, DL.e_tru, DL.e_truB, DL.e_truN, DL.e_truL, DL.e_and, DL.e_or, DL.e_not, DL.e_if, DL.e_andV, DL.e_andK, DL.e_orV, DL.e_orK, DL.e_notV, DL.e_notK, DL.e_add, DL.e_addS, DL.e_addT, DL.e_addL, DL.e_sub, DL.e_mul, DL.e_mulL, DL.e_mulT, DL.e_fdiv, DL.e_mod, DL.e_pow, DL.e_neg, DL.e_lt, DL.e_le, DL.e_gt, DL.e_ge, DL.e_eqI, DL.e_eqS, DL.e_neI, DL.e_neS, DL.e_isN, DL.e_isntN, DL.e_isB, DL.e_isntB, DL.e_atK, DL.e_ixT, DL.e_ixL, DL.e_ixK, DL.e_ixDT, DL.e_setK, DL.e_setDT, DL.e_setSome, DL.e_setL, DL.e_delK, DL.e_delT, DL.e_inT, DL.e_inK, DL.e_lenL, DL.e_lenT, DL.e_lenK, DL.e_lenS, DL.e_listL, DL.e_listO, DL.e_listT, DL.e_tupleL, DL.e_tupleT, DL.e_int, DL.e_lm0, DL.e_lm, DL.e_isL, DL.e_app, DL.e_pop, DL.e_popSome, DL.e_call, DL.e_newT, DL.e_newK, DL.e_disp, DL.e_prs0, DL.e_prsS, DL.f_for, DL.f_lc, DL.f_dc, DL.f_iseq, DL.f_seqT, DL.f_rng1, DL.f_rngK, DL.f_zip, DL.f_zipT, DL.f_yes, DL.f_par3, DL.f_par3K, DL.f_isi, DL.f_isiK, DL.f_fld, DL.f_mkE, DL.f_mk0, DL.f_slice, DL.f_nopart, DL.f_part, DL.f_partK, DL.f_slT, List.set_cons_zero, List.set_cons_succ, List.length_cons, List.length_nil, decide_eq_true_eq, Bool.not_eq_true, true_and, and_true, if_true, Bool.false_eq_true, if_false, Nat.reduceAdd, Nat.reduceLT, Nat.reduceLeDiff, e_ixK hM1, e_setK hM1, pen3, pen2, pen1, pun2, penk, penl]
      refine ⟨by decide, ite2 (fun hx => ?_) (fun hx => ?_)⟩
      · simp only [DL.e_next, DL.e_break, DL.e_cont, DL.e_drop, DL.e_ret, DL.e_retN, DL.e_ifS, DL.e_asg, DL.e_par, DL.e_par2, DL.e_del, DL.e_gname, DL.e_gsub, DL.e_gtup, DL.e_gcons, DL.e_gnil, DL.e_var0, DL.e_varS, DL.e_con, DL.e_top2, DL.e_top1, DL.e_cb, DL.e_nil, DL.e_cons, DL.e_tup, DL.e_lst, DL.e_test, DL.e_testK, DL.e_tru, DL.e_truB, DL.e_truN, DL.e_truL, DL.e_and, DL.e_or, DL.e_not, DL.e_if, DL.e_andV, DL.e_andK, DL.e_orV, DL.e_orK, DL.e_notV, DL.e_notK, DL.e_add, DL.e_addS, DL.e_addT, DL.e_addL, DL.e_sub, DL.e_mul, DL.e_mulL, DL.e_mulT, DL.e_fdiv, DL.e_mod, DL.e_pow, DL.e_neg, DL.e_lt, DL.e_le, DL.e_gt, DL.e_ge, DL.e_eqI, DL.e_eqS, DL.e_neI, DL.e_neS, DL.e_isN, DL.e_isntN, DL.e_isB, DL.e_isntB, DL.e_atK, DL.e_ixT, DL.e_ixL, DL.e_ixK, DL.e_ixDT, DL.e_setK, DL.e_setDT, DL.e_setSome, DL.e_setL, DL.e_delK, DL.e_delT, DL.e_inT, DL.e_inK, DL.e_lenL, DL.e_lenT, DL.e_lenK, DL.e_lenS, DL.e_listL, DL.e_listO, DL.e_listT, DL.e_tupleL, DL.e_tupleT, DL.e_int, DL.e_lm0, DL.e_lm, DL.e_isL, DL.e_app, DL.e_pop, DL.e_popSome, DL.e_call, DL.e_newT, DL.e_newK, DL.e_disp, DL.e_prs0, DL.e_prsS, DL.f_for, DL.f_lc, DL.f_dc, DL.f_iseq, DL.f_seqT, DL.f_rng1, DL.f_rngK, DL.f_zip, DL.f_zipT, DL.f_yes, DL.f_par3, DL.f_par3K, DL.f_isi, DL.f_isiK, DL.f_fld, DL.f_mkE, DL.f_mk0, DL.f_slice, DL.f_nopart, DL.f_part, DL.f_partK, DL.f_slT, List.set_cons_zero, List.set_cons_succ, List.length_cons, List.length_nil, decide_eq_true_eq, Bool.not_eq_true, true_and, and_true, if_true, Bool.false_eq_true, if_false, Nat.reduceAdd, Nat.reduceLT, Nat.reduceLeDiff, e_ixK put_same, e_setK put_same, pen3, pun3, penk, penl, put_put]
        refine ⟨by decide, hN _ _ ⟨_, at_ + 1, x - 10 ^ 18, fold, rfl, fun b hb => (put_ne hb).trans (C1 b hb), put_same, by omega, ?_, f0, f1⟩⟩
        have e : (10 : Int) ^ (18 : Int).toNat = 10 ^ 18 := rfl
        rw [e] at hx
        omega
      · simp only [DL.e_next, DL.e_break, DL.e_cont, DL.e_drop, DL.e_ret, DL.e_retN, DL.e_ifS, DL.e_asg, DL.e_par, DL.e_par2, DL.e_del, DL.e_gname, DL.e_gsub, DL.e_gtup, DL.e_gcons, DL.e_gnil, DL.e_var0, DL.e_varS, DL.e_con, DL.e_top2, DL.e_top1, DL.e_cb, DL.e_nil, DL.e_cons, DL.e_tup, DL.e_lst, DL.e_test, DL.e_testK, DL.e_tru, DL.e_truB, DL.e_truN, DL.e_truL, DL.e_and, DL.e_or, DL.e_not, DL.e_if, DL.e_andV, DL.e_andK, DL.e_orV, DL.e_orK, DL.e_notV, DL.e_notK, DL.e_add, DL.e_addS, DL.e_addT, DL.e_addL, DL.e_sub, DL.e_mul, DL.e_mulL, DL.e_mulT, DL.e_fdiv, DL.e_mod, DL.e_pow, DL.e_neg, DL.e_lt, DL.e_le, DL.e_gt, DL.e_ge, DL.e_eqI, DL.e_eqS, DL.e_neI, DL.e_neS, DL.e_isN, DL.e_isntN, DL.e_isB, DL.e_isntB, DL.e_atK, DL.e_ixT, DL.e_ixL, DL.e_ixK, DL.e_ixDT, DL.e_setK, DL.e_setDT, DL.e_setSome, DL.e_setL, DL.e_delK, DL.e_delT, DL.e_inT, DL.e_inK, DL.e_lenL, DL.e_lenT, DL.e_lenK, DL.e_lenS, DL.e_listL, DL.e_listO, DL.e_listT, DL.e_tupleL, DL.e_tupleT, DL.e_int, DL.e_lm0, DL.e_lm, DL.e_isL, DL.e_app, DL.e_pop, DL.e_popSome, DL.e_call, DL.e_newT, DL.e_newK, DL.e_disp, DL.e_prs0, DL.e_prsS, DL.f_for, DL.f_lc, DL.f_dc, DL.f_iseq, DL.f_seqT, DL.f_rng1, DL.f_rngK, DL.f_zip, DL.f_zipT, DL.f_yes, DL.f_par3, DL.f_par3K, DL.f_isi, DL.f_isiK, DL.f_fld, DL.f_mkE, DL.f_mk0, DL.f_slice, DL.f_nopart, DL.f_part, DL.f_partK, DL.f_slT, List.set_cons_zero, List.set_cons_succ, List.length_cons, List.length_nil, decide_eq_true_eq, Bool.not_eq_true, true_and, and_true, if_true, Bool.false_eq_true, if_false, Nat.reduceAdd, Nat.reduceLT, Nat.reduceLeDiff, e_ixK put_same, e_setK put_same, pen5, pun5, penk, penl, put_put]
        refine ⟨.inl ⟨by omega, by omega⟩, by decide, hN _ _ ⟨_, at_ + 1, digits, (fold * 71993 + x) % 2147483587, rfl, fun b hb => (put_ne hb).trans (C1 b hb), put_same, by omega, d0, Int.emod_nonneg _ (by decide), ?_⟩⟩
        have := Int.emod_lt_of_pos (fold * 71993 + x) (show (0 : Int) < 2147483587 by decide)
        omega
    · exact hN _ _ ⟨_, _, _, _, rfl, C1, hM1, a0, d0, f0, f1⟩
  rintro ρ M2 ⟨cl, a, d, f, rfl, C2, hM2, a2, d2, f2, g2⟩
  have hc2 : M2 c = some (.lst (ns.map D.int)) := by rw [C2 c hpc]; exact hc
  refine seq_cut (fun ρ M' => ρ = [some (.ref p), some (.int many), cl, none, none] ∧ M' = M2) (fun N hN => ?_) ?_
  · simp only [DL.e_next, DL.e_break, DL.e_cont, DL.e_drop, DL.e_ret, DL.e_retN, DL.e_ifS, DL.e_asg, DL.e_par, DL.e_par2, DL.e_del, DL.e_gname, DL.e_gsub, DL.e_gtup, DL.e_gcons, DL.e_gnil, DL.e_var0, DL.e_varS, DL.e_con, DL.e_top2, DL.e_top1, DL.e_cb, DL.e_nil, DL.e_cons, DL.e_tup, DL.e_lst, DL.e_test, DL.e_testK, DL.e_tru, DL.e_truB, DL.e_truN, DL.e_truL, DL.e_and, DL.e_or, DL.e_not, DL.e_if, DL.e_andV, DL.e_andK, DL.e_orV, DL.e_orK, DL.e_notV, DL.e_notK, DL.e_add, DL.e_addS, DL.e_addT, DL.e_addL, DL.e_sub, DL.e_mul, DL.e_mulL, DL.e_mulT, DL.e_fdiv, DL.e_mod, DL.e_pow, DL.e_neg, DL.e_lt, DL.e_le, DL.e_gt, DL.e_ge, DL.e_eqI, DL.e_eqS, DL.e_neI, DL.e_neS, DL.e_isN, DL.e_isntN, DL.e_isB, DL.e_isntB, DL.e_atK, DL.e_ixT, DL.e_ixL, DL.e_ixK, DL.e_ixDT, DL.e_setK, DL.e_setDT, DL.e_setSome, DL.e_setL, DL.e_delK, DL.e_delT, DL.e_inT, DL.e_inK, DL.e_lenL, DL.e_lenT, DL.e_lenK, DL.e_lenS, DL.e_listL, DL.e_listO, DL.e_listT, DL.e_tupleL, DL.e_tupleT, DL.e_int, DL.e_lm0, DL.e_lm, DL.e_isL, DL.e_app, DL.e_pop, DL.e_popSome, DL.e_call, DL.e_newT, DL.e_newK, DL.e_disp, DL.e_prs0, DL.e_prsS, DL.f_for, DL.f_lc, DL.f_dc, DL.f_iseq, DL.f_seqT, DL.f_rng1, DL.f_rngK, DL.f_zip, DL.f_zipT, DL.f_yes, DL.f_par3, DL.f_par3K, DL.f_isi, DL.f_isiK, DL.f_fld, DL.f_mkE, DL.f_mk0, DL.f_slice, DL.f_nopart, DL.f_part, DL.f_partK, DL.f_slT, List.set_cons_zero, List.set_cons_succ, List.length_cons, List.length_nil, decide_eq_true_eq, Bool.not_eq_true, true_and, and_true, if_true, Bool.false_eq_true, if_false, Nat.reduceAdd, Nat.reduceLT, Nat.reduceLeDiff, e_ixK hM2, pen3, penk, penl]
    refine ite2 (fun hd => ?_) (fun hd => hN _ _ ⟨rfl, rfl⟩)
    rw [e_seq]
    simp only [DL.e_next, DL.e_break, DL.e_cont, DL.e_drop, DL.e_ret, DL.e_retN, DL.e_ifS, DL.e_asg, DL.e_par, DL.e_par2, DL.e_del, DL.e_gname, DL.e_gsub, DL.e_gtup, DL.e_gcons, DL.e_gnil, DL.e_var0, DL.e_varS, DL.e_con, DL.e_top2, DL.e_top1, DL.e_cb, DL.e_nil, DL.e_cons, DL.e_tup, DL.e_lst, DL.e_test, DL.e_testK, DL.e_tru, DL.e_truB, DL.e_truN, DL.e_truL, DL.e_and, DL.e_or, DL.e_not, DL.e_if, DL.e_andV, DL.e_andK, DL.e_orV, DL.e_orK, DL.e_notV, DL.e_notK, DL.e_add, DL.e_addS, DL.e_addT, DL.e_addL, DL.e_sub, DL.e_mul, DL.e_mulL, DL.e_mulT, DL.e_fdiv, DL.e_mod, DL.e_pow, DL.e_neg, DL.e_lt, DL.e_le, DL.e_gt, DL.e_ge, DL.e_eqI, DL.e_eqS, DL.e_neI, DL.e_neS, DL.e_isN, DL.e_isntN, DL.e_isB, DL.e_isntB, DL.e_atK, DL.e_ixT, DL.e_ixL, DL.e_ixK, DL.e_ixDT, DL.e_setK, DL.e_setDT, DL.e_setSome, DL.e_setL, DL.e_delK, DL.e_delT, DL.e_inT, DL.e_inK, DL.e_lenL, DL.e_lenT, DL.e_lenK, DL.e_lenS, DL.e_listL, DL.e_listO, DL.e_listT, DL.e_tupleL, DL.e_tupleT, DL.e_int, DL.e_lm0, DL.e_lm, DL.e_isL, DL.e_app, DL.e_pop, DL.e_popSome, DL.e_call, DL.e_newT, DL.e_newK, DL.e_disp, DL.e_prs0, DL.e_prsS, DL.f_for, DL.f_lc, DL.f_dc, DL.f_iseq, DL.f_seqT, DL.f_rng1, DL.f_rngK, DL.f_zip, DL.f_zipT, DL.f_yes, DL.f_par3, DL.f_par3K, DL.f_isi, DL.f_isiK, DL.f_fld, DL.f_mkE, DL.f_mk0, DL.f_slice, DL.f_nopart, DL.f_part, DL.f_partK, DL.f_slT, List.set_cons_zero, List.set_cons_succ, List.length_cons, List.length_nil, decide_eq_true_eq, Bool.not_eq_true, true_and, and_true, if_true, Bool.false_eq_true, if_false, Nat.reduceAdd, Nat.reduceLT, Nat.reduceLeDiff, e_ixK hM2, pen3, penk, penl]
    refine ⟨h0, ?_⟩
    rw [e_seq]
    simp only [DL.e_next, DL.e_break, DL.e_cont, DL.e_drop, DL.e_ret, DL.e_retN, DL.e_ifS, DL.e_asg, DL.e_par, DL.e_par2, DL.e_del, DL.e_gname, DL.e_gsub, DL.e_gtup, DL.e_gcons, DL.e_gnil, DL.e_var0, DL.e_varS, DL.e_con, DL.e_top2, DL.e_top1, DL.e_cb, DL.e_nil, DL.e_cons, DL.e_tup, DL.e_lst, DL.e_test, DL.e_testK, DL.e_tru, DL.e_truB, DL.e_truN, DL.e_truL, DL.e_and, DL.e_or, DL.e_not, DL.e_if, DL.e_andV, DL.e_andK, DL.e_orV, DL.e_orK, DL.e_notV, DL.e_notK, DL.e_add, DL.e_addS, DL.e_addT, DL.e_addL, DL.e_sub, DL.e_mul, DL.e_mulL, DL.e_mulT, DL.e_fdiv, DL.e_mod, DL.e_pow, DL.e_neg, DL.e_lt, DL.e_le, DL.e_gt, DL.e_ge, DL.e_eqI, DL.e_eqS, DL.e_neI, DL.e_neS, DL.e_isN, DL.e_isntN, DL.e_isB, DL.e_isntB, DL.e_atK, DL.e_ixT, DL.e_ixL, DL.e_ixK, DL.e_ixDT, DL.e_setK, DL.e_setDT, DL.e_setSome, DL.e_setL, DL.e_delK, DL.e_delT, DL.e_inT, DL.e_inK, DL.e_lenL, DL.e_lenT, DL.e_lenK, DL.e_lenS, DL.e_listL, DL.e_listO, DL.e_listT, DL.e_tupleL, DL.e_tupleT, DL.e_int, DL.e_lm0, DL.e_lm, DL.e_isL, DL.e_app, DL.e_pop, DL.e_popSome, DL.e_call, DL.e_newT, DL.e_newK, DL.e_disp, DL.e_prs0, DL.e_prsS, DL.f_for, DL.f_lc, DL.f_dc, DL.f_iseq, DL.f_seqT, DL.f_rng1, DL.f_rngK, DL.f_zip, DL.f_zipT, DL.f_yes, DL.f_par3, DL.f_par3K, DL.f_isi, DL.f_isiK, DL.f_fld, DL.f_mkE, DL.f_mk0, DL.f_slice, DL.f_nopart, DL.f_part, DL.f_partK, DL.f_slT, List.set_cons_zero, List.set_cons_succ, List.length_cons, List.length_nil, decide_eq_true_eq, Bool.not_eq_true, true_and, and_true, if_true, Bool.false_eq_true, if_false, Nat.reduceAdd, Nat.reduceLT, Nat.reduceLeDiff, e_ixK hM2, e_setK hM2, pen3, pun3, penk, penl]
    refine ⟨⟨h0, by omega⟩, Down.of (k _ _ (Int.emod_nonneg _ (by omega)) (Int.emod_lt_of_pos _ h0) (fun b hb => (put_ne hb).trans (C2 b hb)) ⟨⟨a, d / many, count + 1, f, put_same, a2, Int.ediv_nonneg d2 (by omega), by omega, by omega, f2, g2⟩, ?_⟩)⟩
    rw [put_ne hpc]
    exact hc2
  rintro ρ M3 ⟨rfl, rfl⟩
  rw [e_seq]
  simp only [DL.e_next, DL.e_break, DL.e_cont, DL.e_drop, DL.e_ret, DL.e_retN, DL.e_ifS, DL.e_asg, DL.e_par, DL.e_par2, DL.e_del, DL.e_gname, DL.e_gsub, DL.e_gtup, DL.e_gcons, DL.e_gnil, DL.e_var0, DL.e_varS, DL.e_con, DL.e_top2, DL.e_top1, DL.e_cb, DL.e_nil, DL.e_cons, DL.e_tup, DL.e_lst, DL.e_test, DL.e_testK, DL.e_tru, DL.e_truB, DL.e_truN, DL.e_truL, DL.e_and, DL.e_or, DL.e_not, DL.e_if, DL.e_andV, DL.e_andK, DL.e_orV, DL.e_orK, DL.e_notV, DL.e_notK, DL.e_add, DL.e_addS, DL.e_addT, DL.e_addL, DL.e_sub, DL.e_mul, DL.e_mulL, DL.e_mulT, DL.e_fdiv, DL.e_mod, DL.e_pow, DL.e_neg, DL.e_lt, DL.e_le, DL.e_gt, DL.e_ge, DL.e_eqI, DL.e_eqS, DL.e_neI, DL.e_neS, DL.e_isN, DL.e_isntN, DL.e_isB, DL.e_isntB, DL.e_atK, DL.e_ixT, DL.e_ixL, DL.e_ixK, DL.e_ixDT, DL.e_setK, DL.e_setDT, DL.e_setSome, DL.e_setL, DL.e_delK, DL.e_delT, DL.e_inT, DL.e_inK, DL.e_lenL, DL.e_lenT, DL.e_lenK, DL.e_lenS, DL.e_listL, DL.e_listO, DL.e_listT, DL.e_tupleL, DL.e_tupleT, DL.e_int, DL.e_lm0, DL.e_lm, DL.e_isL, DL.e_app, DL.e_pop, DL.e_popSome, DL.e_call, DL.e_newT, DL.e_newK, DL.e_disp, DL.e_prs0, DL.e_prsS, DL.f_for, DL.f_lc, DL.f_dc, DL.f_iseq, DL.f_seqT, DL.f_rng1, DL.f_rngK, DL.f_zip, DL.f_zipT, DL.f_yes, DL.f_par3, DL.f_par3K, DL.f_isi, DL.f_isiK, DL.f_fld, DL.f_mkE, DL.f_mk0, DL.f_slice, DL.f_nopart, DL.f_part, DL.f_partK, DL.f_slT, List.set_cons_zero, List.set_cons_succ, List.length_cons, List.length_nil, decide_eq_true_eq, Bool.not_eq_true, true_and, and_true, if_true, Bool.false_eq_true, if_false, Nat.reduceAdd, Nat.reduceLT, Nat.reduceLeDiff, e_ixK hM2, pen4, pen5, penk, penl]
  refine ⟨.inl ⟨by omega, by omega⟩, ⟨by decide, by decide, ?_⟩, by decide, ⟨by decide, by decide⟩, h0, Down.of (k _ _ (Int.emod_nonneg _ (by omega)) (Int.emod_lt_of_pos _ h0) C2 ⟨⟨a, d, count + 1, f, hM2, a2, d2, by omega, by omega, f2, g2⟩, hc2⟩)⟩
  omega
/-- the script: locked, or an object of the module -/
def spPen : SpD := fun ds M Q _ => ∃ a ns, ds = [.ref a] ∧ M a = some (.ro (ns.map D.int)) ∧ ns.length < 2 ^ 20 ∧ ∀ p c M', M p = none → M c = none → (∀ b o, M b = some o → M' b = some o) → Pen M' p c ns 0 → Q (.ref p) M'
theorem ok_pen (Z : Free mg) (S : Stands K mg "_law_pen" s_law_pen ["script"]) : FnD P w K mg base 1 "_law_pen" ["script"] spPen := by
  obtain ⟨f, fd, F, hm, hb⟩ := S
  refine FnD.of F sc_law_pen hm hb (fun ds M Q E h => ?_) fun cdv A outer s0 H0 E E0 hr tk hp => ?_
  · obtain ⟨a, ns, rfl, _⟩ := h; rfl
  have nd := sc_law_pen.nd
  refine ⟨_, (pssd_cons (sv 1 nd ped_int)
  (pssd_cons (psd_for hp rfl (pid_seq (v 0)) (gn 2 nd) (pssd_one (sv 1 nd (ped_op op_modD (ped_callTy call_intD rfl Z.int (by decide +kernel) (pad_cons (ped_op op_addD (ped_op op_mulD (v 1) ped_int) (v 2)) pad_nil)) ped_int))))
  (pssd_one (psd_ret (ped_disp (PPsd.cons ped_str (ped_callTy call_listD rfl Z.list (by decide +kernel) (pad_cons (v 0) pad_nil)) (PPsd.cons ped_str ped_int (PPsd.cons ped_str ped_int (PPsd.cons ped_str ped_int (PPsd.cons ped_str (v 1) PPsd.nil))))) (by rfl) (by rfl) (fun z => by cases z) (by decide)))))), fun ds M Q h => ?_⟩
  obtain ⟨a, ns, rfl, ha, hn, k⟩ := h
  rw [e_seq]
  show tasg _ _ _ [some (.ref a), none, none] M
  simp only [DL.e_next, DL.e_break, DL.e_cont, DL.e_drop, DL.e_ret, DL.e_retN, DL.e_ifS, DL.e_asg, DL.e_par, DL.e_par2, DL.e_del, DL.e_gname, DL.e_gsub, DL.e_gtup, DL.e_gcons, DL.e_gnil, DL.e_var0, DL.e_varS, DL.e_con, DL.e_top2, DL.e_top1, DL.e_cb, DL.e_nil, DL.e_cons, DL.e_tup, DL.e_lst, DL.e_test, DL.e_testK, DL.e_tru, DL.e_truB, DL.e_truN, DL.e_truL, DL.e_and, DL.e_or, DL.e_not, DL.e_if, DL.e_andV, DL.e_andK, DL.e_orV, DL.e_orK, DL.e_notV, DL.e_notK, DL.e_add, DL.e_addS, DL.e_addT, DL.e_addL, DL.e_sub, DL.e_mul, DL.e_mulL, DL.e_mulT, DL.e_fdiv, DL.e_mod, DL.e_pow, DL.e_neg, DL.e_lt, DL.e_le, DL.e_gt, DL.e_ge, DL.e_eqI, DL.e_eqS, DL.e_neI, DL.e_neS, DL.e_isN, DL.e_isntN, DL.e_isB, DL.e_isntB, DL.e_atK, DL.e_ixT, DL.e_ixL, DL.e_ixK, DL.e_ixDT, DL.e_setK, DL.e_setDT, DL.e_setSome, DL.e_setL, DL.e_delK, DL.e_delT, DL.e_inT, DL.e_inK, DL.e_lenL, DL.e_lenT, DL.e_lenK, DL.e_lenS, DL.e_listL, DL.e_listO, DL.e_listT, DL.e_tupleL, DL.e_tupleT, DL.e_int, DL.e_lm0, DL.e_lm, DL.e_isL, DL.e_app, DL.e_pop, DL.e_popSome, DL.e_call, DL.e_newT, DL.e_newK, DL.e_disp, DL.e_prs0, DL.e_prsS, DL.f_for, DL.f_lc, DL.f_dc, DL.f_iseq, DL.f_seqT, DL.f_rng1, DL.f_rngK, DL.f_zip, DL.f_zipT, DL.f_yes, DL.f_par3, DL.f_par3K, DL.f_isi, DL.f_isiK, DL.f_fld, DL.f_mkE, DL.f_mk0, DL.f_slice, DL.f_nopart, DL.f_part, DL.f_partK, DL.f_slT, List.set_cons_zero, List.set_cons_succ, List.length_cons, List.length_nil, decide_eq_true_eq, Bool.not_eq_true, true_and, and_true, if_true, Bool.false_eq_true, if_false, Nat.reduceAdd, Nat.reduceLT, Nat.reduceLeDiff]
  refine seq_cut (fun ρ M' => M' = M ∧ ∃ (f : Int) (cl : Option D), ρ = [some (.ref a), some (.int f), cl] ∧ 0 ≤ f ∧ f < 1000000007) (fun N hN => ?_) ?_
  · simp only [DL.e_next, DL.e_break, DL.e_cont, DL.e_drop, DL.e_ret, DL.e_retN, DL.e_ifS, DL.e_asg, DL.e_par, DL.e_par2, DL.e_del, DL.e_gname, DL.e_gsub, DL.e_gtup, DL.e_gcons, DL.e_gnil, DL.e_var0, DL.e_varS, DL.e_con, DL.e_top2, DL.e_top1, DL.e_cb, DL.e_nil, DL.e_cons, DL.e_tup, DL.e_lst, DL.e_test, DL.e_testK, DL.e_tru, DL.e_truB, DL.e_truN, DL.e_truL, DL.e_and, DL.e_or, DL.e_not, DL.e_if, DL.e_andV, DL.e_andK, DL.e_orV, DL.e_orK, DL.e_notV, DL.e_notK, DL.e_add, DL.e_addS, DL.e_addT, DL.e_addL, DL.e_sub, DL.e_mul, DL.e_mulL, DL.e_mulT, DL.e_fdiv, DL.e_mod, DL.e_pow, DL.e_neg, DL.e_lt, DL.e_le, DL.e_gt, DL.e_ge, DL.e_eqI, DL.e_eqS, DL.e_neI, DL.e_neS, DL.e_isN, DL.e_isntN, DL.e_isB, DL.e_isntB, DL.e_atK, DL.e_ixT, DL.e_ixL, DL.e_ixK, DL.e_ixDT, DL.e_setK, DL.e_setDT, DL.e_setSome, DL.e_setL, DL.e_delK, DL.e_delT, DL.e_inT, DL.e_inK, DL.e_lenL, DL.e_lenT, DL.e_lenK, DL.e_lenS, DL.e_listL, DL.e_listO, DL.e_listT, DL.e_tupleL, DL.e_tupleT, DL.e_int, DL.e_lm0, DL.e_lm, DL.e_isL, DL.e_app, DL.e_pop, DL.e_popSome, DL.e_call, DL.e_newT, DL.e_newK, DL.e_disp, DL.e_prs0, DL.e_prsS, DL.f_for, DL.f_lc, DL.f_dc, DL.f_iseq, DL.f_seqT, DL.f_rng1, DL.f_rngK, DL.f_zip, DL.f_zipT, DL.f_yes, DL.f_par3, DL.f_par3K, DL.f_isi, DL.f_isiK, DL.f_fld, DL.f_mkE, DL.f_mk0, DL.f_slice, DL.f_nopart, DL.f_part, DL.f_partK, DL.f_slT, List.set_cons_zero, List.set_cons_succ, List.length_cons, List.length_nil, decide_eq_true_eq, Bool.not_eq_true, true_and, and_true, if_true, Bool.false_eq_true, if_false, Nat.reduceAdd, Nat.reduceLT, Nat.reduceLeDiff, f_for, f_iseq, f_seqO ha]
    refine for_inv (fun _ ρ M' => M' = M ∧ ∃ (f : Int) (cl : Option D), ρ = [some (.ref a), some (.int f), cl] ∧ 0 ≤ f ∧ f < 1000000007) ⟨rfl, 0, none, rfl, by decide, by decide⟩ (fun i ρ M' _ w => ?_) (fun i x ρ M' e w => ?_) (fun ρ M' w => hN _ _ w)
    · rw [w.1]; exact rdL_ro ha
    · obtain ⟨rfl, f, cl, rfl, f0, f1⟩ := w
      rw [List.getElem?_map] at e
      obtain ⟨n, _, rfl⟩ := Option.map_eq_some_iff.mp e
      simp only [DL.e_next, DL.e_break, DL.e_cont, DL.e_drop, DL.e_ret, DL.e_retN, DL.e_ifS, DL.e_asg, DL.e_par, DL.e_par2, DL.e_del, DL.e_gname, DL.e_gsub, DL.e_gtup, DL.e_gcons, DL.e_gnil, DL.e_var0, DL.e_varS, DL.e_con, DL.e_top2, DL.e_top1, DL.e_cb, DL.e_nil, DL.e_cons, DL.e_tup, DL.e_lst, DL.e_test, DL.e_testK, DL.e_tru, DL.e_truB, DL.e_truN, DL.e_truL, DL.e_and, DL.e_or, DL.e_not, DL.e_if, DL.e_andV, DL.e_andK, DL.e_orV, DL.e_orK, DL.e_notV, DL.e_notK, DL.e_add, DL.e_addS, DL.e_addT, DL.e_addL, DL.e_sub, DL.e_mul, DL.e_mulL, DL.e_mulT, DL.e_fdiv, DL.e_mod, DL.e_pow, DL.e_neg, DL.e_lt, DL.e_le, DL.e_gt, DL.e_ge, DL.e_eqI, DL.e_eqS, DL.e_neI, DL.e_neS, DL.e_isN, DL.e_isntN, DL.e_isB, DL.e_isntB, DL.e_atK, DL.e_ixT, DL.e_ixL, DL.e_ixK, DL.e_ixDT, DL.e_setK, DL.e_setDT, DL.e_setSome, DL.e_setL, DL.e_delK, DL.e_delT, DL.e_inT, DL.e_inK, DL.e_lenL, DL.e_lenT, DL.e_lenK, DL.e_lenS, DL.e_listL, DL.e_listO, DL.e_listT, DL.e_tupleL, DL.e_tupleT, DL.e_int, DL.e_lm0, DL.e_lm, DL.e_isL, DL.e_app, DL.e_pop, DL.e_popSome, DL.e_call, DL.e_newT, DL.e_newK, DL.e_disp, DL.e_prs0, DL.e_prsS, DL.f_for, DL.f_lc, DL.f_dc, DL.f_iseq, DL.f_seqT, DL.f_rng1, DL.f_rngK, DL.f_zip, DL.f_zipT, DL.f_yes, DL.f_par3, DL.f_par3K, DL.f_isi, DL.f_isiK, DL.f_fld, DL.f_mkE, DL.f_mk0, DL.f_slice, DL.f_nopart, DL.f_part, DL.f_partK, DL.f_slT, List.set_cons_zero, List.set_cons_succ, List.length_cons, List.length_nil, decide_eq_true_eq, Bool.not_eq_true, true_and, and_true, if_true, Bool.false_eq_true, if_false, Nat.reduceAdd, Nat.reduceLT, Nat.reduceLeDiff]
      exact ⟨.inl ⟨by omega, by omega⟩, by decide, _, _, rfl, Int.emod_nonneg _ (by decide), Int.emod_lt_of_pos _ (by decide)⟩
  rintro ρ M1 ⟨rfl, f, cl, rfl, f0, f1⟩
  simp only [DL.e_next, DL.e_break, DL.e_cont, DL.e_drop, DL.e_ret, DL.e_retN, DL.e_ifS, DL.e_asg, DL.e_par, DL.e_par2, DL.e_del, DL.e_gname, DL.e_gsub, DL.e_gtup, DL.e_gcons, DL.e_gnil, DL.e_var0, DL.e_varS, DL.e_con, DL.e_top2, DL.e_top1, DL.e_cb, DL.e_nil, DL.e_cons, DL.e_tup, DL.e_lst, DL.e_test, DL.e_testK, DL.e_tru, DL.e_truB, DL.e_truN, DL.e_truL, DL.e_and, DL.e_or, DL.e_not, DL.e_if, DL.e_andV, DL.e_andK, DL.e_orV, DL.e_orK, DL.e_notV, DL.e_notK, DL.e_add, DL.e_addS, DL.e_addT, DL.e_addL, DL.e_sub, DL.e_mul, DL.e_mulL, DL.e_mulT, DL.e_fdiv, DL.e_mod, DL.e_pow, DL.e_neg, DL.e_lt, DL.e_le, DL.e_gt, DL.e_ge, DL.e_eqI, DL.e_eqS, DL.e_neI, DL.e_neS, DL.e_isN, DL.e_isntN, DL.e_isB, DL.e_isntB, DL.e_atK, DL.e_ixT, DL.e_ixL, DL.e_ixK, DL.e_ixDT, DL.e_setK, DL.e_setDT, DL.e_setSome, DL.e_setL, DL.e_delK, DL.e_delT, DL.e_inT, DL.e_inK, DL.e_lenL, DL.e_lenT, DL.e_lenK, DL.e_lenS, DL.e_listL, DL.e_listO, DL.e_listT, DL.e_tupleL, DL.e_tupleT, DL.e_int, DL.e_lm0, DL.e_lm, DL.e_isL, DL.e_app, DL.e_pop, DL.e_popSome, DL.e_call, DL.e_newT, DL.e_newK, DL.e_disp, DL.e_prs0, DL.e_prsS, DL.f_for, DL.f_lc, DL.f_dc, DL.f_iseq, DL.f_seqT, DL.f_rng1, DL.f_rngK, DL.f_zip, DL.f_zipT, DL.f_yes, DL.f_par3, DL.f_par3K, DL.f_isi, DL.f_isiK, DL.f_fld, DL.f_mkE, DL.f_mk0, DL.f_slice, DL.f_nopart, DL.f_part, DL.f_partK, DL.f_slT, List.set_cons_zero, List.set_cons_succ, List.length_cons, List.length_nil, decide_eq_true_eq, Bool.not_eq_true, true_and, and_true, if_true, Bool.false_eq_true, if_false, Nat.reduceAdd, Nat.reduceLT, Nat.reduceLeDiff, e_disp, e_prsS, e_prs0]
  intro p hp1
  have ha1 : put M1 p (.dK []) a = some (.ro (ns.map D.int)) := by rw [put_ne (ne_none ha hp1)]; exact ha
  simp only [DL.e_next, DL.e_break, DL.e_cont, DL.e_drop, DL.e_ret, DL.e_retN, DL.e_ifS, DL.e_asg, DL.e_par, DL.e_par2, DL.e_del, DL.e_gname, DL.e_gsub, DL.e_gtup, DL.e_gcons, DL.e_gnil, DL.e_var0, DL.e_varS, DL.e_con, DL.e_top2, DL.e_top1, DL.e_cb, DL.e_nil, DL.e_cons, DL.e_tup, DL.e_lst, DL.e_test, DL.e_testK, DL.e_tru, DL.e_truB, DL.e_truN, DL.e_truL, DL.e_and, DL.e_or, DL.e_not, DL.e_if, DL.e_andV, DL.e_andK, DL.e_orV, DL.e_orK, DL.e_notV, DL.e_notK, DL.e_add, DL.e_addS, DL.e_addT, DL.e_addL, DL.e_sub, DL.e_mul, DL.e_mulL, DL.e_mulT, DL.e_fdiv, DL.e_mod, DL.e_pow, DL.e_neg, DL.e_lt, DL.e_le, DL.e_gt, DL.e_ge, DL.e_eqI, DL.e_eqS, DL.e_neI, DL.e_neS, DL.e_isN, DL.e_isntN, DL.e_isB, DL.e_isntB, DL.e_atK, DL.e_ixT, DL.e_ixL, DL.e_ixK, DL.e_ixDT, DL.e_setK, DL.e_setDT, DL.e_setSome, DL.e_setL, DL.e_delK, DL.e_delT, DL.e_inT, DL.e_inK, DL.e_lenL, DL.e_lenT, DL.e_lenK, DL.e_lenS, DL.e_listL, DL.e_listO, DL.e_listT, DL.e_tupleL, DL.e_tupleT, DL.e_int, DL.e_lm0, DL.e_lm, DL.e_isL, DL.e_app, DL.e_pop, DL.e_popSome, DL.e_call, DL.e_newT, DL.e_newK, DL.e_disp, DL.e_prs0, DL.e_prsS, DL.f_for, DL.f_lc, DL.f_dc, DL.f_iseq, DL.f_seqT, DL.f_rng1, DL.f_rngK, DL.f_zip, DL.f_zipT, DL.f_yes, DL.f_par3, DL.f_par3K, DL.f_isi, DL.f_isiK, DL.f_fld, DL.f_mkE, DL.f_mk0, DL.f_slice, DL.f_nopart, DL.f_part, DL.f_partK, DL.f_slT, List.set_cons_zero, List.set_cons_succ, List.length_cons, List.length_nil, decide_eq_true_eq, Bool.not_eq_true, true_and, and_true, if_true, Bool.false_eq_true, if_false, Nat.reduceAdd, Nat.reduceLT, Nat.reduceLeDiff, e_listO ha1]
  intro c hc
  have ne : p ≠ c := ne_none put_same hc
  have hc1 : M1 c = none := by rw [put_ne (Ne.symm ne)] at hc; exact hc
  refine ⟨by rw [put_ne ne, put_same], rfl, Down.of (k p c _ hp1 hc1 (fun b o e => ?_) ⟨⟨0, 0, 0, f, put_same, by decide, by decide, by decide, by decide, f0, by omega⟩, ?_⟩)⟩
  · rw [put_ne (ne_none e hp1), put_ne (ne_none e hc1), put_ne (ne_none e hp1)]
    exact e
  · rw [put_ne (Ne.symm ne), put_same]
def spPick : SpD := fun ds M Q _ => ∃ p c ns n some xs, ds = [.ref p, some] ∧ Pen M p c ns n ∧ n < 2 ^ 40 ∧ rdS M some = Option.some xs ∧ xs ≠ [] ∧ xs.length < 2 ^ 30 ∧ some ≠ .ref p ∧ ∀ x M', x ∈ xs → Chg p M M' → Pen M' p c ns (n + 1) → Q x M'
theorem ok_pick (Z : Free mg) (S : Stands K mg "_law_pick" s_law_pick ["pen", "some"]) (C_law_draw : FnD P w K mg base 1 "_law_draw" ["pen", "many"] spDraw) : FnD P w K mg base 2 "_law_pick" ["pen", "some"] spPick := by
  obtain ⟨f, fd, F, hm, hb⟩ := S
  refine FnD.of F sc_law_pick hm hb (fun ds M Q E h => ?_) fun cdv A outer s0 H0 E E0 hr tk hp => ?_
  · obtain ⟨p, c, ns, n, some, xs, rfl, _⟩ := h; rfl
  have nd := sc_law_pick.nd
  refine ⟨_, (pssd_one (psd_ret (ped_ix (u1 hr) (v 1) (ped_call C_law_draw (hr.mono (by decide)) rfl tk (pad_cons (v 0) (pad_cons (ped_callB call_lenD2 rfl Z.len PySem.boot_len (pad_cons (v 1) pad_nil)) pad_nil)))))), fun ds M Q h => ?_⟩
  obtain ⟨p, c, ns, n, some, xs, rfl, hpen, hn, hs, hx, hl, hne, k⟩ := h
  show tret _ _ [Option.some (.ref p), Option.some some] M
  simp only [DL.e_next, DL.e_break, DL.e_cont, DL.e_drop, DL.e_ret, DL.e_retN, DL.e_ifS, DL.e_asg, DL.e_par, DL.e_par2, DL.e_del, DL.e_gname, DL.e_gsub, DL.e_gtup, DL.e_gcons, DL.e_gnil, DL.e_var0, DL.e_varS, DL.e_con, DL.e_top2, DL.e_top1, DL.e_cb, DL.e_nil, DL.e_cons, DL.e_tup, DL.e_lst, DL.e_test, DL.e_testK, DL.e_tru, DL.e_truB, DL.e_truN, DL.e_truL, DL.e_and, DL.e_or, DL.e_not, DL.e_if, DL.e_andV, DL.e_andK, DL.e_orV, DL.e_orK, DL.e_notV, DL.e_notK, DL.e_add, DL.e_addS, DL.e_addT, DL.e_addL, DL.e_sub, DL.e_mul, DL.e_mulL, DL.e_mulT, DL.e_fdiv, DL.e_mod, DL.e_pow, DL.e_neg, DL.e_lt, DL.e_le, DL.e_gt, DL.e_ge, DL.e_eqI, DL.e_eqS, DL.e_neI, DL.e_neS, DL.e_isN, DL.e_isntN, DL.e_isB, DL.e_isntB, DL.e_atK, DL.e_ixT, DL.e_ixL, DL.e_ixK, DL.e_ixDT, DL.e_setK, DL.e_setDT, DL.e_setSome, DL.e_setL, DL.e_delK, DL.e_delT, DL.e_inT, DL.e_inK, DL.e_lenL, DL.e_lenT, DL.e_lenK, DL.e_lenS, DL.e_listL, DL.e_listO, DL.e_listT, DL.e_tupleL, DL.e_tupleT, DL.e_int, DL.e_lm0, DL.e_lm, DL.e_isL, DL.e_app, DL.e_pop, DL.e_popSome, DL.e_call, DL.e_newT, DL.e_newK, DL.e_disp, DL.e_prs0, DL.e_prsS, DL.f_for, DL.f_lc, DL.f_dc, DL.f_iseq, DL.f_seqT, DL.f_rng1, DL.f_rngK, DL.f_zip, DL.f_zipT, DL.f_yes, DL.f_par3, DL.f_par3K, DL.f_isi, DL.f_isiK, DL.f_fld, DL.f_mkE, DL.f_mk0, DL.f_slice, DL.f_nopart, DL.f_part, DL.f_partK, DL.f_slT, List.set_cons_zero, List.set_cons_succ, List.length_cons, List.length_nil, decide_eq_true_eq, Bool.not_eq_true, true_and, and_true, if_true, Bool.false_eq_true, if_false, Nat.reduceAdd, Nat.reduceLT, Nat.reduceLeDiff, g_len hs, e_call]
  have hx1 : 0 < xs.length := List.length_pos_iff.mpr hx
  refine ⟨p, c, ns, n, _, rfl, hpen, hn, by omega, by omega, fun r M' r0 r1 C P' => ?_⟩
  obtain ⟨x, xm, ex⟩ := atI_mem r0 r1
  have hs' : rdS M' some = Option.some xs := by
    rw [rdS_keep (fun b hb => C b (fun z => hne (by rw [hb, z])))]
    exact hs
  rw [g_ix hs' ex]
  exact Down.of (k x M' xm C P')
end
end Lw

end T_Pen

section T_K00
set_option Elab.async false
set_option linter.all false
set_option maxRecDepth 100000
set_option maxHeartbeats 4000000
namespace Lw
open PySem PySem.Spec L2 DL
open PyProof.Rows hiding St
/-! ### the fifteen kinds of errors -/
def exs : List (Int × Str × List Str) := [(0, "BadName", ["name"]), (1, "TakenName", ["name"]), (2, "BadCell", ["cell"]), (3, "NotThere", ["cell"]), (4, "BadLand", ["cells"]), (5, "BadArrangement", ["cells"]), (6, "BadText", ["line", "column"]),
  (7, "BadNumber", ["what", "number"]), (8, "NoMove", ["start", "end"]), (9, "NotKept", ["promise", "witness"]), (10, "Unlike", ["region", "here", "there"]), (11, "TooMany", ["what", "many", "limit"]), (12, "NoName", ["name"]), (13, "NothingToUndo", []), (14, "NothingToRedo", [])]
/-- what the module's heap says of them -/
structure Ers (P : Program) (w : World) (K : PySem.W.Frag) (mg : Str → Option Value) (base : Heap) : Prop where
  glo : ∀ e ∈ exs, mg e.2.1 = some (.ref (He.ga K e.2.1))
  gloC : mg "ClimbError" = some (.ref (He.ga K "ClimbError"))
  ini : ∀ e ∈ exs, e.1 < 13 → ExI P w K base 1 (He.ga K e.2.1) e.2.2
  plain : ∀ e ∈ exs, 13 ≤ e.1 → PySem.W.excIn K (He.ga K e.2.1) He.veBase "ValueError.__new__" = true ∧ PySem.W.keepIn K (.ref (He.ga K e.2.1)) = true
  kind : ∀ e ∈ exs, ExK K (He.ga K e.2.1)
  noat : ∀ e ∈ exs, ∀ f ∈ e.2.2, PySem.W.findIn K (.ref (He.ga K e.2.1)) f = some none
  kit : ∀ e ∈ exs, ∀ g ∈ exs, PySem.W.kitOne K (.ref (He.ga K e.2.1)) (.ref (He.ga K g.2.1)) = some (decide (e.1 = g.1))
  kitC : ∀ e ∈ exs, PySem.W.kitOne K (.ref (He.ga K e.2.1)) (.ref (He.ga K "ClimbError")) = some true
  kitV : ∀ e ∈ exs, PySem.W.kitOne K (.ref (He.ga K e.2.1)) (.type "ValueError") = some true
theorem isiE_go {K : PySem.W.Frag} {M : Mem} {a C : Addr} {fs : List (Str × D)} {c : D} {cv : Value} {b : Bool} {Q : VKd} (hM : M a = some (.exi C fs)) (T : ExK K C) (hc : clsV c = some cv) (hk : PySem.W.kitOne K (.ref C) cv = some b) (q : Q (.bl b) M) : isiER K [.ref a, c] M Q := ⟨C, fs, cv, b, hM, T, hc, hk, q⟩
theorem at0 {x : D} {xs : List D} : atI (x :: xs) 0 = some x := by simp [atI, ixN]
theorem at1 {x y : D} {xs : List D} : atI (x :: y :: xs) 1 = some y := by
  unfold atI ixN
  rw [if_pos (by decide), if_pos (by simp only [List.length_cons]; omega)]
  rfl
theorem mem (i : Nat) (h : i < exs.length) : exs[i] ∈ exs := List.getElem_mem h
theorem fldOk {P : Program} {w : World} {K : PySem.W.Frag} {mg : Str → Option Value} {base : Heap} (X0 : Ers P w K mg base) {t : Int × Str × List Str} {f : Str} (ht : t ∈ exs) (hf : f ∈ t.2.2) {M : Mem} {a : Addr} {gs : List (Str × D)} {d : D} {Q : VKd}
    (hM : M a = some (.exi (He.ga K t.2.1) gs)) (lk : gs.lookup f = some d) (q : Q d M) : ∃ a' C fs d', D.ref a = .ref a' ∧ M a' = some (.exi C fs) ∧ ExK K C ∧ PySem.W.findIn K (.ref C) f = some none ∧ fs.lookup f = some d' ∧ Q d' M :=
  ⟨_, _, _, _, rfl, hM, X0.kind _ ht, X0.noat _ ht _ hf, lk, q⟩
def spOne (K : PySem.W.Frag) (lo : Int) : SpD := fun ds M Q _ => ∃ k n fs a b c, (k, n, fs) ∈ exs ∧ lo ≤ k ∧ ds = [.int k, a, b, c] ∧
  ∀ e gs M', Keep M M' → M' e = some (.exi (He.ga K n) gs) → Q (.tup [.ref e, .tup ([a, b, c].take fs.length)]) M'
section
variable {P : Program} {w : World} {K : PySem.W.Frag} {mg : Str → Option Value} {base : Heap}
theorem ok_more (Z : Free mg) (S : Stands K mg "_law_more" s_law_more ["kind", "a", "b", "c"]) (X0 : Ers P w K mg base) : FnD P w K mg base 3 "_law_more" ["kind", "a", "b", "c"] (spOne K 7) := by
  obtain ⟨f, fd, F, hm, hb⟩ := S
  refine FnD.of F sc_law_more hm hb (fun ds M Q E h => ?_) fun cdv A outer s0 H0 E E0 hr tk hp => ?_
  · obtain ⟨k, n, fs, a, b, c, _, _, rfl, _⟩ := h; rfl
  have nd := sc_law_more.nd
  have I_BadNumber := X0.ini _ (mem 7 (by decide)) (by decide)
  have I_NoMove := X0.ini _ (mem 8 (by decide)) (by decide)
  have I_NotKept := X0.ini _ (mem 9 (by decide)) (by decide)
  have I_Unlike := X0.ini _ (mem 10 (by decide)) (by decide)
  have I_TooMany := X0.ini _ (mem 11 (by decide)) (by decide)
  have I_NoName := X0.ini _ (mem 12 (by decide)) (by decide)
  have G_BadNumber := X0.glo _ (mem 7 (by decide))
  have G_NoMove := X0.glo _ (mem 8 (by decide))
  have G_NotKept := X0.glo _ (mem 9 (by decide))
  have G_Unlike := X0.glo _ (mem 10 (by decide))
  have G_TooMany := X0.glo _ (mem 11 (by decide))
  have G_NoName := X0.glo _ (mem 12 (by decide))
  have G_NothingToUndo := X0.glo _ (mem 13 (by decide))
  have G_NothingToRedo := X0.glo _ (mem 14 (by decide))
  have E_NothingToUndo := X0.plain _ (mem 13 (by decide)) (by decide)
  have E_NothingToRedo := X0.plain _ (mem 14 (by decide)) (by decide)
  refine ⟨_, (pssd_cons (psd_if (ptd_cmp (op_eqDD (u64 hr)) (v 0) ped_int (nomark _)) (pssd_cons (sv 4 nd (ped_mkE I_BadNumber (hr.mono (by decide)) rfl G_BadNumber (pad_cons (v 1) (pad_cons (v 2) pad_nil))))
      (pssd_one (psd_ret (ped_tup (pad_cons (v 4) (pad_cons (ped_tup (pad_cons (ped_fld (v 4)) (pad_cons (ped_fld (v 4)) pad_nil))) pad_nil)))))) pssd_nil)
  (pssd_cons (psd_if (ptd_cmp (op_eqDD (u64 hr)) (v 0) ped_int (nomark _)) (pssd_cons (sv 4 nd (ped_mkE I_NoMove (hr.mono (by decide)) rfl G_NoMove (pad_cons (v 1) (pad_cons (v 2) pad_nil))))
      (pssd_one (psd_ret (ped_tup (pad_cons (v 4) (pad_cons (ped_tup (pad_cons (ped_fld (v 4)) (pad_cons (ped_fld (v 4)) pad_nil))) pad_nil)))))) pssd_nil)
  (pssd_cons (psd_if (ptd_cmp (op_eqDD (u64 hr)) (v 0) ped_int (nomark _)) (pssd_cons (sv 4 nd (ped_mkE I_NotKept (hr.mono (by decide)) rfl G_NotKept (pad_cons (v 1) (pad_cons (v 2) pad_nil))))
      (pssd_one (psd_ret (ped_tup (pad_cons (v 4) (pad_cons (ped_tup (pad_cons (ped_fld (v 4)) (pad_cons (ped_fld (v 4)) pad_nil))) pad_nil)))))) pssd_nil)
  (pssd_cons (psd_if (ptd_cmp (op_eqDD (u64 hr)) (v 0) ped_int (nomark _)) (pssd_cons (sv 4 nd (ped_mkE I_Unlike (hr.mono (by decide)) rfl G_Unlike (pad_cons (v 1) (pad_cons (v 2) (pad_cons (v 3) pad_nil)))))
      (pssd_one (psd_ret (ped_tup (pad_cons (v 4) (pad_cons (ped_tup (pad_cons (ped_fld (v 4)) (pad_cons (ped_fld (v 4)) (pad_cons (ped_fld (v 4)) pad_nil)))) pad_nil)))))) pssd_nil)
  (pssd_cons (psd_if (ptd_cmp (op_eqDD (u64 hr)) (v 0) ped_int (nomark _)) (pssd_cons (sv 4 nd (ped_mkE I_TooMany (hr.mono (by decide)) rfl G_TooMany (pad_cons (v 1) (pad_cons (v 2) (pad_cons (v 3) pad_nil)))))
      (pssd_one (psd_ret (ped_tup (pad_cons (v 4) (pad_cons (ped_tup (pad_cons (ped_fld (v 4)) (pad_cons (ped_fld (v 4)) (pad_cons (ped_fld (v 4)) pad_nil)))) pad_nil)))))) pssd_nil)
  (pssd_cons (psd_if (ptd_cmp (op_eqDD (u64 hr)) (v 0) ped_int (nomark _)) (pssd_cons (sv 4 nd (ped_mkE I_NoName (hr.mono (by decide)) rfl G_NoName (pad_cons (v 1) pad_nil)))
      (pssd_one (psd_ret (ped_tup (pad_cons (v 4) (pad_cons (ped_tup (pad_cons (ped_fld (v 4)) pad_nil)) pad_nil)))))) pssd_nil)
  (pssd_one (psd_ret (ped_tup (pad_cons (ped_if (ptd_cmp (op_eqDD (u64 hr)) (v 0) ped_int (nomark _)) (ped_mk0 E_NothingToUndo.1 E_NothingToUndo.2 rfl G_NothingToUndo) (ped_mk0 E_NothingToRedo.1 E_NothingToRedo.2 rfl G_NothingToRedo)) (pad_cons (ped_tup pad_nil) pad_nil))))))))))), fun ds M Q h => ?_⟩
  obtain ⟨k, n, fs, a, b, c, hk, hlo, rfl, q⟩ := h
  show tseq _ _ _ [some (.int k), some a, some b, some c, none] M
  simp only [exs, List.mem_cons, Prod.mk.injEq, List.not_mem_nil, or_false] at hk
  rcases hk with ⟨rfl, rfl, rfl⟩ | ⟨rfl, rfl, rfl⟩ | ⟨rfl, rfl, rfl⟩ | ⟨rfl, rfl, rfl⟩ | ⟨rfl, rfl, rfl⟩ | ⟨rfl, rfl, rfl⟩ | ⟨rfl, rfl, rfl⟩ | ⟨rfl, rfl, rfl⟩ | ⟨rfl, rfl, rfl⟩ | ⟨rfl, rfl, rfl⟩ | ⟨rfl, rfl, rfl⟩ | ⟨rfl, rfl, rfl⟩ | ⟨rfl, rfl, rfl⟩ | ⟨rfl, rfl, rfl⟩ | ⟨rfl, rfl, rfl⟩
  · omega
  · omega
  · omega
  · omega
  · omega
  · omega
  · omega
  · simp only [DL.e_next, DL.e_break, DL.e_cont, DL.e_drop, DL.e_ret, DL.e_retN, DL.e_ifS, DL.e_asg, DL.e_par, DL.e_par2, DL.e_del, DL.e_gname, DL.e_gsub, DL.e_gtup, DL.e_gcons, DL.e_gnil, DL.e_var0, DL.e_varS, DL.e_con, DL.e_top2, DL.e_top1, DL.e_cb, DL.e_nil, DL.e_cons, DL.e_tup, DL.e_lst, DL.e_test, DL.e_testK, DL.e_tru, DL.e_truB, DL.e_truN, DL.e_truL, DL.e_and, DL.e_or, DL.e_not, DL.e_if, DL.e_andV, DL.e_andK, DL.e_orV, DL.e_orK, DL.e_notV, DL.e_notK, DL.e_add, DL.e_addS, DL.e_addT, DL.e_addL, DL.e_sub, DL.e_mul, DL.e_mulL, DL.e_mulT, DL.e_fdiv, DL.e_mod, DL.e_pow, DL.e_neg, DL.e_lt, DL.e_le, DL.e_gt, DL.e_ge, DL.e_eqI, DL.e_eqS, DL.e_neI, DL.e_neS, DL.e_isN, DL.e_isntN, DL.e_isB, DL.e_isntB, DL.e_atK, DL.e_ixT, DL.e_ixL, DL.e_ixK, DL.e_ixDT, DL.e_setK, DL.e_setDT, DL.e_setSome, DL.e_setL, DL.e_delK, DL.e_delT, DL.e_inT, DL.e_inK, DL.e_lenL, DL.e_lenT, DL.e_lenK, DL.e_lenS, DL.e_listL, DL.e_listO, DL.e_listT, DL.e_tupleL, DL.e_tupleT, DL.e_int, DL.e_lm0, DL.e_lm, DL.e_isL, DL.e_app, DL.e_pop, DL.e_popSome, DL.e_call, DL.e_newT, DL.e_newK, DL.e_disp, DL.e_prs0, DL.e_prsS, DL.f_for, DL.f_lc, DL.f_dc, DL.f_iseq, DL.f_seqT, DL.f_rng1, DL.f_rngK, DL.f_zip, DL.f_zipT, DL.f_yes, DL.f_par3, DL.f_par3K, DL.f_isi, DL.f_isiK, DL.f_fld, DL.f_mkE, DL.f_mk0, DL.f_slice, DL.f_nopart, DL.f_part, DL.f_partK, DL.f_slT, List.set_cons_zero, List.set_cons_succ, List.length_cons, List.length_nil, decide_eq_true_eq, Bool.not_eq_true, true_and, and_true, if_true, Bool.false_eq_true, if_false, Nat.reduceAdd, Nat.reduceLT, Nat.reduceLeDiff, e_seq, e_eqI]
    refine ⟨rfl, fun e he => ?_⟩
    refine ⟨_, _, _, _, rfl, put_same, X0.kind _ (mem 7 (by decide)), X0.noat _ (mem 7 (by decide)) _ (by simp [exs]), rfl, ?_⟩
    refine ⟨_, _, _, _, rfl, put_same, X0.kind _ (mem 7 (by decide)), X0.noat _ (mem 7 (by decide)) _ (by simp [exs]), rfl, ?_⟩
    exact ⟨by decide, by decide, Down.of (q _ _ _ (Keep.new he) put_same)⟩
  · simp only [DL.e_next, DL.e_break, DL.e_cont, DL.e_drop, DL.e_ret, DL.e_retN, DL.e_ifS, DL.e_asg, DL.e_par, DL.e_par2, DL.e_del, DL.e_gname, DL.e_gsub, DL.e_gtup, DL.e_gcons, DL.e_gnil, DL.e_var0, DL.e_varS, DL.e_con, DL.e_top2, DL.e_top1, DL.e_cb, DL.e_nil, DL.e_cons, DL.e_tup, DL.e_lst, DL.e_test, DL.e_testK, DL.e_tru, DL.e_truB, DL.e_truN, DL.e_truL, DL.e_and, DL.e_or, DL.e_not, DL.e_if, DL.e_andV, DL.e_andK, DL.e_orV, DL.e_orK, DL.e_notV, DL.e_notK, DL.e_add, DL.e_addS, DL.e_addT, DL.e_addL, DL.e_sub, DL.e_mul, DL.e_mulL, DL.e_mulT, DL.e_fdiv, DL.e_mod, DL.e_pow, DL.e_neg, DL.e_lt, DL.e_le, DL.e_gt, DL.e_ge, DL.e_eqI, DL.e_eqS, DL.e_neI, DL.e_neS, DL.e_isN, DL.e_isntN, DL.e_isB, DL.e_isntB, DL.e_atK, DL.e_ixT, DL.e_ixL, DL.e_ixK, DL.e_ixDT, DL.e_setK, DL.e_setDT, DL.e_setSome, DL.e_setL, DL.e_delK, DL.e_delT, DL.e_inT, DL.e_inK, DL.e_lenL, DL.e_lenT, DL.e_lenK, DL.e_lenS, DL.e_listL, DL.e_listO, DL.e_listT, DL.e_tupleL, DL.e_tupleT, DL.e_int, DL.e_lm0, DL.e_lm, DL.e_isL, DL.e_app, DL.e_pop, DL.e_popSome, DL.e_call, DL.e_newT, DL.e_newK, DL.e_disp, DL.e_prs0, DL.e_prsS, DL.f_for, DL.f_lc, DL.f_dc, DL.f_iseq, DL.f_seqT, DL.f_rng1, DL.f_rngK, DL.f_zip, DL.f_zipT, DL.f_yes, DL.f_par3, DL.f_par3K, DL.f_isi, DL.f_isiK, DL.f_fld, DL.f_mkE, DL.f_mk0, DL.f_slice, DL.f_nopart, DL.f_part, DL.f_partK, DL.f_slT, List.set_cons_zero, List.set_cons_succ, List.length_cons, List.length_nil, decide_eq_true_eq, Bool.not_eq_true, true_and, and_true, if_true, Bool.false_eq_true, if_false, Nat.reduceAdd, Nat.reduceLT, Nat.reduceLeDiff, e_seq, e_eqI]
    refine ⟨rfl, fun e he => ?_⟩
    refine ⟨_, _, _, _, rfl, put_same, X0.kind _ (mem 8 (by decide)), X0.noat _ (mem 8 (by decide)) _ (by simp [exs]), rfl, ?_⟩
    refine ⟨_, _, _, _, rfl, put_same, X0.kind _ (mem 8 (by decide)), X0.noat _ (mem 8 (by decide)) _ (by simp [exs]), rfl, ?_⟩
    exact ⟨by decide, by decide, Down.of (q _ _ _ (Keep.new he) put_same)⟩
  · simp only [DL.e_next, DL.e_break, DL.e_cont, DL.e_drop, DL.e_ret, DL.e_retN, DL.e_ifS, DL.e_asg, DL.e_par, DL.e_par2, DL.e_del, DL.e_gname, DL.e_gsub, DL.e_gtup, DL.e_gcons, DL.e_gnil, DL.e_var0, DL.e_varS, DL.e_con, DL.e_top2, DL.e_top1, DL.e_cb, DL.e_nil, DL.e_cons, DL.e_tup, DL.e_lst, DL.e_test, DL.e_testK, DL.e_tru, DL.e_truB, DL.e_truN, DL.e_truL, DL.e_and, DL.e_or, DL.e_not, DL.e_if, DL.e_andV, DL.e_andK, DL.e_orV, DL.e_orK, DL.e_notV, DL.e_notK, DL.e_add, DL.e_addS, DL.e_addT, DL.e_addL, DL.e_sub, DL.e_mul, DL.e_mulL, DL.e_mulT, DL.e_fdiv, DL.e_mod, DL.e_pow, DL.e_neg, DL.e_lt, DL.e_le, DL.e_gt, DL.e_ge, DL.e_eqI, DL.e_eqS, DL.e_neI, DL.e_neS, DL.e_isN, DL.e_isntN, DL.e_isB, DL.e_isntB, DL.e_atK, DL.e_ixT, DL.e_ixL, DL.e_ixK, DL.e_ixDT, DL.e_setK, DL.e_setDT, DL.e_setSome, DL.e_setL, DL.e_delK, DL.e_delT, DL.e_inT, DL.e_inK, DL.e_lenL, DL.e_lenT, DL.e_lenK, DL.e_lenS, DL.e_listL, DL.e_listO, DL.e_listT, DL.e_tupleL, DL.e_tupleT, DL.e_int, DL.e_lm0, DL.e_lm, DL.e_isL, DL.e_app, DL.e_pop, DL.e_popSome, DL.e_call, DL.e_newT, DL.e_newK, DL.e_disp, DL.e_prs0, DL.e_prsS, DL.f_for, DL.f_lc, DL.f_dc, DL.f_iseq, DL.f_seqT, DL.f_rng1, DL.f_rngK, DL.f_zip, DL.f_zipT, DL.f_yes, DL.f_par3, DL.f_par3K, DL.f_isi, DL.f_isiK, DL.f_fld, DL.f_mkE, DL.f_mk0, DL.f_slice, DL.f_nopart, DL.f_part, DL.f_partK, DL.f_slT, List.set_cons_zero, List.set_cons_succ, List.length_cons, List.length_nil, decide_eq_true_eq, Bool.not_eq_true, true_and, and_true, if_true, Bool.false_eq_true, if_false, Nat.reduceAdd, Nat.reduceLT, Nat.reduceLeDiff, e_seq, e_eqI]
    refine ⟨rfl, fun e he => ?_⟩
    refine ⟨_, _, _, _, rfl, put_same, X0.kind _ (mem 9 (by decide)), X0.noat _ (mem 9 (by decide)) _ (by simp [exs]), rfl, ?_⟩
    refine ⟨_, _, _, _, rfl, put_same, X0.kind _ (mem 9 (by decide)), X0.noat _ (mem 9 (by decide)) _ (by simp [exs]), rfl, ?_⟩
    exact ⟨by decide, by decide, Down.of (q _ _ _ (Keep.new he) put_same)⟩
  · simp only [DL.e_next, DL.e_break, DL.e_cont, DL.e_drop, DL.e_ret, DL.e_retN, DL.e_ifS, DL.e_asg, DL.e_par, DL.e_par2, DL.e_del, DL.e_gname, DL.e_gsub, DL.e_gtup, DL.e_gcons, DL.e_gnil, DL.e_var0, DL.e_varS, DL.e_con, DL.e_top2, DL.e_top1, DL.e_cb, DL.e_nil, DL.e_cons, DL.e_tup, DL.e_lst, DL.e_test, DL.e_testK, DL.e_tru, DL.e_truB, DL.e_truN, DL.e_truL, DL.e_and, DL.e_or, DL.e_not, DL.e_if, DL.e_andV, DL.e_andK, DL.e_orV, DL.e_orK, DL.e_notV, DL.e_notK, DL.e_add, DL.e_addS, DL.e_addT, DL.e_addL, DL.e_sub, DL.e_mul, DL.e_mulL, DL.e_mulT, DL.e_fdiv, DL.e_mod, DL.e_pow, DL.e_neg, DL.e_lt, DL.e_le, DL.e_gt, DL.e_ge, DL.e_eqI, DL.e_eqS, DL.e_neI, DL.e_neS, DL.e_isN, DL.e_isntN, DL.e_isB, DL.e_isntB, DL.e_atK, DL.e_ixT, DL.e_ixL, DL.e_ixK, DL.e_ixDT, DL.e_setK, DL.e_setDT, DL.e_setSome, DL.e_setL, DL.e_delK, DL.e_delT, DL.e_inT, DL.e_inK, DL.e_lenL, DL.e_lenT, DL.e_lenK, DL.e_lenS, DL.e_listL, DL.e_listO, DL.e_listT, DL.e_tupleL, DL.e_tupleT, DL.e_int, DL.e_lm0, DL.e_lm, DL.e_isL, DL.e_app, DL.e_pop, DL.e_popSome, DL.e_call, DL.e_newT, DL.e_newK, DL.e_disp, DL.e_prs0, DL.e_prsS, DL.f_for, DL.f_lc, DL.f_dc, DL.f_iseq, DL.f_seqT, DL.f_rng1, DL.f_rngK, DL.f_zip, DL.f_zipT, DL.f_yes, DL.f_par3, DL.f_par3K, DL.f_isi, DL.f_isiK, DL.f_fld, DL.f_mkE, DL.f_mk0, DL.f_slice, DL.f_nopart, DL.f_part, DL.f_partK, DL.f_slT, List.set_cons_zero, List.set_cons_succ, List.length_cons, List.length_nil, decide_eq_true_eq, Bool.not_eq_true, true_and, and_true, if_true, Bool.false_eq_true, if_false, Nat.reduceAdd, Nat.reduceLT, Nat.reduceLeDiff, e_seq, e_eqI]
    refine ⟨rfl, fun e he => ?_⟩
    refine ⟨_, _, _, _, rfl, put_same, X0.kind _ (mem 10 (by decide)), X0.noat _ (mem 10 (by decide)) _ (by simp [exs]), rfl, ?_⟩
    refine ⟨_, _, _, _, rfl, put_same, X0.kind _ (mem 10 (by decide)), X0.noat _ (mem 10 (by decide)) _ (by simp [exs]), rfl, ?_⟩
    refine ⟨_, _, _, _, rfl, put_same, X0.kind _ (mem 10 (by decide)), X0.noat _ (mem 10 (by decide)) _ (by simp [exs]), rfl, ?_⟩
    exact ⟨by decide, by decide, Down.of (q _ _ _ (Keep.new he) put_same)⟩
  · simp only [DL.e_next, DL.e_break, DL.e_cont, DL.e_drop, DL.e_ret, DL.e_retN, DL.e_ifS, DL.e_asg, DL.e_par, DL.e_par2, DL.e_del, DL.e_gname, DL.e_gsub, DL.e_gtup, DL.e_gcons, DL.e_gnil, DL.e_var0, DL.e_varS, DL.e_con, DL.e_top2, DL.e_top1, DL.e_cb, DL.e_nil, DL.e_cons, DL.e_tup, DL.e_lst, DL.e_test, DL.e_testK, DL.e_tru, DL.e_truB, DL.e_truN, DL.e_truL, DL.e_and, DL.e_or, DL.e_not, DL.e_if, DL.e_andV, DL.e_andK, DL.e_orV, DL.e_orK, DL.e_notV, DL.e_notK, DL.e_add, DL.e_addS, DL.e_addT, DL.e_addL, DL.e_sub, DL.e_mul, DL.e_mulL, DL.e_mulT, DL.e_fdiv, DL.e_mod, DL.e_pow, DL.e_neg, DL.e_lt, DL.e_le, DL.e_gt, DL.e_ge, DL.e_eqI, DL.e_eqS, DL.e_neI, DL.e_neS, DL.e_isN, DL.e_isntN, DL.e_isB, DL.e_isntB, DL.e_atK, DL.e_ixT, DL.e_ixL, DL.e_ixK, DL.e_ixDT, DL.e_setK, DL.e_setDT, DL.e_setSome, DL.e_setL, DL.e_delK, DL.e_delT, DL.e_inT, DL.e_inK, DL.e_lenL, DL.e_lenT, DL.e_lenK, DL.e_lenS, DL.e_listL, DL.e_listO, DL.e_listT, DL.e_tupleL, DL.e_tupleT, DL.e_int, DL.e_lm0, DL.e_lm, DL.e_isL, DL.e_app, DL.e_pop, DL.e_popSome, DL.e_call, DL.e_newT, DL.e_newK, DL.e_disp, DL.e_prs0, DL.e_prsS, DL.f_for, DL.f_lc, DL.f_dc, DL.f_iseq, DL.f_seqT, DL.f_rng1, DL.f_rngK, DL.f_zip, DL.f_zipT, DL.f_yes, DL.f_par3, DL.f_par3K, DL.f_isi, DL.f_isiK, DL.f_fld, DL.f_mkE, DL.f_mk0, DL.f_slice, DL.f_nopart, DL.f_part, DL.f_partK, DL.f_slT, List.set_cons_zero, List.set_cons_succ, List.length_cons, List.length_nil, decide_eq_true_eq, Bool.not_eq_true, true_and, and_true, if_true, Bool.false_eq_true, if_false, Nat.reduceAdd, Nat.reduceLT, Nat.reduceLeDiff, e_seq, e_eqI]
    refine ⟨rfl, fun e he => ?_⟩
    refine ⟨_, _, _, _, rfl, put_same, X0.kind _ (mem 11 (by decide)), X0.noat _ (mem 11 (by decide)) _ (by simp [exs]), rfl, ?_⟩
    refine ⟨_, _, _, _, rfl, put_same, X0.kind _ (mem 11 (by decide)), X0.noat _ (mem 11 (by decide)) _ (by simp [exs]), rfl, ?_⟩
    refine ⟨_, _, _, _, rfl, put_same, X0.kind _ (mem 11 (by decide)), X0.noat _ (mem 11 (by decide)) _ (by simp [exs]), rfl, ?_⟩
    exact ⟨by decide, by decide, Down.of (q _ _ _ (Keep.new he) put_same)⟩
  · simp only [DL.e_next, DL.e_break, DL.e_cont, DL.e_drop, DL.e_ret, DL.e_retN, DL.e_ifS, DL.e_asg, DL.e_par, DL.e_par2, DL.e_del, DL.e_gname, DL.e_gsub, DL.e_gtup, DL.e_gcons, DL.e_gnil, DL.e_var0, DL.e_varS, DL.e_con, DL.e_top2, DL.e_top1, DL.e_cb, DL.e_nil, DL.e_cons, DL.e_tup, DL.e_lst, DL.e_test, DL.e_testK, DL.e_tru, DL.e_truB, DL.e_truN, DL.e_truL, DL.e_and, DL.e_or, DL.e_not, DL.e_if, DL.e_andV, DL.e_andK, DL.e_orV, DL.e_orK, DL.e_notV, DL.e_notK, DL.e_add, DL.e_addS, DL.e_addT, DL.e_addL, DL.e_sub, DL.e_mul, DL.e_mulL, DL.e_mulT, DL.e_fdiv, DL.e_mod, DL.e_pow, DL.e_neg, DL.e_lt, DL.e_le, DL.e_gt, DL.e_ge, DL.e_eqI, DL.e_eqS, DL.e_neI, DL.e_neS, DL.e_isN, DL.e_isntN, DL.e_isB, DL.e_isntB, DL.e_atK, DL.e_ixT, DL.e_ixL, DL.e_ixK, DL.e_ixDT, DL.e_setK, DL.e_setDT, DL.e_setSome, DL.e_setL, DL.e_delK, DL.e_delT, DL.e_inT, DL.e_inK, DL.e_lenL, DL.e_lenT, DL.e_lenK, DL.e_lenS, DL.e_listL, DL.e_listO, DL.e_listT, DL.e_tupleL, DL.e_tupleT, DL.e_int, DL.e_lm0, DL.e_lm, DL.e_isL, DL.e_app, DL.e_pop, DL.e_popSome, DL.e_call, DL.e_newT, DL.e_newK, DL.e_disp, DL.e_prs0, DL.e_prsS, DL.f_for, DL.f_lc, DL.f_dc, DL.f_iseq, DL.f_seqT, DL.f_rng1, DL.f_rngK, DL.f_zip, DL.f_zipT, DL.f_yes, DL.f_par3, DL.f_par3K, DL.f_isi, DL.f_isiK, DL.f_fld, DL.f_mkE, DL.f_mk0, DL.f_slice, DL.f_nopart, DL.f_part, DL.f_partK, DL.f_slT, List.set_cons_zero, List.set_cons_succ, List.length_cons, List.length_nil, decide_eq_true_eq, Bool.not_eq_true, true_and, and_true, if_true, Bool.false_eq_true, if_false, Nat.reduceAdd, Nat.reduceLT, Nat.reduceLeDiff, e_seq, e_eqI]
    refine ⟨rfl, fun e he => ?_⟩
    refine ⟨_, _, _, _, rfl, put_same, X0.kind _ (mem 12 (by decide)), X0.noat _ (mem 12 (by decide)) _ (by simp [exs]), rfl, ?_⟩
    exact ⟨by decide, by decide, Down.of (q _ _ _ (Keep.new he) put_same)⟩
  · simp only [DL.e_next, DL.e_break, DL.e_cont, DL.e_drop, DL.e_ret, DL.e_retN, DL.e_ifS, DL.e_asg, DL.e_par, DL.e_par2, DL.e_del, DL.e_gname, DL.e_gsub, DL.e_gtup, DL.e_gcons, DL.e_gnil, DL.e_var0, DL.e_varS, DL.e_con, DL.e_top2, DL.e_top1, DL.e_cb, DL.e_nil, DL.e_cons, DL.e_tup, DL.e_lst, DL.e_test, DL.e_testK, DL.e_tru, DL.e_truB, DL.e_truN, DL.e_truL, DL.e_and, DL.e_or, DL.e_not, DL.e_if, DL.e_andV, DL.e_andK, DL.e_orV, DL.e_orK, DL.e_notV, DL.e_notK, DL.e_add, DL.e_addS, DL.e_addT, DL.e_addL, DL.e_sub, DL.e_mul, DL.e_mulL, DL.e_mulT, DL.e_fdiv, DL.e_mod, DL.e_pow, DL.e_neg, DL.e_lt, DL.e_le, DL.e_gt, DL.e_ge, DL.e_eqI, DL.e_eqS, DL.e_neI, DL.e_neS, DL.e_isN, DL.e_isntN, DL.e_isB, DL.e_isntB, DL.e_atK, DL.e_ixT, DL.e_ixL, DL.e_ixK, DL.e_ixDT, DL.e_setK, DL.e_setDT, DL.e_setSome, DL.e_setL, DL.e_delK, DL.e_delT, DL.e_inT, DL.e_inK, DL.e_lenL, DL.e_lenT, DL.e_lenK, DL.e_lenS, DL.e_listL, DL.e_listO, DL.e_listT, DL.e_tupleL, DL.e_tupleT, DL.e_int, DL.e_lm0, DL.e_lm, DL.e_isL, DL.e_app, DL.e_pop, DL.e_popSome, DL.e_call, DL.e_newT, DL.e_newK, DL.e_disp, DL.e_prs0, DL.e_prsS, DL.f_for, DL.f_lc, DL.f_dc, DL.f_iseq, DL.f_seqT, DL.f_rng1, DL.f_rngK, DL.f_zip, DL.f_zipT, DL.f_yes, DL.f_par3, DL.f_par3K, DL.f_isi, DL.f_isiK, DL.f_fld, DL.f_mkE, DL.f_mk0, DL.f_slice, DL.f_nopart, DL.f_part, DL.f_partK, DL.f_slT, List.set_cons_zero, List.set_cons_succ, List.length_cons, List.length_nil, decide_eq_true_eq, Bool.not_eq_true, true_and, and_true, if_true, Bool.false_eq_true, if_false, Nat.reduceAdd, Nat.reduceLT, Nat.reduceLeDiff, e_seq, e_eqI]
    exact fun e he => ⟨by decide, by decide, Down.of (q _ _ _ (Keep.new he) put_same)⟩
  · simp only [DL.e_next, DL.e_break, DL.e_cont, DL.e_drop, DL.e_ret, DL.e_retN, DL.e_ifS, DL.e_asg, DL.e_par, DL.e_par2, DL.e_del, DL.e_gname, DL.e_gsub, DL.e_gtup, DL.e_gcons, DL.e_gnil, DL.e_var0, DL.e_varS, DL.e_con, DL.e_top2, DL.e_top1, DL.e_cb, DL.e_nil, DL.e_cons, DL.e_tup, DL.e_lst, DL.e_test, DL.e_testK, DL.e_tru, DL.e_truB, DL.e_truN, DL.e_truL, DL.e_and, DL.e_or, DL.e_not, DL.e_if, DL.e_andV, DL.e_andK, DL.e_orV, DL.e_orK, DL.e_notV, DL.e_notK, DL.e_add, DL.e_addS, DL.e_addT, DL.e_addL, DL.e_sub, DL.e_mul, DL.e_mulL, DL.e_mulT, DL.e_fdiv, DL.e_mod, DL.e_pow, DL.e_neg, DL.e_lt, DL.e_le, DL.e_gt, DL.e_ge, DL.e_eqI, DL.e_eqS, DL.e_neI, DL.e_neS, DL.e_isN, DL.e_isntN, DL.e_isB, DL.e_isntB, DL.e_atK, DL.e_ixT, DL.e_ixL, DL.e_ixK, DL.e_ixDT, DL.e_setK, DL.e_setDT, DL.e_setSome, DL.e_setL, DL.e_delK, DL.e_delT, DL.e_inT, DL.e_inK, DL.e_lenL, DL.e_lenT, DL.e_lenK, DL.e_lenS, DL.e_listL, DL.e_listO, DL.e_listT, DL.e_tupleL, DL.e_tupleT, DL.e_int, DL.e_lm0, DL.e_lm, DL.e_isL, DL.e_app, DL.e_pop, DL.e_popSome, DL.e_call, DL.e_newT, DL.e_newK, DL.e_disp, DL.e_prs0, DL.e_prsS, DL.f_for, DL.f_lc, DL.f_dc, DL.f_iseq, DL.f_seqT, DL.f_rng1, DL.f_rngK, DL.f_zip, DL.f_zipT, DL.f_yes, DL.f_par3, DL.f_par3K, DL.f_isi, DL.f_isiK, DL.f_fld, DL.f_mkE, DL.f_mk0, DL.f_slice, DL.f_nopart, DL.f_part, DL.f_partK, DL.f_slT, List.set_cons_zero, List.set_cons_succ, List.length_cons, List.length_nil, decide_eq_true_eq, Bool.not_eq_true, true_and, and_true, if_true, Bool.false_eq_true, if_false, Nat.reduceAdd, Nat.reduceLT, Nat.reduceLeDiff, e_seq, e_eqI]
    exact fun e he => ⟨by decide, by decide, Down.of (q _ _ _ (Keep.new he) put_same)⟩
theorem two_keep {M : Mem} {e1 e2 p : Addr} {x1 x2 l : DO} (h1 : M e1 = none) (h2 : put M e1 x1 e2 = none) (h3 : put (put M e1 x1) e2 x2 p = none) :
    Keep M (put (put (put M e1 x1) e2 x2) p l) ∧ put (put (put M e1 x1) e2 x2) p l e1 = some x1 ∧ put (put (put M e1 x1) e2 x2) p l e2 = some x2 :=
  ⟨((Keep.new h1).trans (Keep.new h2)).trans (Keep.new h3), (Keep.new h3) _ _ ((Keep.new h2) _ _ put_same), (Keep.new h3) _ _ put_same⟩
theorem ok_one (Z : Free mg) (S : Stands K mg "_law_one" s_law_one ["kind", "a", "b", "c"]) (X0 : Ers P w K mg base) (C_law_more : FnD P w K mg base 3 "_law_more" ["kind", "a", "b", "c"] (spOne K 7)) : FnD P w K mg base 4 "_law_one" ["kind", "a", "b", "c"] (spOne K 0) := by
  obtain ⟨f, fd, F, hm, hb⟩ := S
  refine FnD.of F sc_law_one hm hb (fun ds M Q E h => ?_) fun cdv A outer s0 H0 E E0 hr tk hp => ?_
  · obtain ⟨k, n, fs, a, b, c, _, _, rfl, _⟩ := h; rfl
  have nd := sc_law_one.nd
  have I_BadName := X0.ini _ (mem 0 (by decide)) (by decide)
  have G_BadName := X0.glo _ (mem 0 (by decide))
  have I_TakenName := X0.ini _ (mem 1 (by decide)) (by decide)
  have G_TakenName := X0.glo _ (mem 1 (by decide))
  have I_BadCell := X0.ini _ (mem 2 (by decide)) (by decide)
  have G_BadCell := X0.glo _ (mem 2 (by decide))
  have I_NotThere := X0.ini _ (mem 3 (by decide)) (by decide)
  have G_NotThere := X0.glo _ (mem 3 (by decide))
  have I_BadLand := X0.ini _ (mem 4 (by decide)) (by decide)
  have G_BadLand := X0.glo _ (mem 4 (by decide))
  have I_BadArrangement := X0.ini _ (mem 5 (by decide)) (by decide)
  have G_BadArrangement := X0.glo _ (mem 5 (by decide))
  have I_BadText := X0.ini _ (mem 6 (by decide)) (by decide)
  have G_BadText := X0.glo _ (mem 6 (by decide))
  refine ⟨_, (pssd_cons (psd_if (ptd_cmp op_ltD (v 0) ped_int (nomark _)) (pssd_cons (sv 4 nd (ped_ix (u1 hr) (ped_lst (pad_cons (ped_mkE I_BadName (hr.mono (by decide)) rfl G_BadName (pad_cons (v 1) pad_nil)) (pad_cons (ped_mkE I_TakenName (hr.mono (by decide)) rfl G_TakenName (pad_cons (v 1) pad_nil)) pad_nil))) (v 0)))
      (pssd_one (psd_ret (ped_tup (pad_cons (v 4) (pad_cons (ped_tup (pad_cons (ped_fld (v 4)) pad_nil)) pad_nil)))))) pssd_nil)
  (pssd_cons (psd_if (ptd_cmp op_ltD (v 0) ped_int (nomark _)) (pssd_cons (sv 4 nd (ped_ix (u1 hr) (ped_lst (pad_cons (ped_mkE I_BadCell (hr.mono (by decide)) rfl G_BadCell (pad_cons (v 1) pad_nil)) (pad_cons (ped_mkE I_NotThere (hr.mono (by decide)) rfl G_NotThere (pad_cons (v 1) pad_nil)) pad_nil))) (ped_op op_subD (v 0) ped_int)))
      (pssd_one (psd_ret (ped_tup (pad_cons (v 4) (pad_cons (ped_tup (pad_cons (ped_fld (v 4)) pad_nil)) pad_nil)))))) pssd_nil)
  (pssd_cons (psd_if (ptd_cmp op_ltD (v 0) ped_int (nomark _)) (pssd_cons (sv 4 nd (ped_ix (u1 hr) (ped_lst (pad_cons (ped_mkE I_BadLand (hr.mono (by decide)) rfl G_BadLand (pad_cons (v 1) pad_nil)) (pad_cons (ped_mkE I_BadArrangement (hr.mono (by decide)) rfl G_BadArrangement (pad_cons (v 1) pad_nil)) pad_nil))) (ped_op op_subD (v 0) ped_int)))
      (pssd_one (psd_ret (ped_tup (pad_cons (v 4) (pad_cons (ped_tup (pad_cons (ped_fld (v 4)) pad_nil)) pad_nil)))))) pssd_nil)
  (pssd_cons (psd_if (ptd_cmp (op_eqDD (u64 hr)) (v 0) ped_int (nomark _)) (pssd_cons (sv 4 nd (ped_mkE I_BadText (hr.mono (by decide)) rfl G_BadText (pad_cons (v 1) (pad_cons (v 2) pad_nil))))
      (pssd_one (psd_ret (ped_tup (pad_cons (v 4) (pad_cons (ped_tup (pad_cons (ped_fld (v 4)) (pad_cons (ped_fld (v 4)) pad_nil))) pad_nil)))))) pssd_nil)
  (pssd_one (psd_ret (ped_call C_law_more (hr.mono (by decide)) rfl tk (pad_cons (v 0) (pad_cons (v 1) (pad_cons (v 2) (pad_cons (v 3) pad_nil))))))))))), fun ds M Q h => ?_⟩
  obtain ⟨k, n, fs, a, b, c, hk, hlo, rfl, q⟩ := h
  show tseq _ _ _ [some (.int k), some a, some b, some c, none] M
  by_cases h7 : 7 ≤ k
  · have h1 : ¬ k < 2 := by omega
    have h2 : ¬ k < 4 := by omega
    have h3 : ¬ k < 6 := by omega
    have h4 : ¬ k = 6 := by omega
    simp only [DL.e_next, DL.e_break, DL.e_cont, DL.e_drop, DL.e_ret, DL.e_retN, DL.e_ifS, DL.e_asg, DL.e_par, DL.e_par2, DL.e_del, DL.e_gname, DL.e_gsub, DL.e_gtup, DL.e_gcons, DL.e_gnil, DL.e_var0, DL.e_varS, DL.e_con, DL.e_top2, DL.e_top1, DL.e_cb, DL.e_nil, DL.e_cons, DL.e_tup, DL.e_lst, DL.e_test, DL.e_testK, DL.e_tru, DL.e_truB, DL.e_truN, DL.e_truL, DL.e_and, DL.e_or, DL.e_not, DL.e_if, DL.e_andV, DL.e_andK, DL.e_orV, DL.e_orK, DL.e_notV, DL.e_notK, DL.e_add, DL.e_addS, DL.e_addT, DL.e_addL, DL.e_sub, DL.e_mul, DL.e_mulL, DL.e_mulT, DL.e_fdiv, DL.e_mod, DL.e_pow, DL.e_neg, DL.e_lt, DL.e_le, DL.e_gt, DL.e_ge, DL.e_eqI, DL.e_eqS, DL.e_neI, DL.e_neS, DL.e_isN, DL.e_isntN, DL.e_isB, DL.e_isntB, DL.e_atK, DL.e_ixT, DL.e_ixL, DL.e_ixK, DL.e_ixDT, DL.e_setK, DL.e_setDT, DL.e_setSome, DL.e_setL, DL.e_delK, DL.e_delT, DL.e_inT, DL.e_inK, DL.e_lenL, DL.e_lenT, DL.e_lenK, DL.e_lenS, DL.e_listL, DL.e_listO, DL.e_listT, DL.e_tupleL, DL.e_tupleT, DL.e_int, DL.e_lm0, DL.e_lm, DL.e_isL, DL.e_app, DL.e_pop, DL.e_popSome, DL.e_call, DL.e_newT, DL.e_newK, DL.e_disp, DL.e_prs0, DL.e_prsS, DL.f_for, DL.f_lc, DL.f_dc, DL.f_iseq, DL.f_seqT, DL.f_rng1, DL.f_rngK, DL.f_zip, DL.f_zipT, DL.f_yes, DL.f_par3, DL.f_par3K, DL.f_isi, DL.f_isiK, DL.f_fld, DL.f_mkE, DL.f_mk0, DL.f_slice, DL.f_nopart, DL.f_part, DL.f_partK, DL.f_slT, List.set_cons_zero, List.set_cons_succ, List.length_cons, List.length_nil, decide_eq_true_eq, Bool.not_eq_true, true_and, and_true, if_true, Bool.false_eq_true, if_false, Nat.reduceAdd, Nat.reduceLT, Nat.reduceLeDiff, e_seq, e_eqI, h1, h2, h3, h4, e_call]
    exact ⟨k, n, fs, a, b, c, hk, h7, rfl, fun e gs M' kp hM => Down.of (q e gs M' kp hM)⟩
  simp only [exs, List.mem_cons, Prod.mk.injEq, List.not_mem_nil, or_false] at hk
  rcases hk with ⟨rfl, rfl, rfl⟩ | ⟨rfl, rfl, rfl⟩ | ⟨rfl, rfl, rfl⟩ | ⟨rfl, rfl, rfl⟩ | ⟨rfl, rfl, rfl⟩ | ⟨rfl, rfl, rfl⟩ | ⟨rfl, rfl, rfl⟩ | ⟨rfl, rfl, rfl⟩ | ⟨rfl, rfl, rfl⟩ | ⟨rfl, rfl, rfl⟩ | ⟨rfl, rfl, rfl⟩ | ⟨rfl, rfl, rfl⟩ | ⟨rfl, rfl, rfl⟩ | ⟨rfl, rfl, rfl⟩ | ⟨rfl, rfl, rfl⟩
  · simp only [DL.e_next, DL.e_break, DL.e_cont, DL.e_drop, DL.e_ret, DL.e_retN, DL.e_ifS, DL.e_asg, DL.e_par, DL.e_par2, DL.e_del, DL.e_gname, DL.e_gsub, DL.e_gtup, DL.e_gcons, DL.e_gnil, DL.e_var0, DL.e_varS, DL.e_con, DL.e_top2, DL.e_top1, DL.e_cb, DL.e_nil, DL.e_cons, DL.e_tup, DL.e_lst, DL.e_test, DL.e_testK, DL.e_tru, DL.e_truB, DL.e_truN, DL.e_truL, DL.e_and, DL.e_or, DL.e_not, DL.e_if, DL.e_andV, DL.e_andK, DL.e_orV, DL.e_orK, DL.e_notV, DL.e_notK, DL.e_add, DL.e_addS, DL.e_addT, DL.e_addL, DL.e_sub, DL.e_mul, DL.e_mulL, DL.e_mulT, DL.e_fdiv, DL.e_mod, DL.e_pow, DL.e_neg, DL.e_lt, DL.e_le, DL.e_gt, DL.e_ge, DL.e_eqI, DL.e_eqS, DL.e_neI, DL.e_neS, DL.e_isN, DL.e_isntN, DL.e_isB, DL.e_isntB, DL.e_atK, DL.e_ixT, DL.e_ixL, DL.e_ixK, DL.e_ixDT, DL.e_setK, DL.e_setDT, DL.e_setSome, DL.e_setL, DL.e_delK, DL.e_delT, DL.e_inT, DL.e_inK, DL.e_lenL, DL.e_lenT, DL.e_lenK, DL.e_lenS, DL.e_listL, DL.e_listO, DL.e_listT, DL.e_tupleL, DL.e_tupleT, DL.e_int, DL.e_lm0, DL.e_lm, DL.e_isL, DL.e_app, DL.e_pop, DL.e_popSome, DL.e_call, DL.e_newT, DL.e_newK, DL.e_disp, DL.e_prs0, DL.e_prsS, DL.f_for, DL.f_lc, DL.f_dc, DL.f_iseq, DL.f_seqT, DL.f_rng1, DL.f_rngK, DL.f_zip, DL.f_zipT, DL.f_yes, DL.f_par3, DL.f_par3K, DL.f_isi, DL.f_isiK, DL.f_fld, DL.f_mkE, DL.f_mk0, DL.f_slice, DL.f_nopart, DL.f_part, DL.f_partK, DL.f_slT, List.set_cons_zero, List.set_cons_succ, List.length_cons, List.length_nil, decide_eq_true_eq, Bool.not_eq_true, true_and, and_true, if_true, Bool.false_eq_true, if_false, Nat.reduceAdd, Nat.reduceLT, Nat.reduceLeDiff, e_seq, e_eqI, e_ixL put_same, at0, at1]
    refine ⟨rfl, fun e1 h1 => ⟨rfl, fun e2 h2 => ⟨by decide, fun p h3 => ?_⟩⟩⟩
    obtain ⟨kp, g1, g2⟩ := two_keep (l := _) h1 h2 h3
    refine ⟨_, _, _, _, rfl, g1, X0.kind _ (mem 0 (by decide)), X0.noat _ (mem 0 (by decide)) _ (by simp [exs]), rfl, ?_⟩
    exact ⟨by decide, by decide, Down.of (q _ _ _ kp g1)⟩
  · simp only [DL.e_next, DL.e_break, DL.e_cont, DL.e_drop, DL.e_ret, DL.e_retN, DL.e_ifS, DL.e_asg, DL.e_par, DL.e_par2, DL.e_del, DL.e_gname, DL.e_gsub, DL.e_gtup, DL.e_gcons, DL.e_gnil, DL.e_var0, DL.e_varS, DL.e_con, DL.e_top2, DL.e_top1, DL.e_cb, DL.e_nil, DL.e_cons, DL.e_tup, DL.e_lst, DL.e_test, DL.e_testK, DL.e_tru, DL.e_truB, DL.e_truN, DL.e_truL, DL.e_and, DL.e_or, DL.e_not, DL.e_if, DL.e_andV, DL.e_andK, DL.e_orV, DL.e_orK, DL.e_notV, DL.e_notK, DL.e_add, DL.e_addS, DL.e_addT, DL.e_addL, DL.e_sub, DL.e_mul, DL.e_mulL, DL.e_mulT, DL.e_fdiv, DL.e_mod, DL.e_pow, DL.e_neg, DL.e_lt, DL.e_le, DL.e_gt, DL.e_ge, DL.e_eqI, DL.e_eqS, DL.e_neI, DL.e_neS, DL.e_isN, DL.e_isntN, DL.e_isB, DL.e_isntB, DL.e_atK, DL.e_ixT, DL.e_ixL, DL.e_ixK, DL.e_ixDT, DL.e_setK, DL.e_setDT, DL.e_setSome, DL.e_setL, DL.e_delK, DL.e_delT, DL.e_inT, DL.e_inK, DL.e_lenL, DL.e_lenT, DL.e_lenK, DL.e_lenS, DL.e_listL, DL.e_listO, DL.e_listT, DL.e_tupleL, DL.e_tupleT, DL.e_int, DL.e_lm0, DL.e_lm, DL.e_isL, DL.e_app, DL.e_pop, DL.e_popSome, DL.e_call, DL.e_newT, DL.e_newK, DL.e_disp, DL.e_prs0, DL.e_prsS, DL.f_for, DL.f_lc, DL.f_dc, DL.f_iseq, DL.f_seqT, DL.f_rng1, DL.f_rngK, DL.f_zip, DL.f_zipT, DL.f_yes, DL.f_par3, DL.f_par3K, DL.f_isi, DL.f_isiK, DL.f_fld, DL.f_mkE, DL.f_mk0, DL.f_slice, DL.f_nopart, DL.f_part, DL.f_partK, DL.f_slT, List.set_cons_zero, List.set_cons_succ, List.length_cons, List.length_nil, decide_eq_true_eq, Bool.not_eq_true, true_and, and_true, if_true, Bool.false_eq_true, if_false, Nat.reduceAdd, Nat.reduceLT, Nat.reduceLeDiff, e_seq, e_eqI, e_ixL put_same, at0, at1]
    refine ⟨rfl, fun e1 h1 => ⟨rfl, fun e2 h2 => ⟨by decide, fun p h3 => ?_⟩⟩⟩
    obtain ⟨kp, g1, g2⟩ := two_keep (l := _) h1 h2 h3
    refine ⟨_, _, _, _, rfl, g2, X0.kind _ (mem 1 (by decide)), X0.noat _ (mem 1 (by decide)) _ (by simp [exs]), rfl, ?_⟩
    exact ⟨by decide, by decide, Down.of (q _ _ _ kp g2)⟩
  · simp only [DL.e_next, DL.e_break, DL.e_cont, DL.e_drop, DL.e_ret, DL.e_retN, DL.e_ifS, DL.e_asg, DL.e_par, DL.e_par2, DL.e_del, DL.e_gname, DL.e_gsub, DL.e_gtup, DL.e_gcons, DL.e_gnil, DL.e_var0, DL.e_varS, DL.e_con, DL.e_top2, DL.e_top1, DL.e_cb, DL.e_nil, DL.e_cons, DL.e_tup, DL.e_lst, DL.e_test, DL.e_testK, DL.e_tru, DL.e_truB, DL.e_truN, DL.e_truL, DL.e_and, DL.e_or, DL.e_not, DL.e_if, DL.e_andV, DL.e_andK, DL.e_orV, DL.e_orK, DL.e_notV, DL.e_notK, DL.e_add, DL.e_addS, DL.e_addT, DL.e_addL, DL.e_sub, DL.e_mul, DL.e_mulL, DL.e_mulT, DL.e_fdiv, DL.e_mod, DL.e_pow, DL.e_neg, DL.e_lt, DL.e_le, DL.e_gt, DL.e_ge, DL.e_eqI, DL.e_eqS, DL.e_neI, DL.e_neS, DL.e_isN, DL.e_isntN, DL.e_isB, DL.e_isntB, DL.e_atK, DL.e_ixT, DL.e_ixL, DL.e_ixK, DL.e_ixDT, DL.e_setK, DL.e_setDT, DL.e_setSome, DL.e_setL, DL.e_delK, DL.e_delT, DL.e_inT, DL.e_inK, DL.e_lenL, DL.e_lenT, DL.e_lenK, DL.e_lenS, DL.e_listL, DL.e_listO, DL.e_listT, DL.e_tupleL, DL.e_tupleT, DL.e_int, DL.e_lm0, DL.e_lm, DL.e_isL, DL.e_app, DL.e_pop, DL.e_popSome, DL.e_call, DL.e_newT, DL.e_newK, DL.e_disp, DL.e_prs0, DL.e_prsS, DL.f_for, DL.f_lc, DL.f_dc, DL.f_iseq, DL.f_seqT, DL.f_rng1, DL.f_rngK, DL.f_zip, DL.f_zipT, DL.f_yes, DL.f_par3, DL.f_par3K, DL.f_isi, DL.f_isiK, DL.f_fld, DL.f_mkE, DL.f_mk0, DL.f_slice, DL.f_nopart, DL.f_part, DL.f_partK, DL.f_slT, List.set_cons_zero, List.set_cons_succ, List.length_cons, List.length_nil, decide_eq_true_eq, Bool.not_eq_true, true_and, and_true, if_true, Bool.false_eq_true, if_false, Nat.reduceAdd, Nat.reduceLT, Nat.reduceLeDiff, e_seq, e_eqI, e_ixL put_same, at0, at1]
    refine ⟨rfl, fun e1 h1 => ⟨rfl, fun e2 h2 => ⟨by decide, fun p h3 => ?_⟩⟩⟩
    obtain ⟨kp, g1, g2⟩ := two_keep (l := _) h1 h2 h3
    refine ⟨_, _, _, _, rfl, g1, X0.kind _ (mem 2 (by decide)), X0.noat _ (mem 2 (by decide)) _ (by simp [exs]), rfl, ?_⟩
    exact ⟨by decide, by decide, Down.of (q _ _ _ kp g1)⟩
  · simp only [DL.e_next, DL.e_break, DL.e_cont, DL.e_drop, DL.e_ret, DL.e_retN, DL.e_ifS, DL.e_asg, DL.e_par, DL.e_par2, DL.e_del, DL.e_gname, DL.e_gsub, DL.e_gtup, DL.e_gcons, DL.e_gnil, DL.e_var0, DL.e_varS, DL.e_con, DL.e_top2, DL.e_top1, DL.e_cb, DL.e_nil, DL.e_cons, DL.e_tup, DL.e_lst, DL.e_test, DL.e_testK, DL.e_tru, DL.e_truB, DL.e_truN, DL.e_truL, DL.e_and, DL.e_or, DL.e_not, DL.e_if, DL.e_andV, DL.e_andK, DL.e_orV, DL.e_orK, DL.e_notV, DL.e_notK, DL.e_add, DL.e_addS, DL.e_addT, DL.e_addL, DL.e_sub, DL.e_mul, DL.e_mulL, DL.e_mulT, DL.e_fdiv, DL.e_mod, DL.e_pow, DL.e_neg, DL.e_lt, DL.e_le, DL.e_gt, DL.e_ge, DL.e_eqI, DL.e_eqS, DL.e_neI, DL.e_neS, DL.e_isN, DL.e_isntN, DL.e_isB, DL.e_isntB, DL.e_atK, DL.e_ixT, DL.e_ixL, DL.e_ixK, DL.e_ixDT, DL.e_setK, DL.e_setDT, DL.e_setSome, DL.e_setL, DL.e_delK, DL.e_delT, DL.e_inT, DL.e_inK, DL.e_lenL, DL.e_lenT, DL.e_lenK, DL.e_lenS, DL.e_listL, DL.e_listO, DL.e_listT, DL.e_tupleL, DL.e_tupleT, DL.e_int, DL.e_lm0, DL.e_lm, DL.e_isL, DL.e_app, DL.e_pop, DL.e_popSome, DL.e_call, DL.e_newT, DL.e_newK, DL.e_disp, DL.e_prs0, DL.e_prsS, DL.f_for, DL.f_lc, DL.f_dc, DL.f_iseq, DL.f_seqT, DL.f_rng1, DL.f_rngK, DL.f_zip, DL.f_zipT, DL.f_yes, DL.f_par3, DL.f_par3K, DL.f_isi, DL.f_isiK, DL.f_fld, DL.f_mkE, DL.f_mk0, DL.f_slice, DL.f_nopart, DL.f_part, DL.f_partK, DL.f_slT, List.set_cons_zero, List.set_cons_succ, List.length_cons, List.length_nil, decide_eq_true_eq, Bool.not_eq_true, true_and, and_true, if_true, Bool.false_eq_true, if_false, Nat.reduceAdd, Nat.reduceLT, Nat.reduceLeDiff, e_seq, e_eqI, e_ixL put_same, at0, at1]
    refine ⟨rfl, fun e1 h1 => ⟨rfl, fun e2 h2 => ⟨by decide, fun p h3 => ?_⟩⟩⟩
    obtain ⟨kp, g1, g2⟩ := two_keep (l := _) h1 h2 h3
    refine ⟨_, _, _, _, rfl, g2, X0.kind _ (mem 3 (by decide)), X0.noat _ (mem 3 (by decide)) _ (by simp [exs]), rfl, ?_⟩
    exact ⟨by decide, by decide, Down.of (q _ _ _ kp g2)⟩
  · simp only [DL.e_next, DL.e_break, DL.e_cont, DL.e_drop, DL.e_ret, DL.e_retN, DL.e_ifS, DL.e_asg, DL.e_par, DL.e_par2, DL.e_del, DL.e_gname, DL.e_gsub, DL.e_gtup, DL.e_gcons, DL.e_gnil, DL.e_var0, DL.e_varS, DL.e_con, DL.e_top2, DL.e_top1, DL.e_cb, DL.e_nil, DL.e_cons, DL.e_tup, DL.e_lst, DL.e_test, DL.e_testK, DL.e_tru, DL.e_truB, DL.e_truN, DL.e_truL, DL.e_and, DL.e_or, DL.e_not, DL.e_if, DL.e_andV, DL.e_andK, DL.e_orV, DL.e_orK, DL.e_notV, DL.e_notK, DL.e_add, DL.e_addS, DL.e_addT, DL.e_addL, DL.e_sub, DL.e_mul, DL.e_mulL, DL.e_mulT, DL.e_fdiv, DL.e_mod, DL.e_pow, DL.e_neg, DL.e_lt, DL.e_le, DL.e_gt, DL.e_ge, DL.e_eqI, DL.e_eqS, DL.e_neI, DL.e_neS, DL.e_isN, DL.e_isntN, DL.e_isB, DL.e_isntB, DL.e_atK, DL.e_ixT, DL.e_ixL, DL.e_ixK, DL.e_ixDT, DL.e_setK, DL.e_setDT, DL.e_setSome, DL.e_setL, DL.e_delK, DL.e_delT, DL.e_inT, DL.e_inK, DL.e_lenL, DL.e_lenT, DL.e_lenK, DL.e_lenS, DL.e_listL, DL.e_listO, DL.e_listT, DL.e_tupleL, DL.e_tupleT, DL.e_int, DL.e_lm0, DL.e_lm, DL.e_isL, DL.e_app, DL.e_pop, DL.e_popSome, DL.e_call, DL.e_newT, DL.e_newK, DL.e_disp, DL.e_prs0, DL.e_prsS, DL.f_for, DL.f_lc, DL.f_dc, DL.f_iseq, DL.f_seqT, DL.f_rng1, DL.f_rngK, DL.f_zip, DL.f_zipT, DL.f_yes, DL.f_par3, DL.f_par3K, DL.f_isi, DL.f_isiK, DL.f_fld, DL.f_mkE, DL.f_mk0, DL.f_slice, DL.f_nopart, DL.f_part, DL.f_partK, DL.f_slT, List.set_cons_zero, List.set_cons_succ, List.length_cons, List.length_nil, decide_eq_true_eq, Bool.not_eq_true, true_and, and_true, if_true, Bool.false_eq_true, if_false, Nat.reduceAdd, Nat.reduceLT, Nat.reduceLeDiff, e_seq, e_eqI, e_ixL put_same, at0, at1]
    refine ⟨rfl, fun e1 h1 => ⟨rfl, fun e2 h2 => ⟨by decide, fun p h3 => ?_⟩⟩⟩
    obtain ⟨kp, g1, g2⟩ := two_keep (l := _) h1 h2 h3
    refine ⟨_, _, _, _, rfl, g1, X0.kind _ (mem 4 (by decide)), X0.noat _ (mem 4 (by decide)) _ (by simp [exs]), rfl, ?_⟩
    exact ⟨by decide, by decide, Down.of (q _ _ _ kp g1)⟩
  · simp only [DL.e_next, DL.e_break, DL.e_cont, DL.e_drop, DL.e_ret, DL.e_retN, DL.e_ifS, DL.e_asg, DL.e_par, DL.e_par2, DL.e_del, DL.e_gname, DL.e_gsub, DL.e_gtup, DL.e_gcons, DL.e_gnil, DL.e_var0, DL.e_varS, DL.e_con, DL.e_top2, DL.e_top1, DL.e_cb, DL.e_nil, DL.e_cons, DL.e_tup, DL.e_lst, DL.e_test, DL.e_testK, DL.e_tru, DL.e_truB, DL.e_truN, DL.e_truL, DL.e_and, DL.e_or, DL.e_not, DL.e_if, DL.e_andV, DL.e_andK, DL.e_orV, DL.e_orK, DL.e_notV, DL.e_notK, DL.e_add, DL.e_addS, DL.e_addT, DL.e_addL, DL.e_sub, DL.e_mul, DL.e_mulL, DL.e_mulT, DL.e_fdiv, DL.e_mod, DL.e_pow, DL.e_neg, DL.e_lt, DL.e_le, DL.e_gt, DL.e_ge, DL.e_eqI, DL.e_eqS, DL.e_neI, DL.e_neS, DL.e_isN, DL.e_isntN, DL.e_isB, DL.e_isntB, DL.e_atK, DL.e_ixT, DL.e_ixL, DL.e_ixK, DL.e_ixDT, DL.e_setK, DL.e_setDT, DL.e_setSome, DL.e_setL, DL.e_delK, DL.e_delT, DL.e_inT, DL.e_inK, DL.e_lenL, DL.e_lenT, DL.e_lenK, DL.e_lenS, DL.e_listL, DL.e_listO, DL.e_listT, DL.e_tupleL, DL.e_tupleT, DL.e_int, DL.e_lm0, DL.e_lm, DL.e_isL, DL.e_app, DL.e_pop, DL.e_popSome, DL.e_call, DL.e_newT, DL.e_newK, DL.e_disp, DL.e_prs0, DL.e_prsS, DL.f_for, DL.f_lc, DL.f_dc, DL.f_iseq, DL.f_seqT, DL.f_rng1, DL.f_rngK, DL.f_zip, DL.f_zipT, DL.f_yes, DL.f_par3, DL.f_par3K, DL.f_isi, DL.f_isiK, DL.f_fld, DL.f_mkE, DL.f_mk0, DL.f_slice, DL.f_nopart, DL.f_part, DL.f_partK, DL.f_slT, List.set_cons_zero, List.set_cons_succ, List.length_cons, List.length_nil, decide_eq_true_eq, Bool.not_eq_true, true_and, and_true, if_true, Bool.false_eq_true, if_false, Nat.reduceAdd, Nat.reduceLT, Nat.reduceLeDiff, e_seq, e_eqI, e_ixL put_same, at0, at1]
    refine ⟨rfl, fun e1 h1 => ⟨rfl, fun e2 h2 => ⟨by decide, fun p h3 => ?_⟩⟩⟩
    obtain ⟨kp, g1, g2⟩ := two_keep (l := _) h1 h2 h3
    refine ⟨_, _, _, _, rfl, g2, X0.kind _ (mem 5 (by decide)), X0.noat _ (mem 5 (by decide)) _ (by simp [exs]), rfl, ?_⟩
    exact ⟨by decide, by decide, Down.of (q _ _ _ kp g2)⟩
  · simp only [DL.e_next, DL.e_break, DL.e_cont, DL.e_drop, DL.e_ret, DL.e_retN, DL.e_ifS, DL.e_asg, DL.e_par, DL.e_par2, DL.e_del, DL.e_gname, DL.e_gsub, DL.e_gtup, DL.e_gcons, DL.e_gnil, DL.e_var0, DL.e_varS, DL.e_con, DL.e_top2, DL.e_top1, DL.e_cb, DL.e_nil, DL.e_cons, DL.e_tup, DL.e_lst, DL.e_test, DL.e_testK, DL.e_tru, DL.e_truB, DL.e_truN, DL.e_truL, DL.e_and, DL.e_or, DL.e_not, DL.e_if, DL.e_andV, DL.e_andK, DL.e_orV, DL.e_orK, DL.e_notV, DL.e_notK, DL.e_add, DL.e_addS, DL.e_addT, DL.e_addL, DL.e_sub, DL.e_mul, DL.e_mulL, DL.e_mulT, DL.e_fdiv, DL.e_mod, DL.e_pow, DL.e_neg, DL.e_lt, DL.e_le, DL.e_gt, DL.e_ge, DL.e_eqI, DL.e_eqS, DL.e_neI, DL.e_neS, DL.e_isN, DL.e_isntN, DL.e_isB, DL.e_isntB, DL.e_atK, DL.e_ixT, DL.e_ixL, DL.e_ixK, DL.e_ixDT, DL.e_setK, DL.e_setDT, DL.e_setSome, DL.e_setL, DL.e_delK, DL.e_delT, DL.e_inT, DL.e_inK, DL.e_lenL, DL.e_lenT, DL.e_lenK, DL.e_lenS, DL.e_listL, DL.e_listO, DL.e_listT, DL.e_tupleL, DL.e_tupleT, DL.e_int, DL.e_lm0, DL.e_lm, DL.e_isL, DL.e_app, DL.e_pop, DL.e_popSome, DL.e_call, DL.e_newT, DL.e_newK, DL.e_disp, DL.e_prs0, DL.e_prsS, DL.f_for, DL.f_lc, DL.f_dc, DL.f_iseq, DL.f_seqT, DL.f_rng1, DL.f_rngK, DL.f_zip, DL.f_zipT, DL.f_yes, DL.f_par3, DL.f_par3K, DL.f_isi, DL.f_isiK, DL.f_fld, DL.f_mkE, DL.f_mk0, DL.f_slice, DL.f_nopart, DL.f_part, DL.f_partK, DL.f_slT, List.set_cons_zero, List.set_cons_succ, List.length_cons, List.length_nil, decide_eq_true_eq, Bool.not_eq_true, true_and, and_true, if_true, Bool.false_eq_true, if_false, Nat.reduceAdd, Nat.reduceLT, Nat.reduceLeDiff, e_seq, e_eqI]
    refine ⟨rfl, fun e he => ?_⟩
    refine ⟨_, _, _, _, rfl, put_same, X0.kind _ (mem 6 (by decide)), X0.noat _ (mem 6 (by decide)) _ (by simp [exs]), rfl, ?_⟩
    refine ⟨_, _, _, _, rfl, put_same, X0.kind _ (mem 6 (by decide)), X0.noat _ (mem 6 (by decide)) _ (by simp [exs]), rfl, ?_⟩
    exact ⟨by decide, by decide, Down.of (q _ _ _ (Keep.new he) put_same)⟩
  · omega
  · omega
  · omega
  · omega
  · omega
  · omega
  · omega
  · omega
def kindL (k : Int) (n : Nat) : List D := (exs.take n).map fun g => .bl (decide (k = g.1))
def spKinds (K : PySem.W.Frag) : SpD := fun ds M Q _ => ∃ e k n fs gs, (k, n, fs) ∈ exs ∧ ds = [.ref e] ∧ M e = some (.exi (He.ga K n) gs) ∧ ∀ p M', Keep M M' → M' p = some (.lst (kindL k 15)) → Q (.ref p) M'
theorem ok_kinds (Z : Free mg) (S : Stands K mg "_law_kinds" s_law_kinds ["e"]) (X0 : Ers P w K mg base) : FnD P w K mg base 1 "_law_kinds" ["e"] (spKinds K) := by
  obtain ⟨f, fd, F, hm, hb⟩ := S
  refine FnD.of F sc_law_kinds hm hb (fun ds M Q E h => ?_) fun cdv A outer s0 H0 E E0 hr tk hp => ?_
  · obtain ⟨e, k, n, fs, gs, _, rfl, _⟩ := h; rfl
  have nd := sc_law_kinds.nd
  have G_BadName := X0.glo _ (mem 0 (by decide))
  have G_TakenName := X0.glo _ (mem 1 (by decide))
  have G_BadCell := X0.glo _ (mem 2 (by decide))
  have G_NotThere := X0.glo _ (mem 3 (by decide))
  have G_BadLand := X0.glo _ (mem 4 (by decide))
  have G_BadArrangement := X0.glo _ (mem 5 (by decide))
  have G_BadText := X0.glo _ (mem 6 (by decide))
  have G_BadNumber := X0.glo _ (mem 7 (by decide))
  have G_NoMove := X0.glo _ (mem 8 (by decide))
  have G_NotKept := X0.glo _ (mem 9 (by decide))
  have G_Unlike := X0.glo _ (mem 10 (by decide))
  have G_TooMany := X0.glo _ (mem 11 (by decide))
  have G_NoName := X0.glo _ (mem 12 (by decide))
  have G_NothingToUndo := X0.glo _ (mem 13 (by decide))
  have G_NothingToRedo := X0.glo _ (mem 14 (by decide))
  refine ⟨_, (pssd_cons (sv 1 nd (ped_lst (pad_cons (ped_callB call_isiE rfl Z.isinstance (by decide +kernel) (pad_cons (v 0) (pad_cons (ped_glob rfl G_BadName) pad_nil))) (pad_cons (ped_callB call_isiE rfl Z.isinstance (by decide +kernel) (pad_cons (v 0) (pad_cons (ped_glob rfl G_TakenName) pad_nil))) (pad_cons (ped_callB call_isiE rfl Z.isinstance (by decide +kernel) (pad_cons (v 0) (pad_cons (ped_glob rfl G_BadCell) pad_nil))) (pad_cons (ped_callB call_isiE rfl Z.isinstance (by decide +kernel) (pad_cons (v 0) (pad_cons (ped_glob rfl G_NotThere) pad_nil))) pad_nil))))))
  (pssd_cons (sv 1 nd (ped_op op_addD (v 1) (ped_lst (pad_cons (ped_callB call_isiE rfl Z.isinstance (by decide +kernel) (pad_cons (v 0) (pad_cons (ped_glob rfl G_BadLand) pad_nil))) (pad_cons (ped_callB call_isiE rfl Z.isinstance (by decide +kernel) (pad_cons (v 0) (pad_cons (ped_glob rfl G_BadArrangement) pad_nil))) (pad_cons (ped_callB call_isiE rfl Z.isinstance (by decide +kernel) (pad_cons (v 0) (pad_cons (ped_glob rfl G_BadText) pad_nil))) pad_nil))))))
  (pssd_cons (sv 1 nd (ped_op op_addD (v 1) (ped_lst (pad_cons (ped_callB call_isiE rfl Z.isinstance (by decide +kernel) (pad_cons (v 0) (pad_cons (ped_glob rfl G_BadNumber) pad_nil))) (pad_cons (ped_callB call_isiE rfl Z.isinstance (by decide +kernel) (pad_cons (v 0) (pad_cons (ped_glob rfl G_NoMove) pad_nil))) (pad_cons (ped_callB call_isiE rfl Z.isinstance (by decide +kernel) (pad_cons (v 0) (pad_cons (ped_glob rfl G_NotKept) pad_nil))) pad_nil))))))
  (pssd_cons (sv 1 nd (ped_op op_addD (v 1) (ped_lst (pad_cons (ped_callB call_isiE rfl Z.isinstance (by decide +kernel) (pad_cons (v 0) (pad_cons (ped_glob rfl G_Unlike) pad_nil))) (pad_cons (ped_callB call_isiE rfl Z.isinstance (by decide +kernel) (pad_cons (v 0) (pad_cons (ped_glob rfl G_TooMany) pad_nil))) (pad_cons (ped_callB call_isiE rfl Z.isinstance (by decide +kernel) (pad_cons (v 0) (pad_cons (ped_glob rfl G_NoName) pad_nil))) pad_nil))))))
  (pssd_one (psd_ret (ped_op op_addD (v 1) (ped_lst (pad_cons (ped_callB call_isiE rfl Z.isinstance (by decide +kernel) (pad_cons (v 0) (pad_cons (ped_glob rfl G_NothingToUndo) pad_nil))) (pad_cons (ped_callB call_isiE rfl Z.isinstance (by decide +kernel) (pad_cons (v 0) (pad_cons (ped_glob rfl G_NothingToRedo) pad_nil))) pad_nil)))))))))), fun ds M Q h => ?_⟩
  obtain ⟨e, k, n, fs, gs, hk, rfl, hM, q⟩ := h
  have T := X0.kind _ hk
  have kt : ∀ i, (h : i < exs.length) → PySem.W.kitOne K (.ref (He.ga K n)) (.ref (He.ga K exs[i].2.1)) = some (decide (k = exs[i].1)) := fun i h => X0.kit _ hk _ (mem i h)
  show tseq _ _ _ [some (.ref e), none] M
  refine seq_cut (fun ρ M' => ∃ p, ρ = [some (.ref e), some (.ref p)] ∧ Keep M M' ∧ M' p = some (.lst (kindL k 4))) (fun N hN => ?_) ?_
  · simp only [DL.e_next, DL.e_break, DL.e_cont, DL.e_drop, DL.e_ret, DL.e_retN, DL.e_ifS, DL.e_asg, DL.e_par, DL.e_par2, DL.e_del, DL.e_gname, DL.e_gsub, DL.e_gtup, DL.e_gcons, DL.e_gnil, DL.e_var0, DL.e_varS, DL.e_con, DL.e_top2, DL.e_top1, DL.e_cb, DL.e_nil, DL.e_cons, DL.e_tup, DL.e_lst, DL.e_test, DL.e_testK, DL.e_tru, DL.e_truB, DL.e_truN, DL.e_truL, DL.e_and, DL.e_or, DL.e_not, DL.e_if, DL.e_andV, DL.e_andK, DL.e_orV, DL.e_orK, DL.e_notV, DL.e_notK, DL.e_add, DL.e_addS, DL.e_addT, DL.e_addL, DL.e_sub, DL.e_mul, DL.e_mulL, DL.e_mulT, DL.e_fdiv, DL.e_mod, DL.e_pow, DL.e_neg, DL.e_lt, DL.e_le, DL.e_gt, DL.e_ge, DL.e_eqI, DL.e_eqS, DL.e_neI, DL.e_neS, DL.e_isN, DL.e_isntN, DL.e_isB, DL.e_isntB, DL.e_atK, DL.e_ixT, DL.e_ixL, DL.e_ixK, DL.e_ixDT, DL.e_setK, DL.e_setDT, DL.e_setSome, DL.e_setL, DL.e_delK, DL.e_delT, DL.e_inT, DL.e_inK, DL.e_lenL, DL.e_lenT, DL.e_lenK, DL.e_lenS, DL.e_listL, DL.e_listO, DL.e_listT, DL.e_tupleL, DL.e_tupleT, DL.e_int, DL.e_lm0, DL.e_lm, DL.e_isL, DL.e_app, DL.e_pop, DL.e_popSome, DL.e_call, DL.e_newT, DL.e_newK, DL.e_disp, DL.e_prs0, DL.e_prsS, DL.f_for, DL.f_lc, DL.f_dc, DL.f_iseq, DL.f_seqT, DL.f_rng1, DL.f_rngK, DL.f_zip, DL.f_zipT, DL.f_yes, DL.f_par3, DL.f_par3K, DL.f_isi, DL.f_isiK, DL.f_fld, DL.f_mkE, DL.f_mk0, DL.f_slice, DL.f_nopart, DL.f_part, DL.f_partK, DL.f_slT, List.set_cons_zero, List.set_cons_succ, List.length_cons, List.length_nil, decide_eq_true_eq, Bool.not_eq_true, true_and, and_true, if_true, Bool.false_eq_true, if_false, Nat.reduceAdd, Nat.reduceLT, Nat.reduceLeDiff]
    refine isiE_go hM T rfl (kt 0 (by decide)) ?_
    refine isiE_go hM T rfl (kt 1 (by decide)) ?_
    refine isiE_go hM T rfl (kt 2 (by decide)) ?_
    refine isiE_go hM T rfl (kt 3 (by decide)) ?_
    exact ⟨by decide, fun p h => hN _ _ ⟨p, rfl, Keep.new h, put_same⟩⟩
  rintro ρ M1 ⟨p, rfl, K1, hp1⟩
  refine seq_cut (fun ρ M' => ∃ p, ρ = [some (.ref e), some (.ref p)] ∧ Keep M M' ∧ M' p = some (.lst (kindL k 7))) (fun N hN => ?_) ?_
  · simp only [DL.e_next, DL.e_break, DL.e_cont, DL.e_drop, DL.e_ret, DL.e_retN, DL.e_ifS, DL.e_asg, DL.e_par, DL.e_par2, DL.e_del, DL.e_gname, DL.e_gsub, DL.e_gtup, DL.e_gcons, DL.e_gnil, DL.e_var0, DL.e_varS, DL.e_con, DL.e_top2, DL.e_top1, DL.e_cb, DL.e_nil, DL.e_cons, DL.e_tup, DL.e_lst, DL.e_test, DL.e_testK, DL.e_tru, DL.e_truB, DL.e_truN, DL.e_truL, DL.e_and, DL.e_or, DL.e_not, DL.e_if, DL.e_andV, DL.e_andK, DL.e_orV, DL.e_orK, DL.e_notV, DL.e_notK, DL.e_add, DL.e_addS, DL.e_addT, DL.e_addL, DL.e_sub, DL.e_mul, DL.e_mulL, DL.e_mulT, DL.e_fdiv, DL.e_mod, DL.e_pow, DL.e_neg, DL.e_lt, DL.e_le, DL.e_gt, DL.e_ge, DL.e_eqI, DL.e_eqS, DL.e_neI, DL.e_neS, DL.e_isN, DL.e_isntN, DL.e_isB, DL.e_isntB, DL.e_atK, DL.e_ixT, DL.e_ixL, DL.e_ixK, DL.e_ixDT, DL.e_setK, DL.e_setDT, DL.e_setSome, DL.e_setL, DL.e_delK, DL.e_delT, DL.e_inT, DL.e_inK, DL.e_lenL, DL.e_lenT, DL.e_lenK, DL.e_lenS, DL.e_listL, DL.e_listO, DL.e_listT, DL.e_tupleL, DL.e_tupleT, DL.e_int, DL.e_lm0, DL.e_lm, DL.e_isL, DL.e_app, DL.e_pop, DL.e_popSome, DL.e_call, DL.e_newT, DL.e_newK, DL.e_disp, DL.e_prs0, DL.e_prsS, DL.f_for, DL.f_lc, DL.f_dc, DL.f_iseq, DL.f_seqT, DL.f_rng1, DL.f_rngK, DL.f_zip, DL.f_zipT, DL.f_yes, DL.f_par3, DL.f_par3K, DL.f_isi, DL.f_isiK, DL.f_fld, DL.f_mkE, DL.f_mk0, DL.f_slice, DL.f_nopart, DL.f_part, DL.f_partK, DL.f_slT, List.set_cons_zero, List.set_cons_succ, List.length_cons, List.length_nil, decide_eq_true_eq, Bool.not_eq_true, true_and, and_true, if_true, Bool.false_eq_true, if_false, Nat.reduceAdd, Nat.reduceLT, Nat.reduceLeDiff]
    refine isiE_go (K1 _ _ hM) T rfl (kt 4 (by decide)) ?_
    refine isiE_go (K1 _ _ hM) T rfl (kt 5 (by decide)) ?_
    refine isiE_go (K1 _ _ hM) T rfl (kt 6 (by decide)) ?_
    refine ⟨by decide, fun p2 h2 => ?_⟩
    have a1 := (Keep.new (o := .lst [.bl (decide (k = exs[4].1)), .bl (decide (k = exs[5].1)), .bl (decide (k = exs[6].1))]) h2) _ _ hp1
    show addR (.ref p) (.ref p2) _ _
    rw [e_addL a1 put_same]
    exact ⟨by show 4 + 3 ≤ sizeLine; decide, fun p3 h3 => hN _ _ ⟨p3, rfl, (K1.trans (Keep.new h2)).trans (Keep.new h3), put_same⟩⟩
  rintro ρ M1 ⟨p, rfl, K1, hp1⟩
  refine seq_cut (fun ρ M' => ∃ p, ρ = [some (.ref e), some (.ref p)] ∧ Keep M M' ∧ M' p = some (.lst (kindL k 10))) (fun N hN => ?_) ?_
  · simp only [DL.e_next, DL.e_break, DL.e_cont, DL.e_drop, DL.e_ret, DL.e_retN, DL.e_ifS, DL.e_asg, DL.e_par, DL.e_par2, DL.e_del, DL.e_gname, DL.e_gsub, DL.e_gtup, DL.e_gcons, DL.e_gnil, DL.e_var0, DL.e_varS, DL.e_con, DL.e_top2, DL.e_top1, DL.e_cb, DL.e_nil, DL.e_cons, DL.e_tup, DL.e_lst, DL.e_test, DL.e_testK, DL.e_tru, DL.e_truB, DL.e_truN, DL.e_truL, DL.e_and, DL.e_or, DL.e_not, DL.e_if, DL.e_andV, DL.e_andK, DL.e_orV, DL.e_orK, DL.e_notV, DL.e_notK, DL.e_add, DL.e_addS, DL.e_addT, DL.e_addL, DL.e_sub, DL.e_mul, DL.e_mulL, DL.e_mulT, DL.e_fdiv, DL.e_mod, DL.e_pow, DL.e_neg, DL.e_lt, DL.e_le, DL.e_gt, DL.e_ge, DL.e_eqI, DL.e_eqS, DL.e_neI, DL.e_neS, DL.e_isN, DL.e_isntN, DL.e_isB, DL.e_isntB, DL.e_atK, DL.e_ixT, DL.e_ixL, DL.e_ixK, DL.e_ixDT, DL.e_setK, DL.e_setDT, DL.e_setSome, DL.e_setL, DL.e_delK, DL.e_delT, DL.e_inT, DL.e_inK, DL.e_lenL, DL.e_lenT, DL.e_lenK, DL.e_lenS, DL.e_listL, DL.e_listO, DL.e_listT, DL.e_tupleL, DL.e_tupleT, DL.e_int, DL.e_lm0, DL.e_lm, DL.e_isL, DL.e_app, DL.e_pop, DL.e_popSome, DL.e_call, DL.e_newT, DL.e_newK, DL.e_disp, DL.e_prs0, DL.e_prsS, DL.f_for, DL.f_lc, DL.f_dc, DL.f_iseq, DL.f_seqT, DL.f_rng1, DL.f_rngK, DL.f_zip, DL.f_zipT, DL.f_yes, DL.f_par3, DL.f_par3K, DL.f_isi, DL.f_isiK, DL.f_fld, DL.f_mkE, DL.f_mk0, DL.f_slice, DL.f_nopart, DL.f_part, DL.f_partK, DL.f_slT, List.set_cons_zero, List.set_cons_succ, List.length_cons, List.length_nil, decide_eq_true_eq, Bool.not_eq_true, true_and, and_true, if_true, Bool.false_eq_true, if_false, Nat.reduceAdd, Nat.reduceLT, Nat.reduceLeDiff]
    refine isiE_go (K1 _ _ hM) T rfl (kt 7 (by decide)) ?_
    refine isiE_go (K1 _ _ hM) T rfl (kt 8 (by decide)) ?_
    refine isiE_go (K1 _ _ hM) T rfl (kt 9 (by decide)) ?_
    refine ⟨by decide, fun p2 h2 => ?_⟩
    have a1 := (Keep.new (o := .lst [.bl (decide (k = exs[7].1)), .bl (decide (k = exs[8].1)), .bl (decide (k = exs[9].1))]) h2) _ _ hp1
    show addR (.ref p) (.ref p2) _ _
    rw [e_addL a1 put_same]
    exact ⟨by show 7 + 3 ≤ sizeLine; decide, fun p3 h3 => hN _ _ ⟨p3, rfl, (K1.trans (Keep.new h2)).trans (Keep.new h3), put_same⟩⟩
  rintro ρ M1 ⟨p, rfl, K1, hp1⟩
  refine seq_cut (fun ρ M' => ∃ p, ρ = [some (.ref e), some (.ref p)] ∧ Keep M M' ∧ M' p = some (.lst (kindL k 13))) (fun N hN => ?_) ?_
  · simp only [DL.e_next, DL.e_break, DL.e_cont, DL.e_drop, DL.e_ret, DL.e_retN, DL.e_ifS, DL.e_asg, DL.e_par, DL.e_par2, DL.e_del, DL.e_gname, DL.e_gsub, DL.e_gtup, DL.e_gcons, DL.e_gnil, DL.e_var0, DL.e_varS, DL.e_con, DL.e_top2, DL.e_top1, DL.e_cb, DL.e_nil, DL.e_cons, DL.e_tup, DL.e_lst, DL.e_test, DL.e_testK, DL.e_tru, DL.e_truB, DL.e_truN, DL.e_truL, DL.e_and, DL.e_or, DL.e_not, DL.e_if, DL.e_andV, DL.e_andK, DL.e_orV, DL.e_orK, DL.e_notV, DL.e_notK, DL.e_add, DL.e_addS, DL.e_addT, DL.e_addL, DL.e_sub, DL.e_mul, DL.e_mulL, DL.e_mulT, DL.e_fdiv, DL.e_mod, DL.e_pow, DL.e_neg, DL.e_lt, DL.e_le, DL.e_gt, DL.e_ge, DL.e_eqI, DL.e_eqS, DL.e_neI, DL.e_neS, DL.e_isN, DL.e_isntN, DL.e_isB, DL.e_isntB, DL.e_atK, DL.e_ixT, DL.e_ixL, DL.e_ixK, DL.e_ixDT, DL.e_setK, DL.e_setDT, DL.e_setSome, DL.e_setL, DL.e_delK, DL.e_delT, DL.e_inT, DL.e_inK, DL.e_lenL, DL.e_lenT, DL.e_lenK, DL.e_lenS, DL.e_listL, DL.e_listO, DL.e_listT, DL.e_tupleL, DL.e_tupleT, DL.e_int, DL.e_lm0, DL.e_lm, DL.e_isL, DL.e_app, DL.e_pop, DL.e_popSome, DL.e_call, DL.e_newT, DL.e_newK, DL.e_disp, DL.e_prs0, DL.e_prsS, DL.f_for, DL.f_lc, DL.f_dc, DL.f_iseq, DL.f_seqT, DL.f_rng1, DL.f_rngK, DL.f_zip, DL.f_zipT, DL.f_yes, DL.f_par3, DL.f_par3K, DL.f_isi, DL.f_isiK, DL.f_fld, DL.f_mkE, DL.f_mk0, DL.f_slice, DL.f_nopart, DL.f_part, DL.f_partK, DL.f_slT, List.set_cons_zero, List.set_cons_succ, List.length_cons, List.length_nil, decide_eq_true_eq, Bool.not_eq_true, true_and, and_true, if_true, Bool.false_eq_true, if_false, Nat.reduceAdd, Nat.reduceLT, Nat.reduceLeDiff]
    refine isiE_go (K1 _ _ hM) T rfl (kt 10 (by decide)) ?_
    refine isiE_go (K1 _ _ hM) T rfl (kt 11 (by decide)) ?_
    refine isiE_go (K1 _ _ hM) T rfl (kt 12 (by decide)) ?_
    refine ⟨by decide, fun p2 h2 => ?_⟩
    have a1 := (Keep.new (o := .lst [.bl (decide (k = exs[10].1)), .bl (decide (k = exs[11].1)), .bl (decide (k = exs[12].1))]) h2) _ _ hp1
    show addR (.ref p) (.ref p2) _ _
    rw [e_addL a1 put_same]
    exact ⟨by show 10 + 3 ≤ sizeLine; decide, fun p3 h3 => hN _ _ ⟨p3, rfl, (K1.trans (Keep.new h2)).trans (Keep.new h3), put_same⟩⟩
  rintro ρ M1 ⟨p, rfl, K1, hp1⟩
  simp only [DL.e_next, DL.e_break, DL.e_cont, DL.e_drop, DL.e_ret, DL.e_retN, DL.e_ifS, DL.e_asg, DL.e_par, DL.e_par2, DL.e_del, DL.e_gname, DL.e_gsub, DL.e_gtup, DL.e_gcons, DL.e_gnil, DL.e_var0, DL.e_varS, DL.e_con, DL.e_top2, DL.e_top1, DL.e_cb, DL.e_nil, DL.e_cons, DL.e_tup, DL.e_lst, DL.e_test, DL.e_testK, DL.e_tru, DL.e_truB, DL.e_truN, DL.e_truL, DL.e_and, DL.e_or, DL.e_not, DL.e_if, DL.e_andV, DL.e_andK, DL.e_orV, DL.e_orK, DL.e_notV, DL.e_notK, DL.e_add, DL.e_addS, DL.e_addT, DL.e_addL, DL.e_sub, DL.e_mul, DL.e_mulL, DL.e_mulT, DL.e_fdiv, DL.e_mod, DL.e_pow, DL.e_neg, DL.e_lt, DL.e_le, DL.e_gt, DL.e_ge, DL.e_eqI, DL.e_eqS, DL.e_neI, DL.e_neS, DL.e_isN, DL.e_isntN, DL.e_isB, DL.e_isntB, DL.e_atK, DL.e_ixT, DL.e_ixL, DL.e_ixK, DL.e_ixDT, DL.e_setK, DL.e_setDT, DL.e_setSome, DL.e_setL, DL.e_delK, DL.e_delT, DL.e_inT, DL.e_inK, DL.e_lenL, DL.e_lenT, DL.e_lenK, DL.e_lenS, DL.e_listL, DL.e_listO, DL.e_listT, DL.e_tupleL, DL.e_tupleT, DL.e_int, DL.e_lm0, DL.e_lm, DL.e_isL, DL.e_app, DL.e_pop, DL.e_popSome, DL.e_call, DL.e_newT, DL.e_newK, DL.e_disp, DL.e_prs0, DL.e_prsS, DL.f_for, DL.f_lc, DL.f_dc, DL.f_iseq, DL.f_seqT, DL.f_rng1, DL.f_rngK, DL.f_zip, DL.f_zipT, DL.f_yes, DL.f_par3, DL.f_par3K, DL.f_isi, DL.f_isiK, DL.f_fld, DL.f_mkE, DL.f_mk0, DL.f_slice, DL.f_nopart, DL.f_part, DL.f_partK, DL.f_slT, List.set_cons_zero, List.set_cons_succ, List.length_cons, List.length_nil, decide_eq_true_eq, Bool.not_eq_true, true_and, and_true, if_true, Bool.false_eq_true, if_false, Nat.reduceAdd, Nat.reduceLT, Nat.reduceLeDiff]
  refine isiE_go (K1 _ _ hM) T rfl (kt 13 (by decide)) ?_
  refine isiE_go (K1 _ _ hM) T rfl (kt 14 (by decide)) ?_
  refine ⟨by decide, fun p2 h2 => ?_⟩
  have a1 := (Keep.new (o := .lst [.bl (decide (k = exs[13].1)), .bl (decide (k = exs[14].1))]) h2) _ _ hp1
  show addR (.ref p) (.ref p2) _ _
  rw [e_addL a1 put_same]
  exact ⟨by show 13 + 2 ≤ sizeLine; decide, fun p3 h3 => Down.of (q p3 _ ((K1.trans (Keep.new h2)).trans (Keep.new h3)) put_same)⟩
end
/-! ### the menu -/
def menuA (d1 d2 : Int) (q : Addr) : List D := [.non, .bl true, .int 0, .int (-1 - d1), .int (10 ^ 40 + d2), .str "", .str "log", .tup [.int 1, .int 2], .ref q, .tup [.str "b", .str "c"]]
def menuL (d1 d2 : Int) (q : Addr) : List D := menuA d1 d2 q ++ [.tup [.tup [.int 0, .int 0]]]
def pyM : D → PyData
  | .ref _ => .list [.int 3]
  | d => d.py
structure Okv (M : Mem) (x : D) : Prop where
  py : PyR M x (pyM x)
  sh : (pyM x).showable = true
  dp : (pyM x).depth ≤ 2
  ln : (pyM x).shown.length ≤ 1000
theorem int_ok {M : Mem} {i : Int} (h : i.natAbs < 10 ^ 50) : Okv M (.int i) := by
  refine ⟨.int i, ?_, Nat.zero_le _, ?_⟩
  · refine decide_eq_true ?_
    show i.natAbs.log2 < 1920
    by_cases h0 : i.natAbs = 0
    · rw [h0]; decide
    · exact (Nat.log2_lt h0).mpr (Nat.lt_trans h (by decide +kernel))
  · have e := int_text_length_le10 (k := 50) (by decide) h
    show (Str.ofString (toString i)).length ≤ 1000
    rw [PySem.ofString_length]
    omega
theorem menu_ok {M : Mem} {q : Addr} {d1 d2 : Int} {x : D} (a0 : 0 ≤ d1) (a1 : d1 < 9) (b0 : 0 ≤ d2) (b1 : d2 < 99) (hq : M q = some (.lst [.int 3])) (hx : x ∈ menuL d1 d2 q) : Okv M x := by
  simp only [menuL, menuA, List.cons_append, List.nil_append, List.mem_cons, List.not_mem_nil, or_false] at hx
  rcases hx with rfl | rfl | rfl | rfl | rfl | rfl | rfl | rfl | rfl | rfl | rfl
  · exact ⟨.non, rfl, by decide, by decide +kernel⟩
  · exact ⟨.bl true, rfl, by decide, by decide +kernel⟩
  · exact int_ok (by decide)
  · exact int_ok (by
      have : (10 : Nat) ^ 50 = 100000000000000000000000000000000000000000000000000 := by decide +kernel
      omega)
  · exact int_ok (by
      have h1 : (10 : Nat) ^ 50 = 100000000000000000000000000000000000000000000000000 := by decide +kernel
      have h2 : (10 : Int) ^ 40 = 10000000000000000000000000000000000000000 := by decide +kernel
      omega)
  · exact ⟨.str _, rfl, by decide, by decide +kernel⟩
  · exact ⟨.str _, rfl, by decide, by decide +kernel⟩
  · exact ⟨PyR.of_pure (d := .tup [.int 1, .int 2]) rfl, by decide +kernel, by decide, by decide +kernel⟩
  · exact ⟨.lst (rdL_lst hq) (.cons (.int 3) .nil), (by decide +kernel : (PyData.list [.int 3]).showable = true), (by decide : (PyData.list [.int 3]).depth ≤ 2), (by decide +kernel : (PyData.list [.int 3]).shown.length ≤ 1000)⟩
  · exact ⟨PyR.of_pure (d := .tup [.str "b", .str "c"]) rfl, by decide +kernel, by decide, by decide +kernel⟩
  · exact ⟨PyR.of_pure (d := .tup [.tup [.int 0, .int 0]]) rfl, by decide +kernel, by decide, by decide +kernel⟩
theorem all_ok {M : Mem} : ∀ {l : List D}, (∀ x ∈ l, Okv M x) → PyRL M l (l.map pyM) ∧ PyData.showableAll (l.map pyM) = true ∧ PyData.depthAll (l.map pyM) ≤ 2 ∧ ((PyData.shownAll (l.map pyM)).map (·.length)).sum ≤ 1000 * l.length ∧ (PyData.shownAll (l.map pyM)).length = l.length
  | [], _ => ⟨.nil, rfl, by decide, by decide, rfl⟩
  | x :: l, h => by
    obtain ⟨a, b, c, d, e⟩ := all_ok fun y hy => h y (List.mem_cons_of_mem _ hy)
    obtain ⟨p, s, dd, n⟩ := h x List.mem_cons_self
    simp only [List.map_cons, PyData.showableAll, PyData.depthAll, PyData.shownAll, List.sum_cons, List.length_cons]
    exact ⟨.cons p a, by rw [s, b]; rfl, by omega, by omega, by rw [e]⟩
def pyT (l : List D) : PyData := .tuple (l.map pyM)
/-- the text of a tuple of such -/
theorem reprT {M : Mem} {l : List D} {Q : VKd} (h : ∀ x ∈ l, Okv M x) (hl : l.length ≤ 3) (q : Q (.str (pyT l).shown) M) : reprR [.tup l] M Q := by
  obtain ⟨a, b, c, d, e⟩ := all_ok h
  refine .inl ⟨pyT l, .tup a, b, ?_, ?_, q⟩
  · simp only [pyT, PyData.depth]; omega
  · have z := tupleText_len_le (PyData.shownAll (l.map pyM))
    have s := sizeLine_eq
    show (tupleText (PyData.shownAll (l.map pyM))).length ≤ sizeLine
    omega
theorem cut_take {l : List D} {j : Nat} : DL.cutD l none (some (j : Int)) = l.take j := by
  unfold DL.cutD
  rw [HT.sIx_nat, HT.sIx_none, List.drop_zero, Nat.sub_zero]
  by_cases h : j ≤ l.length
  · rw [Nat.min_eq_left h]
  · rw [Nat.min_eq_right (by omega), List.take_of_length_le (Nat.le_refl _), List.take_of_length_le (by omega)]
theorem bools_py {M : Mem} : ∀ (l : List Bool), PyRL M (l.map D.bl) (l.map PyData.bool) ∧ PyData.canLayAll0 (l.map PyData.bool) = true ∧ PyData.depthAll (l.map PyData.bool) = 0 ∧ PyData.eqvAll (l.map PyData.bool) (l.map PyData.bool) = true
  | [] => ⟨.nil, rfl, rfl, rfl⟩
  | b :: l => by
    obtain ⟨h1, h2, h3, h4⟩ := bools_py (M := M) l
    simp only [List.map_cons, PyData.canLayAll0, PyData.depthAll, PyData.eqvAll, h2, h3, h4]
    exact ⟨.cons (.bl b) h1, by simp [PyData.canLay0], by simp [PyData.depth], by simp [PyData.eqv]⟩
theorem pen_keep {M M' : Mem} {p c : Addr} {ns : List Int} {n : Nat} (h : Pen M p c ns n) (k : Keep M M') : Pen M' p c ns n := by
  obtain ⟨⟨x1, x2, x3, x4, hM, r⟩, hc⟩ := h
  exact ⟨⟨x1, x2, x3, x4, k _ _ hM, r⟩, k _ _ hc⟩
theorem pen_ne {M : Mem} {p c m : Addr} {ns : List Int} {n : Nat} {l : List D} (h : Pen M p c ns n) (hm : M m = some (.lst l)) : m ≠ p := by
  obtain ⟨⟨x1, x2, x3, x4, hM, _⟩, _⟩ := h
  intro z
  rw [z, hM] at hm
  cases hm
theorem pen_chg {M : Mem} {p c m : Addr} {ns : List Int} {n : Nat} {d1 d2 : Int} {l : Addr} {o : DO} (h : Pen M p c ns n) (hm : M m = some (.lst (menuA d1 d2 l))) : Pen (put M m o) p c ns n := by
  have n1 := pen_ne h hm
  obtain ⟨⟨x1, x2, x3, x4, hM, r⟩, hc⟩ := h
  refine ⟨⟨x1, x2, x3, x4, by rw [put_ne (Ne.symm n1)]; exact hM, r⟩, ?_⟩
  have n2 : c ≠ m := by
    intro z
    rw [z, hm] at hc
    cases ns with
    | nil => cases hc
    | cons x xs => injection hc with hc; injection hc with hc; cases hc
  rw [put_ne n2]
  exact hc
theorem exs_at {i : Nat} (hi : i < 15) : ∃ nm fs, ((0 : Int) + (i : Int), nm, fs) ∈ exs := by
  have e : ∀ j : Fin 15, (exs[j]'(by have := j.2; exact this)).1 = (0 : Int) + ((j : Nat) : Int) := by decide
  have m := mem i hi
  refine ⟨exs[i].2.1, exs[i].2.2, ?_⟩
  have e2 := e ⟨i, hi⟩
  rw [← e2]
  exact m
theorem exs_len : ∀ t ∈ exs, t.2.2.length ≤ 3 := by decide
def dueF (l : List D) : D → Option D
  | .int j => some (.str (pyT (l.take j.toNat)).shown)
  | _ => none
theorem due_list {l : List D} : (intsD 0 (4 : Int).toNat).filterMap (dueF l) = (List.range 4).map fun j => .str (pyT (l.take j)).shown := rfl
theorem due_at {y1 y2 y3 : D} {n : Nat} (h : n ≤ 3) : atI ((List.range 4).map fun j => D.str (pyT ([y1, y2, y3].take j)).shown) (([y1, y2, y3].take n).length : Int) = some (.str (pyT ([y1, y2, y3].take n)).shown) := by
  have e : n = 0 ∨ n = 1 ∨ n = 2 ∨ n = 3 := by omega
  rcases e with rfl | rfl | rfl | rfl <;> rfl
def kndF (k : Int) : D → Option D
  | .int j => some (.bl (decide (j = k)))
  | _ => none
theorem knd_list {i : Nat} (hi : i < 15) : (intsD 0 (15 : Int).toNat).filterMap (kndF (0 + (i : Int))) = kindL (0 + (i : Int)) 15 := by
  have e : ∀ j : Fin 15, (intsD 0 (15 : Int).toNat).filterMap (kndF (0 + ((j : Nat) : Int))) = kindL (0 + ((j : Nat) : Int)) 15 := by decide +kernel
  exact e ⟨i, hi⟩
section
variable {P : Program} {w : World} {K : PySem.W.Frag} {mg : Str → Option Value} {base : Heap}
def spLaw : SpD := fun ds M Q _ => ∃ (a : Addr) (ns : List Int), ds = [.ref a] ∧ M a = some (.ro (ns.map D.int)) ∧ ns.length < 2 ^ 20 ∧ ∀ M', Q (.bl true) M'
theorem menuL_len {d1 d2 : Int} {q : Addr} : (menuL d1 d2 q).length = 11 := rfl
theorem ok_law {f : Addr} {fd : FuncData} (Z : Free mg) (F : Fun K "law" "law" s_law f fd) (X0 : Ers P w K mg base) (C_law_pen : FnD P w K mg base 1 "_law_pen" ["script"] spPen) (C_law_draw : FnD P w K mg base 1 "_law_draw" ["pen", "many"] spDraw)
    (C_law_pick : FnD P w K mg base 2 "_law_pick" ["pen", "some"] spPick) (C_law_one : FnD P w K mg base 4 "_law_one" ["kind", "a", "b", "c"] (spOne K 0)) (C_law_kinds : FnD P w K mg base 1 "_law_kinds" ["e"] (spKinds K)) : FnQ P w K mg base 5 f fd ["script"] (lowSp K spLaw) := by
  refine FnQ.ofD F sc_law (fun ds M Q E h => ?_) fun cdv A outer s0 H0 E E0 hA hr tk hp => ?_
  · obtain ⟨a, ns, rfl, _⟩ := h; rfl
  have nd := sc_law.nd
  have G_ClimbError := X0.gloC
  refine ⟨_, (pssd_cons (sv 1 nd (ped_call C_law_pen (hr.mono (by decide)) rfl tk (pad_cons (v 0) pad_nil)))
  (pssd_cons (sv 2 nd (ped_lst (pad_cons ped_non (pad_cons ped_bl (pad_cons ped_int (pad_cons (ped_op op_subD (ped_un un_negD ped_int) (ped_call C_law_draw (hr.mono (by decide)) rfl tk (pad_cons (v 1) (pad_cons ped_int pad_nil)))) (pad_cons (ped_op op_addD (ped_op op_powD ped_int ped_int) (ped_call C_law_draw (hr.mono (by decide)) rfl tk (pad_cons (v 1) (pad_cons ped_int pad_nil)))) (pad_cons ped_str (pad_cons ped_str (pad_cons (ped_tup (pad_cons ped_int (pad_cons ped_int pad_nil))) (pad_cons (ped_lst (pad_cons ped_int pad_nil)) (pad_cons (ped_tup (pad_cons ped_str (pad_cons ped_str pad_nil))) pad_nil))))))))))))
  (pssd_cons (psd_expr (ped_append (v 2) (pad_cons (ped_tup (pad_cons (ped_tup (pad_cons ped_int (pad_cons ped_int pad_nil))) pad_nil)) pad_nil)))
  (pssd_cons (psd_for hp rfl (pid_range1 rfl Z.range (pad_cons ped_int pad_nil)) (gn 3 nd) (pssd_cons (psd_asg (ped_tup (pad_cons (ped_call C_law_pick (hr.mono (by decide)) rfl tk (pad_cons (v 1) (pad_cons (v 2) pad_nil))) (pad_cons (ped_call C_law_pick (hr.mono (by decide)) rfl tk (pad_cons (v 1) (pad_cons (v 2) pad_nil))) (pad_cons (ped_call C_law_pick (hr.mono (by decide)) rfl tk (pad_cons (v 1) (pad_cons (v 2) pad_nil))) pad_nil)))) (pgd_tup rfl (pgsd_cons (gn 4 nd) (pgsd_cons (gn 5 nd) (pgsd_cons (gn 6 nd) pgsd_nil)))))
      (pssd_cons (svL 7 nd (pid_range1 rfl Z.range (pad_cons ped_int pad_nil)) (blkOk_by (own := [("many", 10)]) rfl) (by decide) (fun _ _ _ _ _ => (gn 10 nd)) (fun _ _ _ _ _ => ptsd_nil) (fun _ _ _ _ _ => (ped_callB (call_reprD hA hr) rfl Z.repr (by decide +kernel) (pad_cons (ped_slice (ped_tup (pad_cons (v 4) (pad_cons (v 5) (pad_cons (v 6) pad_nil)))) pod_none (pod_some (v 10))) pad_nil))))
      (pssd_cons (psd_asg (ped_call C_law_one (hr.mono (by decide)) rfl tk (pad_cons (v 3) (pad_cons (v 4) (pad_cons (v 5) (pad_cons (v 6) pad_nil))))) (pgd_tup rfl (pgsd_cons (gn 8 nd) (pgsd_cons (gn 9 nd) pgsd_nil))))
      (pssd_cons (psd_if (ptd_cmp (op_neDD (u64 hr)) (ped_callB (call_reprD hA hr) rfl Z.repr (by decide +kernel) (pad_cons (v 9) pad_nil)) (ped_ix (u1 hr) (v 7) (ped_callB call_lenD2 rfl Z.len PySem.boot_len (pad_cons (v 9) pad_nil))) (nomark _)) (pssd_one (psd_ret ped_bl)) pssd_nil)
      (pssd_cons (psd_if (PWd.pt (pwd_or (ptd_not (ptd_truth (ped_callB call_isiE rfl Z.isinstance (by decide +kernel) (pad_cons (v 8) (pad_cons (ped_glob rfl G_ClimbError) pad_nil))))) (pwd_or1 (ptd_not (ptd_truth (ped_callB call_isiE rfl Z.isinstance (by decide +kernel) (pad_cons (v 8) (pad_cons (ped_ty (n := "ValueError") rfl Z.ValueError (by decide +kernel)) pad_nil)))))))) (pssd_one (psd_ret ped_bl)) pssd_nil)
      (pssd_one (psd_if (ptd_cmp (op_neDD (u64 hr)) (ped_call C_law_kinds (hr.mono (by decide)) rfl tk (pad_cons (v 8) pad_nil)) (ped_lc rfl nd (pid_range1 rfl Z.range (pad_cons ped_int pad_nil)) (blkOk_by (own := [("k", 11)]) rfl) (by decide) (fun _ _ _ _ _ => (gn 11 nd)) (fun _ _ _ _ _ => ptsd_nil) (fun _ _ _ _ _ => (ped_cmp (op_eqDD (u64 hr)) (v 11) (v 3) (nomark _)))) (nomark _)) (pssd_one (psd_ret ped_bl)) pssd_nil))))))))
  (pssd_one (psd_ret ped_bl)))))), fun ds M Q h => ?_⟩
  obtain ⟨a, ns, rfl, ha, hn, q⟩ := h
  show tseq _ _ _ [some (.ref a), none, none, none, none, none, none, none, none, none, none, none] M
  refine seq_cut (fun ρ M' => ∃ p c, ρ = [some (.ref a), some (.ref p), none, none, none, none, none, none, none, none, none, none] ∧ Pen M' p c ns 0) (fun N hN => ?_) ?_
  · simp only [DL.e_next, DL.e_break, DL.e_cont, DL.e_drop, DL.e_ret, DL.e_retN, DL.e_ifS, DL.e_asg, DL.e_par, DL.e_par2, DL.e_del, DL.e_gname, DL.e_gsub, DL.e_gtup, DL.e_gcons, DL.e_gnil, DL.e_var0, DL.e_varS, DL.e_con, DL.e_top2, DL.e_top1, DL.e_cb, DL.e_nil, DL.e_cons, DL.e_tup, DL.e_lst, DL.e_test, DL.e_testK, DL.e_tru, DL.e_truB, DL.e_truN, DL.e_truL, DL.e_and, DL.e_or, DL.e_not, DL.e_if, DL.e_andV, DL.e_andK, DL.e_orV, DL.e_orK, DL.e_notV, DL.e_notK, DL.e_add, DL.e_addS, DL.e_addT, DL.e_addL, DL.e_sub, DL.e_mul, DL.e_mulL, DL.e_mulT, DL.e_fdiv, DL.e_mod, DL.e_pow, DL.e_neg, DL.e_lt, DL.e_le, DL.e_gt, DL.e_ge, DL.e_eqI, DL.e_eqS, DL.e_neI, DL.e_neS, DL.e_isN, DL.e_isntN, DL.e_isB, DL.e_isntB, DL.e_atK, DL.e_ixT, DL.e_ixL, DL.e_ixK, DL.e_ixDT, DL.e_setK, DL.e_setDT, DL.e_setSome, DL.e_setL, DL.e_delK, DL.e_delT, DL.e_inT, DL.e_inK, DL.e_lenL, DL.e_lenT, DL.e_lenK, DL.e_lenS, DL.e_listL, DL.e_listO, DL.e_listT, DL.e_tupleL, DL.e_tupleT, DL.e_int, DL.e_lm0, DL.e_lm, DL.e_isL, DL.e_app, DL.e_pop, DL.e_popSome, DL.e_call, DL.e_newT, DL.e_newK, DL.e_disp, DL.e_prs0, DL.e_prsS, DL.f_for, DL.f_lc, DL.f_dc, DL.f_iseq, DL.f_seqT, DL.f_rng1, DL.f_rngK, DL.f_zip, DL.f_zipT, DL.f_yes, DL.f_par3, DL.f_par3K, DL.f_isi, DL.f_isiK, DL.f_fld, DL.f_mkE, DL.f_mk0, DL.f_slice, DL.f_nopart, DL.f_part, DL.f_partK, DL.f_slT, List.set_cons_zero, List.set_cons_succ, List.length_cons, List.length_nil, decide_eq_true_eq, Bool.not_eq_true, true_and, and_true, if_true, Bool.false_eq_true, if_false, Nat.reduceAdd, Nat.reduceLT, Nat.reduceLeDiff, e_call]
    exact ⟨a, ns, rfl, ha, hn, fun p c M' _ _ _ hP => hN _ _ ⟨p, c, rfl, hP⟩⟩
  rintro ρ M1 ⟨p, c, rfl, hP⟩
  refine seq_cut (fun ρ M' => ∃ d1 d2 q m, ρ = [some (.ref a), some (.ref p), some (.ref m), none, none, none, none, none, none, none, none, none] ∧ 0 ≤ d1 ∧ d1 < 9 ∧ 0 ≤ d2 ∧ d2 < 99 ∧ M' m = some (.lst (menuA d1 d2 q)) ∧ M' q = some (.lst [.int 3]) ∧ Pen M' p c ns 2) (fun N hN => ?_) ?_
  · simp only [DL.e_next, DL.e_break, DL.e_cont, DL.e_drop, DL.e_ret, DL.e_retN, DL.e_ifS, DL.e_asg, DL.e_par, DL.e_par2, DL.e_del, DL.e_gname, DL.e_gsub, DL.e_gtup, DL.e_gcons, DL.e_gnil, DL.e_var0, DL.e_varS, DL.e_con, DL.e_top2, DL.e_top1, DL.e_cb, DL.e_nil, DL.e_cons, DL.e_tup, DL.e_lst, DL.e_test, DL.e_testK, DL.e_tru, DL.e_truB, DL.e_truN, DL.e_truL, DL.e_and, DL.e_or, DL.e_not, DL.e_if, DL.e_andV, DL.e_andK, DL.e_orV, DL.e_orK, DL.e_notV, DL.e_notK, DL.e_add, DL.e_addS, DL.e_addT, DL.e_addL, DL.e_sub, DL.e_mul, DL.e_mulL, DL.e_mulT, DL.e_fdiv, DL.e_mod, DL.e_pow, DL.e_neg, DL.e_lt, DL.e_le, DL.e_gt, DL.e_ge, DL.e_eqI, DL.e_eqS, DL.e_neI, DL.e_neS, DL.e_isN, DL.e_isntN, DL.e_isB, DL.e_isntB, DL.e_atK, DL.e_ixT, DL.e_ixL, DL.e_ixK, DL.e_ixDT, DL.e_setK, DL.e_setDT, DL.e_setSome, DL.e_setL, DL.e_delK, DL.e_delT, DL.e_inT, DL.e_inK, DL.e_lenL, DL.e_lenT, DL.e_lenK, DL.e_lenS, DL.e_listL, DL.e_listO, DL.e_listT, DL.e_tupleL, DL.e_tupleT, DL.e_int, DL.e_lm0, DL.e_lm, DL.e_isL, DL.e_app, DL.e_pop, DL.e_popSome, DL.e_call, DL.e_newT, DL.e_newK, DL.e_disp, DL.e_prs0, DL.e_prsS, DL.f_for, DL.f_lc, DL.f_dc, DL.f_iseq, DL.f_seqT, DL.f_rng1, DL.f_rngK, DL.f_zip, DL.f_zipT, DL.f_yes, DL.f_par3, DL.f_par3K, DL.f_isi, DL.f_isiK, DL.f_fld, DL.f_mkE, DL.f_mk0, DL.f_slice, DL.f_nopart, DL.f_part, DL.f_partK, DL.f_slT, List.set_cons_zero, List.set_cons_succ, List.length_cons, List.length_nil, decide_eq_true_eq, Bool.not_eq_true, true_and, and_true, if_true, Bool.false_eq_true, if_false, Nat.reduceAdd, Nat.reduceLT, Nat.reduceLeDiff, e_call]
    refine ⟨p, c, ns, 0, 9, rfl, hP, by decide, by decide, by decide, fun d1 M2 a0 a1 C2 P2 => ?_⟩
    refine ⟨⟨by decide, by decide, by decide⟩, p, c, ns, 1, 99, rfl, P2, by decide, by decide, by decide, fun d2 M3 b0 b1 C3 P3 => ?_⟩
    simp only [DL.e_next, DL.e_break, DL.e_cont, DL.e_drop, DL.e_ret, DL.e_retN, DL.e_ifS, DL.e_asg, DL.e_par, DL.e_par2, DL.e_del, DL.e_gname, DL.e_gsub, DL.e_gtup, DL.e_gcons, DL.e_gnil, DL.e_var0, DL.e_varS, DL.e_con, DL.e_top2, DL.e_top1, DL.e_cb, DL.e_nil, DL.e_cons, DL.e_tup, DL.e_lst, DL.e_test, DL.e_testK, DL.e_tru, DL.e_truB, DL.e_truN, DL.e_truL, DL.e_and, DL.e_or, DL.e_not, DL.e_if, DL.e_andV, DL.e_andK, DL.e_orV, DL.e_orK, DL.e_notV, DL.e_notK, DL.e_add, DL.e_addS, DL.e_addT, DL.e_addL, DL.e_sub, DL.e_mul, DL.e_mulL, DL.e_mulT, DL.e_fdiv, DL.e_mod, DL.e_pow, DL.e_neg, DL.e_lt, DL.e_le, DL.e_gt, DL.e_ge, DL.e_eqI, DL.e_eqS, DL.e_neI, DL.e_neS, DL.e_isN, DL.e_isntN, DL.e_isB, DL.e_isntB, DL.e_atK, DL.e_ixT, DL.e_ixL, DL.e_ixK, DL.e_ixDT, DL.e_setK, DL.e_setDT, DL.e_setSome, DL.e_setL, DL.e_delK, DL.e_delT, DL.e_inT, DL.e_inK, DL.e_lenL, DL.e_lenT, DL.e_lenK, DL.e_lenS, DL.e_listL, DL.e_listO, DL.e_listT, DL.e_tupleL, DL.e_tupleT, DL.e_int, DL.e_lm0, DL.e_lm, DL.e_isL, DL.e_app, DL.e_pop, DL.e_popSome, DL.e_call, DL.e_newT, DL.e_newK, DL.e_disp, DL.e_prs0, DL.e_prsS, DL.f_for, DL.f_lc, DL.f_dc, DL.f_iseq, DL.f_seqT, DL.f_rng1, DL.f_rngK, DL.f_zip, DL.f_zipT, DL.f_yes, DL.f_par3, DL.f_par3K, DL.f_isi, DL.f_isiK, DL.f_fld, DL.f_mkE, DL.f_mk0, DL.f_slice, DL.f_nopart, DL.f_part, DL.f_partK, DL.f_slT, List.set_cons_zero, List.set_cons_succ, List.length_cons, List.length_nil, decide_eq_true_eq, Bool.not_eq_true, true_and, and_true, if_true, Bool.false_eq_true, if_false, Nat.reduceAdd, Nat.reduceLT, Nat.reduceLeDiff]
    refine ⟨by decide, by decide, fun l hl => ⟨by decide, by decide, fun m hm => hN _ _ ⟨d1, d2, l, m, rfl, a0, a1, b0, b1, put_same, (Keep.new hm) _ _ put_same, pen_keep P3 ((Keep.new hl).trans (Keep.new hm))⟩⟩⟩
  rintro ρ M2 ⟨d1, d2, l, m, rfl, a0, a1, b0, b1, hm2, hl2, P2⟩
  have menu_fact : ∀ {M' : Mem} {x : D}, M' l = some (.lst [.int 3]) → x ∈ menuL d1 d2 l → Okv M' x := fun h hx => menu_ok a0 a1 b0 b1 h hx
  refine seq_cut (fun ρ M' => ρ = [some (.ref a), some (.ref p), some (.ref m), none, none, none, none, none, none, none, none, none] ∧ M' m = some (.lst (menuL d1 d2 l)) ∧ M' l = some (.lst [.int 3]) ∧ Pen M' p c ns 2) (fun N hN => ?_) ?_
  · simp only [DL.e_next, DL.e_break, DL.e_cont, DL.e_drop, DL.e_ret, DL.e_retN, DL.e_ifS, DL.e_asg, DL.e_par, DL.e_par2, DL.e_del, DL.e_gname, DL.e_gsub, DL.e_gtup, DL.e_gcons, DL.e_gnil, DL.e_var0, DL.e_varS, DL.e_con, DL.e_top2, DL.e_top1, DL.e_cb, DL.e_nil, DL.e_cons, DL.e_tup, DL.e_lst, DL.e_test, DL.e_testK, DL.e_tru, DL.e_truB, DL.e_truN, DL.e_truL, DL.e_and, DL.e_or, DL.e_not, DL.e_if, DL.e_andV, DL.e_andK, DL.e_orV, DL.e_orK, DL.e_notV, DL.e_notK, DL.e_add, DL.e_addS, DL.e_addT, DL.e_addL, DL.e_sub, DL.e_mul, DL.e_mulL, DL.e_mulT, DL.e_fdiv, DL.e_mod, DL.e_pow, DL.e_neg, DL.e_lt, DL.e_le, DL.e_gt, DL.e_ge, DL.e_eqI, DL.e_eqS, DL.e_neI, DL.e_neS, DL.e_isN, DL.e_isntN, DL.e_isB, DL.e_isntB, DL.e_atK, DL.e_ixT, DL.e_ixL, DL.e_ixK, DL.e_ixDT, DL.e_setK, DL.e_setDT, DL.e_setSome, DL.e_setL, DL.e_delK, DL.e_delT, DL.e_inT, DL.e_inK, DL.e_lenL, DL.e_lenT, DL.e_lenK, DL.e_lenS, DL.e_listL, DL.e_listO, DL.e_listT, DL.e_tupleL, DL.e_tupleT, DL.e_int, DL.e_lm0, DL.e_lm, DL.e_isL, DL.e_app, DL.e_pop, DL.e_popSome, DL.e_call, DL.e_newT, DL.e_newK, DL.e_disp, DL.e_prs0, DL.e_prsS, DL.f_for, DL.f_lc, DL.f_dc, DL.f_iseq, DL.f_seqT, DL.f_rng1, DL.f_rngK, DL.f_zip, DL.f_zipT, DL.f_yes, DL.f_par3, DL.f_par3K, DL.f_isi, DL.f_isiK, DL.f_fld, DL.f_mkE, DL.f_mk0, DL.f_slice, DL.f_nopart, DL.f_part, DL.f_partK, DL.f_slT, List.set_cons_zero, List.set_cons_succ, List.length_cons, List.length_nil, decide_eq_true_eq, Bool.not_eq_true, true_and, and_true, if_true, Bool.false_eq_true, if_false, Nat.reduceAdd, Nat.reduceLT, Nat.reduceLeDiff, e_isL hm2, e_app hm2]
    have nl : l ≠ m := fun z => by rw [z, hm2] at hl2; cases hl2
    exact ⟨by decide, by decide, by show 10 < sizeLine; decide, hN _ _ ⟨rfl, put_same, by rw [put_ne nl]; exact hl2, pen_chg P2 hm2⟩⟩
  rintro ρ M3 ⟨rfl, hm3, hl3, P3⟩
  refine seq_cut (fun _ _ => True) (fun N hN => ?_) fun ρ' M' _ => by simp only [DL.e_next, DL.e_break, DL.e_cont, DL.e_drop, DL.e_ret, DL.e_retN, DL.e_ifS, DL.e_asg, DL.e_par, DL.e_par2, DL.e_del, DL.e_gname, DL.e_gsub, DL.e_gtup, DL.e_gcons, DL.e_gnil, DL.e_var0, DL.e_varS, DL.e_con, DL.e_top2, DL.e_top1, DL.e_cb, DL.e_nil, DL.e_cons, DL.e_tup, DL.e_lst, DL.e_test, DL.e_testK, DL.e_tru, DL.e_truB, DL.e_truN, DL.e_truL, DL.e_and, DL.e_or, DL.e_not, DL.e_if, DL.e_andV, DL.e_andK, DL.e_orV, DL.e_orK, DL.e_notV, DL.e_notK, DL.e_add, DL.e_addS, DL.e_addT, DL.e_addL, DL.e_sub, DL.e_mul, DL.e_mulL, DL.e_mulT, DL.e_fdiv, DL.e_mod, DL.e_pow, DL.e_neg, DL.e_lt, DL.e_le, DL.e_gt, DL.e_ge, DL.e_eqI, DL.e_eqS, DL.e_neI, DL.e_neS, DL.e_isN, DL.e_isntN, DL.e_isB, DL.e_isntB, DL.e_atK, DL.e_ixT, DL.e_ixL, DL.e_ixK, DL.e_ixDT, DL.e_setK, DL.e_setDT, DL.e_setSome, DL.e_setL, DL.e_delK, DL.e_delT, DL.e_inT, DL.e_inK, DL.e_lenL, DL.e_lenT, DL.e_lenK, DL.e_lenS, DL.e_listL, DL.e_listO, DL.e_listT, DL.e_tupleL, DL.e_tupleT, DL.e_int, DL.e_lm0, DL.e_lm, DL.e_isL, DL.e_app, DL.e_pop, DL.e_popSome, DL.e_call, DL.e_newT, DL.e_newK, DL.e_disp, DL.e_prs0, DL.e_prsS, DL.f_for, DL.f_lc, DL.f_dc, DL.f_iseq, DL.f_seqT, DL.f_rng1, DL.f_rngK, DL.f_zip, DL.f_zipT, DL.f_yes, DL.f_par3, DL.f_par3K, DL.f_isi, DL.f_isiK, DL.f_fld, DL.f_mkE, DL.f_mk0, DL.f_slice, DL.f_nopart, DL.f_part, DL.f_partK, DL.f_slT, List.set_cons_zero, List.set_cons_succ, List.length_cons, List.length_nil, decide_eq_true_eq, Bool.not_eq_true, true_and, and_true, if_true, Bool.false_eq_true, if_false, Nat.reduceAdd, Nat.reduceLT, Nat.reduceLeDiff]; exact Down.of (q _)
  simp only [DL.e_next, DL.e_break, DL.e_cont, DL.e_drop, DL.e_ret, DL.e_retN, DL.e_ifS, DL.e_asg, DL.e_par, DL.e_par2, DL.e_del, DL.e_gname, DL.e_gsub, DL.e_gtup, DL.e_gcons, DL.e_gnil, DL.e_var0, DL.e_varS, DL.e_con, DL.e_top2, DL.e_top1, DL.e_cb, DL.e_nil, DL.e_cons, DL.e_tup, DL.e_lst, DL.e_test, DL.e_testK, DL.e_tru, DL.e_truB, DL.e_truN, DL.e_truL, DL.e_and, DL.e_or, DL.e_not, DL.e_if, DL.e_andV, DL.e_andK, DL.e_orV, DL.e_orK, DL.e_notV, DL.e_notK, DL.e_add, DL.e_addS, DL.e_addT, DL.e_addL, DL.e_sub, DL.e_mul, DL.e_mulL, DL.e_mulT, DL.e_fdiv, DL.e_mod, DL.e_pow, DL.e_neg, DL.e_lt, DL.e_le, DL.e_gt, DL.e_ge, DL.e_eqI, DL.e_eqS, DL.e_neI, DL.e_neS, DL.e_isN, DL.e_isntN, DL.e_isB, DL.e_isntB, DL.e_atK, DL.e_ixT, DL.e_ixL, DL.e_ixK, DL.e_ixDT, DL.e_setK, DL.e_setDT, DL.e_setSome, DL.e_setL, DL.e_delK, DL.e_delT, DL.e_inT, DL.e_inK, DL.e_lenL, DL.e_lenT, DL.e_lenK, DL.e_lenS, DL.e_listL, DL.e_listO, DL.e_listT, DL.e_tupleL, DL.e_tupleT, DL.e_int, DL.e_lm0, DL.e_lm, DL.e_isL, DL.e_app, DL.e_pop, DL.e_popSome, DL.e_call, DL.e_newT, DL.e_newK, DL.e_disp, DL.e_prs0, DL.e_prsS, DL.f_for, DL.f_lc, DL.f_dc, DL.f_iseq, DL.f_seqT, DL.f_rng1, DL.f_rngK, DL.f_zip, DL.f_zipT, DL.f_yes, DL.f_par3, DL.f_par3K, DL.f_isi, DL.f_isiK, DL.f_fld, DL.f_mkE, DL.f_mk0, DL.f_slice, DL.f_nopart, DL.f_part, DL.f_partK, DL.f_slT, List.set_cons_zero, List.set_cons_succ, List.length_cons, List.length_nil, decide_eq_true_eq, Bool.not_eq_true, true_and, and_true, if_true, Bool.false_eq_true, if_false, Nat.reduceAdd, Nat.reduceLT, Nat.reduceLeDiff, f_for, f_rng1, f_rngK]
  refine ⟨⟨by decide, by decide⟩, ?_⟩
  refine for_inv (fun i ρ M => ∃ x3 x4 x5 x6 x7 x8 x9 x10 x11, ρ = [some (.ref a), some (.ref p), some (.ref m), x3, x4, x5, x6, x7, x8, x9, x10, x11] ∧ M m = some (.lst (menuL d1 d2 l)) ∧ M l = some (.lst [.int 3]) ∧ Pen M p c ns (2 + 3 * i))
    ⟨_, _, _, _, _, _, _, _, _, rfl, hm3, hl3, P3⟩ (fun _ _ _ _ _ => trivial) (fun i x ρ M4 ex w => ?_) (fun ρ M _ => hN _ _ trivial)
  have hi : i < 15 := by
    have := (List.getElem?_eq_some_iff.mp ex).1
    rwa [intsD_length] at this
  rw [intsD_get (show i < (15 : Int).toNat from hi)] at ex
  cases ex
  obtain ⟨x3, x4, x5, x6, x7, x8, x9, x10, x11, rfl, hm4, hl4, P4⟩ := w
  obtain ⟨nm, fs, hex⟩ := exs_at hi
  have hfs : fs.length ≤ 3 := exs_len _ hex
  rw [e_gname]
  show tseq _ _ _ [some (.ref a), some (.ref p), some (.ref m), some (.int (0 + (i : Int))), x4, x5, x6, x7, x8, x9, x10, x11] M4
  have pick : ∀ (M : Mem) (n : Nat) (Q : VKd) (E : XKd), M m = some (.lst (menuL d1 d2 l)) → Pen M p c ns n → n ≤ 100 → (∀ x M', x ∈ menuL d1 d2 l → M' m = some (.lst (menuL d1 d2 l)) → (M l = some (.lst [.int 3]) → M' l = some (.lst [.int 3])) → Pen M' p c ns (n + 1) → Q x M') → spPick [.ref p, .ref m] M Q E := by
    intro M n Q E hm hP hn hQ
    have nm' : m ≠ p := pen_ne hP hm
    refine ⟨p, c, ns, n, .ref m, menuL d1 d2 l, rfl, hP, by omega, rdL_lst hm, by simp [menuL], by show 11 < 2 ^ 30; decide, fun z => nm' (by cases z; rfl), fun x M' hx C P' => hQ x M' hx (by rw [C m nm']; exact hm) (fun hl => ?_) P'⟩
    rw [C l (pen_ne hP hl)]
    exact hl
  refine seq_cut (fun ρ' M' => ∃ y1 y2 y3, ρ' = [some (.ref a), some (.ref p), some (.ref m), some (.int (0 + (i : Int))), some y1, some y2, some y3, x7, x8, x9, x10, x11] ∧ y1 ∈ menuL d1 d2 l ∧ y2 ∈ menuL d1 d2 l ∧ y3 ∈ menuL d1 d2 l ∧
    M' m = some (.lst (menuL d1 d2 l)) ∧ M' l = some (.lst [.int 3]) ∧ Pen M' p c ns (2 + 3 * (i + 1))) (fun N hN => ?_) ?_
  · simp only [DL.e_next, DL.e_break, DL.e_cont, DL.e_drop, DL.e_ret, DL.e_retN, DL.e_ifS, DL.e_asg, DL.e_par, DL.e_par2, DL.e_del, DL.e_gname, DL.e_gsub, DL.e_gtup, DL.e_gcons, DL.e_gnil, DL.e_var0, DL.e_varS, DL.e_con, DL.e_top2, DL.e_top1, DL.e_cb, DL.e_nil, DL.e_cons, DL.e_tup, DL.e_lst, DL.e_test, DL.e_testK, DL.e_tru, DL.e_truB, DL.e_truN, DL.e_truL, DL.e_and, DL.e_or, DL.e_not, DL.e_if, DL.e_andV, DL.e_andK, DL.e_orV, DL.e_orK, DL.e_notV, DL.e_notK, DL.e_add, DL.e_addS, DL.e_addT, DL.e_addL, DL.e_sub, DL.e_mul, DL.e_mulL, DL.e_mulT, DL.e_fdiv, DL.e_mod, DL.e_pow, DL.e_neg, DL.e_lt, DL.e_le, DL.e_gt, DL.e_ge, DL.e_eqI, DL.e_eqS, DL.e_neI, DL.e_neS, DL.e_isN, DL.e_isntN, DL.e_isB, DL.e_isntB, DL.e_atK, DL.e_ixT, DL.e_ixL, DL.e_ixK, DL.e_ixDT, DL.e_setK, DL.e_setDT, DL.e_setSome, DL.e_setL, DL.e_delK, DL.e_delT, DL.e_inT, DL.e_inK, DL.e_lenL, DL.e_lenT, DL.e_lenK, DL.e_lenS, DL.e_listL, DL.e_listO, DL.e_listT, DL.e_tupleL, DL.e_tupleT, DL.e_int, DL.e_lm0, DL.e_lm, DL.e_isL, DL.e_app, DL.e_pop, DL.e_popSome, DL.e_call, DL.e_newT, DL.e_newK, DL.e_disp, DL.e_prs0, DL.e_prsS, DL.f_for, DL.f_lc, DL.f_dc, DL.f_iseq, DL.f_seqT, DL.f_rng1, DL.f_rngK, DL.f_zip, DL.f_zipT, DL.f_yes, DL.f_par3, DL.f_par3K, DL.f_isi, DL.f_isiK, DL.f_fld, DL.f_mkE, DL.f_mk0, DL.f_slice, DL.f_nopart, DL.f_part, DL.f_partK, DL.f_slT, List.set_cons_zero, List.set_cons_succ, List.length_cons, List.length_nil, decide_eq_true_eq, Bool.not_eq_true, true_and, and_true, if_true, Bool.false_eq_true, if_false, Nat.reduceAdd, Nat.reduceLT, Nat.reduceLeDiff, e_call]
    refine pick _ _ _ _ hm4 P4 (by omega) fun y1 M5 h1 hm5 hl5 P5 => ?_
    refine pick _ _ _ _ hm5 P5 (by omega) fun y2 M6 h2 hm6 hl6 P6 => ?_
    refine pick _ _ _ _ hm6 P6 (by omega) fun y3 M7 h3 hm7 hl7 P7 => ?_
    exact ⟨by decide, rfl, hN _ _ ⟨y1, y2, y3, rfl, h1, h2, h3, hm7, hl7 (hl6 (hl5 hl4)), P7⟩⟩
  rintro ρ M5 ⟨y1, y2, y3, rfl, h1, h2, h3, hm5, hl5, P5⟩
  have okl : ∀ {M' : Mem} (j : Nat), M' l = some (.lst [.int 3]) → ∀ x ∈ [y1, y2, y3].take j, Okv M' x := by
    intro M' j hl x hx
    have hx' := List.mem_of_mem_take hx
    simp only [List.mem_cons, List.not_mem_nil, or_false] at hx'
    rcases hx' with rfl | rfl | rfl
    · exact menu_fact hl h1
    · exact menu_fact hl h2
    · exact menu_fact hl h3
  refine seq_cut (fun ρ' M' => ∃ dl, ρ' = [some (.ref a), some (.ref p), some (.ref m), some (.int (0 + (i : Int))), some y1, some y2, some y3, some (.ref dl), x8, x9, x10, x11] ∧ M' dl = some (.lst ((List.range 4).map fun j => .str (pyT ([y1, y2, y3].take j)).shown)) ∧ Keep M5 M') (fun N hN => ?_) ?_
  · simp only [DL.e_next, DL.e_break, DL.e_cont, DL.e_drop, DL.e_ret, DL.e_retN, DL.e_ifS, DL.e_asg, DL.e_par, DL.e_par2, DL.e_del, DL.e_gname, DL.e_gsub, DL.e_gtup, DL.e_gcons, DL.e_gnil, DL.e_var0, DL.e_varS, DL.e_con, DL.e_top2, DL.e_top1, DL.e_cb, DL.e_nil, DL.e_cons, DL.e_tup, DL.e_lst, DL.e_test, DL.e_testK, DL.e_tru, DL.e_truB, DL.e_truN, DL.e_truL, DL.e_and, DL.e_or, DL.e_not, DL.e_if, DL.e_andV, DL.e_andK, DL.e_orV, DL.e_orK, DL.e_notV, DL.e_notK, DL.e_add, DL.e_addS, DL.e_addT, DL.e_addL, DL.e_sub, DL.e_mul, DL.e_mulL, DL.e_mulT, DL.e_fdiv, DL.e_mod, DL.e_pow, DL.e_neg, DL.e_lt, DL.e_le, DL.e_gt, DL.e_ge, DL.e_eqI, DL.e_eqS, DL.e_neI, DL.e_neS, DL.e_isN, DL.e_isntN, DL.e_isB, DL.e_isntB, DL.e_atK, DL.e_ixT, DL.e_ixL, DL.e_ixK, DL.e_ixDT, DL.e_setK, DL.e_setDT, DL.e_setSome, DL.e_setL, DL.e_delK, DL.e_delT, DL.e_inT, DL.e_inK, DL.e_lenL, DL.e_lenT, DL.e_lenK, DL.e_lenS, DL.e_listL, DL.e_listO, DL.e_listT, DL.e_tupleL, DL.e_tupleT, DL.e_int, DL.e_lm0, DL.e_lm, DL.e_isL, DL.e_app, DL.e_pop, DL.e_popSome, DL.e_call, DL.e_newT, DL.e_newK, DL.e_disp, DL.e_prs0, DL.e_prsS, DL.f_for, DL.f_lc, DL.f_dc, DL.f_iseq, DL.f_seqT, DL.f_rng1, DL.f_rngK, DL.f_zip, DL.f_zipT, DL.f_yes, DL.f_par3, DL.f_par3K, DL.f_isi, DL.f_isiK, DL.f_fld, DL.f_mkE, DL.f_mk0, DL.f_slice, DL.f_nopart, DL.f_part, DL.f_partK, DL.f_slT, List.set_cons_zero, List.set_cons_succ, List.length_cons, List.length_nil, decide_eq_true_eq, Bool.not_eq_true, true_and, and_true, if_true, Bool.false_eq_true, if_false, Nat.reduceAdd, Nat.reduceLT, Nat.reduceLeDiff, f_lc, f_rng1, f_rngK]
    refine ⟨⟨by decide, by decide⟩, fun dl hdl => ?_⟩
    refine lc_pure (dueF [y1, y2, y3]) hdl (by decide) (fun _ _ => trivial) (fun x hx M' acc kp hM' Ky Kn hy hn => ?_) fun M' kp hM' => hN _ _ ⟨dl, rfl, by rw [due_list] at hM'; exact hM', kp⟩
    obtain ⟨j, hj, rfl⟩ := List.mem_map.mp hx
    have hz : (0 : Int) + ((j : Nat) : Int) = (j : Int) := Int.zero_add _
    simp only [DL.e_next, DL.e_break, DL.e_cont, DL.e_drop, DL.e_ret, DL.e_retN, DL.e_ifS, DL.e_asg, DL.e_par, DL.e_par2, DL.e_del, DL.e_gname, DL.e_gsub, DL.e_gtup, DL.e_gcons, DL.e_gnil, DL.e_var0, DL.e_varS, DL.e_con, DL.e_top2, DL.e_top1, DL.e_cb, DL.e_nil, DL.e_cons, DL.e_tup, DL.e_lst, DL.e_test, DL.e_testK, DL.e_tru, DL.e_truB, DL.e_truN, DL.e_truL, DL.e_and, DL.e_or, DL.e_not, DL.e_if, DL.e_andV, DL.e_andK, DL.e_orV, DL.e_orK, DL.e_notV, DL.e_notK, DL.e_add, DL.e_addS, DL.e_addT, DL.e_addL, DL.e_sub, DL.e_mul, DL.e_mulL, DL.e_mulT, DL.e_fdiv, DL.e_mod, DL.e_pow, DL.e_neg, DL.e_lt, DL.e_le, DL.e_gt, DL.e_ge, DL.e_eqI, DL.e_eqS, DL.e_neI, DL.e_neS, DL.e_isN, DL.e_isntN, DL.e_isB, DL.e_isntB, DL.e_atK, DL.e_ixT, DL.e_ixL, DL.e_ixK, DL.e_ixDT, DL.e_setK, DL.e_setDT, DL.e_setSome, DL.e_setL, DL.e_delK, DL.e_delT, DL.e_inT, DL.e_inK, DL.e_lenL, DL.e_lenT, DL.e_lenK, DL.e_lenS, DL.e_listL, DL.e_listO, DL.e_listT, DL.e_tupleL, DL.e_tupleT, DL.e_int, DL.e_lm0, DL.e_lm, DL.e_isL, DL.e_app, DL.e_pop, DL.e_popSome, DL.e_call, DL.e_newT, DL.e_newK, DL.e_disp, DL.e_prs0, DL.e_prsS, DL.f_for, DL.f_lc, DL.f_dc, DL.f_iseq, DL.f_seqT, DL.f_rng1, DL.f_rngK, DL.f_zip, DL.f_zipT, DL.f_yes, DL.f_par3, DL.f_par3K, DL.f_isi, DL.f_isiK, DL.f_fld, DL.f_mkE, DL.f_mk0, DL.f_slice, DL.f_nopart, DL.f_part, DL.f_partK, DL.f_slT, List.set_cons_zero, List.set_cons_succ, List.length_cons, List.length_nil, decide_eq_true_eq, Bool.not_eq_true, true_and, and_true, if_true, Bool.false_eq_true, if_false, Nat.reduceAdd, Nat.reduceLT, Nat.reduceLeDiff, DL.wiped, List.map_cons, List.map_nil, hz, cut_take]
    exact ⟨by decide, reprT (okl j (kp _ _ hl5)) (by rw [List.length_take]; show min j 3 ≤ 3; omega) (hy _ _ (by simp only [dueF, hz, Int.toNat_natCast]) Keep.refl)⟩
  rintro ρ M6 ⟨dl, rfl, hdl6, K6⟩
  refine seq_cut (fun ρ' M' => ∃ e gs, ρ' = [some (.ref a), some (.ref p), some (.ref m), some (.int (0 + (i : Int))), some y1, some y2, some y3, some (.ref dl), some (.ref e), some (.tup ([y1, y2, y3].take fs.length)), x10, x11] ∧ M' e = some (.exi (He.ga K nm) gs) ∧ Keep M6 M') (fun N hN => ?_) ?_
  · simp only [DL.e_next, DL.e_break, DL.e_cont, DL.e_drop, DL.e_ret, DL.e_retN, DL.e_ifS, DL.e_asg, DL.e_par, DL.e_par2, DL.e_del, DL.e_gname, DL.e_gsub, DL.e_gtup, DL.e_gcons, DL.e_gnil, DL.e_var0, DL.e_varS, DL.e_con, DL.e_top2, DL.e_top1, DL.e_cb, DL.e_nil, DL.e_cons, DL.e_tup, DL.e_lst, DL.e_test, DL.e_testK, DL.e_tru, DL.e_truB, DL.e_truN, DL.e_truL, DL.e_and, DL.e_or, DL.e_not, DL.e_if, DL.e_andV, DL.e_andK, DL.e_orV, DL.e_orK, DL.e_notV, DL.e_notK, DL.e_add, DL.e_addS, DL.e_addT, DL.e_addL, DL.e_sub, DL.e_mul, DL.e_mulL, DL.e_mulT, DL.e_fdiv, DL.e_mod, DL.e_pow, DL.e_neg, DL.e_lt, DL.e_le, DL.e_gt, DL.e_ge, DL.e_eqI, DL.e_eqS, DL.e_neI, DL.e_neS, DL.e_isN, DL.e_isntN, DL.e_isB, DL.e_isntB, DL.e_atK, DL.e_ixT, DL.e_ixL, DL.e_ixK, DL.e_ixDT, DL.e_setK, DL.e_setDT, DL.e_setSome, DL.e_setL, DL.e_delK, DL.e_delT, DL.e_inT, DL.e_inK, DL.e_lenL, DL.e_lenT, DL.e_lenK, DL.e_lenS, DL.e_listL, DL.e_listO, DL.e_listT, DL.e_tupleL, DL.e_tupleT, DL.e_int, DL.e_lm0, DL.e_lm, DL.e_isL, DL.e_app, DL.e_pop, DL.e_popSome, DL.e_call, DL.e_newT, DL.e_newK, DL.e_disp, DL.e_prs0, DL.e_prsS, DL.f_for, DL.f_lc, DL.f_dc, DL.f_iseq, DL.f_seqT, DL.f_rng1, DL.f_rngK, DL.f_zip, DL.f_zipT, DL.f_yes, DL.f_par3, DL.f_par3K, DL.f_isi, DL.f_isiK, DL.f_fld, DL.f_mkE, DL.f_mk0, DL.f_slice, DL.f_nopart, DL.f_part, DL.f_partK, DL.f_slT, List.set_cons_zero, List.set_cons_succ, List.length_cons, List.length_nil, decide_eq_true_eq, Bool.not_eq_true, true_and, and_true, if_true, Bool.false_eq_true, if_false, Nat.reduceAdd, Nat.reduceLT, Nat.reduceLeDiff, e_call]
    refine ⟨_, nm, fs, y1, y2, y3, hex, by omega, rfl, fun e gs M' kp he => ?_⟩
    simp only [DL.e_next, DL.e_break, DL.e_cont, DL.e_drop, DL.e_ret, DL.e_retN, DL.e_ifS, DL.e_asg, DL.e_par, DL.e_par2, DL.e_del, DL.e_gname, DL.e_gsub, DL.e_gtup, DL.e_gcons, DL.e_gnil, DL.e_var0, DL.e_varS, DL.e_con, DL.e_top2, DL.e_top1, DL.e_cb, DL.e_nil, DL.e_cons, DL.e_tup, DL.e_lst, DL.e_test, DL.e_testK, DL.e_tru, DL.e_truB, DL.e_truN, DL.e_truL, DL.e_and, DL.e_or, DL.e_not, DL.e_if, DL.e_andV, DL.e_andK, DL.e_orV, DL.e_orK, DL.e_notV, DL.e_notK, DL.e_add, DL.e_addS, DL.e_addT, DL.e_addL, DL.e_sub, DL.e_mul, DL.e_mulL, DL.e_mulT, DL.e_fdiv, DL.e_mod, DL.e_pow, DL.e_neg, DL.e_lt, DL.e_le, DL.e_gt, DL.e_ge, DL.e_eqI, DL.e_eqS, DL.e_neI, DL.e_neS, DL.e_isN, DL.e_isntN, DL.e_isB, DL.e_isntB, DL.e_atK, DL.e_ixT, DL.e_ixL, DL.e_ixK, DL.e_ixDT, DL.e_setK, DL.e_setDT, DL.e_setSome, DL.e_setL, DL.e_delK, DL.e_delT, DL.e_inT, DL.e_inK, DL.e_lenL, DL.e_lenT, DL.e_lenK, DL.e_lenS, DL.e_listL, DL.e_listO, DL.e_listT, DL.e_tupleL, DL.e_tupleT, DL.e_int, DL.e_lm0, DL.e_lm, DL.e_isL, DL.e_app, DL.e_pop, DL.e_popSome, DL.e_call, DL.e_newT, DL.e_newK, DL.e_disp, DL.e_prs0, DL.e_prsS, DL.f_for, DL.f_lc, DL.f_dc, DL.f_iseq, DL.f_seqT, DL.f_rng1, DL.f_rngK, DL.f_zip, DL.f_zipT, DL.f_yes, DL.f_par3, DL.f_par3K, DL.f_isi, DL.f_isiK, DL.f_fld, DL.f_mkE, DL.f_mk0, DL.f_slice, DL.f_nopart, DL.f_part, DL.f_partK, DL.f_slT, List.set_cons_zero, List.set_cons_succ, List.length_cons, List.length_nil, decide_eq_true_eq, Bool.not_eq_true, true_and, and_true, if_true, Bool.false_eq_true, if_false, Nat.reduceAdd, Nat.reduceLT, Nat.reduceLeDiff]
    exact ⟨rfl, hN _ _ ⟨e, gs, rfl, he, kp⟩⟩
  rintro ρ M7 ⟨e, gs, rfl, he7, K7⟩
  have hl7 := K7 _ _ (K6 _ _ hl5)
  have T := X0.kind _ hex
  rw [e_seq]
  simp only [DL.e_next, DL.e_break, DL.e_cont, DL.e_drop, DL.e_ret, DL.e_retN, DL.e_ifS, DL.e_asg, DL.e_par, DL.e_par2, DL.e_del, DL.e_gname, DL.e_gsub, DL.e_gtup, DL.e_gcons, DL.e_gnil, DL.e_var0, DL.e_varS, DL.e_con, DL.e_top2, DL.e_top1, DL.e_cb, DL.e_nil, DL.e_cons, DL.e_tup, DL.e_lst, DL.e_test, DL.e_testK, DL.e_tru, DL.e_truB, DL.e_truN, DL.e_truL, DL.e_and, DL.e_or, DL.e_not, DL.e_if, DL.e_andV, DL.e_andK, DL.e_orV, DL.e_orK, DL.e_notV, DL.e_notK, DL.e_add, DL.e_addS, DL.e_addT, DL.e_addL, DL.e_sub, DL.e_mul, DL.e_mulL, DL.e_mulT, DL.e_fdiv, DL.e_mod, DL.e_pow, DL.e_neg, DL.e_lt, DL.e_le, DL.e_gt, DL.e_ge, DL.e_eqI, DL.e_eqS, DL.e_neI, DL.e_neS, DL.e_isN, DL.e_isntN, DL.e_isB, DL.e_isntB, DL.e_atK, DL.e_ixT, DL.e_ixL, DL.e_ixK, DL.e_ixDT, DL.e_setK, DL.e_setDT, DL.e_setSome, DL.e_setL, DL.e_delK, DL.e_delT, DL.e_inT, DL.e_inK, DL.e_lenL, DL.e_lenT, DL.e_lenK, DL.e_lenS, DL.e_listL, DL.e_listO, DL.e_listT, DL.e_tupleL, DL.e_tupleT, DL.e_int, DL.e_lm0, DL.e_lm, DL.e_isL, DL.e_app, DL.e_pop, DL.e_popSome, DL.e_call, DL.e_newT, DL.e_newK, DL.e_disp, DL.e_prs0, DL.e_prsS, DL.f_for, DL.f_lc, DL.f_dc, DL.f_iseq, DL.f_seqT, DL.f_rng1, DL.f_rngK, DL.f_zip, DL.f_zipT, DL.f_yes, DL.f_par3, DL.f_par3K, DL.f_isi, DL.f_isiK, DL.f_fld, DL.f_mkE, DL.f_mk0, DL.f_slice, DL.f_nopart, DL.f_part, DL.f_partK, DL.f_slT, List.set_cons_zero, List.set_cons_succ, List.length_cons, List.length_nil, decide_eq_true_eq, Bool.not_eq_true, true_and, and_true, if_true, Bool.false_eq_true, if_false, Nat.reduceAdd, Nat.reduceLT, Nat.reduceLeDiff]
  refine reprT (okl _ hl7) (by rw [List.length_take]; show min fs.length 3 ≤ 3; omega) ?_
  rw [e_ixL (K7 _ _ hdl6), due_at hfs]
  simp only [DL.e_next, DL.e_break, DL.e_cont, DL.e_drop, DL.e_ret, DL.e_retN, DL.e_ifS, DL.e_asg, DL.e_par, DL.e_par2, DL.e_del, DL.e_gname, DL.e_gsub, DL.e_gtup, DL.e_gcons, DL.e_gnil, DL.e_var0, DL.e_varS, DL.e_con, DL.e_top2, DL.e_top1, DL.e_cb, DL.e_nil, DL.e_cons, DL.e_tup, DL.e_lst, DL.e_test, DL.e_testK, DL.e_tru, DL.e_truB, DL.e_truN, DL.e_truL, DL.e_and, DL.e_or, DL.e_not, DL.e_if, DL.e_andV, DL.e_andK, DL.e_orV, DL.e_orK, DL.e_notV, DL.e_notK, DL.e_add, DL.e_addS, DL.e_addT, DL.e_addL, DL.e_sub, DL.e_mul, DL.e_mulL, DL.e_mulT, DL.e_fdiv, DL.e_mod, DL.e_pow, DL.e_neg, DL.e_lt, DL.e_le, DL.e_gt, DL.e_ge, DL.e_eqI, DL.e_eqS, DL.e_neI, DL.e_neS, DL.e_isN, DL.e_isntN, DL.e_isB, DL.e_isntB, DL.e_atK, DL.e_ixT, DL.e_ixL, DL.e_ixK, DL.e_ixDT, DL.e_setK, DL.e_setDT, DL.e_setSome, DL.e_setL, DL.e_delK, DL.e_delT, DL.e_inT, DL.e_inK, DL.e_lenL, DL.e_lenT, DL.e_lenK, DL.e_lenS, DL.e_listL, DL.e_listO, DL.e_listT, DL.e_tupleL, DL.e_tupleT, DL.e_int, DL.e_lm0, DL.e_lm, DL.e_isL, DL.e_app, DL.e_pop, DL.e_popSome, DL.e_call, DL.e_newT, DL.e_newK, DL.e_disp, DL.e_prs0, DL.e_prsS, DL.f_for, DL.f_lc, DL.f_dc, DL.f_iseq, DL.f_seqT, DL.f_rng1, DL.f_rngK, DL.f_zip, DL.f_zipT, DL.f_yes, DL.f_par3, DL.f_par3K, DL.f_isi, DL.f_isiK, DL.f_fld, DL.f_mkE, DL.f_mk0, DL.f_slice, DL.f_nopart, DL.f_part, DL.f_partK, DL.f_slT, List.set_cons_zero, List.set_cons_succ, List.length_cons, List.length_nil, decide_eq_true_eq, Bool.not_eq_true, true_and, and_true, if_true, Bool.false_eq_true, if_false, Nat.reduceAdd, Nat.reduceLT, Nat.reduceLeDiff, decide_true, Bool.not_true]
  rw [e_seq]
  simp only [DL.e_next, DL.e_break, DL.e_cont, DL.e_drop, DL.e_ret, DL.e_retN, DL.e_ifS, DL.e_asg, DL.e_par, DL.e_par2, DL.e_del, DL.e_gname, DL.e_gsub, DL.e_gtup, DL.e_gcons, DL.e_gnil, DL.e_var0, DL.e_varS, DL.e_con, DL.e_top2, DL.e_top1, DL.e_cb, DL.e_nil, DL.e_cons, DL.e_tup, DL.e_lst, DL.e_test, DL.e_testK, DL.e_tru, DL.e_truB, DL.e_truN, DL.e_truL, DL.e_and, DL.e_or, DL.e_not, DL.e_if, DL.e_andV, DL.e_andK, DL.e_orV, DL.e_orK, DL.e_notV, DL.e_notK, DL.e_add, DL.e_addS, DL.e_addT, DL.e_addL, DL.e_sub, DL.e_mul, DL.e_mulL, DL.e_mulT, DL.e_fdiv, DL.e_mod, DL.e_pow, DL.e_neg, DL.e_lt, DL.e_le, DL.e_gt, DL.e_ge, DL.e_eqI, DL.e_eqS, DL.e_neI, DL.e_neS, DL.e_isN, DL.e_isntN, DL.e_isB, DL.e_isntB, DL.e_atK, DL.e_ixT, DL.e_ixL, DL.e_ixK, DL.e_ixDT, DL.e_setK, DL.e_setDT, DL.e_setSome, DL.e_setL, DL.e_delK, DL.e_delT, DL.e_inT, DL.e_inK, DL.e_lenL, DL.e_lenT, DL.e_lenK, DL.e_lenS, DL.e_listL, DL.e_listO, DL.e_listT, DL.e_tupleL, DL.e_tupleT, DL.e_int, DL.e_lm0, DL.e_lm, DL.e_isL, DL.e_app, DL.e_pop, DL.e_popSome, DL.e_call, DL.e_newT, DL.e_newK, DL.e_disp, DL.e_prs0, DL.e_prsS, DL.f_for, DL.f_lc, DL.f_dc, DL.f_iseq, DL.f_seqT, DL.f_rng1, DL.f_rngK, DL.f_zip, DL.f_zipT, DL.f_yes, DL.f_par3, DL.f_par3K, DL.f_isi, DL.f_isiK, DL.f_fld, DL.f_mkE, DL.f_mk0, DL.f_slice, DL.f_nopart, DL.f_part, DL.f_partK, DL.f_slT, List.set_cons_zero, List.set_cons_succ, List.length_cons, List.length_nil, decide_eq_true_eq, Bool.not_eq_true, true_and, and_true, if_true, Bool.false_eq_true, if_false, Nat.reduceAdd, Nat.reduceLT, Nat.reduceLeDiff]
  refine isiE_go he7 T rfl (X0.kitC _ hex) ?_
  simp only [DL.e_next, DL.e_break, DL.e_cont, DL.e_drop, DL.e_ret, DL.e_retN, DL.e_ifS, DL.e_asg, DL.e_par, DL.e_par2, DL.e_del, DL.e_gname, DL.e_gsub, DL.e_gtup, DL.e_gcons, DL.e_gnil, DL.e_var0, DL.e_varS, DL.e_con, DL.e_top2, DL.e_top1, DL.e_cb, DL.e_nil, DL.e_cons, DL.e_tup, DL.e_lst, DL.e_test, DL.e_testK, DL.e_tru, DL.e_truB, DL.e_truN, DL.e_truL, DL.e_and, DL.e_or, DL.e_not, DL.e_if, DL.e_andV, DL.e_andK, DL.e_orV, DL.e_orK, DL.e_notV, DL.e_notK, DL.e_add, DL.e_addS, DL.e_addT, DL.e_addL, DL.e_sub, DL.e_mul, DL.e_mulL, DL.e_mulT, DL.e_fdiv, DL.e_mod, DL.e_pow, DL.e_neg, DL.e_lt, DL.e_le, DL.e_gt, DL.e_ge, DL.e_eqI, DL.e_eqS, DL.e_neI, DL.e_neS, DL.e_isN, DL.e_isntN, DL.e_isB, DL.e_isntB, DL.e_atK, DL.e_ixT, DL.e_ixL, DL.e_ixK, DL.e_ixDT, DL.e_setK, DL.e_setDT, DL.e_setSome, DL.e_setL, DL.e_delK, DL.e_delT, DL.e_inT, DL.e_inK, DL.e_lenL, DL.e_lenT, DL.e_lenK, DL.e_lenS, DL.e_listL, DL.e_listO, DL.e_listT, DL.e_tupleL, DL.e_tupleT, DL.e_int, DL.e_lm0, DL.e_lm, DL.e_isL, DL.e_app, DL.e_pop, DL.e_popSome, DL.e_call, DL.e_newT, DL.e_newK, DL.e_disp, DL.e_prs0, DL.e_prsS, DL.f_for, DL.f_lc, DL.f_dc, DL.f_iseq, DL.f_seqT, DL.f_rng1, DL.f_rngK, DL.f_zip, DL.f_zipT, DL.f_yes, DL.f_par3, DL.f_par3K, DL.f_isi, DL.f_isiK, DL.f_fld, DL.f_mkE, DL.f_mk0, DL.f_slice, DL.f_nopart, DL.f_part, DL.f_partK, DL.f_slT, List.set_cons_zero, List.set_cons_succ, List.length_cons, List.length_nil, decide_eq_true_eq, Bool.not_eq_true, true_and, and_true, if_true, Bool.false_eq_true, if_false, Nat.reduceAdd, Nat.reduceLT, Nat.reduceLeDiff, Bool.not_true]
  refine isiE_go he7 T rfl (X0.kitV _ hex) ?_
  simp only [DL.e_next, DL.e_break, DL.e_cont, DL.e_drop, DL.e_ret, DL.e_retN, DL.e_ifS, DL.e_asg, DL.e_par, DL.e_par2, DL.e_del, DL.e_gname, DL.e_gsub, DL.e_gtup, DL.e_gcons, DL.e_gnil, DL.e_var0, DL.e_varS, DL.e_con, DL.e_top2, DL.e_top1, DL.e_cb, DL.e_nil, DL.e_cons, DL.e_tup, DL.e_lst, DL.e_test, DL.e_testK, DL.e_tru, DL.e_truB, DL.e_truN, DL.e_truL, DL.e_and, DL.e_or, DL.e_not, DL.e_if, DL.e_andV, DL.e_andK, DL.e_orV, DL.e_orK, DL.e_notV, DL.e_notK, DL.e_add, DL.e_addS, DL.e_addT, DL.e_addL, DL.e_sub, DL.e_mul, DL.e_mulL, DL.e_mulT, DL.e_fdiv, DL.e_mod, DL.e_pow, DL.e_neg, DL.e_lt, DL.e_le, DL.e_gt, DL.e_ge, DL.e_eqI, DL.e_eqS, DL.e_neI, DL.e_neS, DL.e_isN, DL.e_isntN, DL.e_isB, DL.e_isntB, DL.e_atK, DL.e_ixT, DL.e_ixL, DL.e_ixK, DL.e_ixDT, DL.e_setK, DL.e_setDT, DL.e_setSome, DL.e_setL, DL.e_delK, DL.e_delT, DL.e_inT, DL.e_inK, DL.e_lenL, DL.e_lenT, DL.e_lenK, DL.e_lenS, DL.e_listL, DL.e_listO, DL.e_listT, DL.e_tupleL, DL.e_tupleT, DL.e_int, DL.e_lm0, DL.e_lm, DL.e_isL, DL.e_app, DL.e_pop, DL.e_popSome, DL.e_call, DL.e_newT, DL.e_newK, DL.e_disp, DL.e_prs0, DL.e_prsS, DL.f_for, DL.f_lc, DL.f_dc, DL.f_iseq, DL.f_seqT, DL.f_rng1, DL.f_rngK, DL.f_zip, DL.f_zipT, DL.f_yes, DL.f_par3, DL.f_par3K, DL.f_isi, DL.f_isiK, DL.f_fld, DL.f_mkE, DL.f_mk0, DL.f_slice, DL.f_nopart, DL.f_part, DL.f_partK, DL.f_slT, List.set_cons_zero, List.set_cons_succ, List.length_cons, List.length_nil, decide_eq_true_eq, Bool.not_eq_true, true_and, and_true, if_true, Bool.false_eq_true, if_false, Nat.reduceAdd, Nat.reduceLT, Nat.reduceLeDiff, Bool.not_true, e_call]
  refine ⟨e, _, nm, fs, gs, hex, rfl, he7, fun p1 M8 K8 hp8 => ?_⟩
  simp only [DL.e_next, DL.e_break, DL.e_cont, DL.e_drop, DL.e_ret, DL.e_retN, DL.e_ifS, DL.e_asg, DL.e_par, DL.e_par2, DL.e_del, DL.e_gname, DL.e_gsub, DL.e_gtup, DL.e_gcons, DL.e_gnil, DL.e_var0, DL.e_varS, DL.e_con, DL.e_top2, DL.e_top1, DL.e_cb, DL.e_nil, DL.e_cons, DL.e_tup, DL.e_lst, DL.e_test, DL.e_testK, DL.e_tru, DL.e_truB, DL.e_truN, DL.e_truL, DL.e_and, DL.e_or, DL.e_not, DL.e_if, DL.e_andV, DL.e_andK, DL.e_orV, DL.e_orK, DL.e_notV, DL.e_notK, DL.e_add, DL.e_addS, DL.e_addT, DL.e_addL, DL.e_sub, DL.e_mul, DL.e_mulL, DL.e_mulT, DL.e_fdiv, DL.e_mod, DL.e_pow, DL.e_neg, DL.e_lt, DL.e_le, DL.e_gt, DL.e_ge, DL.e_eqI, DL.e_eqS, DL.e_neI, DL.e_neS, DL.e_isN, DL.e_isntN, DL.e_isB, DL.e_isntB, DL.e_atK, DL.e_ixT, DL.e_ixL, DL.e_ixK, DL.e_ixDT, DL.e_setK, DL.e_setDT, DL.e_setSome, DL.e_setL, DL.e_delK, DL.e_delT, DL.e_inT, DL.e_inK, DL.e_lenL, DL.e_lenT, DL.e_lenK, DL.e_lenS, DL.e_listL, DL.e_listO, DL.e_listT, DL.e_tupleL, DL.e_tupleT, DL.e_int, DL.e_lm0, DL.e_lm, DL.e_isL, DL.e_app, DL.e_pop, DL.e_popSome, DL.e_call, DL.e_newT, DL.e_newK, DL.e_disp, DL.e_prs0, DL.e_prsS, DL.f_for, DL.f_lc, DL.f_dc, DL.f_iseq, DL.f_seqT, DL.f_rng1, DL.f_rngK, DL.f_zip, DL.f_zipT, DL.f_yes, DL.f_par3, DL.f_par3K, DL.f_isi, DL.f_isiK, DL.f_fld, DL.f_mkE, DL.f_mk0, DL.f_slice, DL.f_nopart, DL.f_part, DL.f_partK, DL.f_slT, List.set_cons_zero, List.set_cons_succ, List.length_cons, List.length_nil, decide_eq_true_eq, Bool.not_eq_true, true_and, and_true, if_true, Bool.false_eq_true, if_false, Nat.reduceAdd, Nat.reduceLT, Nat.reduceLeDiff, f_lc, f_rng1, f_rngK]
  refine ⟨⟨by decide, by decide⟩, fun p2 hp2 => ?_⟩
  refine lc_pure (kndF (0 + (i : Int))) hp2 (by decide) (fun _ _ => trivial) (fun x hx M' acc kp hM' Ky Kn hy hn => ?_) fun M' kp hM' => ?_
  · obtain ⟨j, hj, rfl⟩ := List.mem_map.mp hx
    simp only [DL.e_next, DL.e_break, DL.e_cont, DL.e_drop, DL.e_ret, DL.e_retN, DL.e_ifS, DL.e_asg, DL.e_par, DL.e_par2, DL.e_del, DL.e_gname, DL.e_gsub, DL.e_gtup, DL.e_gcons, DL.e_gnil, DL.e_var0, DL.e_varS, DL.e_con, DL.e_top2, DL.e_top1, DL.e_cb, DL.e_nil, DL.e_cons, DL.e_tup, DL.e_lst, DL.e_test, DL.e_testK, DL.e_tru, DL.e_truB, DL.e_truN, DL.e_truL, DL.e_and, DL.e_or, DL.e_not, DL.e_if, DL.e_andV, DL.e_andK, DL.e_orV, DL.e_orK, DL.e_notV, DL.e_notK, DL.e_add, DL.e_addS, DL.e_addT, DL.e_addL, DL.e_sub, DL.e_mul, DL.e_mulL, DL.e_mulT, DL.e_fdiv, DL.e_mod, DL.e_pow, DL.e_neg, DL.e_lt, DL.e_le, DL.e_gt, DL.e_ge, DL.e_eqI, DL.e_eqS, DL.e_neI, DL.e_neS, DL.e_isN, DL.e_isntN, DL.e_isB, DL.e_isntB, DL.e_atK, DL.e_ixT, DL.e_ixL, DL.e_ixK, DL.e_ixDT, DL.e_setK, DL.e_setDT, DL.e_setSome, DL.e_setL, DL.e_delK, DL.e_delT, DL.e_inT, DL.e_inK, DL.e_lenL, DL.e_lenT, DL.e_lenK, DL.e_lenS, DL.e_listL, DL.e_listO, DL.e_listT, DL.e_tupleL, DL.e_tupleT, DL.e_int, DL.e_lm0, DL.e_lm, DL.e_isL, DL.e_app, DL.e_pop, DL.e_popSome, DL.e_call, DL.e_newT, DL.e_newK, DL.e_disp, DL.e_prs0, DL.e_prsS, DL.f_for, DL.f_lc, DL.f_dc, DL.f_iseq, DL.f_seqT, DL.f_rng1, DL.f_rngK, DL.f_zip, DL.f_zipT, DL.f_yes, DL.f_par3, DL.f_par3K, DL.f_isi, DL.f_isiK, DL.f_fld, DL.f_mkE, DL.f_mk0, DL.f_slice, DL.f_nopart, DL.f_part, DL.f_partK, DL.f_slT, List.set_cons_zero, List.set_cons_succ, List.length_cons, List.length_nil, decide_eq_true_eq, Bool.not_eq_true, true_and, and_true, if_true, Bool.false_eq_true, if_false, Nat.reduceAdd, Nat.reduceLT, Nat.reduceLeDiff, DL.wiped, List.map_cons, List.map_nil, e_eqI]
    exact hy _ _ rfl Keep.refl
  · rw [knd_list hi] at hM'
    have hb := bools_py (M := M') ((exs.take 15).map fun g => decide ((0 : Int) + (i : Int) = g.1))
    rw [List.map_map] at hb
    obtain ⟨q1, q2, q3, q4⟩ := hb
    refine ⟨.list _, .list _, .lst (rdL_lst (kp _ _ hp8)) q1, .lst (rdL_lst hM') q1, ?_, ?_, ?_⟩
    · simp only [SeqAt.shaped, PyData.canLay0, PyData.depth, q2, q3]
      decide
    · simp only [SeqAt.shaped, PyData.canLay0, PyData.depth, q2, q3]
      decide
    · have eq : PyData.eqv (.list (((exs.take 15).map fun g => decide ((0 : Int) + (i : Int) = g.1)).map PyData.bool)) (.list (((exs.take 15).map fun g => decide ((0 : Int) + (i : Int) = g.1)).map PyData.bool)) = true := by
        simp only [PyData.eqv]
        exact q4
      have KK := (K6.trans K7).trans (K8.trans kp)
      rw [eq]
      simp only [DL.e_next, DL.e_break, DL.e_cont, DL.e_drop, DL.e_ret, DL.e_retN, DL.e_ifS, DL.e_asg, DL.e_par, DL.e_par2, DL.e_del, DL.e_gname, DL.e_gsub, DL.e_gtup, DL.e_gcons, DL.e_gnil, DL.e_var0, DL.e_varS, DL.e_con, DL.e_top2, DL.e_top1, DL.e_cb, DL.e_nil, DL.e_cons, DL.e_tup, DL.e_lst, DL.e_test, DL.e_testK, DL.e_tru, DL.e_truB, DL.e_truN, DL.e_truL, DL.e_and, DL.e_or, DL.e_not, DL.e_if, DL.e_andV, DL.e_andK, DL.e_orV, DL.e_orK, DL.e_notV, DL.e_notK, DL.e_add, DL.e_addS, DL.e_addT, DL.e_addL, DL.e_sub, DL.e_mul, DL.e_mulL, DL.e_mulT, DL.e_fdiv, DL.e_mod, DL.e_pow, DL.e_neg, DL.e_lt, DL.e_le, DL.e_gt, DL.e_ge, DL.e_eqI, DL.e_eqS, DL.e_neI, DL.e_neS, DL.e_isN, DL.e_isntN, DL.e_isB, DL.e_isntB, DL.e_atK, DL.e_ixT, DL.e_ixL, DL.e_ixK, DL.e_ixDT, DL.e_setK, DL.e_setDT, DL.e_setSome, DL.e_setL, DL.e_delK, DL.e_delT, DL.e_inT, DL.e_inK, DL.e_lenL, DL.e_lenT, DL.e_lenK, DL.e_lenS, DL.e_listL, DL.e_listO, DL.e_listT, DL.e_tupleL, DL.e_tupleT, DL.e_int, DL.e_lm0, DL.e_lm, DL.e_isL, DL.e_app, DL.e_pop, DL.e_popSome, DL.e_call, DL.e_newT, DL.e_newK, DL.e_disp, DL.e_prs0, DL.e_prsS, DL.f_for, DL.f_lc, DL.f_dc, DL.f_iseq, DL.f_seqT, DL.f_rng1, DL.f_rngK, DL.f_zip, DL.f_zipT, DL.f_yes, DL.f_par3, DL.f_par3K, DL.f_isi, DL.f_isiK, DL.f_fld, DL.f_mkE, DL.f_mk0, DL.f_slice, DL.f_nopart, DL.f_part, DL.f_partK, DL.f_slT, List.set_cons_zero, List.set_cons_succ, List.length_cons, List.length_nil, decide_eq_true_eq, Bool.not_eq_true, true_and, and_true, if_true, Bool.false_eq_true, if_false, Nat.reduceAdd, Nat.reduceLT, Nat.reduceLeDiff, Bool.not_true]
      exact ⟨_, _, _, _, _, _, _, _, _, rfl, KK _ _ hm5, KK _ _ hl5, pen_keep P5 KK⟩
end
end Lw

end T_K00

section T_K00H
set_option Elab.async false
set_option linter.all false
set_option maxRecDepth 100000
set_option maxHeartbeats 0
namespace Lw
open PySem PySem.Spec L2 DL
open PyProof.Rows hiding St
/-! ### the head: facts by names -/
def exTop : List (Str × Nat) := [("BadText", 2), ("BadNumber", 3), ("BadName", 4), ("BadCell", 5), ("BadLand", 6), ("BadArrangement", 7), ("TakenName", 8), ("NotThere", 9), ("NoMove", 10), ("Unlike", 11), ("TooMany", 12), ("NotKept", 13), ("NoName", 14)]
def dE (x : Str) (i : Nat) : He.DefD := metDef x "__init__" (x ++ ".__init__") (methOf (top i) 0)
def fnI : List He.DefD := exTop.map fun p => dE p.1 p.2
def fnL : List He.DefD := [topDef "_law_pen" (top 18), topDef "_law_draw" (top 19), topDef "_law_pick" (top 20), topDef "_law_one" (top 21), topDef "_law_more" (top 22), topDef "_law_kinds" (top 23), topDef "law" (top 24)]
def fn : List He.DefD := fnL ++ fnI
def fa : List He.Fa := [.glo "_law_pen", .glo "_law_draw", .glo "_law_pick", .glo "_law_one", .glo "_law_more", .glo "_law_kinds", .glo "law", .glo "ClimbError", .glo "BadText", .glo "BadNumber", .glo "BadName", .glo "BadCell", .glo "BadLand", .glo "BadArrangement", .glo "TakenName", .glo "NotThere", .glo "NoMove", .glo "Unlike", .glo "TooMany", .glo "NotKept", .glo "NoName", .glo "NothingToUndo", .glo "NothingToRedo", .free "len", .free "range", .free "list", .free "tuple", .free "int", .free "sum", .free "all", .free "any", .free "max", .free "min", .free "abs", .free "sorted", .free "zip", .free "enumerate", .free "isinstance", .free "repr", .free "dict", .free "set", .free "bool", .free "str", .free "ValueError"]
def exB (K : PySem.W.Frag) : Bool := noLst K && exs.all fun e => exKB K (He.ga K e.2.1) && (e.2.2.all fun f => decide (PySem.W.findIn K (.ref (He.ga K e.2.1)) f = some none)) &&
  (exs.all fun g => decide (PySem.W.kitOne K (.ref (He.ga K e.2.1)) (.ref (He.ga K g.2.1)) = some (decide (e.1 = g.1)))) && decide (PySem.W.kitOne K (.ref (He.ga K e.2.1)) (.ref (He.ga K "ClimbError")) = some true) &&
  decide (PySem.W.kitOne K (.ref (He.ga K e.2.1)) (.type "ValueError") = some true) &&
  (if e.1 < 13 then oexB K (He.ga K e.2.1) && iniB K e.2.1 else PySem.W.excIn K (He.ga K e.2.1) He.veBase "ValueError.__new__" && PySem.W.keepIn K (.ref (He.ga K e.2.1)))
abbrev Rw : PySem.W.OpenRow := PySem.W.OpenLaw.row PySem.Challenge.rw_climbabout_k00_errors
abbrev hkL : PySem.W.Hook := He.hookX 5 fa fn [] [] exB
def obL (s : PySem.W.SharedT) : He.AlX := He.obsX 5 fa fn [] [] exB (HandSHeadRun.getT s)
theorem obL_eq (s : PySem.W.SharedT) : obL s = hkL.obs s.abs := He.obsX_eq (HandSHeadRun.getT_eq s)
theorem runL (w : World) : HandSHeadRun.RunEq Rw (PySem.W.view Rw.prog [24]) hkL obL 6000 ["__name__", "ClimbError", "BadText", "BadNumber", "BadName", "BadCell", "BadLand", "BadArrangement", "TakenName", "NotThere", "NoMove", "Unlike", "TooMany", "NotKept", "NoName", "NothingToUndo", "NothingToRedo", "_law_pen", "_law_draw", "_law_pick", "_law_one", "_law_more", "_law_kinds"] w := by
  intro os
  kernel_rfl
section
variable {P : Program} {w : World} {K : PySem.W.Frag} {mg : Str → Option Value} {base h : Heap}
theorem stands {x : Str} {st : Stmt} {ps : List Str} (F : ∃ fd, FunD K x x (defArgs st) (defBody st) (defScope st) [] [] (He.fAd K (x, none)) fd) (hm : mg x = some (.ref (He.ga K x)))
    (b : ∀ (kV doc pm : Value) (an : Option Addr) (cdv ct : Value) (us : List Value), us.length = ps.length → bindArgs (PySem.W.fnOf x x (defArgs st) (defBody st) (defScope st) .none kV doc pm an cdv ct) ⟨us, []⟩ = pure (ps.zip us)) : Stands K mg x st ps := by
  obtain ⟨fd, F⟩ := F
  exact ⟨_, fd, fun_of F, hm, F.bindsN b⟩
theorem free_of (X : K.In h) (G : h.Ns mainGlobals mg) (c : He.SaysD fa fn K) : Free mg := by
  have f : ∀ x : Str, (.free x : He.Fa) ∈ fa → mg x = none := fun x hx => He.free_ok X G (c.facts hx)
  constructor <;> (apply f; simp [fa])
theorem glo_of (X : K.In h) (G : h.Ns mainGlobals mg) (c : He.SaysD fa fn K) (x : Str) (hx : (.glo x : He.Fa) ∈ fa) : mg x = some (.ref (He.ga K x)) := He.glo_ok X G (c.facts hx)
theorem ers_of (X : K.In h) (G : h.Ns mainGlobals mg) (c : He.SaysD fa fn K) (m : exB K = true) : Ers P w K mg base := by
  unfold exB at m
  obtain ⟨_, m⟩ := He.ba m
  have a : ∀ e ∈ exs, _ := fun e he => List.all_eq_true.mp m e he
  simp only [Bool.and_eq_true, decide_eq_true_eq, List.all_eq_true] at a
  have gl : ∀ e ∈ exs, mg e.2.1 = some (.ref (He.ga K e.2.1)) := by
    intro e he
    refine glo_of X G c _ ?_
    have z : ∀ e ∈ exs, (.glo e.2.1 : He.Fa) ∈ fa := by
      simp only [exs, List.mem_cons, List.not_mem_nil, or_false]
      rintro e (rfl | rfl | rfl | rfl | rfl | rfl | rfl | rfl | rfl | rfl | rfl | rfl | rfl | rfl | rfl) <;> simp [fa]
    exact z e he
  refine ⟨gl, glo_of X G c _ (by simp [fa]), fun e he hlt => ?_, fun e he hge => ?_, fun e he => exKB_ok (a e he).1.1.1.1.1, fun e he f hf => (a e he).1.1.1.1.2 f hf, fun e he g hg => (a e he).1.1.1.2 g hg, fun e he => (a e he).1.1.2, fun e he => (a e he).1.2⟩
  · have z := (a e he).2
    have na := (a e he).1.1.1.1.2
    rw [if_pos hlt] at z
    obtain ⟨zo, zi⟩ := He.ba z
    have T := oexB_ok zo
    unfold iniB at zi
    simp only [Bool.and_eq_true, decide_eq_true_eq] at zi
    simp only [exs, List.mem_cons, List.not_mem_nil, or_false] at he
    rcases he with rfl | rfl | rfl | rfl | rfl | rfl | rfl | rfl | rfl | rfl | rfl | rfl | rfl | rfl | rfl
    · obtain ⟨fd, F⟩ : ∃ fd, FunD K "__init__" ("BadName" ++ ".__init__") (defArgs (methOf (top 4) 0)) (defBody (methOf (top 4) 0)) (defScope (methOf (top 4) 0)) [] [] (He.fAd K ("BadName", some "__init__")) fd := c.def_ 9 (d := dE "BadName" 4) rfl
      exact ⟨_, fd, ["self", "name"], T, zi.1, zi.2, F.bindsN (fun _ _ _ _ _ _ us hl => by match us, hl with | [x0, x1], _ => rfl), by decide, fun mg' => ini1 (fun_of F) ⟨rfl, rfl, rfl, by decide +kernel, rfl, by decide +kernel, by decide +kernel⟩ rfl T (na "name" (by decide)) (by decide) (by decide) (by decide +kernel) (by decide +kernel)⟩
    · obtain ⟨fd, F⟩ : ∃ fd, FunD K "__init__" ("TakenName" ++ ".__init__") (defArgs (methOf (top 8) 0)) (defBody (methOf (top 8) 0)) (defScope (methOf (top 8) 0)) [] [] (He.fAd K ("TakenName", some "__init__")) fd := c.def_ 13 (d := dE "TakenName" 8) rfl
      exact ⟨_, fd, ["self", "name"], T, zi.1, zi.2, F.bindsN (fun _ _ _ _ _ _ us hl => by match us, hl with | [x0, x1], _ => rfl), by decide, fun mg' => ini1 (fun_of F) ⟨rfl, rfl, rfl, by decide +kernel, rfl, by decide +kernel, by decide +kernel⟩ rfl T (na "name" (by decide)) (by decide) (by decide) (by decide +kernel) (by decide +kernel)⟩
    · obtain ⟨fd, F⟩ : ∃ fd, FunD K "__init__" ("BadCell" ++ ".__init__") (defArgs (methOf (top 5) 0)) (defBody (methOf (top 5) 0)) (defScope (methOf (top 5) 0)) [] [] (He.fAd K ("BadCell", some "__init__")) fd := c.def_ 10 (d := dE "BadCell" 5) rfl
      exact ⟨_, fd, ["self", "cell"], T, zi.1, zi.2, F.bindsN (fun _ _ _ _ _ _ us hl => by match us, hl with | [x0, x1], _ => rfl), by decide, fun mg' => ini1 (fun_of F) ⟨rfl, rfl, rfl, by decide +kernel, rfl, by decide +kernel, by decide +kernel⟩ rfl T (na "cell" (by decide)) (by decide) (by decide) (by decide +kernel) (by decide +kernel)⟩
    · obtain ⟨fd, F⟩ : ∃ fd, FunD K "__init__" ("NotThere" ++ ".__init__") (defArgs (methOf (top 9) 0)) (defBody (methOf (top 9) 0)) (defScope (methOf (top 9) 0)) [] [] (He.fAd K ("NotThere", some "__init__")) fd := c.def_ 14 (d := dE "NotThere" 9) rfl
      exact ⟨_, fd, ["self", "cell"], T, zi.1, zi.2, F.bindsN (fun _ _ _ _ _ _ us hl => by match us, hl with | [x0, x1], _ => rfl), by decide, fun mg' => ini1 (fun_of F) ⟨rfl, rfl, rfl, by decide +kernel, rfl, by decide +kernel, by decide +kernel⟩ rfl T (na "cell" (by decide)) (by decide) (by decide) (by decide +kernel) (by decide +kernel)⟩
    · obtain ⟨fd, F⟩ : ∃ fd, FunD K "__init__" ("BadLand" ++ ".__init__") (defArgs (methOf (top 6) 0)) (defBody (methOf (top 6) 0)) (defScope (methOf (top 6) 0)) [] [] (He.fAd K ("BadLand", some "__init__")) fd := c.def_ 11 (d := dE "BadLand" 6) rfl
      exact ⟨_, fd, ["self", "cells"], T, zi.1, zi.2, F.bindsN (fun _ _ _ _ _ _ us hl => by match us, hl with | [x0, x1], _ => rfl), by decide, fun mg' => ini1 (fun_of F) ⟨rfl, rfl, rfl, by decide +kernel, rfl, by decide +kernel, by decide +kernel⟩ rfl T (na "cells" (by decide)) (by decide) (by decide) (by decide +kernel) (by decide +kernel)⟩
    · obtain ⟨fd, F⟩ : ∃ fd, FunD K "__init__" ("BadArrangement" ++ ".__init__") (defArgs (methOf (top 7) 0)) (defBody (methOf (top 7) 0)) (defScope (methOf (top 7) 0)) [] [] (He.fAd K ("BadArrangement", some "__init__")) fd := c.def_ 12 (d := dE "BadArrangement" 7) rfl
      exact ⟨_, fd, ["self", "cells"], T, zi.1, zi.2, F.bindsN (fun _ _ _ _ _ _ us hl => by match us, hl with | [x0, x1], _ => rfl), by decide, fun mg' => ini1 (fun_of F) ⟨rfl, rfl, rfl, by decide +kernel, rfl, by decide +kernel, by decide +kernel⟩ rfl T (na "cells" (by decide)) (by decide) (by decide) (by decide +kernel) (by decide +kernel)⟩
    · obtain ⟨fd, F⟩ : ∃ fd, FunD K "__init__" ("BadText" ++ ".__init__") (defArgs (methOf (top 2) 0)) (defBody (methOf (top 2) 0)) (defScope (methOf (top 2) 0)) [] [] (He.fAd K ("BadText", some "__init__")) fd := c.def_ 7 (d := dE "BadText" 2) rfl
      exact ⟨_, fd, ["self", "line", "column"], T, zi.1, zi.2, F.bindsN (fun _ _ _ _ _ _ us hl => by match us, hl with | [x0, x1, x2], _ => rfl), by decide, fun mg' => ini2 (fun_of F) ⟨rfl, rfl, rfl, by decide +kernel, rfl, by decide +kernel, by decide +kernel⟩ rfl T (na "line" (by decide)) (by decide) (by decide) (by decide +kernel) (by decide +kernel) (na "column" (by decide)) (by decide) (by decide) (by decide +kernel)⟩
    · obtain ⟨fd, F⟩ : ∃ fd, FunD K "__init__" ("BadNumber" ++ ".__init__") (defArgs (methOf (top 3) 0)) (defBody (methOf (top 3) 0)) (defScope (methOf (top 3) 0)) [] [] (He.fAd K ("BadNumber", some "__init__")) fd := c.def_ 8 (d := dE "BadNumber" 3) rfl
      exact ⟨_, fd, ["self", "what", "number"], T, zi.1, zi.2, F.bindsN (fun _ _ _ _ _ _ us hl => by match us, hl with | [x0, x1, x2], _ => rfl), by decide, fun mg' => ini2 (fun_of F) ⟨rfl, rfl, rfl, by decide +kernel, rfl, by decide +kernel, by decide +kernel⟩ rfl T (na "what" (by decide)) (by decide) (by decide) (by decide +kernel) (by decide +kernel) (na "number" (by decide)) (by decide) (by decide) (by decide +kernel)⟩
    · obtain ⟨fd, F⟩ : ∃ fd, FunD K "__init__" ("NoMove" ++ ".__init__") (defArgs (methOf (top 10) 0)) (defBody (methOf (top 10) 0)) (defScope (methOf (top 10) 0)) [] [] (He.fAd K ("NoMove", some "__init__")) fd := c.def_ 15 (d := dE "NoMove" 10) rfl
      exact ⟨_, fd, ["self", "start", "end"], T, zi.1, zi.2, F.bindsN (fun _ _ _ _ _ _ us hl => by match us, hl with | [x0, x1, x2], _ => rfl), by decide, fun mg' => ini2 (fun_of F) ⟨rfl, rfl, rfl, by decide +kernel, rfl, by decide +kernel, by decide +kernel⟩ rfl T (na "start" (by decide)) (by decide) (by decide) (by decide +kernel) (by decide +kernel) (na "end" (by decide)) (by decide) (by decide) (by decide +kernel)⟩
    · obtain ⟨fd, F⟩ : ∃ fd, FunD K "__init__" ("NotKept" ++ ".__init__") (defArgs (methOf (top 13) 0)) (defBody (methOf (top 13) 0)) (defScope (methOf (top 13) 0)) [] [] (He.fAd K ("NotKept", some "__init__")) fd := c.def_ 18 (d := dE "NotKept" 13) rfl
      exact ⟨_, fd, ["self", "promise", "witness"], T, zi.1, zi.2, F.bindsN (fun _ _ _ _ _ _ us hl => by match us, hl with | [x0, x1, x2], _ => rfl), by decide, fun mg' => ini2 (fun_of F) ⟨rfl, rfl, rfl, by decide +kernel, rfl, by decide +kernel, by decide +kernel⟩ rfl T (na "promise" (by decide)) (by decide) (by decide) (by decide +kernel) (by decide +kernel) (na "witness" (by decide)) (by decide) (by decide) (by decide +kernel)⟩
    · obtain ⟨fd, F⟩ : ∃ fd, FunD K "__init__" ("Unlike" ++ ".__init__") (defArgs (methOf (top 11) 0)) (defBody (methOf (top 11) 0)) (defScope (methOf (top 11) 0)) [] [] (He.fAd K ("Unlike", some "__init__")) fd := c.def_ 16 (d := dE "Unlike" 11) rfl
      exact ⟨_, fd, ["self", "region", "here", "there"], T, zi.1, zi.2, F.bindsN (fun _ _ _ _ _ _ us hl => by match us, hl with | [x0, x1, x2, x3], _ => rfl), by decide, fun mg' => ini3 (fun_of F) ⟨rfl, rfl, rfl, by decide +kernel, rfl, by decide +kernel, by decide +kernel⟩ rfl T (na "region" (by decide)) (by decide) (by decide) (by decide +kernel) (by decide +kernel) (na "here" (by decide)) (by decide) (by decide) (by decide +kernel) (na "there" (by decide)) (by decide) (by decide) (by decide +kernel)⟩
    · obtain ⟨fd, F⟩ : ∃ fd, FunD K "__init__" ("TooMany" ++ ".__init__") (defArgs (methOf (top 12) 0)) (defBody (methOf (top 12) 0)) (defScope (methOf (top 12) 0)) [] [] (He.fAd K ("TooMany", some "__init__")) fd := c.def_ 17 (d := dE "TooMany" 12) rfl
      exact ⟨_, fd, ["self", "what", "many", "limit"], T, zi.1, zi.2, F.bindsN (fun _ _ _ _ _ _ us hl => by match us, hl with | [x0, x1, x2, x3], _ => rfl), by decide, fun mg' => ini3 (fun_of F) ⟨rfl, rfl, rfl, by decide +kernel, rfl, by decide +kernel, by decide +kernel⟩ rfl T (na "what" (by decide)) (by decide) (by decide) (by decide +kernel) (by decide +kernel) (na "many" (by decide)) (by decide) (by decide) (by decide +kernel) (na "limit" (by decide)) (by decide) (by decide) (by decide +kernel)⟩
    · obtain ⟨fd, F⟩ : ∃ fd, FunD K "__init__" ("NoName" ++ ".__init__") (defArgs (methOf (top 14) 0)) (defBody (methOf (top 14) 0)) (defScope (methOf (top 14) 0)) [] [] (He.fAd K ("NoName", some "__init__")) fd := c.def_ 19 (d := dE "NoName" 14) rfl
      exact ⟨_, fd, ["self", "name"], T, zi.1, zi.2, F.bindsN (fun _ _ _ _ _ _ us hl => by match us, hl with | [x0, x1], _ => rfl), by decide, fun mg' => ini1 (fun_of F) ⟨rfl, rfl, rfl, by decide +kernel, rfl, by decide +kernel, by decide +kernel⟩ rfl T (na "name" (by decide)) (by decide) (by decide) (by decide +kernel) (by decide +kernel)⟩
    · exact absurd hlt (by decide)
    · exact absurd hlt (by decide)
  · have z := (a e he).2
    rw [if_neg (by omega)] at z
    exact He.ba z
end
end Lw

end T_K00H

section T_K00E
set_option Elab.async false
set_option linter.all false
set_option maxRecDepth 100000
set_option maxHeartbeats 0
namespace Lw
open PySem PySem.Spec L2 DL
open PyProof.Rows hiding St
theorem atL {w : World} {mg : Str → Option Value} {f : Addr} {h : Heap} (Y : ∃ K : PySem.W.Frag, K.In h ∧ He.SaysX fa fn [] [] exB w h K) (G : h.Ns mainGlobals mg) (hmg : mg ("law" : Str) = some (.ref f)) : LawAtQ PySem.Challenge.rw_climbabout_k00_errors w 5 63 "script" mg f h := by
  obtain ⟨K, X, y⟩ := Y
  have c : He.SaysD fa fn K := y.t.d
  have m : exB K = true := y.more
  have nl : noLst K = true := by
    have z := m
    unfold exB at z
    exact (He.ba z).1
  have g : ∀ x : Str, (.glo x : He.Fa) ∈ fa → mg x = some (.ref (He.ga K x)) := fun x hx => glo_of X G c x hx
  have e := hmg.symm.trans (g "law" (by simp [fa]))
  cases e
  obtain ⟨fd, F⟩ : ∃ fd, FunD K "law" "law" (defArgs s_law) (defBody s_law) (defScope s_law) [] [] (He.fAd K ("law", none)) fd := c.def_ 6 (d := topDef "law" (top 24)) rfl
  have b := FunD.bindsA (ps := ["script"]) F fun _ _ _ _ _ _ us hl => match us, hl with | [_], _ => rfl
  refine ⟨K, fd, [], lowSp K spLaw, X, fun p hp => (nomatch hp), fun p hp => (nomatch hp), fun p hp => (nomatch hp), fun s u => b s [u] rfl, fun H a ns hl _ _ hS => lowLaw nl hS fun M hM => ⟨a, ns, rfl, hM, by omega, fun _ => rfl⟩, fun base X0 G0 _ => ?_⟩
  have Z : Free mg := free_of X G c
  have R0 : Ers PySem.Challenge.rw_climbabout_k00_errors.prog w K mg base := ers_of X G c m
  have p1 := ok_pen (P := PySem.Challenge.rw_climbabout_k00_errors.prog) (w := w) (base := base) Z (stands (c.def_ 0 (d := topDef "_law_pen" (top 18)) rfl) (g _ (by simp [fa])) (fun _ _ _ _ _ _ us hl => by match us, hl with | [x0], _ => rfl))
  have p2 := ok_draw (P := PySem.Challenge.rw_climbabout_k00_errors.prog) (w := w) (base := base) Z (stands (c.def_ 1 (d := topDef "_law_draw" (top 19)) rfl) (g _ (by simp [fa])) (fun _ _ _ _ _ _ us hl => by match us, hl with | [x0, x1], _ => rfl))
  have p3 := ok_pick (P := PySem.Challenge.rw_climbabout_k00_errors.prog) (w := w) (base := base) Z (stands (c.def_ 2 (d := topDef "_law_pick" (top 20)) rfl) (g _ (by simp [fa])) (fun _ _ _ _ _ _ us hl => by match us, hl with | [x0, x1], _ => rfl)) p2
  have p5 := ok_more (P := PySem.Challenge.rw_climbabout_k00_errors.prog) (w := w) (base := base) Z (stands (c.def_ 4 (d := topDef "_law_more" (top 22)) rfl) (g _ (by simp [fa])) (fun _ _ _ _ _ _ us hl => by match us, hl with | [x0, x1, x2, x3], _ => rfl)) R0
  have p4 := ok_one (P := PySem.Challenge.rw_climbabout_k00_errors.prog) (w := w) (base := base) Z (stands (c.def_ 3 (d := topDef "_law_one" (top 21)) rfl) (g _ (by simp [fa])) (fun _ _ _ _ _ _ us hl => by match us, hl with | [x0, x1, x2, x3], _ => rfl)) R0 p5
  have p6 := ok_kinds (P := PySem.Challenge.rw_climbabout_k00_errors.prog) (w := w) (base := base) Z (stands (c.def_ 5 (d := topDef "_law_kinds" (top 23)) rfl) (g _ (by simp [fa])) (fun _ _ _ _ _ _ us hl => by match us, hl with | [x0], _ => rfl)) R0
  exact ok_law Z (fun_of F) R0 p1 p2 p3 p4 p6
end Lw
open PySem PySem.W PySem.Calls PyProof.Rows
theorem PySem.Challenge.cw_climbabout_k00_errors_holds : PySem.Challenge.rw_climbabout_k00_errors.Holds := by
  w_on; o_law
  refine HandSHeadRun.head_any (r := Lw.Rw) (q := view Lw.Rw.prog [24]) (H := Lw.hkL) (ob := Lw.obL) (M := 6000) (loose := ["__name__", "ClimbError", "BadText", "BadNumber", "BadName", "BadCell", "BadLand", "BadArrangement", "TakenName", "NotThere", "NoMove", "Unlike", "TooMany", "NotKept", "NoName", "NothingToUndo", "NothingToRedo", "_law_pen", "_law_draw", "_law_pick", "_law_one", "_law_more", "_law_kinds"]) (d := HandSHeadRun.topDef Lw.Rw.prog 24) (kwd := []) Lw.obL_eq
    (by kernel_rfl) (fun s => by kernel_rfl) Lw.runL (by kernel_rfl) (by kernel_rfl) (by kernel_rfl) (by rfl) (by first | assumption | decide +kernel) (by decide +kernel) ⟨rfl, rfl, rfl, rfl, rfl, by decide +kernel⟩ ?hw ?hc
  case hw => w_witness2
  case hc =>
    refine DL.walk_Q (l := PySem.Challenge.rw_climbabout_k00_errors) (n := 63) (k := 5) (x := "script") rfl (by decide) (by kernel_rfl) ⟨rfl, by decide, by decide⟩ ?F
    intro w mg fa h Y G hmg0
    have hmg : mg ("law" : PySem.Str) = some (.ref fa) := by
      have e : (HandSHeadRun.topDef Lw.Rw.prog 24).name = ("law" : PySem.Str) := by kernel_rfl
      rw [← e]
      exact hmg0
    exact Lw.atL Y G hmg

end T_K00E
