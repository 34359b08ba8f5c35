import PyProof.Rows.All
import Wide.All
import OpenK.AllK
import Wide.FinOn
import HandS.ForMost
import HandS.Exc
import HandS.ExcInit
import HandS.ExcOwn
import HandS.TupAny
import HandS.TupMul
import HandS.IsInst
import HandS.Conv
import HandS.Flow
import HandS.Deep
import HandS.Style
import HandS.HeadHook1
import HandS.Lambda
import HandS.Zip
import HandS.Rev
import HandS.DictTup
import HandS.DictComp
import HandS.TupLen
import PyProof.DictMoreH
import HandS.WordsExc
import HandS.HeadEnd
import KE.SortData
import KE.KDictSum
import HandS.ExcValue
import HandS.Defaults
import KE.KExcIs
import HandS.EndTab
import HandS.Head0
import HandS.Head1
import HandS.Head2
import HandS.HeadHook2
import HandS.HeadHook3
import HandS.HeadHook4
import HandS.TryMany
import HandS.ExcField
import KE.KDictDisplayH
import PySem.Challenge.RW_climbabout_k01_cells
section T_DL1
set_option Elab.async false
set_option linter.all false
set_option maxRecDepth 100000
set_option maxHeartbeats 1000000
/-! The D layer: tuples by value, lists, dicts and instances by address, readings that compute. -/
namespace DL
open PySem PySem.Spec L2
open PyProof.Rows hiding St

/-! ### data -/
inductive D where
  | non | bl (b : Bool) | int (i : Int) | str (x : Str) | ref (a : Addr) | ty (n : String) | tup (xs : List D)

mutual
def D.eq : D → D → Bool
  | .non, .non => true
  | .bl a, .bl b => a == b
  | .int a, .int b => decide (a = b)
  | .str a, .str b => decide (a = b)
  | .ref a, .ref b => decide (a = b)
  | .ty a, .ty b => decide (a = b)
  | .tup a, .tup b => D.eqL a b
  | _, _ => false
def D.eqL : List D → List D → Bool
  | [], [] => true
  | a :: as, b :: bs => D.eq a b && D.eqL as bs
  | _, _ => false
end
mutual
theorem D.eq_iff : ∀ a b : D, D.eq a b = true ↔ a = b
  | .non, b => by cases b <;> simp [D.eq]
  | .bl _, b => by cases b <;> simp [D.eq]
  | .int _, b => by cases b <;> simp [D.eq]
  | .str _, b => by cases b <;> simp [D.eq]
  | .ref _, b => by cases b <;> simp [D.eq]
  | .ty _, b => by cases b <;> simp [D.eq]
  | .tup as, b => by cases b <;> simp [D.eq, D.eqL_iff as]
theorem D.eqL_iff : ∀ a b : List D, D.eqL a b = true ↔ a = b
  | [], b => by cases b <;> simp [D.eqL]
  | a :: as, b => by cases b <;> simp [D.eqL, D.eq_iff a, D.eqL_iff as]
end
instance : DecidableEq D := fun a b => decidable_of_iff _ (D.eq_iff a b)

mutual
/-- the value v bears the datum d in the heap H -/
def Rel (H : Hp) : D → V → Prop
  | .non, v => v = .non
  | .bl b, v => v = .bl b
  | .int i, v => v = .int i
  | .str x, v => v = .str x
  | .ref a, v => v = .ref a
  | .ty n, v => v = .ty n
  | .tup ds, v => ∃ a vs, v = .ref a ∧ H a = some (.tup vs) ∧ RelL H ds vs
def RelL (H : Hp) : List D → List V → Prop
  | [], vs => vs = []
  | d :: ds, vs => ∃ v r, vs = v :: r ∧ Rel H d v ∧ RelL H ds r
end
/-- tuples stay -/
def Tle (H H' : Hp) : Prop := ∀ a xs, H a = some (.tup xs) → H' a = some (.tup xs)
theorem Tle.refl {H : Hp} : Tle H H := fun _ _ h => h
theorem Tle.trans {H H1 H2 : Hp} (a : Tle H H1) (b : Tle H1 H2) : Tle H H2 := fun p xs h => b p xs (a p xs h)
theorem Tle.new {H : Hp} {p : Addr} {o : HO} (h : H p = none) : Tle H (upd H p o) := fun a xs e => by
  rw [upd_ne (ne_of_none e h)]; exact e
theorem Tle.write {H : Hp} {p : Addr} {o u : HO} (h : H p = some u) (hu : ∀ xs, u ≠ .tup xs) : Tle H (upd H p o) := fun a xs e => by
  rw [upd_ne (ne_of e h (Ne.symm (hu xs)))]; exact e
mutual
theorem Rel.tle {H H' : Hp} (t : Tle H H') : ∀ {d : D} {v : V}, Rel H d v → Rel H' d v
  | .non, _, h => h
  | .bl _, _, h => h
  | .int _, _, h => h
  | .str _, _, h => h
  | .ref _, _, h => h
  | .ty _, _, h => h
  | .tup _, _, ⟨a, vs, e, h, r⟩ => ⟨a, vs, e, t a vs h, RelL.tle t r⟩
theorem RelL.tle {H H' : Hp} (t : Tle H H') : ∀ {ds : List D} {vs : List V}, RelL H ds vs → RelL H' ds vs
  | [], _, h => h
  | _ :: _, _, ⟨v, r, e, h, hr⟩ => ⟨v, r, e, Rel.tle t h, RelL.tle t hr⟩
end
theorem RelL.nil {H : Hp} : RelL H [] [] := rfl
theorem RelL.cons {H : Hp} {d : D} {v : V} {ds : List D} {vs : List V} (h : Rel H d v) (t : RelL H ds vs) : RelL H (d :: ds) (v :: vs) := ⟨v, vs, rfl, h, t⟩
theorem RelL.length {H : Hp} : ∀ {ds : List D} {vs : List V}, RelL H ds vs → vs.length = ds.length
  | [], _, h => by cases h; rfl
  | _ :: _, _, ⟨_, _, e, _, h⟩ => by subst e; simp [RelL.length h]
theorem RelL.append {H : Hp} : ∀ {ds es : List D} {vs us : List V}, RelL H ds vs → RelL H es us → RelL H (ds ++ es) (vs ++ us)
  | [], _, _, _, h, g => by cases h; exact g
  | _ :: _, _, _, _, ⟨v, r, e, h, hr⟩, g => by subst e; exact ⟨v, _, rfl, h, RelL.append hr g⟩
theorem RelL.get {H : Hp} : ∀ {ds : List D} {vs : List V} {i : Nat} {d : D}, RelL H ds vs → ds[i]? = some d → ∃ v, vs[i]? = some v ∧ Rel H d v
  | [], _, _, _, _, e => by simp at e
  | _ :: _, _, 0, _, ⟨v, r, e, h, hr⟩, q => by subst e; simp at q; subst q; exact ⟨v, rfl, h⟩
  | _ :: _, _, i + 1, _, ⟨v, r, e, h, hr⟩, q => by
    subst e
    obtain ⟨u, h1, h2⟩ := RelL.get (i := i) hr (by simpa using q)
    exact ⟨u, by simpa using h1, h2⟩
theorem RelL.got {H : Hp} : ∀ {ds : List D} {vs : List V} {i : Nat} {v : V}, RelL H ds vs → vs[i]? = some v → ∃ d, ds[i]? = some d ∧ Rel H d v
  | [], _, _, _, h, e => by cases h; simp at e
  | d :: _, _, 0, _, ⟨v, r, e, h, hr⟩, q => by subst e; simp at q; subst q; exact ⟨d, rfl, h⟩
  | _ :: _, _, i + 1, _, ⟨v, r, e, h, hr⟩, q => by
    subst e
    obtain ⟨u, h1, h2⟩ := RelL.got (i := i) hr (by simpa using q)
    exact ⟨u, by simpa using h1, h2⟩
theorem RelL.set {H : Hp} {d : D} {v : V} (hd : Rel H d v) : ∀ {ds : List D} {vs : List V} (i : Nat), RelL H ds vs → RelL H (ds.set i d) (vs.set i v)
  | [], _, _, h => by cases h; exact RelL.nil
  | _ :: _, _, 0, ⟨u, r, e, h, hr⟩ => by subst e; exact ⟨v, r, rfl, hd, hr⟩
  | _ :: _, _, i + 1, ⟨u, r, e, h, hr⟩ => by subst e; exact ⟨u, _, rfl, h, RelL.set hd i hr⟩
theorem RelL.take {H : Hp} : ∀ {ds : List D} {vs : List V} (n : Nat), RelL H ds vs → RelL H (ds.take n) (vs.take n)
  | [], _, _, h => by cases h; simp [RelL]
  | _ :: _, _, 0, _ => rfl
  | _ :: _, _, n + 1, ⟨u, r, e, h, hr⟩ => by subst e; exact ⟨u, _, rfl, h, RelL.take n hr⟩
theorem RelL.drop {H : Hp} : ∀ {ds : List D} {vs : List V} (n : Nat), RelL H ds vs → RelL H (ds.drop n) (vs.drop n)
  | [], _, _, h => by cases h; simp [RelL]
  | _ :: _, _, 0, h => h
  | _ :: _, _, n + 1, ⟨u, r, e, h, hr⟩ => by subst e; exact RelL.drop n hr
theorem RelL.reverse {H : Hp} : ∀ {ds : List D} {vs : List V}, RelL H ds vs → RelL H ds.reverse vs.reverse
  | [], _, h => by cases h; exact RelL.nil
  | _ :: _, _, ⟨u, r, e, h, hr⟩ => by
    subst e
    rw [List.reverse_cons, List.reverse_cons]
    exact RelL.append (RelL.reverse hr) ⟨u, [], rfl, h, rfl⟩
theorem RelL.flat {H : Hp} {ds : List D} {vs : List V} (h : RelL H ds vs) : ∀ n, RelL H (List.replicate n ds).flatten (List.replicate n vs).flatten
  | 0 => rfl
  | n + 1 => by
    simp only [List.replicate_succ, List.flatten_cons]
    exact h.append (h.flat n)

/-! ### what stands at an address -/
inductive DO where
  /-- a list; a list that is only read (the script) -/
  | lst (xs : List D) | ro (xs : List D)
  /-- a dict whose keys are ints and texts; tuples of such -/
  | dK (kvs : List (D × D)) | dT (kvs : List (D × D))
  /-- such ones while they are walked -/
  | fK (o : Obj) (hv : List (Key × V)) (kvs : List (D × D)) | fT (o : Obj) (hv : List (List Key × V)) (kvs : List (D × D))
  /-- an instance of the class at C; of an own exception class; a caught exception's fields -/
  | ins (C : Addr) (fs : List (Str × D))
  | exi (C : Addr) (fs : List (Str × D))
  | exc (fs : List (Str × D))
  /-- a table of code objects, all of the name q; those at cs are known -/
  | tab (q : Str) (cs : List Addr)
abbrev Mem := Addr → Option DO
def put (M : Mem) (a : Addr) (o : DO) : Mem := fun b => if b = a then some o else M b
theorem put_same {M : Mem} {a : Addr} {o : DO} : put M a o a = some o := by unfold put; rw [if_pos rfl]
theorem put_ne {M : Mem} {a b : Addr} {o : DO} (h : b ≠ a) : put M a o b = M b := by unfold put; rw [if_neg h]
theorem put_put {M : Mem} {a : Addr} {o u : DO} : put (put M a o) a u = put M a u := by
  funext b; unfold put; split <;> rfl
theorem ne_none {M : Mem} {a b : Addr} {o : DO} (h : M a = some o) (h' : M b = none) : a ≠ b := by
  intro e; subst e; rw [h] at h'; cases h'
theorem put_eq {M : Mem} {a : Addr} {o : DO} (h : M a = some o) : put M a o = M := by
  funext b; unfold put; split
  · next e => rw [e, h]
  · rfl

def kD : Key → D
  | .inl i => .int i
  | .inr x => .str x
def RelKv (H : Hp) : List (D × D) → List (Key × V) → Prop := Paired fun p q => p.1 = kD q.1 ∧ Rel H p.2 q.2
def RelTv (H : Hp) : List (D × D) → List (List Key × V) → Prop := Paired fun p q => p.1 = .tup (q.1.map kD) ∧ Rel H p.2 q.2
def RelFs (H : Hp) : List (Str × D) → List (Str × V) → Prop := Paired fun p q => p.1 = q.1 ∧ Rel H p.2 q.2
theorem RelKv.tle {H H' : Hp} (t : Tle H H') {l : List (D × D)} {l' : List (Key × V)} (h : RelKv H l l') : RelKv H' l l' := Paired.mapP h fun _ _ z => ⟨z.1, z.2.tle t⟩
theorem RelTv.tle {H H' : Hp} (t : Tle H H') {l : List (D × D)} {l' : List (List Key × V)} (h : RelTv H l l') : RelTv H' l l' := Paired.mapP h fun _ _ z => ⟨z.1, z.2.tle t⟩
theorem RelFs.tle {H H' : Hp} (t : Tle H H') {l : List (Str × D)} {l' : List (Str × V)} (h : RelFs H l l') : RelFs H' l l' := Paired.mapP h fun _ _ z => ⟨z.1, z.2.tle t⟩

def RelO (K : PySem.W.Frag) (H : Hp) (a : Addr) : DO → Prop
  | .lst ds => ∃ vs, H a = some (.lst vs) ∧ RelL H ds vs
  | .ro ds => ∃ vs, Rd H a (.lst vs) ∧ RelL H ds vs
  | .dK kvs => ∃ hv, H a = some (.dK hv) ∧ RelKv H kvs hv
  | .dT kvs => ∃ hv, H a = some (.dT hv) ∧ RelTv H kvs hv
  | .fK o hv kvs => H a = some (.frz o (.dK hv)) ∧ RelKv H kvs hv
  | .fT o hv kvs => H a = some (.frz o (.dT hv)) ∧ RelTv H kvs hv
  | .ins C fs => ∃ dx vs, H a = some (.ins C dx vs) ∧ RelFs H fs vs
  | .exi C fs => (H a = some (exo a C none) ∧ fs = []) ∨ ∃ dx vs, H a = some (exo a C (some dx)) ∧ H dx = some (exd dx vs) ∧ RelFs H fs vs ∧ vs.length ≤ 900
  | .exc fs => ∃ vs, H a = some (.xd vs) ∧ RelFs H fs vs
  | .tab q cs => LamX.TabS H a q ∧ ∀ c ∈ cs, H c = some (LamX.CodeO c q)
def RelM (K : PySem.W.Frag) (H : Hp) (M : Mem) : Prop := ∀ a o, M a = some o → RelO K H a o

/-- the dicts of exceptions stay -/
def Xle (H H' : Hp) : Prop := (∀ a vs, H a = some (exd a vs) → H' a = some (exd a vs)) ∧ ∀ c q, H c = some (LamX.CodeO c q) → H' c = some (LamX.CodeO c q)
theorem RelO.tle {K : PySem.W.Frag} {H H' : Hp} {a : Addr} (t : Tle H H') (x : Xle H H') (e : ∀ u, H a = some u → H' a = some u) : ∀ {o : DO}, RelO K H a o → RelO K H' a o
  | .lst _, ⟨vs, h, r⟩ => ⟨vs, e _ h, r.tle t⟩
  | .ro _, ⟨vs, h, r⟩ => by
    refine ⟨vs, ?_, r.tle t⟩
    rcases h with h | ⟨o, h⟩
    · exact .inl (e _ h)
    · exact .inr ⟨o, e _ h⟩
  | .dK _, ⟨hv, h, r⟩ => ⟨hv, e _ h, r.tle t⟩
  | .dT _, ⟨hv, h, r⟩ => ⟨hv, e _ h, r.tle t⟩
  | .fK _ _ _, ⟨h, r⟩ => ⟨e _ h, r.tle t⟩
  | .fT _ _ _, ⟨h, r⟩ => ⟨e _ h, r.tle t⟩
  | .ins _ _, ⟨dx, vs, h, r⟩ => ⟨dx, vs, e _ h, r.tle t⟩
  | .exi _ _, .inl ⟨h, r⟩ => .inl ⟨e _ h, r⟩
  | .exi _ _, .inr ⟨dx, vs, h, hd, r, l⟩ => .inr ⟨dx, vs, e _ h, x.1 _ _ hd, r.tle t, l⟩
  | .exc _, ⟨vs, h, r⟩ => ⟨vs, e _ h, r.tle t⟩
  | .tab _ _, ⟨⟨ps, h1, h2, h3⟩, k⟩ => ⟨⟨ps, e _ h1, h2, fun pos cv hc => let ⟨c, e1, e2⟩ := h3 pos cv hc; ⟨c, e1, x.2 _ _ e2⟩⟩, fun c hc => x.2 _ _ (k c hc)⟩
theorem RelM.fresh {K : PySem.W.Frag} {H : Hp} {M : Mem} {a : Addr} (m : RelM K H M) (h : H a = none) : M a = none := by
  cases e : M a with
  | none => rfl
  | some o =>
    have r := m a o e
    cases o with
    | lst _ => obtain ⟨_, q, _⟩ := r; rw [h] at q; cases q
    | ro _ => obtain ⟨_, q, _⟩ := r; rcases q with q | ⟨_, q⟩ <;> (rw [h] at q; cases q)
    | dK _ => obtain ⟨_, q, _⟩ := r; rw [h] at q; cases q
    | dT _ => obtain ⟨_, q, _⟩ := r; rw [h] at q; cases q
    | fK _ _ _ => obtain ⟨q, _⟩ := r; rw [h] at q; cases q
    | fT _ _ _ => obtain ⟨q, _⟩ := r; rw [h] at q; cases q
    | ins _ _ => obtain ⟨_, _, q, _⟩ := r; rw [h] at q; cases q
    | exi _ _ => rcases r with ⟨q, _⟩ | ⟨_, _, q, _⟩ <;> (rw [h] at q; cases q)
    | exc _ => obtain ⟨_, q, _⟩ := r; rw [h] at q; cases q
    | tab _ _ => obtain ⟨⟨_, q, _⟩, _⟩ := r; rw [h] at q; cases q
theorem Xle.new {H : Hp} {p : Addr} {o : HO} (h : H p = none) : Xle H (upd H p o) := ⟨fun a vs e => by
  rw [upd_ne (ne_of_none e h)]; exact e, fun a q e => by rw [upd_ne (ne_of_none e h)]; exact e⟩
theorem Xle.write {H : Hp} {p : Addr} {o u : HO} (h : H p = some u) (hu : ∀ φ, u ≠ .ext φ) : Xle H (upd H p o) := ⟨fun a vs e => by
  rw [upd_ne (fun z => by rw [z, h] at e; exact hu _ (Option.some.inj e))]; exact e, fun a q e => by
  rw [upd_ne (fun z => by rw [z, h] at e; exact hu _ (Option.some.inj e))]; exact e⟩
/-- a new object -/
theorem RelM.new {K : PySem.W.Frag} {H : Hp} {M : Mem} {p : Addr} {o : HO} {d : DO} (m : RelM K H M) (h : H p = none) (r : RelO K (upd H p o) p d) : RelM K (upd H p o) (put M p d) := fun a u e => by
  by_cases q : a = p
  · subst q; rw [put_same] at e; cases e; exact r
  · rw [put_ne q] at e
    exact (m a u e).tle (Tle.new h) (Xle.new h) fun v hv => by rw [upd_ne q]; exact hv
/-- a new object that nobody asks for -/
theorem RelM.more {K : PySem.W.Frag} {H : Hp} {M : Mem} {p : Addr} {o : HO} (m : RelM K H M) (h : H p = none) : RelM K (upd H p o) M := fun a u e =>
  (m a u e).tle (Tle.new h) (Xle.new h) fun v hv => by rw [upd_ne (ne_of_none hv h)]; exact hv
/-- an object changed -/
theorem RelM.write {K : PySem.W.Frag} {H : Hp} {M : Mem} {p : Addr} {o u : HO} {d : DO} (m : RelM K H M) (h : H p = some u) (hu : ∀ xs, u ≠ .tup xs) (r : RelO K (upd H p o) p d) (hx : ∀ φ, u ≠ .ext φ := by intro φ z; cases z) : RelM K (upd H p o) (put M p d) := fun a v e => by
  by_cases q : a = p
  · subst q; rw [put_same] at e; cases e; exact r
  · rw [put_ne q] at e
    exact (m a v e).tle (Tle.write h hu) (Xle.write h hx) fun z hz => by rw [upd_ne q]; exact hz
/-- less is asked for -/
theorem RelM.less {K : PySem.W.Frag} {H : Hp} {M M' : Mem} (m : RelM K H M) (h : ∀ a o, M' a = some o → M a = some o) : RelM K H M' := fun a o e => m a o (h a o e)

/-! ### the low readings -/
abbrev Envd := List (Option D)
abbrev VKd := D → Mem → Prop
abbrev TEd := Envd → Mem → VKd → Prop
abbrev TTd := Envd → Mem → (Bool → Mem → Prop) → Prop
abbrev TAd := Envd → Mem → (List D → Mem → Prop) → Prop
structure Endsd where
  nx : Envd → Mem → Prop
  rt : VKd
  bk : Envd → Mem → Prop := fun _ _ => False
  ct : Envd → Mem → Prop := fun _ _ => False
abbrev TSd := Endsd → Envd → Mem → Prop

def RelE (H : Hp) (ρ : Envd) (σ : St) : Prop := ρ.length = σ.length ∧ ∀ (i : Nat) (d : D), ρ[i]? = some (some d) → ∃ v, σ[i]? = some (some v) ∧ Rel H d v
theorem RelE.tle {H H' : Hp} {ρ : Envd} {σ : St} (t : Tle H H') (r : RelE H ρ σ) : RelE H' ρ σ := ⟨r.1, fun i d e => let ⟨v, a, b⟩ := r.2 i d e; ⟨v, a, b.tle t⟩⟩
theorem RelE.set {H : Hp} {ρ : Envd} {σ : St} {i : Nat} {d : D} {v : V} (r : RelE H ρ σ) (h : Rel H d v) : RelE H (ρ.set i (some d)) (σ.set i (some v)) := by
  refine ⟨by simp [r.1], fun j e q => ?_⟩
  by_cases hj : i = j
  · subst hj
    have hl : i < ρ.length := by
      have := (List.getElem?_eq_some_iff.mp q).1
      simpa using this
    rw [List.getElem?_set_self hl] at q
    cases q
    exact ⟨v, by rw [List.getElem?_set_self (r.1 ▸ hl)], h⟩
  · rw [List.getElem?_set_ne hj] at q
    obtain ⟨u, a, b⟩ := r.2 j e q
    exact ⟨u, by rw [List.getElem?_set_ne hj]; exact a, b⟩

def lowV (K : PySem.W.Frag) (H : Hp) (Q0 : VKd) (Q : VK) : Prop := ∀ v H' d M', Tle H H' → Rel H' d v → RelM K H' M' → Q0 d M' → Q v H'
def lowE (K : PySem.W.Frag) (t : TEd) : TE := fun σ H Q => ∃ ρ M Q0, RelE H ρ σ ∧ RelM K H M ∧ t ρ M Q0 ∧ lowV K H Q0 Q
def lowT (K : PySem.W.Frag) (t : TTd) : TT := fun σ H Q => ∃ ρ M Q0, RelE H ρ σ ∧ RelM K H M ∧ t ρ M Q0 ∧ ∀ b H' M', Tle H H' → RelM K H' M' → Q0 b M' → Q b H'
def lowA (K : PySem.W.Frag) (t : TAd) : TA := fun σ H Q => ∃ ρ M Q0, RelE H ρ σ ∧ RelM K H M ∧ t ρ M Q0 ∧ ∀ vs H' ds M', Tle H H' → RelL H' ds vs → RelM K H' M' → Q0 ds M' → Q vs H'
def lowN (K : PySem.W.Frag) (H : Hp) (Q0 : Envd → Mem → Prop) (Q : St → Hp → Prop) : Prop := ∀ σ H' ρ M', Tle H H' → RelE H' ρ σ → RelM K H' M' → Q0 ρ M' → Q σ H'
structure lowD (K : PySem.W.Frag) (H : Hp) (E0 : Endsd) (E : Ends) : Prop where
  nx : lowN K H E0.nx E.nx
  rt : lowV K H E0.rt E.rt
  bk : lowN K H E0.bk E.bk
  ct : lowN K H E0.ct E.ct
def lowS (K : PySem.W.Frag) (t : TSd) : TS := fun D σ H => ∃ ρ M E0, RelE H ρ σ ∧ RelM K H M ∧ t E0 ρ M ∧ lowD K H E0 D
theorem lowV.tle {K : PySem.W.Frag} {H H1 : Hp} {Q0 : VKd} {Q : VK} (h : lowV K H Q0 Q) (t : Tle H H1) : lowV K H1 Q0 Q := fun v H' d M' t' => h v H' d M' (t.trans t')
theorem lowN.tle {K : PySem.W.Frag} {H H1 : Hp} {Q0 : Envd → Mem → Prop} {Q : St → Hp → Prop} (h : lowN K H Q0 Q) (t : Tle H H1) : lowN K H1 Q0 Q := fun v H' d M' t' => h v H' d M' (t.trans t')
theorem lowD.tle {K : PySem.W.Frag} {H H1 : Hp} {E0 : Endsd} {E : Ends} (h : lowD K H E0 E) (t : Tle H H1) : lowD K H1 E0 E := ⟨h.nx.tle t, h.rt.tle t, h.bk.tle t, h.ct.tle t⟩

/-! ### the judgements -/
structure PEd (X : Cx) (e : Expr) (t : TEd) : Prop where
  pe : PE X e (lowE X.K t)
structure PTd (X : Cx) (e : Expr) (t : TTd) : Prop where
  pt : PT X e (lowT X.K t)
structure PWd (X : Cx) (e : Expr) (t : TTd) : Prop where
  pw : PW X e (lowT X.K t)
structure PAd (X : Cx) (es : List Expr) (t : TAd) : Prop where
  pa : PA X es (lowA X.K t)
structure PSd (X : Cx) (st : Stmt) (t : TSd) : Prop where
  ps : PS X st (lowS X.K t)
structure PSsd (X : Cx) (st : List Stmt) (t : TSd) : Prop where
  ps : PSs X st (lowS X.K t)
section
variable {X : Cx}
theorem PEd.of {e : Expr} {t : TEd} {t' : TE} (h : PE X e t') (sim : ∀ σ H Q, lowE X.K t σ H Q → t' σ H Q) : PEd X e t := ⟨⟨fun pins s σ H Q I w => h.run pins s σ H Q I (sim σ H Q w)⟩⟩
theorem PTd.of {e : Expr} {t : TTd} {t' : TT} (h : PT X e t') (sim : ∀ σ H Q, lowT X.K t σ H Q → t' σ H Q) : PTd X e t := ⟨⟨fun pins s σ H Q I w => h.run pins s σ H Q I (sim σ H Q w)⟩⟩
theorem PWd.of {e : Expr} {t : TTd} {t' : TT} (h : PW X e t') (sim : ∀ σ H Q, lowT X.K t σ H Q → t' σ H Q) : PWd X e t := ⟨⟨fun wh pins s σ H Q I w => h.run wh pins s σ H Q I (sim σ H Q w)⟩⟩
theorem PAd.of {e : List Expr} {t : TAd} {t' : TA} (h : PA X e t') (sim : ∀ σ H Q, lowA X.K t σ H Q → t' σ H Q) : PAd X e t := ⟨⟨fun pos pins s σ H Q I w => h.run pos pins s σ H Q I (sim σ H Q w)⟩⟩
theorem PSd.of {e : Stmt} {t : TSd} {t' : TS} (h : PS X e t') (sim : ∀ D σ H, lowS X.K t D σ H → t' D σ H) : PSd X e t := ⟨⟨fun pins s σ H D I w => h.run pins s σ H D I (sim D σ H w)⟩⟩
theorem PSsd.of {e : List Stmt} {t : TSd} {t' : TS} (h : PSs X e t') (sim : ∀ D σ H, lowS X.K t D σ H → t' D σ H) : PSsd X e t := ⟨⟨fun pins s σ H D I w => h.run pins s σ H D I (sim D σ H w)⟩⟩
theorem PWd.pt {e : Expr} {t : TTd} (h : PWd X e t) : PTd X e t := ⟨h.pw.pt⟩

/-! ### names and constants -/
def tvar (i : Nat) : TEd := fun ρ M Q => match ρ[i]? with
  | some (some d) => Q d M
  | _ => False
def tcon (d : D) : TEd := fun _ M Q => Q d M
theorem tvar_low {i : Nat} {K : PySem.W.Frag} (σ : St) (H : Hp) (Q : VK) (h : lowE K (tvar i) σ H Q) : tVar i σ H Q := by
  obtain ⟨ρ, M, Q0, re, rm, h, k⟩ := h
  unfold tvar at h
  split at h
  · rename_i d e
    obtain ⟨v, a, b⟩ := re.2 i d e
    exact ⟨v, a, k v H d M .refl b rm h⟩
  · exact h.elim
theorem ped_var {i : Nat} {x : Str} {pos : Pos} (hN : X.N[i]? = some x) (hv : Vis X.env.scope x) (hd : (x == ("__debug__" : Str)) = false := by decide) (hcd : (x == ("__classdict__" : Str)) = false := by decide) : PEd X (.Name x pos) (tvar i) :=
  .of (pe_var hN hv hd hcd) tvar_low
theorem tcon_low {K : PySem.W.Frag} {d : D} {v : V} (hr : ∀ H, Rel H d v) (σ : St) (H : Hp) (Q : VK) (h : lowE K (tcon d) σ H Q) : tC v σ H Q := by
  obtain ⟨ρ, M, Q0, re, rm, h, k⟩ := h
  exact k v H d M .refl (hr H) rm h
theorem ped_int {i j pos} : PEd X (.Constant (.int i) j pos) (tcon (.int i)) := .of pe_int (tcon_low (d := .int i) (v := .int i) fun _ => rfl)
theorem ped_bl {b j pos} : PEd X (.Constant (.bool b) j pos) (tcon (.bl b)) := .of pe_bl (tcon_low (d := .bl b) (v := .bl b) fun _ => rfl)
theorem ped_non {j pos} : PEd X (.Constant .none j pos) (tcon .non) := .of pe_non (tcon_low (d := .non) (v := .non) fun _ => rfl)
theorem ped_str {x j pos} : PEd X (.Constant (.str x) j pos) (tcon (.str x)) := .of pe_str (tcon_low (d := .str x) (v := .str x) fun _ => rfl)
theorem ped_glob {x : Str} {a : Addr} {pos : Pos} (hg : Gl X x) (hm : X.mg x = some (.ref a)) (hd : (x == ("__debug__" : Str)) = false := by decide) : PEd X (.Name x pos) (tcon (.ref a)) := .of (pe_glob (v := .ref a) hg hm rfl hd) (tcon_low (d := .ref a) (v := .ref a) fun _ => rfl)
theorem ped_ty {x : Str} {n : String} {pos : Pos} (hg : Gl X x) (hm : X.mg x = none) (hv : bootBuiltins x = some (.type n)) (hn : x ≠ "__name__" := by decide) (hd : (x == ("__debug__" : Str)) = false := by decide) : PEd X (.Name x pos) (tcon (.ty n)) :=
  .of (pe_bltn (v := .ty n) hg hm hv rfl hn hd) (tcon_low (d := .ty n) (v := .ty n) fun _ => rfl)

/-! ### operators by values -/
abbrev R2d := D → D → Mem → VKd → Prop
abbrev R1d := D → Mem → VKd → Prop
def lowR2 (K : PySem.W.Frag) (r : R2d) : R2 := fun x y H Q => ∃ a b M Q0, Rel H a x ∧ Rel H b y ∧ RelM K H M ∧ r a b M Q0 ∧ lowV K H Q0 Q
def lowR1 (K : PySem.W.Frag) (r : R1d) : V → Hp → VK → Prop := fun x H Q => ∃ a M Q0, Rel H a x ∧ RelM K H M ∧ r a M Q0 ∧ lowV K H Q0 Q
def top2 (r : R2d) (ta tb : TEd) : TEd := fun ρ M Q => ta ρ M fun x M1 => tb ρ M1 fun y M2 => r x y M2 Q
def top1 (r : R1d) (ta : TEd) : TEd := fun ρ M Q => ta ρ M fun x M1 => r x M1 Q
theorem top2_low {K : PySem.W.Frag} {r : R2d} {ta tb : TEd} (σ : St) (H : Hp) (Q : VK) (h : lowE K (top2 r ta tb) σ H Q) : tOp (lowR2 K r) (lowE K ta) (lowE K tb) σ H Q := by
  obtain ⟨ρ, M, Q0, re, rm, h, k⟩ := h
  exact ⟨ρ, M, _, re, rm, h, fun x H1 dx M1 t1 r1 m1 h1 => ⟨ρ, M1, _, re.tle t1, m1, h1, fun y H2 dy M2 t2 r2 m2 h2 => ⟨dx, dy, M2, Q0, r1.tle t2, r2, m2, h2, k.tle (t1.trans t2)⟩⟩⟩
theorem top1_low {K : PySem.W.Frag} {r : R1d} {ta : TEd} (σ : St) (H : Hp) (Q : VK) (h : lowE K (top1 r ta) σ H Q) : tUn (lowR1 K r) (lowE K ta) σ H Q := by
  obtain ⟨ρ, M, Q0, re, rm, h, k⟩ := h
  exact ⟨ρ, M, _, re, rm, h, fun x H1 dx M1 t1 r1 m1 h1 => ⟨dx, M1, Q0, r1, m1, h1, k.tle t1⟩⟩
theorem OpR.mono {f : Value → Value → Sem Value} {r r' : R2} (h : OpR X f r) (q : ∀ x y H Q, r' x y H Q → r x y H Q) : OpR X f r' := fun pins s σ H x y v u Q I rx ry w => h pins s σ H x y v u Q I rx ry (q x y H Q w)
theorem UnR.mono {f : Value → Sem Value} {r r' : V → Hp → VK → Prop} (h : UnR X f r) (q : ∀ x H Q, r' x H Q → r x H Q) : UnR X f r' := fun pins s σ H x v Q I rx w => h pins s σ H x v Q I rx (q x H Q w)
section
variable {op : Operator} {cop : CmpOp} {uop : UnaryOp} {r : R2d} {r1 : R1d} {a b : Expr} {ta tb : TEd} {pos : Pos}
theorem ped_op (ho : OpR X (binaryOp op) (lowR2 X.K r)) (ha : PEd X a ta) (hb : PEd X b tb) : PEd X (.BinOp a op b pos) (top2 r ta tb) := .of (pe_op ho ha.pe hb.pe) top2_low
theorem ped_un (ho : UnR X (unaryOp uop) (lowR1 X.K r1)) (ha : PEd X a ta) : PEd X (.UnaryOp uop a pos) (top1 r1 ta) := .of (pe_un ho ha.pe) top1_low
theorem ped_cmp (ho : OpR X (compareOp cop) (lowR2 X.K r)) (ha : PEd X a ta) (hb : PEd X b tb) (hm : behindInMarks cop b = false) : PEd X (.Compare a [cop] [b] pos) (top2 r ta tb) := .of (pe_cmpR ho ha.pe hb.pe hm) top2_low
end
end
end DL

end T_DL1

section T_DL2
set_option Elab.async false
set_option linter.all false
set_option maxRecDepth 100000
set_option maxHeartbeats 1000000
/-! The D layer, 2: operators, tests, simple statements. -/
namespace DL
open PySem PySem.Spec L2
open PyProof.Rows hiding St

theorem Rel.tupT {H : Hp} {ds : List D} {v : V} {K : PySem.W.Frag} (h : Rel H (.tup ds) v) : ∃ a vs, v = .ref a ∧ SqT K H a vs ∧ RelL H ds vs := by
  obtain ⟨a, vs, e, q, r⟩ := h
  exact ⟨a, vs, e, .of q, r⟩
theorem RelM.lst {K : PySem.W.Frag} {H : Hp} {M : Mem} {a : Addr} {ds : List D} (m : RelM K H M) (h : M a = some (.lst ds)) : ∃ vs, H a = some (.lst vs) ∧ RelL H ds vs := m a _ h
/-- what may be read at a as a list -/
def rdL (M : Mem) (a : Addr) : Option (List D) := match M a with
  | some (.lst xs) => some xs
  | some (.ro xs) => some xs
  | _ => none
theorem RelM.rdL {K : PySem.W.Frag} {H : Hp} {M : Mem} {a : Addr} {ds : List D} (m : RelM K H M) (h : rdL M a = some ds) : ∃ vs, SqL K H a vs ∧ RelL H ds vs := by
  unfold DL.rdL at h
  split at h
  · rename_i xs e; cases h; obtain ⟨vs, q, r⟩ := m a _ e; exact ⟨vs, .of q, r⟩
  · rename_i xs e; cases h; obtain ⟨vs, q, r⟩ := m a _ e; exact ⟨vs, .inl q, r⟩
  · cases h
theorem rdL_lst {M : Mem} {a : Addr} {ds : List D} (h : M a = some (.lst ds)) : rdL M a = some ds := by unfold rdL; rw [h]
theorem rdL_ro {M : Mem} {a : Addr} {ds : List D} (h : M a = some (.ro ds)) : rdL M a = some ds := by unfold rdL; rw [h]

/-! ### plain data, for == and in -/
mutual
inductive PyR (M : Mem) : D → PyData → Prop
  | non : PyR M .non .none
  | bl (b : Bool) : PyR M (.bl b) (.bool b)
  | int (i : Int) : PyR M (.int i) (.int i)
  | str (x : Str) : PyR M (.str x) (.str x)
  | tup {xs : List D} {ds : List PyData} : PyRL M xs ds → PyR M (.tup xs) (.tuple ds)
  | lst {a : Addr} {xs : List D} {ds : List PyData} : rdL M a = some xs → PyRL M xs ds → PyR M (.ref a) (.list ds)
inductive PyRL (M : Mem) : List D → List PyData → Prop
  | nil : PyRL M [] []
  | cons {x : D} {xs : List D} {d : PyData} {ds : List PyData} : PyR M x d → PyRL M xs ds → PyRL M (x :: xs) (d :: ds)
end
mutual
theorem PyR.dp {K : PySem.W.Frag} {H : Hp} {M : Mem} (m : RelM K H M) : ∀ (p : PyData) (d : D) (v : V), PyR M d p → Rel H d v → Dp K H v p
  | .none, _, _, .non, r => by cases r; exact .non
  | .bool _, _, _, .bl b, r => by cases r; exact .bl b
  | .int _, _, _, .int i, r => by cases r; exact .int i
  | .str _, _, _, .str x, r => by cases r; exact .str x
  | .tuple ps, _, _, .tup h, r => by
    obtain ⟨a, vs, e, q, rl⟩ := r
    subst e
    exact .tup (.of q) (PyRL.dp m ps _ _ h rl)
  | .list ps, _, _, .lst h hl, r => by
    cases r
    obtain ⟨vs, q, rl⟩ := m.rdL h
    exact .lst q (PyRL.dp m ps _ _ hl rl)
theorem PyRL.dp {K : PySem.W.Frag} {H : Hp} {M : Mem} (m : RelM K H M) : ∀ (ps : List PyData) (ds : List D) (vs : List V), PyRL M ds ps → RelL H ds vs → DpAll K H vs ps
  | [], _, _, .nil, r => by cases r; exact .nil
  | p :: ps, _, _, .cons h hl, r => by
    obtain ⟨v, vr, e, h1, h2⟩ := r
    subst e
    exact .cons (PyR.dp m p _ _ h h1) (PyRL.dp m ps _ _ hl h2)
end
mutual
/-- data without objects -/
def D.pure : D → Bool
  | .ref _ => false
  | .ty _ => false
  | .tup xs => D.pureL xs
  | _ => true
def D.pureL : List D → Bool
  | [] => true
  | x :: xs => D.pure x && D.pureL xs
end
mutual
def D.py : D → PyData
  | .non => .none
  | .bl b => .bool b
  | .int i => .int i
  | .str x => .str x
  | .ref _ => .none
  | .ty _ => .none
  | .tup xs => .tuple (D.pyL xs)
def D.pyL : List D → List PyData
  | [] => []
  | x :: xs => D.py x :: D.pyL xs
end
mutual
theorem PyR.of_pure {M : Mem} : ∀ {d : D}, d.pure = true → PyR M d d.py
  | .non, _ => .non
  | .bl b, _ => .bl b
  | .int i, _ => .int i
  | .str x, _ => .str x
  | .ref _, h => by simp [D.pure] at h
  | .ty _, h => by simp [D.pure] at h
  | .tup xs, h => .tup (PyRL.of_pure (by simpa [D.pure] using h))
theorem PyRL.of_pure {M : Mem} : ∀ {ds : List D}, D.pureL ds = true → PyRL M ds (D.pyL ds)
  | [], _ => .nil
  | x :: xs, h => by
    simp [D.pureL] at h
    exact .cons (PyR.of_pure h.1) (PyRL.of_pure h.2)
end

/-! ### operators -/
def addR : R2d
  | .int i, .int j, M, Q => Q (.int (i + j)) M
  | .str a, .str b, M, Q => a.length + b.length ≤ sizeLine ∧ Q (.str (a ++ b)) M
  | .tup xs, .tup ys, M, Q => xs.length + ys.length ≤ sizeLine ∧ Q (.tup (xs ++ ys)) M
  | .ref a, .ref b, M, Q => (match M a, M b with
    | some (.lst xs), some (.lst ys) => xs.length + ys.length ≤ sizeLine ∧ ∀ p, M p = none → Q (.ref p) (put M p (.lst (xs ++ ys)))
    | _, _ => False)
  | _, _, _, _ => False
def subR : R2d
  | .int i, .int j, M, Q => Q (.int (i - j)) M
  | _, _, _, _ => False
def mulR : R2d
  | .int i, .int j, M, Q => ((-(2 ^ 64) < i ∧ i < 2 ^ 64) ∨ (-(2 ^ 64) < j ∧ j < 2 ^ 64)) ∧ Q (.int (i * j)) M
  | .ref a, .int k, M, Q => (match M a with
    | some (.lst xs) => (-(2 ^ 63) ≤ k ∧ k < 2 ^ 63 ∧ xs.length * k.toNat ≤ sizeLine) ∧ ∀ p, M p = none → Q (.ref p) (put M p (.lst (List.replicate k.toNat xs).flatten))
    | _ => False)
  | .tup xs, .int k, M, Q => (xs ≠ [] ∧ 2 ≤ k ∧ k ≤ 1000 ∧ xs.length ≤ 1000) ∧ Q (.tup (List.replicate k.toNat xs).flatten) M
  | _, _, _, _ => False
def fdivR : R2d
  | .int i, .int j, M, Q => (0 < j ∧ j < 1073741824) ∧ Q (.int (i / j)) M
  | _, _, _, _ => False
def modR : R2d
  | .int i, .int j, M, Q => 0 < j ∧ Q (.int (i % j)) M
  | _, _, _, _ => False
def powR : R2d
  | .int i, .int j, M, Q => (0 ≤ j ∧ j ≤ 1000000 ∧ i.natAbs < 2 ^ 64) ∧ Q (.int (i ^ j.toNat)) M
  | _, _, _, _ => False
def negR : R1d
  | .int i, M, Q => Q (.int (-i)) M
  | _, _, _ => False
def ltR : R2d
  | .int i, .int j, M, Q => Q (.bl (decide (i < j))) M
  | _, _, _, _ => False
def leR : R2d
  | .int i, .int j, M, Q => Q (.bl (decide (i ≤ j))) M
  | _, _, _, _ => False
def gtR : R2d
  | .int i, .int j, M, Q => Q (.bl (decide (j < i))) M
  | _, _, _, _ => False
def geR : R2d
  | .int i, .int j, M, Q => Q (.bl (decide (j ≤ i))) M
  | _, _, _, _ => False
def eqD (x y : D) (M : Mem) (Q : Bool → Mem → Prop) : Prop := ∃ p q, PyR M x p ∧ PyR M y q ∧ SeqAt.shaped p = true ∧ SeqAt.shaped q = true ∧ Q (PyData.eqv p q) M
def eqR : R2d
  | .int i, .int j, M, Q => Q (.bl (decide (i = j))) M
  | .str i, .str j, M, Q => Q (.bl (decide (i = j))) M
  | .bl i, .bl j, M, Q => Q (.bl (decide (i = j))) M
  | x, y, M, Q => eqD x y M fun b M1 => Q (.bl b) M1
def neR : R2d
  | .int i, .int j, M, Q => Q (.bl (!decide (i = j))) M
  | .str i, .str j, M, Q => Q (.bl (!decide (i = j))) M
  | .bl i, .bl j, M, Q => Q (.bl (!decide (i = j))) M
  | x, y, M, Q => eqD x y M fun b M1 => Q (.bl (!b)) M1
/-- is None, is True, is False -/
def isR : R2d
  | x, .non, M, Q => Q (.bl (decide (x = .non))) M
  | .bl a, .bl b, M, Q => Q (.bl (decide (a = b))) M
  | _, _, _, _ => False
def isntR : R2d
  | x, .non, M, Q => Q (.bl (!decide (x = .non))) M
  | .bl a, .bl b, M, Q => Q (.bl (!decide (a = b))) M
  | _, _, _, _ => False
theorem lowV.int {K : PySem.W.Frag} {H : Hp} {M : Mem} {Q0 : VKd} {Q : VK} {i : Int} (k : lowV K H Q0 Q) (m : RelM K H M) (h : Q0 (.int i) M) : Q (.int i) H := k (.int i) H (.int i) M .refl rfl m h
theorem lowV.bl {K : PySem.W.Frag} {H : Hp} {M : Mem} {Q0 : VKd} {Q : VK} {i : Bool} (k : lowV K H Q0 Q) (m : RelM K H M) (h : Q0 (.bl i) M) : Q (.bl i) H := k (.bl i) H (.bl i) M .refl rfl m h
theorem lowV.str {K : PySem.W.Frag} {H : Hp} {M : Mem} {Q0 : VKd} {Q : VK} {i : Str} (k : lowV K H Q0 Q) (m : RelM K H M) (h : Q0 (.str i) M) : Q (.str i) H := k (.str i) H (.str i) M .refl rfl m h
theorem lowV.non {K : PySem.W.Frag} {H : Hp} {M : Mem} {Q0 : VKd} {Q : VK} (k : lowV K H Q0 Q) (m : RelM K H M) (h : Q0 .non M) : Q .non H := k .non H .non M .refl rfl m h
theorem lowV.ref {K : PySem.W.Frag} {H H' : Hp} {M : Mem} {Q0 : VKd} {Q : VK} {a : Addr} (k : lowV K H Q0 Q) (t : Tle H H') (m : RelM K H' M) (h : Q0 (.ref a) M) : Q (.ref a) H' := k (.ref a) H' (.ref a) M t rfl m h
theorem lowV.tup {K : PySem.W.Frag} {H H' : Hp} {M : Mem} {Q0 : VKd} {Q : VK} {a : Addr} {vs : List V} {ds : List D} (k : lowV K H Q0 Q) (t : Tle H H') (e : H' a = some (.tup vs)) (r : RelL H' ds vs) (m : RelM K H' M) (h : Q0 (.tup ds) M) : Q (.ref a) H' := k (.ref a) H' (.tup ds) M t ⟨a, vs, rfl, e, r⟩ m h
theorem lowV.any {K : PySem.W.Frag} {H : Hp} {M : Mem} {Q0 : VKd} {Q : VK} {d : D} {v : V} (k : lowV K H Q0 Q) (r : Rel H d v) (m : RelM K H M) (h : Q0 d M) : Q v H := k v H d M .refl r m h
/-- a list is new -/
theorem lowV.newL {K : PySem.W.Frag} {H : Hp} {M : Mem} {Q0 : VKd} {Q : VK} {p : Addr} {vs : List V} {ds : List D} (k : lowV K H Q0 Q) (m : RelM K H M) (hp : H p = none) (r : RelL H ds vs) (h : ∀ p, M p = none → Q0 (.ref p) (put M p (.lst ds))) : Q (.ref p) (upd H p (.lst vs)) :=
  k.ref (.new hp) (m.new (d := .lst ds) hp ⟨vs, upd_same, r.tle (.new hp)⟩) (h p (m.fresh hp))
/-- a tuple is new -/
theorem lowV.newT {K : PySem.W.Frag} {H : Hp} {M : Mem} {Q0 : VKd} {Q : VK} {p : Addr} {vs : List V} {ds : List D} (k : lowV K H Q0 Q) (m : RelM K H M) (hp : H p = none) (r : RelL H ds vs) (h : Q0 (.tup ds) M) : Q (.ref p) (upd H p (.tup vs)) :=
  k.tup (.new hp) upd_same (r.tle (.new hp)) (m.more hp) h
theorem Rel.non_iff {H : Hp} {d : D} {v : V} (h : Rel H d v) : decide (v = .non) = decide (d = D.non) := by
  cases d with
  | tup xs => obtain ⟨a, vs, e, _⟩ := h; subst e; simp
  | _ => cases h; simp
section
variable {X : Cx}
theorem op_addD : OpR X (binaryOp .Add) (lowR2 X.K addR) := by
  refine OpR.mono ((op_add.or op_add_str).or (op_catA.or op_cat)) fun x y H Q w => ?_
  obtain ⟨a, b, M, Q0, ra, rb, m, h, k⟩ := w
  cases a with
  | int i => cases b with
    | int j => cases ra; cases rb; exact .inl (.inl ⟨_, _, rfl, rfl, k.int m h⟩)
    | _ => exact h.elim
  | str i => cases b with
    | str j => cases ra; cases rb; exact .inl (.inr ⟨_, _, rfl, rfl, h.1, k.str m h.2⟩)
    | _ => exact h.elim
  | ref a => cases b with
    | ref b =>
      cases ra; cases rb
      refine .inr (.inr ?_)
      have h' : (match M a, M b with
        | some (.lst xs), some (.lst ys) => xs.length + ys.length ≤ sizeLine ∧ ∀ p, M p = none → Q0 (.ref p) (put M p (.lst (xs ++ ys)))
        | _, _ => False) := h
      split at h'
      · rename_i xs ys e1 e2
        obtain ⟨vs, q1, r1⟩ := m.lst e1
        obtain ⟨us, q2, r2⟩ := m.lst e2
        exact ⟨a, b, vs, us, rfl, rfl, q1, q2, by rw [r1.length, r2.length]; exact h'.1, fun p hp => k.newL m hp (r1.append r2) h'.2⟩
      · exact h'.elim
    | _ => exact h.elim
  | tup xs => cases b with
    | tup ys =>
      obtain ⟨a, vs, e1, q1, r1⟩ := ra
      obtain ⟨b, us, e2, q2, r2⟩ := rb
      subst e1 e2
      have h2 : Q0 (.tup (xs ++ ys)) M := h.2
      refine .inr (.inl ⟨a, b, vs, us, rfl, rfl, .of q1, .of q2, by rw [r1.length, r2.length]; exact h.1, fun e => ?_, fun _ e => ?_, fun _ _ p hp => ?_⟩)
      · subst e
        cases xs with
        | nil => exact k.tup .refl q2 r2 m h2
        | cons x xs => obtain ⟨_, _, e, _⟩ := r1; cases e
      · subst e
        cases ys with
        | nil => exact k.tup .refl q1 (by rw [List.append_nil]; exact r1) m h2
        | cons x xs => obtain ⟨_, _, e, _⟩ := r2; cases e
      · exact k.newT m hp (r1.append r2) h2
    | _ => exact h.elim
  | _ => cases b <;> exact h.elim
theorem op_mulD : OpR X (binaryOp .Mult) (lowR2 X.K mulR) := by
  refine OpR.mono (op_mul.or (op_rep.or op_repT)) fun x y H Q w => ?_
  obtain ⟨a, b, M, Q0, ra, rb, m, h, k⟩ := w
  cases a with
  | int i => cases b with
    | int j => cases ra; cases rb; exact .inl ⟨_, _, rfl, rfl, h.1, k.int m h.2⟩
    | _ => exact h.elim
  | ref a => cases b with
    | int n =>
      cases ra; cases rb
      have h' : (match M a with
        | some (.lst xs) => (-(2 ^ 63) ≤ n ∧ n < 2 ^ 63 ∧ xs.length * n.toNat ≤ sizeLine) ∧ ∀ p, M p = none → Q0 (.ref p) (put M p (.lst (List.replicate n.toNat xs).flatten))
        | _ => False) := h
      split at h'
      · rename_i xs e1
        obtain ⟨vs, q1, r1⟩ := m.lst e1
        exact .inr (.inl ⟨a, n, vs, rfl, rfl, q1, h'.1.1, h'.1.2.1, by rw [r1.length]; exact h'.1.2.2, fun p hp => k.newL m hp (r1.flat _) h'.2⟩)
      · exact h'.elim
    | _ => exact h.elim
  | tup xs => cases b with
    | int n =>
      cases rb
      obtain ⟨a, vs, e1, q1, r1⟩ := ra
      subst e1
      obtain ⟨⟨h1, h2, h3, h4⟩, h⟩ := h
      refine .inr (.inr ⟨a, n, vs, rfl, rfl, .of q1, fun e => ?_, h2, h3, by rw [r1.length]; exact h4, fun p hp => k.newT m hp (r1.flat _) h⟩)
      subst e
      cases xs with
      | nil => exact h1 rfl
      | cons x xs => obtain ⟨_, _, e, _⟩ := r1; cases e
    | _ => exact h.elim
  | _ => cases b <;> exact h.elim
theorem op_subD : OpR X (binaryOp .Sub) (lowR2 X.K subR) := by
  refine OpR.mono op_sub fun x y H Q w => ?_
  obtain ⟨a, b, M, Q0, ra, rb, m, h, k⟩ := w
  cases a with
  | int i => cases b with
    | int j => cases ra; cases rb; exact ⟨_, _, rfl, rfl, k.int m h⟩
    | _ => exact h.elim
  | _ => cases b <;> exact h.elim
theorem op_fdivD : OpR X (binaryOp .FloorDiv) (lowR2 X.K fdivR) := by
  refine OpR.mono op_fdiv fun x y H Q w => ?_
  obtain ⟨a, b, M, Q0, ra, rb, m, h, k⟩ := w
  cases a with
  | int i => cases b with
    | int j => cases ra; cases rb; exact ⟨_, _, rfl, rfl, h.1, k.int m h.2⟩
    | _ => exact h.elim
  | _ => cases b <;> exact h.elim
theorem op_modD : OpR X (binaryOp .Mod) (lowR2 X.K modR) := by
  refine OpR.mono op_mod fun x y H Q w => ?_
  obtain ⟨a, b, M, Q0, ra, rb, m, h, k⟩ := w
  cases a with
  | int i => cases b with
    | int j => cases ra; cases rb; exact ⟨_, _, rfl, rfl, h.1, k.int m h.2⟩
    | _ => exact h.elim
  | _ => cases b <;> exact h.elim
theorem op_powD : OpR X (binaryOp .Pow) (lowR2 X.K powR) := by
  refine OpR.mono op_pow fun x y H Q w => ?_
  obtain ⟨a, b, M, Q0, ra, rb, m, h, k⟩ := w
  cases a with
  | int i => cases b with
    | int j => cases ra; cases rb; exact ⟨_, _, rfl, rfl, h.1, k.int m h.2⟩
    | _ => exact h.elim
  | _ => cases b <;> exact h.elim
theorem op_ltD : OpR X (compareOp .Lt) (lowR2 X.K ltR) := by
  refine OpR.mono op_lt fun x y H Q w => ?_
  obtain ⟨a, b, M, Q0, ra, rb, m, h, k⟩ := w
  cases a with
  | int i => cases b with
    | int j => cases ra; cases rb; exact ⟨_, _, rfl, rfl, k.bl m h⟩
    | _ => exact h.elim
  | _ => cases b <;> exact h.elim
theorem op_leD : OpR X (compareOp .LtE) (lowR2 X.K leR) := by
  refine OpR.mono op_le fun x y H Q w => ?_
  obtain ⟨a, b, M, Q0, ra, rb, m, h, k⟩ := w
  cases a with
  | int i => cases b with
    | int j => cases ra; cases rb; exact ⟨_, _, rfl, rfl, k.bl m h⟩
    | _ => exact h.elim
  | _ => cases b <;> exact h.elim
theorem op_gtD : OpR X (compareOp .Gt) (lowR2 X.K gtR) := by
  refine OpR.mono op_gt fun x y H Q w => ?_
  obtain ⟨a, b, M, Q0, ra, rb, m, h, k⟩ := w
  cases a with
  | int i => cases b with
    | int j => cases ra; cases rb; exact ⟨_, _, rfl, rfl, k.bl m h⟩
    | _ => exact h.elim
  | _ => cases b <;> exact h.elim
theorem op_geD : OpR X (compareOp .GtE) (lowR2 X.K geR) := by
  refine OpR.mono op_ge fun x y H Q w => ?_
  obtain ⟨a, b, M, Q0, ra, rb, m, h, k⟩ := w
  cases a with
  | int i => cases b with
    | int j => cases ra; cases rb; exact ⟨_, _, rfl, rfl, k.bl m h⟩
    | _ => exact h.elim
  | _ => cases b <;> exact h.elim
theorem un_negD : UnR X (unaryOp .USub) (lowR1 X.K negR) := by
  refine UnR.mono un_neg fun x H Q w => ?_
  obtain ⟨a, M, Q0, ra, m, h, k⟩ := w
  cases a with
  | int i => cases ra; exact ⟨_, rfl, k.int m h⟩
  | _ => exact h.elim
theorem op_eqDD (hu : X.A.units + 64 < cLine) : OpR X (compareOp .Eq) (lowR2 X.K eqR) := by
  refine OpR.mono (op_eq.or (op_eqD hu)) fun x y H Q w => ?_
  obtain ⟨a, b, M, Q0, ra, rb, m, h, k⟩ := w
  have gen : (eqD a b M fun b M1 => Q0 (.bl (b)) M1) → rEqD X.K x y H Q := fun z => by
    obtain ⟨p, q, h1, h2, s1, s2, h⟩ := z
    exact ⟨p, q, PyR.dp m _ _ _ h1 ra, PyR.dp m _ _ _ h2 rb, s1, s2, k.bl m h⟩
  cases a with
  | int i => cases b with
    | int j => cases ra; cases rb; exact .inl ⟨rfl, by simp only [V.int.injEq]; exact k.bl m h⟩
    | _ => exact .inr (gen h)
  | str i => cases b with
    | str j => cases ra; cases rb; exact .inl ⟨rfl, by simp only [V.str.injEq]; exact k.bl m h⟩
    | _ => exact .inr (gen h)
  | bl i => cases b with
    | bl j => cases ra; cases rb; exact .inl ⟨rfl, by simp only [V.bl.injEq]; exact k.bl m h⟩
    | _ => exact .inr (gen h)
  | _ => cases b <;> exact .inr (gen h)
theorem op_neDD (hu : X.A.units + 64 < cLine) : OpR X (compareOp .NotEq) (lowR2 X.K neR) := by
  refine OpR.mono (op_ne.or (op_neD hu)) fun x y H Q w => ?_
  obtain ⟨a, b, M, Q0, ra, rb, m, h, k⟩ := w
  have gen : (eqD a b M fun b M1 => Q0 (.bl (!b)) M1) → rNeD X.K x y H Q := fun z => by
    obtain ⟨p, q, h1, h2, s1, s2, h⟩ := z
    exact ⟨p, q, PyR.dp m _ _ _ h1 ra, PyR.dp m _ _ _ h2 rb, s1, s2, k.bl m h⟩
  cases a with
  | int i => cases b with
    | int j => cases ra; cases rb; exact .inl ⟨rfl, by simp only [V.int.injEq]; exact k.bl m h⟩
    | _ => exact .inr (gen h)
  | str i => cases b with
    | str j => cases ra; cases rb; exact .inl ⟨rfl, by simp only [V.str.injEq]; exact k.bl m h⟩
    | _ => exact .inr (gen h)
  | bl i => cases b with
    | bl j => cases ra; cases rb; exact .inl ⟨rfl, by simp only [V.bl.injEq]; exact k.bl m h⟩
    | _ => exact .inr (gen h)
  | _ => cases b <;> exact .inr (gen h)
theorem op_isD : OpR X (compareOp .Is) (lowR2 X.K isR) := by
  refine OpR.mono (op_isN.or op_isBl) fun x y H Q w => ?_
  obtain ⟨a, b, M, Q0, ra, rb, m, h, k⟩ := w
  cases b with
  | non =>
    cases rb
    have h' : Q0 (.bl (decide (a = .non))) M := by cases a <;> exact h
    exact .inl ⟨rfl, by rw [ra.non_iff]; exact k.bl m h'⟩
  | bl j =>
    cases a with
    | bl i => cases ra; cases rb; exact .inr ⟨_, _, rfl, rfl, k.bl m h⟩
    | _ => exact h.elim
  | _ => cases a <;> exact h.elim
theorem op_isntD : OpR X (compareOp .IsNot) (lowR2 X.K isntR) := by
  refine OpR.mono (op_notN.or op_notBl) fun x y H Q w => ?_
  obtain ⟨a, b, M, Q0, ra, rb, m, h, k⟩ := w
  cases b with
  | non =>
    cases rb
    have h' : Q0 (.bl (!decide (a = .non))) M := by cases a <;> exact h
    exact .inl ⟨rfl, by rw [ra.non_iff]; exact k.bl m h'⟩
  | bl j =>
    cases a with
    | bl i => cases ra; cases rb; exact .inr ⟨_, _, rfl, rfl, k.bl m h⟩
    | _ => exact h.elim
  | _ => cases a <;> exact h.elim
end
end DL

end T_DL2

section T_DL3
set_option Elab.async false
set_option linter.all false
set_option maxRecDepth 100000
set_option maxHeartbeats 1000000
/-! The D layer, 3: tests, displays, small statements, while. -/
namespace DL
open PySem PySem.Spec L2
open PyProof.Rows hiding St

/-! ### tests -/
/-- the truth of a value -/
def truR (x : D) (M : Mem) (Q : Bool → Mem → Prop) : Prop := match x with
  | .bl b => Q b M
  | .non => Q false M
  | .int i => Q (i != 0) M
  | .str s => s.length ≤ sizeLine ∧ Q ((s.length : Int) != 0) M
  | .tup xs => Q (!xs.isEmpty) M
  | .ref a => (match M a with
    | some (.lst xs) => Q (!xs.isEmpty) M
    | some (.dK kvs) => Q (!kvs.isEmpty) M
    | _ => False)
  | .ty _ => False
def ttest (t : TEd) : TTd := fun ρ M Q => t ρ M fun x M1 => match x with
  | .bl b => Q b M1
  | _ => False
def ttru (t : TEd) : TTd := fun ρ M Q => t ρ M fun x M1 => truR x M1 Q
theorem ttest_low {K : PySem.W.Frag} {t : TEd} (σ : St) (H : Hp) (Q : Bool → Hp → Prop) (h : lowT K (ttest t) σ H Q) : tTest (lowE K t) σ H Q := by
  obtain ⟨ρ, M, Q0, re, rm, h, k⟩ := h
  refine ⟨ρ, M, _, re, rm, h, fun x H1 dx M1 t1 r1 m1 h1 => ?_⟩
  cases dx with
  | bl b => cases r1; exact ⟨b, rfl, k b H1 M1 t1 m1 h1⟩
  | _ => exact h1.elim
theorem RelL.isEmpty {H : Hp} {ds : List D} {vs : List V} (r : RelL H ds vs) : vs.isEmpty = ds.isEmpty := by
  have := r.length
  cases ds <;> cases vs <;> simp_all
theorem truR_low {K : PySem.W.Frag} {H : Hp} {M : Mem} {d : D} {v : V} {Q0 : Bool → Mem → Prop} {Q : Bool → Hp → Prop} (r : Rel H d v) (m : RelM K H M) (h : truR d M Q0) (k : ∀ b H' M', Tle H H' → RelM K H' M' → Q0 b M' → Q b H') : ∃ b, TruV K v H b ∧ Q b H := by
  cases d with
  | bl b => cases r; exact ⟨b, rfl, k b H M .refl m h⟩
  | non => cases r; exact ⟨false, rfl, k _ H M .refl m h⟩
  | int i => cases r; exact ⟨_, rfl, k _ H M .refl m h⟩
  | str s => cases r; exact ⟨_, ⟨h.1, rfl⟩, k _ H M .refl m h.2⟩
  | tup xs =>
    obtain ⟨a, vs, e, q, rl⟩ := r
    subst e
    exact ⟨_, .inr (.inl ⟨vs, .of q, rfl⟩), by rw [rl.isEmpty]; exact k _ H M .refl m h⟩
  | ref a =>
    cases r
    have h' : (match M a with
      | some (.lst xs) => Q0 (!xs.isEmpty) M
      | some (.dK kvs) => Q0 (!kvs.isEmpty) M
      | _ => False) := h
    split at h'
    · rename_i xs e
      obtain ⟨vs, q, rl⟩ := m.lst e
      exact ⟨_, .inl ⟨vs, .of q, rfl⟩, by rw [rl.isEmpty]; exact k _ H M .refl m h'⟩
    · rename_i kvs e
      obtain ⟨hv, q, rl⟩ := m a _ e
      have el : hv.isEmpty = kvs.isEmpty := by
        have := Paired.length rl
        cases hv <;> cases kvs <;> simp_all
      exact ⟨_, .inr (.inr ⟨hv, q, rfl⟩), by rw [el]; exact k _ H M .refl m h'⟩
    · exact h'.elim
  | ty _ => exact h.elim
def tandT (t u : TTd) : TTd := fun ρ M Q => t ρ M fun c M1 => if c = true then u ρ M1 Q else Q false M1
def torT (t u : TTd) : TTd := fun ρ M Q => t ρ M fun c M1 => if c = true then Q true M1 else u ρ M1 Q
def tnotT (t : TTd) : TTd := fun ρ M Q => t ρ M fun c M1 => Q (!c) M1
def tandV (ta tb : TEd) : TEd := fun ρ M Q => ta ρ M fun x M1 => match x with
  | .bl c => if c = true then tb ρ M1 Q else Q (.bl false) M1
  | _ => False
def torV (ta tb : TEd) : TEd := fun ρ M Q => ta ρ M fun x M1 => match x with
  | .bl c => if c = true then Q (.bl true) M1 else tb ρ M1 Q
  | _ => False
def tnotV (ta : TEd) : TEd := fun ρ M Q => ta ρ M fun x M1 => match x with
  | .bl c => Q (.bl (!c)) M1
  | _ => False
def tif (t : TTd) (ta tb : TEd) : TEd := fun ρ M Q => t ρ M fun c M1 => if c = true then ta ρ M1 Q else tb ρ M1 Q
/-- a op b op' c -/
def tchain (r r' : R2d) (ta tb tc : TEd) : TEd := fun ρ M Q => ta ρ M fun x M1 => tb ρ M1 fun y M2 => r x y M2 fun z M3 => match z with
  | .bl k => if k = true then tc ρ M3 fun w M4 => r' y w M4 Q else Q (.bl false) M3
  | _ => False
section
variable {X : Cx} {a b c e : Expr} {rest : List Expr} {ta tb tc : TEd} {tA tB : TTd} {pos : Pos} {cop cop' : CmpOp} {r r' : R2d}
theorem ptd_cmp (ho : OpR X (compareOp cop) (lowR2 X.K r)) (ha : PEd X a ta) (hb : PEd X b tb) (hm : behindInMarks cop b = false) : PTd X (.Compare a [cop] [b] pos) (ttest (top2 r ta tb)) := by
  refine .of (pt_cmpR ho ha.pe hb.pe hm) fun σ H Q h => ?_
  obtain ⟨ρ, M, Q0, re, rm, h, k⟩ := ttest_low σ H Q h
  exact top2_low σ H _ ⟨ρ, M, Q0, re, rm, h, k⟩
theorem tchain_low {K : PySem.W.Frag} (σ : St) (H : Hp) (Q : VK) (h : lowE K (tchain r r' ta tb tc) σ H Q) : tChain (lowR2 K r) (lowR2 K r') (lowE K ta) (lowE K tb) (lowE K tc) σ H Q := by
  obtain ⟨ρ, M, Q0, re, rm, h, k⟩ := h
  refine ⟨ρ, M, _, re, rm, h, fun x H1 dx M1 t1 r1 m1 h1 => ⟨ρ, M1, _, re.tle t1, m1, h1, fun y H2 dy M2 t2 r2 m2 h2 => ⟨dx, dy, M2, _, r1.tle t2, r2, m2, h2, fun z H3 dz M3 t3 rz m3 h3 => ?_⟩⟩⟩
  cases dz with
  | bl c =>
    cases rz
    refine ⟨c, rfl, ?_⟩
    have k3 := k.tle ((t1.trans t2).trans t3)
    cases c with
    | true => exact ⟨ρ, M3, _, re.tle ((t1.trans t2).trans t3), m3, h3, fun w H4 dw M4 t4 rw m4 h4 => ⟨dy, dw, M4, Q0, r2.tle (t3.trans t4), rw, m4, h4, k3.tle t4⟩⟩
    | false => exact k3.bl m3 h3
  | _ => exact h3.elim
theorem ped_chain (ho : OpR X (compareOp cop) (lowR2 X.K r)) (ho' : OpR X (compareOp cop') (lowR2 X.K r')) (ha : PEd X a ta) (hb : PEd X b tb) (hc : PEd X c tc)
    (hm : lastMarks [cop, cop'] [b, c] = false := by with_unfolding_all rfl) : PEd X (.Compare a [cop, cop'] [b, c] pos) (tchain r r' ta tb tc) := .of (pe_chain ho ho' ha.pe hb.pe hc.pe hm) tchain_low
theorem ptd_chain (ho : OpR X (compareOp cop) (lowR2 X.K r)) (ho' : OpR X (compareOp cop') (lowR2 X.K r')) (ha : PEd X a ta) (hb : PEd X b tb) (hc : PEd X c tc)
    (hm : lastMarks [cop, cop'] [b, c] = false := by with_unfolding_all rfl) : PTd X (.Compare a [cop, cop'] [b, c] pos) (ttest (tchain r r' ta tb tc)) := by
  refine .of (pt_chain ho ho' ha.pe hb.pe hc.pe hm) fun σ H Q h => ?_
  obtain ⟨ρ, M, Q0, re, rm, h, k⟩ := ttest_low σ H Q h
  exact tchain_low σ H _ ⟨ρ, M, Q0, re, rm, h, k⟩
theorem ptd_truth (ha : PEd X a ta) (he : ∀ whole, isTrue a X.env whole = (do let v ← whole; standAt a.pos; holding [v] (truthy v)) := by intro _; rfl) : PTd X a (ttru ta) := by
  refine .of (pt_truth ha.pe he) fun σ H Q h => ?_
  obtain ⟨ρ, M, Q0, re, rm, h, k⟩ := h
  exact ⟨ρ, M, _, re, rm, h, fun x H1 dx M1 t1 r1 m1 h1 => truR_low r1 m1 h1 fun b H' M' t' m' q => k b H' M' (t1.trans t') m' q⟩
theorem pwd_and1 (ha : PTd X a tA) : PWd X (.BoolOp .And [a] pos) tA := ⟨pw_and1 ha.pt⟩
theorem pwd_or1 (ha : PTd X a tA) : PWd X (.BoolOp .Or [a] pos) tA := ⟨pw_or1 ha.pt⟩
theorem pwd_and (ha : PTd X a tA) (hb : PWd X (.BoolOp .And (b :: rest) pos) tB) : PWd X (.BoolOp .And (a :: b :: rest) pos) (tandT tA tB) := by
  refine .of (pw_and ha.pt hb.pw) fun σ H Q h => ?_
  obtain ⟨ρ, M, Q0, re, rm, h, k⟩ := h
  refine ⟨ρ, M, _, re, rm, h, fun c H1 M1 t1 m1 h1 => ?_⟩
  cases c with
  | true => exact ⟨ρ, M1, Q0, re.tle t1, m1, h1, fun b H' M' t' m' q => k b H' M' (t1.trans t') m' q⟩
  | false => exact k false H1 M1 t1 m1 h1
theorem pwd_or (ha : PTd X a tA) (hb : PWd X (.BoolOp .Or (b :: rest) pos) tB) : PWd X (.BoolOp .Or (a :: b :: rest) pos) (torT tA tB) := by
  refine .of (pw_or ha.pt hb.pw) fun σ H Q h => ?_
  obtain ⟨ρ, M, Q0, re, rm, h, k⟩ := h
  refine ⟨ρ, M, _, re, rm, h, fun c H1 M1 t1 m1 h1 => ?_⟩
  cases c with
  | true => exact k true H1 M1 t1 m1 h1
  | false => exact ⟨ρ, M1, Q0, re.tle t1, m1, h1, fun b H' M' t' m' q => k b H' M' (t1.trans t') m' q⟩
theorem ptd_not (ha : PTd X a tA) : PTd X (.UnaryOp .Not a pos) (tnotT tA) := by
  refine .of (pt_not ha.pt) fun σ H Q h => ?_
  obtain ⟨ρ, M, Q0, re, rm, h, k⟩ := h
  exact ⟨ρ, M, _, re, rm, h, fun c H1 M1 t1 m1 h1 => k _ H1 M1 t1 m1 h1⟩
theorem ped_one {op} (h : PEd X a ta) : PEd X (.BoolOp op [a] pos) ta := ⟨pe_one h.pe⟩
theorem ped_and (ha : PEd X a ta) (hb : PEd X (.BoolOp .And (b :: rest) pos) tb) : PEd X (.BoolOp .And (a :: b :: rest) pos) (tandV ta tb) := by
  refine .of (pe_and ha.pe hb.pe) fun σ H Q h => ?_
  obtain ⟨ρ, M, Q0, re, rm, h, k⟩ := h
  refine ⟨ρ, M, _, re, rm, h, fun x H1 dx M1 t1 r1 m1 h1 => ?_⟩
  cases dx with
  | bl c =>
    cases r1
    refine ⟨c, rfl, ?_⟩
    cases c with
    | true => exact ⟨ρ, M1, Q0, re.tle t1, m1, h1, k.tle t1⟩
    | false => exact (k.tle t1).bl m1 h1
  | _ => exact h1.elim
theorem ped_or (ha : PEd X a ta) (hb : PEd X (.BoolOp .Or (b :: rest) pos) tb) : PEd X (.BoolOp .Or (a :: b :: rest) pos) (torV ta tb) := by
  refine .of (pe_or ha.pe hb.pe) fun σ H Q h => ?_
  obtain ⟨ρ, M, Q0, re, rm, h, k⟩ := h
  refine ⟨ρ, M, _, re, rm, h, fun x H1 dx M1 t1 r1 m1 h1 => ?_⟩
  cases dx with
  | bl c =>
    cases r1
    refine ⟨c, rfl, ?_⟩
    cases c with
    | true => exact (k.tle t1).bl m1 h1
    | false => exact ⟨ρ, M1, Q0, re.tle t1, m1, h1, k.tle t1⟩
  | _ => exact h1.elim
theorem ped_not (ha : PEd X a ta) : PEd X (.UnaryOp .Not a pos) (tnotV ta) := by
  refine .of (pe_not ha.pe) fun σ H Q h => ?_
  obtain ⟨ρ, M, Q0, re, rm, h, k⟩ := h
  refine ⟨ρ, M, _, re, rm, h, fun x H1 dx M1 t1 r1 m1 h1 => ?_⟩
  cases dx with
  | bl c => cases r1; exact ⟨c, rfl, (k.tle t1).bl m1 h1⟩
  | _ => exact h1.elim
theorem ped_if (hc : PTd X c tA) (ha : PEd X a ta) (hb : PEd X b tb) : PEd X (.IfExp c a b pos) (tif tA ta tb) := by
  refine .of (pe_ifExp hc.pt ha.pe hb.pe) fun σ H Q h => ?_
  obtain ⟨ρ, M, Q0, re, rm, h, k⟩ := h
  refine ⟨ρ, M, _, re, rm, h, fun c H1 M1 t1 m1 h1 => ?_⟩
  cases c with
  | true => exact ⟨ρ, M1, Q0, re.tle t1, m1, h1, k.tle t1⟩
  | false => exact ⟨ρ, M1, Q0, re.tle t1, m1, h1, k.tle t1⟩
end

/-! ### argument lists, displays -/
def tnil : TAd := fun _ M Q => Q [] M
def tcons (ta : TEd) (tr : TAd) : TAd := fun ρ M Q => ta ρ M fun x M1 => tr ρ M1 fun xs M2 => Q (x :: xs) M2
def ttup (t : TAd) : TEd := fun ρ M Q => t ρ M fun xs M1 => xs.length ≤ sizeLine ∧ Q (.tup xs) M1
def tlst (t : TAd) : TEd := fun ρ M Q => t ρ M fun xs M1 => xs.length ≤ sizeLine ∧ ∀ p, M1 p = none → Q (.ref p) (put M1 p (.lst xs))
section
variable {X : Cx} {e : Expr} {es : List Expr} {te : TEd} {t : TAd} {pos : Pos}
theorem pad_nil : PAd X [] tnil := by
  refine .of pa_nil fun σ H Q h => ?_
  obtain ⟨ρ, M, Q0, re, rm, h, k⟩ := h
  exact k [] H [] M .refl rfl rm h
theorem pad_cons (ha : PEd X e te) (hr : PAd X es t) (hs : starEach (e :: es) X.env = (false, eval e X.env) :: starEach es X.env := by rfl) : PAd X (e :: es) (tcons te t) := by
  refine .of (pa_cons ha.pe hr.pa hs) fun σ H Q h => ?_
  obtain ⟨ρ, M, Q0, re, rm, h, k⟩ := h
  exact ⟨ρ, M, _, re, rm, h, fun x H1 dx M1 t1 r1 m1 h1 => ⟨ρ, M1, _, re.tle t1, m1, h1, fun xs H2 ds M2 t2 r2 m2 h2 => k _ H2 _ M2 (t1.trans t2) (.cons (r1.tle t2) r2) m2 h2⟩⟩
theorem ped_tup {x1} (h : PAd X es t) : PEd X (.Tuple es x1 pos) (ttup t) := by
  refine .of (pe_tup h.pa) fun σ H Q h => ?_
  obtain ⟨ρ, M, Q0, re, rm, h, k⟩ := h
  exact ⟨ρ, M, _, re, rm, h, fun vs H1 ds M1 t1 r1 m1 h1 => ⟨by rw [r1.length]; exact h1.1, fun p hp => (k.tle t1).newT m1 hp r1 h1.2⟩⟩
theorem ped_lst (h : PAd X es t) : PEd X (.List es pos) (tlst t) := by
  refine .of (pe_lst h.pa) fun σ H Q h => ?_
  obtain ⟨ρ, M, Q0, re, rm, h, k⟩ := h
  exact ⟨ρ, M, _, re, rm, h, fun vs H1 ds M1 t1 r1 m1 h1 => ⟨by rw [r1.length]; exact h1.1, fun p hp => (k.tle t1).newL m1 hp r1 h1.2⟩⟩
end

/-! ### statements -/
def tnext : TSd := fun D ρ M => D.nx ρ M
def tseq (t u : TSd) : TSd := fun D ρ M => t { D with nx := u D } ρ M
def tbreak : TSd := fun D ρ M => D.bk ρ M
def tcont : TSd := fun D ρ M => D.ct ρ M
def tdrop (te : TEd) : TSd := fun D ρ M => te ρ M fun _ M1 => D.nx ρ M1
def tret (te : TEd) : TSd := fun D ρ M => te ρ M D.rt
def tretN : TSd := fun D _ M => D.rt .non M
def tifS (c : TTd) (t u : TSd) : TSd := fun D ρ M => c ρ M fun b M1 => if b = true then t D ρ M1 else u D ρ M1
def tnever : TSd := fun _ _ _ => False
section
variable {X : Cx} {st : Stmt} {rest : List Stmt} {t u : TSd} {e : Expr} {te : TEd} {pos : Pos}
theorem pssd_nil : PSsd X [] tnext := by
  refine .of pss_nil fun D σ H h => ?_
  obtain ⟨ρ, M, E0, re, rm, h, k⟩ := h
  exact k.nx σ H ρ M .refl re rm h
theorem pssd_cons (h1 : PSd X st t) (h2 : PSsd X rest u) : PSsd X (st :: rest) (tseq t u) := by
  refine .of (pss_cons h1.ps h2.ps) fun D σ H h => ?_
  obtain ⟨ρ, M, E0, re, rm, h, k⟩ := h
  exact ⟨ρ, M, _, re, rm, h, ⟨fun σ1 H1 ρ1 M1 t1 r1 m1 h1 => ⟨ρ1, M1, E0, r1, m1, h1, k.tle t1⟩, k.rt, k.bk, k.ct⟩⟩
theorem pssd_one (h1 : PSd X st t) : PSsd X [st] t := ⟨pss_one h1.ps⟩
theorem psd_pass : PSd X (.Pass pos) tnext := by
  refine .of ps_pass fun D σ H h => ?_
  obtain ⟨ρ, M, E0, re, rm, h, k⟩ := h
  exact k.nx σ H ρ M .refl re rm h
theorem psd_break : PSd X (.Break pos) tbreak := by
  refine .of ps_break fun D σ H h => ?_
  obtain ⟨ρ, M, E0, re, rm, h, k⟩ := h
  exact k.bk σ H ρ M .refl re rm h
theorem psd_continue : PSd X (.Continue pos) tcont := by
  refine .of ps_continue fun D σ H h => ?_
  obtain ⟨ρ, M, E0, re, rm, h, k⟩ := h
  exact k.ct σ H ρ M .refl re rm h
theorem psd_expr (he : PEd X e te) (hs : swapsWith e none pos.line X.env = pure false := by rfl) : PSd X (.Expr e pos) (tdrop te) := by
  refine .of (ps_expr he.pe hs) fun D σ H h => ?_
  obtain ⟨ρ, M, E0, re, rm, h, k⟩ := h
  exact ⟨ρ, M, _, re, rm, h, fun x H1 dx M1 t1 r1 m1 h1 => k.nx σ H1 ρ M1 t1 (re.tle t1) m1 h1⟩
theorem psd_ret (he : PEd X e te) : PSd X (.Return (some e) pos) (tret te) := by
  refine .of (ps_ret he.pe) fun D σ H h => ?_
  obtain ⟨ρ, M, E0, re, rm, h, k⟩ := h
  exact ⟨ρ, M, _, re, rm, h, k.rt⟩
theorem psd_retN : PSd X (.Return none pos) tretN := by
  refine .of ps_retN fun D σ H h => ?_
  obtain ⟨ρ, M, E0, re, rm, h, k⟩ := h
  exact k.rt.non rm h
theorem psd_if {c : Expr} {a b : List Stmt} {tc : TTd} (hc : PTd X c tc) (ha : PSsd X a t) (hb : PSsd X b u) : PSd X (.If c a b pos) (tifS tc t u) := by
  refine .of (ps_if hc.pt ha.ps hb.ps) fun D σ H h => ?_
  obtain ⟨ρ, M, E0, re, rm, h, k⟩ := h
  refine ⟨ρ, M, _, re, rm, h, fun c H1 M1 t1 m1 h1 => ?_⟩
  cases c with
  | true => exact ⟨ρ, M1, E0, re.tle t1, m1, h1, k.tle t1⟩
  | false => exact ⟨ρ, M1, E0, re.tle t1, m1, h1, k.tle t1⟩
theorem psd_never : PSd X st tnever := .of ps_never fun D σ H h => by
  obtain ⟨ρ, M, E0, re, rm, h, k⟩ := h
  exact h
theorem pssd_never {sts : List Stmt} : PSsd X sts tnever := .of pss_never fun D σ H h => by
  obtain ⟨ρ, M, E0, re, rm, h, k⟩ := h
  exact h
end

/-! ### targets -/
abbrev TGd := D → Envd → Mem → (Envd → Mem → Prop) → Prop
abbrev TGsd := List D → Envd → Mem → (Envd → Mem → Prop) → Prop
/-- only the places is have changed -/
def SameOut (js : List Nat) (σ σ' : St) : Prop := ∀ vs : List Nat, (∀ i ∈ js, i ∈ vs) → wipe σ' vs = wipe σ vs
theorem SameOut.refl {js : List Nat} {σ : St} : SameOut js σ σ := fun _ _ => rfl
theorem SameOut.trans {js : List Nat} {σ σ1 σ2 : St} (a : SameOut js σ σ1) (b : SameOut js σ1 σ2) : SameOut js σ σ2 := fun vs h => (b vs h).trans (a vs h)
theorem SameOut.mono {js ks : List Nat} {σ σ' : St} (a : SameOut js σ σ') (h : ∀ i ∈ js, i ∈ ks) : SameOut ks σ σ' := fun vs g => a vs fun i hi => g i (h i hi)
theorem wipe_get (σ : St) : ∀ (vs : List Nat) (j : Nat), (wipe σ vs)[j]? = if j ∈ vs then (σ[j]?).map (fun _ => none) else σ[j]?
  | [], j => by simp [wipe]
  | v :: vs, j => by
    unfold wipe
    by_cases h : v = j
    · subst h
      rw [List.getElem?_set]
      simp only [List.mem_cons, true_or, if_true]
      have hl := wipe_length σ vs
      by_cases hv : v < σ.length
      · rw [if_pos (by omega)]; simp [hv]
      · rw [if_neg (by omega)]; simp [hv]
    · rw [List.getElem?_set_ne h, wipe_get σ vs j]
      have : (j ∈ v :: vs) = (j ∈ vs) := by simp [Ne.symm h]
      simp only [this]
theorem SameOut.set {σ : St} {i : Nat} {v : Option V} : SameOut [i] σ (σ.set i v) := fun vs h => by
  have hi : i ∈ vs := h i (List.mem_singleton.mpr rfl)
  apply List.ext_getElem?
  intro j
  rw [wipe_get, wipe_get]
  by_cases hj : j ∈ vs
  · simp only [if_pos hj]
    by_cases e : i = j
    · subst e
      by_cases hl : i < σ.length
      · simp [hl]
      · simp [hl]
    · rw [List.getElem?_set_ne e]
  · have e : i ≠ j := fun z => hj (z ▸ hi)
    simp only [if_neg hj]
    rw [List.getElem?_set_ne e]
def lowN2 (K : PySem.W.Frag) (H : Hp) (js : List Nat) (σ0 : St) (Q0 : Envd → Mem → Prop) (Q : St → Hp → Prop) : Prop := ∀ σ H' ρ M', SameOut js σ0 σ → Tle H H' → RelE H' ρ σ → RelM K H' M' → Q0 ρ M' → Q σ H'
theorem lowN.two {K : PySem.W.Frag} {H : Hp} {js : List Nat} {σ0 : St} {Q0 : Envd → Mem → Prop} {Q : St → Hp → Prop} (h : lowN K H Q0 Q) : lowN2 K H js σ0 Q0 Q := fun σ H' ρ M' _ => h σ H' ρ M'
def lowG (K : PySem.W.Frag) (js : List Nat) (t : TGd) : TG := fun v σ H Q => ∃ d ρ M Q0, Rel H d v ∧ RelE H ρ σ ∧ RelM K H M ∧ t d ρ M Q0 ∧ lowN2 K H js σ Q0 Q
def lowGs (K : PySem.W.Frag) (js : List Nat) (t : TGsd) : TGs := fun v σ H Q => ∃ d ρ M Q0, RelL H d v ∧ RelE H ρ σ ∧ RelM K H M ∧ t d ρ M Q0 ∧ lowN2 K H js σ Q0 Q
structure PGd (X : Cx) (e : Expr) (js : List Nat) (t : TGd) : Prop where
  pg : PG X e (lowG X.K js t)
structure PGsd (X : Cx) (e : List Expr) (js : List Nat) (t : TGsd) : Prop where
  pg : PGs X e (lowGs X.K js t)
theorem PGd.of {X : Cx} {e : Expr} {js : List Nat} {t : TGd} {t' : TG} (h : PG X e t') (sim : ∀ v σ H Q, lowG X.K js t v σ H Q → t' v σ H Q) : PGd X e js t := ⟨⟨fun pins s σ H v u Q I r w => h.run pins s σ H v u Q I r (sim v σ H Q w)⟩⟩
theorem PGsd.of {X : Cx} {e : List Expr} {js : List Nat} {t : TGsd} {t' : TGs} (h : PGs X e t') (sim : ∀ v σ H Q, lowGs X.K js t v σ H Q → t' v σ H Q) : PGsd X e js t := ⟨⟨fun pins s σ H v u Q I r w => h.run pins s σ H v u Q I r (sim v σ H Q w)⟩⟩
def gname (i : Nat) : TGd := fun d ρ M Q => Q (ρ.set i (some d)) M
def gnil : TGsd := fun ds ρ M Q => match ds with
  | [] => Q ρ M
  | _ => False
def gcons (t : TGd) (u : TGsd) : TGsd := fun ds ρ M Q => match ds with
  | d :: r => t d ρ M fun ρ1 M1 => u r ρ1 M1 Q
  | [] => False
def gtup (n : Nat) (t : TGsd) : TGd := fun d ρ M Q => match d with
  | .tup ds => ds.length = n ∧ t ds ρ M Q
  | _ => False
def tasg (te : TEd) (g : TGd) : TSd := fun D ρ M => te ρ M fun x M1 => g x ρ M1 D.nx
def tpar (i j : Nat) (ta : TAd) : TSd := fun D ρ M => ta ρ M fun ds M1 => match ds with
  | [v, w] => D.nx ((ρ.set i (some v)).set j (some w)) M1
  | _ => False
section
variable {X : Cx} {pos : Pos}
theorem pgd_name {i : Nat} {x : Str} (hN : X.N.Nodup) (hi : X.N[i]? = some x) (hx : Loc X.env.scope x) (hf : X.fn x = true ∨ X.env.scope.names.lookup x = some .local := by first | exact .inl rfl | exact .inr rfl | assumption) : PGd X (.Name x pos) [i] (gname i) := by
  refine .of (pg_name hN hi hx hf) fun v σ H Q h => ?_
  obtain ⟨d, ρ, M, Q0, rd, re, rm, h, k⟩ := h
  exact k _ H _ M .set .refl (re.set rd) rm h
theorem pgsd_nil : PGsd X [] [] gnil := by
  refine .of pgs_nil fun v σ H Q h => ?_
  obtain ⟨d, ρ, M, Q0, rd, re, rm, h, k⟩ := h
  cases d with
  | nil => cases rd; exact ⟨rfl, k _ H _ M .refl .refl re rm h⟩
  | cons x xs => exact h.elim
theorem pgsd_cons {e : Expr} {es : List Expr} {js ks : List Nat} {t : TGd} {u : TGsd} (h1 : PGd X e js t) (h2 : PGsd X es ks u)
    (hs : (assignEach (e :: es) X.env).map (·.2) = assign e X.env :: (assignEach es X.env).map (·.2) := by rfl) : PGsd X (e :: es) (js ++ ks) (gcons t u) := by
  refine .of (pgs_cons h1.pg h2.pg hs) fun v σ H Q h => ?_
  obtain ⟨d, ρ, M, Q0, rd, re, rm, h, k⟩ := h
  cases d with
  | nil => exact h.elim
  | cons x xs =>
    obtain ⟨v, r, e, r1, r2⟩ := rd
    refine ⟨v, r, e, x, ρ, M, _, r1, re, rm, h, fun σ1 H1 ρ1 M1 s1 t1 e1 m1 h1 => ⟨xs, ρ1, M1, Q0, r2.tle t1, e1, m1, h1, fun σ2 H2 ρ2 M2 s2 t2 e2 m2 h2 => ?_⟩⟩
    exact k σ2 H2 ρ2 M2 ((s1.mono fun i hi => List.mem_append_left _ hi).trans (s2.mono fun i hi => List.mem_append_right _ hi)) (t1.trans t2) e2 m2 h2
theorem pgd_tup {es : List Expr} {k : Nat} {t : TGsd} {n : Nat} {js : List Nat} (hc : X.calm = true) (h : PGsd X es js t)
    (hn : (assignEach es X.env).length = n := by rfl) (hst : (assignEach es X.env).findIdx? (·.1) = none := by rfl) : PGd X (.Tuple es k pos) js (gtup n t) := by
  refine .of (pg_tup hc h.pg hn hst) fun v σ H Q h => ?_
  obtain ⟨d, ρ, M, Q0, rd, re, rm, h, k⟩ := h
  cases d with
  | tup ds =>
    obtain ⟨a, vs, e, q, rl⟩ := rd
    exact ⟨a, vs, e, .of q, by rw [rl.length]; exact h.1, ds, ρ, M, Q0, rl, re, rm, h.2, k⟩
  | _ => exact h.elim
theorem psd_asg {tg e : Expr} {te : TEd} {g : TGd} {js : List Nat} (he : PEd X e te) (hg : PGd X tg js g) (hs : swapsWithSole [tg] e pos.line X.env = pure false := by rfl) (hw : swappedStores [tg] e X.env = pure none := by rfl)
    (h1 : (assignEach [tg] X.env).map (·.2) = [assign tg X.env] := by rfl) : PSd X (.Assign [tg] e pos) (tasg te g) := by
  refine .of (ps_asg he.pe hg.pg hs hw h1) fun D σ H h => ?_
  obtain ⟨ρ, M, E0, re, rm, h, k⟩ := h
  exact ⟨ρ, M, _, re, rm, h, fun x H1 dx M1 t1 r1 m1 h1 => ⟨dx, ρ, M1, _, r1, re.tle t1, m1, h1, (k.nx.tle t1).two⟩⟩
theorem tset_low {K : PySem.W.Frag} {te : TEd} {te' : TE} {i : Nat} (hl : ∀ σ H Q, lowE K te σ H Q → te' σ H Q) (D : Ends) (σ : St) (H : Hp) (h : lowS K (tasg te (gname i)) D σ H) : tAsg te' (gName i) D σ H := by
  obtain ⟨ρ, M, E0, re, rm, h, k⟩ := h
  exact hl σ H _ ⟨ρ, M, _, re, rm, h, fun x H1 dx M1 t1 r1 m1 h1 => k.nx _ H1 _ M1 t1 ((re.tle t1).set r1) m1 h1⟩
theorem psd_set {i : Nat} {x : Str} {e : Expr} {te : TEd} {pos' : Pos} (hN : X.N.Nodup) (hi : X.N[i]? = some x) (hx : Loc X.env.scope x) (he : PEd X e te) (hs : swapsWith e (some (.Name x pos')) pos.line X.env = pure false := by rfl) (hf : X.fn x = true ∨ X.env.scope.names.lookup x = some .local := by first | exact .inl rfl | exact .inr rfl | assumption) :
    PSd X (.Assign [.Name x pos'] e pos) (tasg te (gname i)) := .of (ps_set hN hi hx he.pe hs hf) (tset_low fun _ _ _ h => h)
theorem tpar_low {K : PySem.W.Frag} {ta : TAd} {i j : Nat} (D : Ends) (σ : St) (H : Hp) (h : lowS K (tpar i j ta) D σ H) : tPar i j (lowA K ta) D σ H := by
  obtain ⟨ρ, M, E0, re, rm, h, k⟩ := h
  refine ⟨ρ, M, _, re, rm, h, fun vs H1 ds M1 t1 r1 m1 h1 => ?_⟩
  match ds, r1, h1 with
  | [v, w], ⟨v', _, e1, p1, w', _, e2, p2, e3⟩, h1 =>
    subst e1 e2 e3
    exact ⟨v', w', rfl, k.nx _ H1 _ M1 t1 (((re.tle t1).set p1).set p2) m1 h1⟩
end

/-! ### while -/
def twhile (c : TTd) (tb : TSd) : TSd := fun D ρ M => ∃ W : Nat → Envd → Mem → Prop, (∃ n, W n ρ M) ∧ ∀ n ρ M, W n ρ M →
  c ρ M fun b M1 => if b = true then tb { D with nx := fun ρ' M' => ∃ n', n' < n ∧ W n' ρ' M', ct := fun ρ' M' => ∃ n', n' < n ∧ W n' ρ' M', bk := D.nx } ρ M1 else D.nx ρ M1
theorem psd_while {X : Cx} {c : Expr} {body : List Stmt} {tc : TTd} {tb : TSd} {pos : Pos} (hp : PassesOwn (model X.prog X.w) X.A X.env X.xe) (hc : PTd X c tc) (hb : PSsd X body tb) : PSd X (.While c body [] pos) (twhile tc tb) := by
  refine .of (ps_while hp hc.pt hb.ps) fun D σ H h => ?_
  obtain ⟨ρ, M, E0, re, rm, h, k⟩ := h
  obtain ⟨W, ⟨n0, w0⟩, turn⟩ := h
  refine ⟨fun n σ' H' => ∃ ρ' M', Tle H H' ∧ RelE H' ρ' σ' ∧ RelM X.K H' M' ∧ W n ρ' M', ⟨n0, ρ, M, .refl, re, rm, w0⟩, fun n σ1 H1 w1 => ?_⟩
  obtain ⟨ρ1, M1, t1, re1, rm1, w1⟩ := w1
  refine ⟨ρ1, M1, _, re1, rm1, turn n ρ1 M1 w1, fun b H2 M2 t2 m2 h2 => ?_⟩
  cases b with
  | true =>
    refine ⟨fun σ' H' => ∃ n', n' < n ∧ ∃ ρ' M', Tle H H' ∧ RelE H' ρ' σ' ∧ RelM X.K H' M' ∧ W n' ρ' M', fun σ' H' q => q, ρ1, M2, _, re1.tle t2, m2, h2, ?_⟩
    exact ⟨fun σ3 H3 ρ3 M3 t3 e3 m3 ⟨n', l, w⟩ => ⟨n', l, ρ3, M3, (t1.trans t2).trans t3, e3, m3, w⟩, k.rt.tle (t1.trans t2), k.nx.tle (t1.trans t2), fun σ3 H3 ρ3 M3 t3 e3 m3 ⟨n', l, w⟩ => ⟨n', l, ρ3, M3, (t1.trans t2).trans t3, e3, m3, w⟩⟩
  | false => exact k.nx σ1 H2 ρ1 M2 (t1.trans t2) (re1.tle t2) m2 h2
end DL

end T_DL3

section T_DL4
set_option Elab.async false
set_option linter.all false
set_option maxRecDepth 100000
set_option maxHeartbeats 1000000
/-! The D layer, 4: what is walked, for, comprehensions. -/
namespace DL
open PySem PySem.Spec L2
open PyProof.Rows hiding St

/-! ### what is walked: the items, and what must stand while they are walked -/
abbrev TId := Envd → Mem → (List D → (Mem → Prop) → Mem → Prop) → Prop
structure ItRel (K : PySem.W.Frag) (H0 : Hp) (J : It) (items : List D) (ok : Mem → Prop) : Prop where
  go : ∀ i H M, Tle H0 H → RelM K H M → ok M → i < items.length → J.go i H
  stop : ∀ H M, Tle H0 H → RelM K H M → ok M → J.stop items.length H
  yld : ∀ i H M x H' d, Tle H0 H → RelM K H M → ok M → items[i]? = some d → J.yld i H x H' → Tle H H' ∧ RelM K H' M ∧ Rel H' d x
def lowI (K : PySem.W.Frag) (ti : TId) : TI := fun σ H R => ∃ ρ M R0, RelE H ρ σ ∧ RelM K H M ∧ ti ρ M R0 ∧ ∀ J H' items ok M', Tle H H' → RelM K H' M' → ItRel K H' J items ok → R0 items ok M' → R J H'
structure PId (X : Cx) (tg iter : Expr) (ti : TId) : Prop where
  pi : PI X tg iter (lowI X.K ti)
theorem PId.of {X : Cx} {tg iter : Expr} {ti : TId} {wi : TI} (h : PI X tg iter wi) (sim : ∀ σ H R, lowI X.K ti σ H R → wi σ H R) : PId X tg iter ti := ⟨⟨fun pins s σ H R I w => h.run pins s σ H R I (sim σ H R w)⟩⟩

theorem itrel_list {K : PySem.W.Frag} {H0 : Hp} {a : Addr} {ds : List D} : ItRel K H0 (Itl K a) ds (fun M => rdL M a = some ds) where
  go := fun i H M _ m ok hi => by
    obtain ⟨vs, q, r⟩ := m.rdL ok
    obtain ⟨v, e, _⟩ := r.get (List.getElem?_eq_getElem hi)
    exact ⟨vs, v, q, e⟩
  stop := fun H M _ m ok => by
    obtain ⟨vs, q, r⟩ := m.rdL ok
    exact ⟨vs, q, Nat.le_of_eq r.length⟩
  yld := fun i H M x H' d _ m ok hd y => by
    obtain ⟨vs, q, r⟩ := m.rdL ok
    obtain ⟨e, y⟩ := y
    subst e
    obtain ⟨v, ev, rv⟩ := r.get hd
    have := y vs q
    rw [ev] at this
    cases this
    exact ⟨.refl, m, rv⟩
theorem itrel_tup {K : PySem.W.Frag} {H0 : Hp} {a : Addr} {vs : List V} {ds : List D} (h0 : H0 a = some (.tup vs)) (r0 : RelL H0 ds vs) : ItRel K H0 (Itt K a) ds (fun _ => True) where
  go := fun i H M t m ok hi => by
    obtain ⟨v, e, _⟩ := r0.get (List.getElem?_eq_getElem hi)
    exact ⟨vs, v, .of (t a vs h0), e⟩
  stop := fun H M t m ok => ⟨vs, .of (t a vs h0), Nat.le_of_eq r0.length⟩
  yld := fun i H M x H' d t m ok hd y => by
    obtain ⟨e, y⟩ := y
    subst e
    obtain ⟨v, ev, rv⟩ := r0.get hd
    have := y vs (.of (t a vs h0))
    rw [ev] at this
    cases this
    exact ⟨.refl, m, rv.tle t⟩
def intsD (lo : Int) (n : Nat) : List D := (List.range n).map fun (i : Nat) => D.int (lo + (i : Int))
theorem intsD_length (lo : Int) (n : Nat) : (intsD lo n).length = n := by simp [intsD]
theorem intsD_get {lo : Int} {n i : Nat} (h : i < n) : (intsD lo n)[i]? = some (.int (lo + i)) := by simp [intsD, h]
theorem itrel_range {K : PySem.W.Frag} {H0 : Hp} {lo : Int} {n : Nat} : ItRel K H0 (Itr lo n) (intsD lo n) (fun _ => True) where
  go := fun i H M _ m ok hi => by rw [intsD_length] at hi; exact hi
  stop := fun H M _ m ok => by rw [intsD_length]; exact Nat.le_refl _
  yld := fun i H M x H' d _ m ok hd y => by
    obtain ⟨e, y⟩ := y
    subst e y
    have hi : i < n := by
      have := (List.getElem?_eq_some_iff.mp hd).1
      rwa [intsD_length] at this
    rw [intsD_get hi] at hd
    cases hd
    exact ⟨.refl, m, rfl⟩
/-- a list or a tuple -/
def iseq (te : TEd) : TId := fun ρ M R => te ρ M fun x M1 => match x with
  | .tup ds => R ds (fun _ => True) M1
  | .ref a => (match rdL M1 a with
    | some ds => R ds (fun M => rdL M a = some ds) M1
    | none => False)
  | _ => False
def irng1 (ta : TAd) : TId := fun ρ M R => ta ρ M fun xs M1 => match xs with
  | [.int j] => (-(2 ^ 62) ≤ j ∧ j < 2 ^ 62) ∧ R (intsD 0 j.toNat) (fun _ => True) M1
  | _ => False
def irng2 (ta : TAd) : TId := fun ρ M R => ta ρ M fun xs M1 => match xs with
  | [.int i, .int j] => (-(2 ^ 62) ≤ i ∧ i < 2 ^ 62 ∧ -(2 ^ 62) ≤ j ∧ j < 2 ^ 62) ∧ R (intsD i (j - i).toNat) (fun _ => True) M1
  | _ => False
def pairs (xs ys : List D) : List D := List.zipWith (fun x y => D.tup [x, y]) xs ys
def izip (ta : TAd) : TId := fun ρ M R => ta ρ M fun xs M1 => match xs with
  | [.tup xs, .tup ys] => R (pairs xs ys) (fun _ => True) M1
  | [.ref a, .ref b] => (match rdL M1 a, rdL M1 b with
    | some xs, some ys => R (pairs xs ys) (fun M => rdL M a = some xs ∧ rdL M b = some ys) M1
    | _, _ => False)
  | _ => False
def ienum (ta : TAd) : TId := fun ρ M R => ta ρ M fun xs M1 => match xs with
  | [.ref a] => (match rdL M1 a with
    | some ds => R (pairs (intsD 0 ds.length) ds) (fun M => rdL M a = some ds) M1
    | none => False)
  | _ => False
theorem pairs_get {xs ys : List D} {i : Nat} {d : D} (h : (pairs xs ys)[i]? = some d) : ∃ x y, xs[i]? = some x ∧ ys[i]? = some y ∧ d = .tup [x, y] := by
  unfold pairs at h
  rw [List.getElem?_zipWith] at h
  cases ex : xs[i]? with
  | none => rw [ex] at h; simp at h
  | some x =>
    cases ey : ys[i]? with
    | none => rw [ex, ey] at h; simp at h
    | some y => rw [ex, ey] at h; simp at h; exact ⟨x, y, rfl, rfl, h.symm⟩
theorem pairs_length (xs ys : List D) : (pairs xs ys).length = min xs.length ys.length := by simp [pairs]
theorem rel_pair {H : Hp} {T : Addr} {x y : V} {dx dy : D} (hT : H T = none) (rx : Rel H dx x) (ry : Rel H dy y) : Rel (upd H T (.tup [x, y])) (.tup [dx, dy]) (.ref T) :=
  ⟨T, [x, y], rfl, upd_same, .cons (rx.tle (.new hT)) (.cons (ry.tle (.new hT)) .nil)⟩
section
variable {X : Cx} {tg l : Expr} {te : TEd} {ta : TAd} {p pos : Pos}
theorem pid_seq (hl : PEd X l te) : PId X tg l (iseq te) := by
  have gen : PI X tg l (fun σ H R => lowE X.K te σ H fun x H1 => (∃ a, x = .ref a ∧ (∃ xs, SqL X.K H1 a xs) ∧ R (Itl X.K a) H1) ∨ (∃ a, x = .ref a ∧ (∃ xs, SqT X.K H1 a xs) ∧ R (Itt X.K a) H1)) := by
    refine ⟨fun pins s σ H R I h => ?_⟩
    refine thn (hl.pe.run pins s σ H _ I h) fun v s1 w => ?_
    obtain ⟨x, H1, I1, r1, q1⟩ := w
    rcases q1 with ⟨a, e, ⟨xs, hq⟩, q⟩ | ⟨a, e, ⟨xs, hq⟩, q⟩
    · subst e
      cases r1
      obtain ⟨its, rv, pl, hz⟩ := I1.list hq
      exact wpAny_pyIter_list pl.isList (pi_one (tk := s1.toks) I1 _ (turn_list a _) ⟨_, Heap.get?_push_size _ rfl, rfl, rfl⟩ q)
    · subst e
      cases r1
      obtain ⟨its, rv, pl, hz⟩ := I1.tuple hq
      exact wpAny_pyIter_tuple (show s1.heap.IsTuple a its.toArray from pl) (pi_one (tk := s1.toks) I1 _ (turn_tuple a _) ⟨_, Heap.get?_push_size _ rfl, rfl, rfl⟩ q)
  refine .of gen fun σ H R h => ?_
  obtain ⟨ρ, M, R0, re, rm, h, k⟩ := h
  refine ⟨ρ, M, _, re, rm, h, fun x H1 dx M1 t1 r1 m1 h1 => ?_⟩
  cases dx with
  | tup ds =>
    obtain ⟨a, vs, e, q, rl⟩ := r1
    exact .inr ⟨a, e, ⟨vs, .of q⟩, k _ H1 ds _ M1 t1 m1 (itrel_tup q rl) h1⟩
  | ref a =>
    cases r1
    have h' : (match rdL M1 a with
      | some ds => R0 ds (fun M => rdL M a = some ds) M1
      | none => False) := h1
    split at h'
    · rename_i ds e
      obtain ⟨vs, q, rl⟩ := m1.rdL e
      exact .inl ⟨a, rfl, ⟨vs, q⟩, k _ H1 ds _ M1 t1 m1 itrel_list h'⟩
    · exact h'.elim
  | _ => exact h1.elim
theorem pid_range1 {a : Expr} (hg : Gl X "range") (hm : X.mg "range" = none) (ha : PAd X [a] ta) (hs : starEach [a] X.env = [(false, eval a X.env)] := by rfl) : PId X tg (.Call (.Name "range" p) [a] [] pos) (irng1 ta) := by
  refine .of (pi_range1 hg hm ha.pa hs) fun σ H R h => ?_
  obtain ⟨ρ, M, R0, re, rm, h, k⟩ := h
  refine ⟨ρ, M, _, re, rm, h, fun vs H1 ds M1 t1 r1 m1 h1 => ?_⟩
  match ds, r1, h1 with
  | [.int j], ⟨v, _, e1, p1, e2⟩, h1 =>
    cases p1
    subst e1 e2
    exact ⟨j, rfl, h1.1.1, h1.1.2, k _ H1 _ _ M1 t1 m1 itrel_range h1.2⟩
theorem pid_range2 {a b : Expr} (hg : Gl X "range") (hm : X.mg "range" = none) (ha : PAd X [a, b] ta) (hs : starEach [a, b] X.env = [(false, eval a X.env), (false, eval b X.env)] := by rfl) (hs2 : starEach [b] X.env = [(false, eval b X.env)] := by rfl) :
    PId X tg (.Call (.Name "range" p) [a, b] [] pos) (irng2 ta) := by
  refine .of (pi_range2 hg hm ha.pa hs hs2) fun σ H R h => ?_
  obtain ⟨ρ, M, R0, re, rm, h, k⟩ := h
  refine ⟨ρ, M, _, re, rm, h, fun vs H1 ds M1 t1 r1 m1 h1 => ?_⟩
  match ds, r1, h1 with
  | [.int i, .int j], ⟨v, _, e1, p1, w, _, e2, p2, e3⟩, h1 =>
    cases p1
    cases p2
    subst e1 e2 e3
    exact ⟨i, j, rfl, h1.1, k _ H1 _ _ M1 t1 m1 itrel_range h1.2⟩
theorem pid_zip {e e2 : Expr} {elts : List Expr} {kk : Nat} {tpos : Pos} (hg : Gl X "zip") (hm : X.mg "zip" = none) (ha : PAd X [e, e2] ta)
    (hs : starEach [e, e2] X.env = (false, eval e X.env) :: starEach [e2] X.env := by rfl) (hpl : (backTo pos (starEach [e2] X.env)).any (·.1) = false := by rfl) :
    PId X (.Tuple elts kk tpos) (.Call (.Name "zip" p) [e, e2] [] pos) (izip ta) := by
  refine .of (RZ.pi_zipA hg hm ha.pa hs hpl) fun σ H R h => ?_
  obtain ⟨ρ, M, R0, re, rm, h, k⟩ := h
  refine ⟨ρ, M, _, re, rm, h, fun vs H1 ds M1 t1 r1 m1 h1 => ?_⟩
  match ds, r1, h1 with
  | [.tup xs, .tup ys], ⟨v, _, e1, ⟨a, us, ea, qa, ra⟩, w, _, e2, ⟨b, ws, eb, qb, rb⟩, e3⟩, h1 =>
    subst ea eb e3 e2 e1
    refine ⟨a, b, us, ws, rfl, .inr ⟨.of qa, .of qb, k _ H1 (pairs xs ys) (fun _ => True) M1 t1 m1 ⟨fun i H M t m _ hi => ?_, fun H M t m _ => ?_, fun i H M x H' d t m _ hd y => ?_⟩ h1⟩⟩
    · rw [pairs_length] at hi
      obtain ⟨x, ex, _⟩ := ra.get (List.getElem?_eq_getElem (show i < xs.length by omega))
      obtain ⟨y, ey, _⟩ := rb.get (List.getElem?_eq_getElem (show i < ys.length by omega))
      exact ⟨us, ws, x, y, .of (t a us qa), .of (t b ws qb), ex, ey⟩
    · refine ⟨us, ws, .of (t a us qa), .of (t b ws qb), ?_⟩
      rw [pairs_length, ra.length, rb.length]
      omega
    · obtain ⟨dx, dy, ex, ey, ed⟩ := pairs_get hd
      obtain ⟨T, x1, y1, e, hT, eH, qx, qy⟩ := y
      obtain ⟨x2, gx, rx⟩ := ra.get ex
      obtain ⟨y2, gy, ry⟩ := rb.get ey
      have := qx us (.of (t a us qa)); rw [gx] at this; cases this
      have := qy ws (.of (t b ws qb)); rw [gy] at this; cases this
      subst e eH ed
      exact ⟨.new hT, m.more hT, rel_pair hT (rx.tle t) (ry.tle t)⟩
  | [.ref a, .ref b], ⟨v, _, e1, p1, w, _, e2, p2, e3⟩, h1 =>
    cases p1
    cases p2
    subst e1 e2 e3
    have h' : (match rdL M1 a, rdL M1 b with
      | some xs, some ys => R0 (pairs xs ys) (fun M => rdL M a = some xs ∧ rdL M b = some ys) M1
      | _, _ => False) := h1
    split at h'
    · rename_i xs ys e1 e2
      obtain ⟨us, qa, ra0⟩ := m1.rdL e1
      obtain ⟨ws, qb, rb0⟩ := m1.rdL e2
      refine ⟨a, b, us, ws, rfl, .inl ⟨qa, qb, k _ H1 (pairs xs ys) (fun M => rdL M a = some xs ∧ rdL M b = some ys) M1 t1 m1 ⟨fun i H M t m ok hi => ?_, fun H M t m ok => ?_, fun i H M x H' d t m ok hd y => ?_⟩ h'⟩⟩
      · obtain ⟨us, qa, ra⟩ := m.rdL ok.1
        obtain ⟨ws, qb, rb⟩ := m.rdL ok.2
        rw [pairs_length] at hi
        obtain ⟨x, ex, _⟩ := ra.get (List.getElem?_eq_getElem (show i < xs.length by omega))
        obtain ⟨y, ey, _⟩ := rb.get (List.getElem?_eq_getElem (show i < ys.length by omega))
        exact ⟨us, ws, x, y, qa, qb, ex, ey⟩
      · obtain ⟨us, qa, ra⟩ := m.rdL ok.1
        obtain ⟨ws, qb, rb⟩ := m.rdL ok.2
        refine ⟨us, ws, qa, qb, ?_⟩
        rw [pairs_length, ra.length, rb.length]
        omega
      · obtain ⟨us, qa, ra⟩ := m.rdL ok.1
        obtain ⟨ws, qb, rb⟩ := m.rdL ok.2
        obtain ⟨dx, dy, ex, ey, ed⟩ := pairs_get hd
        obtain ⟨T, x1, y1, e, hT, eH, qx, qy⟩ := y
        obtain ⟨x2, gx, rx⟩ := ra.get ex
        obtain ⟨y2, gy, ry⟩ := rb.get ey
        have := qx us qa; rw [gx] at this; cases this
        have := qy ws qb; rw [gy] at this; cases this
        subst e eH ed
        exact ⟨.new hT, m.more hT, rel_pair hT rx ry⟩
    · exact h'.elim
theorem pid_enum {e : Expr} {elts : List Expr} {kk : Nat} {tpos : Pos} (hg : Gl X "enumerate") (hm : X.mg "enumerate" = none) (ha : PAd X [e] ta) (hs : starEach [e] X.env = [(false, eval e X.env)] := by rfl) :
    PId X (.Tuple elts kk tpos) (.Call (.Name "enumerate" p) [e] [] pos) (ienum ta) := by
  refine .of (pi_enum hg hm ha.pa hs) fun σ H R h => ?_
  obtain ⟨ρ, M, R0, re, rm, h, k⟩ := h
  refine ⟨ρ, M, _, re, rm, h, fun vs H1 ds M1 t1 r1 m1 h1 => ?_⟩
  match ds, r1, h1 with
  | [.ref a], ⟨v, _, e1, p1, e2⟩, h1 =>
    cases p1
    subst e1 e2
    have h' : (match rdL M1 a with
      | some ds => R0 (pairs (intsD 0 ds.length) ds) (fun M => rdL M a = some ds) M1
      | none => False) := h1
    split at h'
    · rename_i xs e1
      obtain ⟨us, qa, ra0⟩ := m1.rdL e1
      have hl : (pairs (intsD 0 xs.length) xs).length = xs.length := by rw [pairs_length, intsD_length]; omega
      refine ⟨a, us, rfl, qa, k _ H1 (pairs (intsD 0 xs.length) xs) (fun M => rdL M a = some xs) M1 t1 m1 ⟨fun i H M t m ok hi => ?_, fun H M t m ok => ?_, fun i H M x H' d t m ok hd y => ?_⟩ h'⟩
      · obtain ⟨us, qa, ra⟩ := m.rdL ok
        rw [hl] at hi
        obtain ⟨x, ex, _⟩ := ra.get (List.getElem?_eq_getElem hi)
        exact ⟨us, x, qa, ex⟩
      · obtain ⟨us, qa, ra⟩ := m.rdL ok
        exact ⟨us, qa, by rw [hl, ra.length]; exact Nat.le_refl _⟩
      · obtain ⟨us, qa, ra⟩ := m.rdL ok
        obtain ⟨dx, dy, ex, ey, ed⟩ := pairs_get hd
        obtain ⟨T, x1, e, hT, eH, qx⟩ := y
        obtain ⟨y2, gy, ry⟩ := ra.get ey
        have := qx us qa; rw [gy] at this; cases this
        have hi : i < xs.length := (List.getElem?_eq_some_iff.mp ey).1
        rw [intsD_get hi] at ex
        cases ex
        subst e eH ed
        refine ⟨.new hT, m.more hT, rel_pair hT ?_ ry⟩
        show V.int (i : Nat) = V.int (0 + (i : Int))
        rw [Int.zero_add]
    · exact h'.elim
end

/-! ### for -/
def tfor (ti : TId) (g : TGd) (tb : TSd) : TSd := fun D ρ M => ti ρ M fun items ok M1 => ∃ W : Nat → Envd → Mem → Prop, W 0 ρ M1 ∧ ∀ i ρ M, i ≤ items.length → W i ρ M → ok M ∧ (match items[i]? with
  | none => D.nx ρ M
  | some x => g x ρ M fun ρ2 M2 => tb { D with nx := W (i + 1), ct := W (i + 1), bk := D.nx } ρ2 M2)
theorem psd_for {X : Cx} {tg iter : Expr} {body : List Stmt} {ti : TId} {g : TGd} {js : List Nat} {tb : TSd} {pos : Pos} (hp : PassesOwn (model X.prog X.w) X.A X.env X.xe) (hc : X.calm = true) (hi : PId X tg iter ti) (hg : PGd X tg js g) (hb : PSsd X body tb)
    (hs : ∀ x, foldedSetIterable iter X.env x = pure x := by intro _; rfl) : PSd X (.For tg iter body [] pos) (tfor ti g tb) := by
  refine .of (ps_for hp hc hi.pi hg.pg hb.ps hs) fun D σ H h => ?_
  obtain ⟨ρ, M, E0, re, rm, h, k⟩ := h
  refine ⟨ρ, M, _, re, rm, h, fun J H1 items ok M1 t1 m1 rel h1 => ?_⟩
  obtain ⟨W, w0, turn⟩ := h1
  refine ⟨fun i m σ' H' => m + i = items.length ∧ ∃ ρ' M', Tle H1 H' ∧ RelE H' ρ' σ' ∧ RelM X.K H' M' ∧ W i ρ' M', ⟨items.length, rfl, ρ, M1, .refl, re.tle t1, m1, w0⟩, fun i m σ2 H2 w2 => ?_⟩
  obtain ⟨em, ρ2, M2, t2, re2, m2, w2⟩ := w2
  obtain ⟨hok, ht⟩ := turn i ρ2 M2 (by omega) w2
  by_cases hi : i < items.length
  · rw [List.getElem?_eq_getElem hi] at ht
    refine .inr ⟨rel.go i H2 M2 t2 m2 hok hi, fun σ' H' => ∃ ρ' M', Tle H1 H' ∧ RelE H' ρ' σ' ∧ RelM X.K H' M' ∧ W (i + 1) ρ' M', fun σ' H' q => ⟨m - 1, by omega, by omega, q⟩, fun x H3 y => ?_⟩
    obtain ⟨t3, m3, r3⟩ := rel.yld i H2 M2 x H3 _ t2 m2 hok (List.getElem?_eq_getElem hi) y
    refine ⟨_, ρ2, M2, _, r3, re2.tle t3, m3, ht, fun σ4 H4 ρ4 M4 _ t4 re4 m4 h4 => ⟨ρ4, M4, _, re4, m4, h4, ?_⟩⟩
    have tt : Tle H1 H4 := (t2.trans t3).trans t4
    exact ⟨fun σ5 H5 ρ5 M5 t5 e5 m5 w5 => ⟨ρ5, M5, tt.trans t5, e5, m5, w5⟩, k.rt.tle (t1.trans tt), k.nx.tle (t1.trans tt), fun σ5 H5 ρ5 M5 t5 e5 m5 w5 => ⟨ρ5, M5, tt.trans t5, e5, m5, w5⟩⟩
  · have e : i = items.length := by omega
    subst e
    rw [List.getElem?_eq_none (Nat.le_refl _)] at ht
    exact .inl ⟨rel.stop H2 M2 t2 m2 hok, k.nx σ2 H2 ρ2 M2 (t1.trans t2) re2 m2 ht⟩

/-! ### list comprehensions -/
def wiped (ρ : Envd) : List Nat → Envd
  | [] => ρ
  | v :: vs => (wiped ρ vs).set v none
theorem RelE.wipe {H : Hp} {ρ : Envd} {σ : St} (r : RelE H ρ σ) : ∀ vs, RelE H (wiped ρ vs) (wipe σ vs)
  | [] => r
  | v :: vs => by
    have q := RelE.wipe r vs
    refine ⟨by unfold wiped; unfold L2.wipe; rw [List.length_set, List.length_set]; exact q.1, fun j d e => ?_⟩
    unfold wiped at e
    unfold L2.wipe
    by_cases h : v = j
    · subst h
      rw [List.getElem?_set] at e
      simp only [if_true] at e
      split at e <;> cases e
    · rw [List.getElem?_set_ne h] at e ⊢
      exact q.2 j d e
structure PTsd (X : Cx) (es : List Expr) (t : TTd) : Prop where
  pt : PTs X es (lowT X.K t)
def tyes : TTd := fun _ M Q => Q true M
theorem ptsd_nil {X : Cx} : PTsd X [] tyes := ⟨⟨fun pins s σ H Q I w => by
  obtain ⟨ρ, M, Q0, re, rm, h, k⟩ := w
  exact pts_nil.run pins s σ H Q I (k true H M .refl rm h)⟩⟩
theorem ptsd_one {X : Cx} {c : Expr} {t : TTd} (h : PTd X c t) : PTsd X [c] t := ⟨pts_one h.pt⟩
/-- p: the new list; W: the turn, the items so far, the memory -/
def tlc (ti : TId) (g : TGd) (tt : TTd) (te : TEd) (vs : List Nat) : TEd := fun ρ M Q => ti ρ M fun items ok M1 => ∀ p, M1 p = none → ∃ W : Nat → List D → Mem → Prop, W 0 [] (put M1 p (.lst [])) ∧
  ∀ i acc M, i ≤ items.length → W i acc M → ok M ∧ (match items[i]? with
    | none => Q (.ref p) M
    | some x => g x (wiped ρ vs) M fun ρ2 M2 => tt ρ2 M2 fun b M3 => if b = true then te ρ2 M3 fun y M4 => M4 p = some (.lst acc) ∧ acc.length < sizeLine ∧ W (i + 1) (acc ++ [y]) (put M4 p (.lst (acc ++ [y]))) else W (i + 1) acc M3)
theorem tlc_low {K : PySem.W.Frag} {ti : TId} {g : TGd} {tt : TTd} {te : TEd} {vs js : List Nat} (hj : ∀ i ∈ js, i ∈ vs) (σ : St) (H : Hp) (Q : VK) (h : lowE K (tlc ti g tt te vs) σ H Q) : tLc (lowI K ti) (lowG K js g) (lowT K tt) (lowE K te) vs σ H Q := by
  obtain ⟨ρ, M, Q0, re, rm, h, k⟩ := h
  refine ⟨ρ, M, _, re, rm, h, fun J H1 items ok M1 t1 m1 rel h1 => ?_⟩
  intro p hp
  obtain ⟨W, w0, turn⟩ := h1 p (m1.fresh hp)
  have tp : Tle H1 (upd H1 p (.lst [])) := .new hp
  refine ⟨fun i m H' => m + i = items.length ∧ ∃ acc M', Tle H1 H' ∧ RelM K H' M' ∧ W i acc M', ⟨items.length, rfl, [], _, tp, m1.new (d := .lst []) hp ⟨[], upd_same, .nil⟩, w0⟩, fun i m H2 w2 => ?_⟩
  obtain ⟨em, acc, M2, t2, m2, w2⟩ := w2
  obtain ⟨hok, ht⟩ := turn i acc M2 (by omega) w2
  by_cases hi : i < items.length
  · rw [List.getElem?_eq_getElem hi] at ht
    refine .inr ⟨rel.go i H2 M2 t2 m2 hok hi, fun H' => ∃ acc M', Tle H1 H' ∧ RelM K H' M' ∧ W (i + 1) acc M', fun H' q => ⟨m - 1, by omega, by omega, q⟩, fun x H3 y => ?_⟩
    obtain ⟨t3, m3, r3⟩ := rel.yld i H2 M2 x H3 _ t2 m2 hok (List.getElem?_eq_getElem hi) y
    have re3 : RelE H3 (wiped ρ vs) (wipe σ vs) := (re.tle ((t1.trans t2).trans t3)).wipe vs
    refine ⟨_, _, M2, _, r3, re3, m3, ht, fun σ4 H4 ρ4 M4 so t4 re4 m4 h4 => ?_⟩
    have e4 : wipe σ4 vs = wipe σ vs := (so vs hj).trans (by
      apply List.ext_getElem?
      intro j
      rw [wipe_get, wipe_get]
      by_cases hj : j ∈ vs
      · simp only [if_pos hj, wipe_get]
        cases σ[j]? <;> simp
      · simp only [if_neg hj, wipe_get])
    refine ⟨e4, ρ4, M4, _, re4, m4, h4, fun b H5 M5 t5 m5 h5 => ?_⟩
    cases b with
    | true =>
      refine ⟨ρ4, M5, _, re4.tle t5, m5, h5, fun y H6 dy M6 t6 r6 m6 h6 => ?_⟩
      obtain ⟨e6, l6, w6⟩ := h6
      obtain ⟨us, q6, rl6⟩ := m6.lst e6
      refine ⟨us, q6, by rw [rl6.length]; exact l6, ?_⟩
      have t7 : Tle H6 (upd H6 p (.lst (us ++ [y]))) := .write q6 fun xs z => nomatch z
      exact ⟨_, _, ((((t2.trans t3).trans t4).trans t5).trans t6).trans t7, m6.write (d := .lst (acc ++ [dy])) q6 (fun xs z => nomatch z) ⟨_, upd_same, (rl6.append (.cons r6 .nil)).tle t7⟩, w6⟩
    | false => exact ⟨_, _, ((t2.trans t3).trans t4).trans t5, m5, h5⟩
  · have e : i = items.length := by omega
    subst e
    rw [List.getElem?_eq_none (Nat.le_refl _)] at ht
    exact .inl ⟨rel.stop H2 M2 t2 m2 hok, (k.tle t1).ref t2 m2 ht⟩
section
variable {X : Cx} {elt tg iter : Expr} {ifs : List Expr} {scope : Scope} {own : List (Str × Nat)} {pos spos : Pos} {ti : TId} {g : TGd} {js : List Nat} {tt : TTd} {te : TEd}
theorem ped_lc (hc : X.calm = true) (hN : X.N.Nodup) (hi : PId X tg iter ti) (ok : BlkOk X.N X.env.scope scope own) (hj : ∀ i ∈ js, i ∈ own.map (·.2))
    (hg : ∀ (s : Shared) (H : Hp) (C : Addr) (cl : List (Str × Addr)) (fp : List Addr), PGd (X.blk s H scope (compEnvC scope cl C X.env) fp) tg js g) (ht : ∀ (s : Shared) (H : Hp) (C : Addr) (cl : List (Str × Addr)) (fp : List Addr), PTsd (X.blk s H scope (compEnvC scope cl C X.env) fp) ifs tt)
    (he : ∀ (s : Shared) (H : Hp) (C : Addr) (cl : List (Str × Addr)) (fp : List Addr), PEd (X.blk s H scope (compEnvC scope cl C X.env) fp) elt te) (hs : ∀ x, foldedSetIterable iter X.env x = pure x := by intro _; rfl) :
    PEd X (.ListComp elt [⟨tg, iter, ifs, 0⟩] scope pos) (tlc ti g tt te (own.map (·.2))) :=
  .of (pe_lc hc hN hi.pi ok (fun s H C cl fp => (hg s H C cl fp).pg) (fun s H C cl fp => (ht s H C cl fp).pt) (fun s H C cl fp => (he s H C cl fp).pe) hs) (tlc_low hj)
theorem psd_setLc {i : Nat} {y : Str} {py : Pos} (hc : X.calm = true) (hN : X.N.Nodup) (hy : X.N[i]? = some y) (hyl : X.env.scope.names.lookup y = some .local)
    (hsw : swapsWith (.ListComp elt [⟨tg, iter, ifs, 0⟩] scope pos) (some (.Name y py)) spos.line X.env = pure true) (hi : PId X tg iter ti) (ok : BlkOk X.N X.env.scope scope own) (hj : ∀ i ∈ js, i ∈ own.map (·.2))
    (hg : ∀ (s : Shared) (H : Hp) (C : Addr) (cl : List (Str × Addr)) (fp : List Addr), PGd (X.blk s H scope (compEnvC scope cl C X.env) fp) tg js g) (ht : ∀ (s : Shared) (H : Hp) (C : Addr) (cl : List (Str × Addr)) (fp : List Addr), PTsd (X.blk s H scope (compEnvC scope cl C X.env) fp) ifs tt)
    (he : ∀ (s : Shared) (H : Hp) (C : Addr) (cl : List (Str × Addr)) (fp : List Addr), PEd (X.blk s H scope (compEnvC scope cl C X.env) fp) elt te) (hs : ∀ x, foldedSetIterable iter X.env x = pure x := by intro _; rfl) :
    PSd X (.Assign [.Name y py] (.ListComp elt [⟨tg, iter, ifs, 0⟩] scope pos) spos) (tasg (tlc ti g tt te (own.map (·.2))) (gname i)) :=
  .of (ps_setLc hc hN hy hyl hsw hi.pi ok (fun s H C cl fp => (hg s H C cl fp).pg) (fun s H C cl fp => (ht s H C cl fp).pt) (fun s H C cl fp => (he s H C cl fp).pe) hs) (tset_low (tlc_low hj))
end
end DL

end T_DL4

section T_DL5
set_option Elab.async false
set_option linter.all false
set_option maxRecDepth 100000
set_option maxHeartbeats 1000000
/-! The D layer, 5: subscripts, slices, methods of lists, dicts, built-ins. -/
namespace DL
open PySem PySem.Spec L2
open PyProof.Rows hiding St

/-! ### keys -/
def keyOf : D → Option Key
  | .int i => some (.inl i)
  | .str x => some (.inr x)
  | _ => none
def keysOf : List D → Option (List Key)
  | [] => some []
  | d :: ds => match keyOf d, keysOf ds with
    | some k, some ks => some (k :: ks)
    | _, _ => none
theorem keyOf_eq {d : D} {k : Key} (h : keyOf d = some k) : d = kD k := by
  cases d <;> simp [keyOf] at h <;> subst h <;> rfl
theorem keysOf_eq : ∀ {ds : List D} {ks : List Key}, keysOf ds = some ks → ds = ks.map kD
  | [], ks, h => by simp [keysOf] at h; subst h; rfl
  | d :: ds, ks, h => by
    unfold keysOf at h
    split at h
    · rename_i k r e1 e2
      cases h
      rw [keyOf_eq e1, keysOf_eq e2]
      rfl
    · cases h
theorem kD_rel {H : Hp} {k : Key} {v : V} (h : Rel H (kD k) v) : v = kV k := by cases k <;> exact h
theorem kD_relL {H : Hp} : ∀ {ks : List Key} {vs : List V}, RelL H (ks.map kD) vs → vs = ks.map kV
  | [], _, h => h
  | k :: ks, _, ⟨v, r, e, h1, h2⟩ => by rw [e, kD_rel h1, kD_relL h2]; rfl
theorem kD_inj {a b : Key} (h : kD a = kD b) : a = b := by
  cases a <;> cases b <;> simp [kD] at h <;> rw [h]
theorem kDs_inj : ∀ {a b : List Key}, a.map kD = b.map kD → a = b
  | [], [], _ => rfl
  | [], _ :: _, h => by simp at h
  | _ :: _, [], h => by simp at h
  | x :: xs, y :: ys, h => by
    simp only [List.map_cons, List.cons.injEq] at h
    rw [kD_inj h.1, kDs_inj h.2]
/-- what a dict holds -/
def look (kvs : List (D × D)) (k : D) : Option D := (kvs.find? fun p => decide (p.1 = k)).map (·.2)
def dput (kvs : List (D × D)) (k v : D) : List (D × D) := if (kvs.any fun p => decide (p.1 = k)) = true then kvs.map (fun p => if p.1 = k then (p.1, v) else p) else kvs ++ [(k, v)]
def ddel (kvs : List (D × D)) (k : D) : List (D × D) := kvs.filter fun p => decide (p.1 ≠ k)
section
variable {κ : Type} [DecidableEq κ] {f : κ → D} {H : Hp}
theorem look_gen (inj : ∀ a b, f a = f b → a = b) (k : κ) : ∀ {kvs : List (D × D)} {hv : List (κ × V)}, Paired (fun (p : D × D) (q : κ × V) => p.1 = f q.1 ∧ Rel H p.2 q.2) kvs hv →
    (∃ d v, look kvs (f k) = some d ∧ valV hv k = some v ∧ Rel H d v) ∨ (look kvs (f k) = none ∧ valV hv k = none)
  | _, _, .nil => .inr ⟨rfl, rfl⟩
  | (dk, dv) :: kvs, (q, v) :: hv, .cons ⟨e1, e2⟩ t => by
    simp only at e1 e2
    by_cases h : q = k
    · subst h
      exact .inl ⟨dv, v, by simp [look, e1], valV_pos rfl, e2⟩
    · have h' : ¬ dk = f k := fun z => h (inj _ _ (e1 ▸ z))
      have hl : look ((dk, dv) :: kvs) (f k) = look kvs (f k) := by simp [look, h']
      rw [hl, valV_neg (p := (q, v)) h]
      exact look_gen inj k t
theorem any_gen (inj : ∀ a b, f a = f b → a = b) (k : κ) : ∀ {kvs : List (D × D)} {hv : List (κ × V)}, Paired (fun (p : D × D) (q : κ × V) => p.1 = f q.1 ∧ Rel H p.2 q.2) kvs hv →
    (kvs.any fun p => decide (p.1 = f k)) = (hv.any fun kv => decide (kv.1 = k))
  | _, _, .nil => rfl
  | (dk, dv) :: kvs, (q, v) :: hv, .cons ⟨e1, e2⟩ t => by
    simp only at e1 e2
    simp only [List.any_cons, any_gen inj k t]
    congr 1
    by_cases h : q = k
    · simp [h, e1]
    · have h' : ¬ dk = f k := fun z => h (inj _ _ (e1 ▸ z))
      simp [h, h']
theorem paired_app {α β : Type} {F : α → β → Prop} : ∀ {a c : List α} {b d : List β}, Paired F a b → Paired F c d → Paired F (a ++ c) (b ++ d)
  | _, _, _, _, .nil, h => h
  | _, _, _, _, .cons r t, h => .cons r (paired_app t h)
theorem map_gen (inj : ∀ a b, f a = f b → a = b) (k : κ) {d : D} {v : V} (r : Rel H d v) : ∀ {kvs : List (D × D)} {hv : List (κ × V)}, Paired (fun (p : D × D) (q : κ × V) => p.1 = f q.1 ∧ Rel H p.2 q.2) kvs hv →
    Paired (fun (p : D × D) (q : κ × V) => p.1 = f q.1 ∧ Rel H p.2 q.2) (kvs.map fun p => if p.1 = f k then (p.1, d) else p) (hv.map fun q => if q.1 = k then (q.1, v) else q)
  | _, _, .nil => .nil
  | (dk, dv) :: kvs, (q, u) :: hv, .cons ⟨e1, e2⟩ t => by
    simp only at e1 e2
    simp only [List.map_cons]
    refine .cons ?_ (map_gen inj k r t)
    by_cases h : q = k
    · have h' : dk = f k := by rw [e1, h]
      simp only [h, h', if_true]
      exact ⟨trivial, r⟩
    · have h' : ¬ dk = f k := fun z => h (inj _ _ (e1 ▸ z))
      simp only [h, h', if_false]
      exact ⟨e1, e2⟩
theorem dput_gen (inj : ∀ a b, f a = f b → a = b) (k : κ) {d : D} {v : V} (r : Rel H d v) {kvs : List (D × D)} {hv : List (κ × V)} (h : Paired (fun (p : D × D) (q : κ × V) => p.1 = f q.1 ∧ Rel H p.2 q.2) kvs hv) :
    Paired (fun (p : D × D) (q : κ × V) => p.1 = f q.1 ∧ Rel H p.2 q.2) (dput kvs (f k) d) (putK hv k v) := by
  unfold dput putK
  rw [any_gen inj k h]
  split
  · exact map_gen inj k r h
  · exact paired_app h (.cons ⟨rfl, r⟩ .nil)
theorem ddel_gen (inj : ∀ a b, f a = f b → a = b) (k : κ) : ∀ {kvs : List (D × D)} {hv : List (κ × V)}, Paired (fun (p : D × D) (q : κ × V) => p.1 = f q.1 ∧ Rel H p.2 q.2) kvs hv →
    Paired (fun (p : D × D) (q : κ × V) => p.1 = f q.1 ∧ Rel H p.2 q.2) (ddel kvs (f k)) (dropK hv k)
  | _, _, .nil => .nil
  | (dk, dv) :: kvs, (q, v) :: hv, .cons ⟨e1, e2⟩ t => by
    simp only at e1 e2
    by_cases h : q = k
    · have h' : dk = f k := by rw [e1, h]
      simp only [ddel, dropK, List.filter_cons, h, h', ne_eq, not_true, decide_false, if_false]
      exact ddel_gen inj k t
    · have h' : ¬ dk = f k := fun z => h (inj _ _ (e1 ▸ z))
      simp only [ddel, dropK, List.filter_cons, h, h', ne_eq, not_false_eq_true, decide_true, if_true]
      exact .cons ⟨e1, e2⟩ (ddel_gen inj k t)
end
theorem tK_inj (a b : List Key) (h : D.tup (a.map kD) = D.tup (b.map kD)) : a = b := kDs_inj (by simpa using h)
/-- a dict that may be read: its pairs, whether its keys are tuples -/
def rdD (M : Mem) (a : Addr) : Option (Bool × List (D × D)) := match M a with
  | some (.dK kvs) => some (false, kvs)
  | some (.fK _ _ kvs) => some (false, kvs)
  | some (.dT kvs) => some (true, kvs)
  | some (.fT _ _ kvs) => some (true, kvs)
  | _ => none
/-- a value that may be a key of such a dict -/
def isKey : Bool → D → Bool
  | false, d => (keyOf d).isSome
  | true, .tup ds => (keysOf ds).isSome
  | true, _ => false
theorem rdD_get {K : PySem.W.Frag} {H : Hp} {M : Mem} {a : Addr} {t : Bool} {kvs : List (D × D)} {d : D} {y : V} (m : RelM K H M) (h : rdD M a = some (t, kvs)) (hk : isKey t d = true) (r : Rel H d y) :
    ∃ o, DGet H a y o ∧ ((∃ e v, look kvs d = some e ∧ o = some v ∧ Rel H e v) ∨ (look kvs d = none ∧ o = none)) := by
  have hK : ∀ hv, Rd H a (.dK hv) → RelKv H kvs hv → t = false → ∃ o, DGet H a y o ∧ ((∃ e v, look kvs d = some e ∧ o = some v ∧ Rel H e v) ∨ (look kvs d = none ∧ o = none)) := fun hv q rl et => by
    subst et
    obtain ⟨k, ek⟩ := Option.isSome_iff_exists.mp (show (keyOf d).isSome = true by cases d <;> exact hk)
    have ed := keyOf_eq ek
    subst ed
    refine ⟨valV hv k, .inl ⟨hv, k, q, kD_rel r, rfl⟩, ?_⟩
    rcases look_gen (f := kD) (fun _ _ => kD_inj) k rl with ⟨e, v, h1, h2, h3⟩ | ⟨h1, h2⟩
    · exact .inl ⟨e, v, h1, h2, h3⟩
    · exact .inr ⟨h1, h2⟩
  have hT : ∀ hv, Rd H a (.dT hv) → RelTv H kvs hv → t = true → ∃ o, DGet H a y o ∧ ((∃ e v, look kvs d = some e ∧ o = some v ∧ Rel H e v) ∨ (look kvs d = none ∧ o = none)) := fun hv q rl et => by
    subst et
    cases d with
    | tup ds =>
      obtain ⟨k, ek⟩ := Option.isSome_iff_exists.mp (show (keysOf ds).isSome = true from hk)
      have ed := keysOf_eq ek
      subst ed
      obtain ⟨b, vs, ey, qb, rb⟩ := r
      rw [kD_relL rb] at qb
      refine ⟨valV hv k, .inr ⟨hv, k, b, q, ey, qb, rfl⟩, ?_⟩
      rcases look_gen (κ := List Key) (f := fun k => D.tup (k.map kD)) tK_inj k rl with ⟨e, v, h1, h2, h3⟩ | ⟨h1, h2⟩
      · exact .inl ⟨e, v, h1, h2, h3⟩
      · exact .inr ⟨h1, h2⟩
    | _ => cases hk
  unfold rdD at h
  split at h
  · rename_i l e; cases h; obtain ⟨hv, q, rl⟩ := m a _ e; exact hK hv (.inl q) rl rfl
  · rename_i o hv l e; cases h; obtain ⟨q, rl⟩ := m a _ e; exact hK hv (.inr ⟨o, q⟩) rl rfl
  · rename_i l e; cases h; obtain ⟨hv, q, rl⟩ := m a _ e; exact hT hv (.inl q) rl rfl
  · rename_i o hv l e; cases h; obtain ⟨q, rl⟩ := m a _ e; exact hT hv (.inr ⟨o, q⟩) rl rfl
  · cases h

/-! ### subscripts -/
def ixRef (a : Addr) (y : D) (M : Mem) (Q : VKd) : Prop := match rdL M a with
  | some xs => (match y with
    | .int i => (match atI xs i with
      | some d => Q d M
      | none => False)
    | _ => False)
  | none => (match rdD M a with
    | some (t, kvs) => isKey t y = true ∧ (match look kvs y with
      | some d => Q d M
      | none => False)
    | none => False)
def ixR : R2d
  | .tup xs, .int i, M, Q => (match atI xs i with
    | some d => Q d M
    | none => False)
  | .str s, .int i, M, Q => s.length ≤ sizeLine ∧ (match atI s.cps.toList i with
    | some c => Q (.str ⟨#[c]⟩) M
    | none => False)
  | .ref a, y, M, Q => ixRef a y M Q
  | _, _, _, _ => False
theorem RelL.atI {H : Hp} {ds : List D} {vs : List V} {i : Int} {d : D} (r : RelL H ds vs) (h : L2.atI ds i = some d) : ∃ v, L2.atI vs i = some v ∧ Rel H d v := by
  unfold L2.atI at h ⊢
  rw [r.length]
  obtain ⟨j, e1, e2⟩ := Option.bind_eq_some_iff.mp h
  obtain ⟨v, e3, e4⟩ := r.get e2
  exact ⟨v, by rw [e1]; exact e3, e4⟩
/-- an item of a dict, by values -/
def rIxD : R2 := fun x y H Q => ∃ a v, x = .ref a ∧ DGet H a y (some v) ∧ Q v H
section
variable {X : Cx}
theorem ix_dict (hu : X.A.units + 1 < cLine) : IxR X rIxD := by
  intro value slice pins s σ H x y v u Q I rx ry h hs
  obtain ⟨a, z, ex, g, q⟩ := h
  subst ex
  cases (show v = Value.ref a from rx)
  have hT := dict_typeIs I g
  refine tail_any (ops := [.ref a, u]) hT PySem.F.slot_dict_getitem.lookup (d_getItem hu I g ry fun w' s' I' r' => ⟨z, H, I', r', q⟩) hs
theorem IxR.mono {r r' : R2} (h : IxR X r) (q : ∀ x y H Q, r' x y H Q → r x y H Q) : IxR X r' := fun a b pins s σ H x y v u Q I rx ry w => h a b pins s σ H x y v u Q I rx ry (q x y H Q w)
theorem ix_D (hu : X.A.units + 1 < cLine) : IxR X (lowR2 X.K ixR) := by
  refine IxR.mono ((ix_list.or ix_tup).or (ix_str.or (ix_dict hu))) fun x y H Q w => ?_
  obtain ⟨a, b, M, Q0, ra, rb, m, h, k⟩ := w
  cases a with
  | tup xs => cases b with
    | int i =>
      cases rb
      obtain ⟨p, vs, e, q, rl⟩ := ra
      have h' : (match L2.atI xs i with
        | some d => Q0 d M
        | none => False) := h
      split at h'
      · rename_i d e1
        obtain ⟨v, ev, rv⟩ := rl.atI e1
        exact .inl (.inr ⟨p, vs, i, v, e, rfl, .of q, ev, k.any rv m h'⟩)
      · exact h'.elim
    | _ => exact h.elim
  | str s => cases b with
    | int i =>
      cases ra
      cases rb
      obtain ⟨hl, h'⟩ := (show s.length ≤ sizeLine ∧ (match L2.atI s.cps.toList i with
        | some c => Q0 (.str ⟨#[c]⟩) M
        | none => False) from h)
      split at h'
      · rename_i c e1
        exact .inr (.inl ⟨s, i, c, rfl, rfl, hl, e1, k.str m h'⟩)
      · exact h'.elim
    | _ => exact h.elim
  | ref p =>
    cases ra
    have dict : (match rdD M p with
      | some (t, kvs) => isKey t b = true ∧ (match look kvs b with
        | some d => Q0 d M
        | none => False)
      | none => False) → rIxD (.ref p) y H Q := fun h' => by
      split at h'
      · rename_i t kvs e
        obtain ⟨hk, h'⟩ := h'
        split at h'
        · rename_i d ed
          obtain ⟨o, g, c⟩ := rdD_get m e hk rb
          rcases c with ⟨e, v, h1, h2, h3⟩ | ⟨h1, h2⟩
          · rw [ed] at h1
            cases h1
            subst h2
            exact ⟨p, v, rfl, g, k.any h3 m h'⟩
          · rw [ed] at h1; cases h1
        · exact h'.elim
      · exact h'.elim
    have h' : ixRef p b M Q0 := by cases b <;> exact h
    unfold ixRef at h'
    cases e : rdL M p with
    | none => rw [e] at h'; exact .inr (.inr (dict h'))
    | some xs =>
      rw [e] at h'
      obtain ⟨vs, q, rl⟩ := m.rdL e
      cases b with
      | int i =>
        cases rb
        simp only at h'
        split at h'
        · rename_i d e1
          obtain ⟨v, ev, rv⟩ := rl.atI e1
          exact .inl (.inl ⟨p, vs, i, v, rfl, rfl, q, ev, k.any rv m h'⟩)
        · exact h'.elim
      | _ => exact h'.elim
  | _ => cases b <;> exact h.elim
theorem ped_ix {a b : Expr} {ta tb : TEd} {pos : Pos} (hu : X.A.units + 1 < cLine) (ha : PEd X a ta) (hb : PEd X b tb) (hs : PlainIx b := by intro _ _; rfl) : PEd X (.Subscript a b pos) (top2 ixR ta tb) := .of (pe_ix (ix_D hu) ha.pe hb.pe hs) top2_low
end
def setLst (a : Addr) (xs : List D) (i v : D) (M : Mem) (Q : Mem → Prop) : Prop := match i with
  | .int k => (match ixN xs.length k with
    | some j => Q (put M a (.lst (xs.set j v)))
    | none => False)
  | _ => False
/-- o[i] = v -/
def setR (o i v : D) (M : Mem) (Q : Mem → Prop) : Prop := match o with
  | .ref a => (match M a with
    | some (.lst xs) => setLst a xs i v M Q
    | some (.dK kvs) => isKey false i = true ∧ kvs.length < sizeLine ∧ Q (put M a (.dK (dput kvs i v)))
    | some (.dT kvs) => isKey true i = true ∧ kvs.length < sizeLine ∧ Q (put M a (.dT (dput kvs i v)))
    | _ => False)
  | _ => False
def delR (o i : D) (M : Mem) (Q : Mem → Prop) : Prop := match o with
  | .ref a => (match M a with
    | some (.dK kvs) => isKey false i = true ∧ (look kvs i).isSome = true ∧ Q (put M a (.dK (ddel kvs i)))
    | some (.dT kvs) => isKey true i = true ∧ (look kvs i).isSome = true ∧ Q (put M a (.dT (ddel kvs i)))
    | _ => False)
  | _ => False
def gsub (to ti : TEd) : TGd := fun v ρ M Q => to ρ M fun o M1 => ti ρ M1 fun i M2 => setR o i v M2 fun M3 => Q ρ M3
def rSetD : V → V → V → Hp → (Hp → Prop) → Prop := fun o i v H Q => ∃ a H', o = .ref a ∧ DPut H a i v H' ∧ Q H'
def lowSet (K : PySem.W.Frag) : V → V → V → Hp → (Hp → Prop) → Prop := fun o i v H Q => ∃ dO dI dV M Q0, Rel H dO o ∧ Rel H dI i ∧ Rel H dV v ∧ RelM K H M ∧ setR dO dI dV M Q0 ∧ ∀ H' M', Tle H H' → RelM K H' M' → Q0 M' → Q H'
section
variable {X : Cx}
theorem set_dict (hu : X.A.units + 1 < cLine) : PSet X rSetD := by
  intro pins s σ H o i v ov iv u Q I ro ri rv h
  obtain ⟨a, H', eo, g, q⟩ := h
  subst eo
  cases (show ov = Value.ref a from ro)
  exact d_setItem hu I g ri rv fun s' I' => ⟨H', I', q⟩
theorem set_D (hu : X.A.units + 1 < cLine) : PSet X (lowSet X.K) := by
  intro pins s σ H o i v ov iv u Q I ro ri rv h
  obtain ⟨dO, dI, dV, M, Q0, r1, r2, r3, m, h, k⟩ := h
  cases dO with
  | ref a =>
    cases r1
    have h' : (match M a with
      | some (.lst xs) => setLst a xs dI dV M Q0
      | some (.dK kvs) => isKey false dI = true ∧ kvs.length < sizeLine ∧ Q0 (put M a (.dK (dput kvs dI dV)))
      | some (.dT kvs) => isKey true dI = true ∧ kvs.length < sizeLine ∧ Q0 (put M a (.dT (dput kvs dI dV)))
      | _ => False) := h
    split at h'
    · rename_i xs e
      obtain ⟨vs, q, rl⟩ := m.lst e
      cases dI with
      | int n =>
        cases r2
        unfold setLst at h'
        simp only at h'
        split at h'
        · rename_i j ej
          have t : Tle H (upd H a (.lst (vs.set j v))) := .write q fun xs z => nomatch z
          exact set_list pins s σ H (.ref a) (.int n) v ov iv u Q I ro ri rv ⟨a, vs, n, j, rfl, rfl, q, by rw [rl.length]; exact ej, k _ _ t (m.write (d := .lst (xs.set j dV)) q (fun xs z => nomatch z) ⟨_, upd_same, (rl.set r3 j).tle t⟩) h'⟩
        · exact h'.elim
      | _ => exact h'.elim
    · rename_i kvs e
      obtain ⟨hv, q, rl⟩ := m a _ e
      obtain ⟨hk, hl, h'⟩ := h'
      obtain ⟨key, ek⟩ := Option.isSome_iff_exists.mp (show (keyOf dI).isSome = true by cases dI <;> exact hk)
      have ed := keyOf_eq ek
      subst ed
      have t : Tle H (upd H a (.dK (putK hv key v))) := .write q fun xs z => nomatch z
      have el : kvs.length = hv.length := Paired.length rl
      have ei := kD_rel r2
      subst ei
      exact set_dict hu pins s σ H (.ref a) (kV key) v ov iv u Q I ro ri rv ⟨a, _, rfl, DPut.k q (by omega), k _ _ t (m.write (d := .dK (dput kvs (kD key) dV)) q (fun xs z => nomatch z) ⟨_, upd_same, RelKv.tle t (dput_gen (f := kD) (fun _ _ => kD_inj) key r3 rl)⟩) h'⟩
    · rename_i kvs e
      obtain ⟨hv, q, rl⟩ := m a _ e
      obtain ⟨hk, hl, h'⟩ := h'
      cases dI with
      | tup ds =>
        obtain ⟨key, ek⟩ := Option.isSome_iff_exists.mp (show (keysOf ds).isSome = true from hk)
        have ed := keysOf_eq ek
        subst ed
        obtain ⟨b, vs, ey, qb, rb⟩ := r2
        subst ey
        rw [kD_relL rb] at qb
        have t : Tle H (upd H a (.dT (putK hv key v))) := .write q fun xs z => nomatch z
        have el : kvs.length = hv.length := Paired.length rl
        exact set_dict hu pins s σ H (.ref a) (.ref b) v ov iv u Q I ro ri rv ⟨a, _, rfl, DPut.t q qb (by omega), k _ _ t (m.write (d := .dT (dput kvs (.tup (key.map kD)) dV)) q (fun xs z => nomatch z) ⟨_, upd_same, RelTv.tle t (dput_gen (κ := List Key) (f := fun k => D.tup (k.map kD)) tK_inj key r3 rl)⟩) h'⟩
      | _ => cases hk
    · exact h'.elim
  | _ => exact h.elim
theorem pgd_sub {o i : Expr} {to ti : TEd} {pos : Pos} (hu : X.A.units + 1 < cLine) (ho : PEd X o to) (hi : PEd X i ti)
    (ha : ∀ v, assign (.Subscript o i pos) X.env v = (do
      let ov ← holding [v] (eval o X.env)
      let iv ← holding [v, ov] (eval i X.env)
      standAt pos
      holding [v, ov, iv] (setItem ov iv v)
      release [v, ov, iv] []) := by intro _; rfl) : PGd X (.Subscript o i pos) [] (gsub to ti) := by
  refine .of (pg_sub ho.pe hi.pe (set_D hu) ha) fun v σ H Q h => ?_
  obtain ⟨d, ρ, M, Q0, rd, re, rm, h, k⟩ := h
  exact ⟨ρ, M, _, re, rm, h, fun o H1 dO M1 t1 r1 m1 h1 => ⟨ρ, M1, _, re.tle t1, m1, h1, fun i H2 dI M2 t2 r2 m2 h2 =>
    ⟨dO, dI, d, M2, _, r1.tle t2, r2, rd.tle (t1.trans t2), m2, h2, fun H3 M3 t3 m3 h3 => k σ H3 ρ M3 .refl ((t1.trans t2).trans t3) (re.tle ((t1.trans t2).trans t3)) m3 h3⟩⟩⟩
end
end DL

end T_DL5

section T_DL6
set_option Elab.async false
set_option linter.all false
set_option maxRecDepth 100000
set_option maxHeartbeats 1000000
/-! The D layer, 6: slices, methods, built-ins, calls of defs. -/
namespace DL
open PySem PySem.Spec L2
open PyProof.Rows hiding St

/-! ### in, not in -/
def inR (neg : Bool) : R2d := fun x y M Q => match y with
  | .ref a => (match rdD M a with
    | some (t, kvs) => isKey t x = true ∧ Q (.bl (if neg then !(look kvs x).isSome else (look kvs x).isSome)) M
    | none => (match rdL M a with
      | some ys => ∃ p qs, PyR M x p ∧ PyRL M ys qs ∧ SeqAt.shaped p = true ∧ SeqAt.shaped (.list qs) = true ∧ Q (.bl (if neg then !qs.any (fun q => PyData.eqv q p) else qs.any (fun q => PyData.eqv q p))) M
      | none => False))
  | .tup ys => (∃ vx vs, absD x = some vx ∧ absL ys = some vs ∧ flatV vx = true ∧ vs.all flatV = true ∧ Q (.bl (if neg then !inV vx vs else inV vx vs)) M)
  | .str j => (match x with
    | .str i => Q (.bl (if neg then !(!(Builtin.Str.occurrences j i 0 j.length 1).isEmpty) else !(Builtin.Str.occurrences j i 0 j.length 1).isEmpty)) M
    | _ => False)
  | _ => False
where
  absD : D → Option V
    | .non => some .non
    | .bl b => some (.bl b)
    | .int i => some (.int i)
    | .str x => some (.str x)
    | _ => none
  absL : List D → Option (List V)
    | [] => some []
    | d :: ds => match absD d, absL ds with
      | some v, some vs => some (v :: vs)
      | _, _ => none
theorem absD_rel {H : Hp} {d : D} {v w : V} (h : inR.absD d = some w) (r : Rel H d v) : v = w := by
  cases d <;> simp [inR.absD] at h <;> (cases r; exact h)
theorem absL_rel {H : Hp} : ∀ {ds : List D} {vs ws : List V}, inR.absL ds = some ws → RelL H ds vs → vs = ws
  | [], _, _, h, r => by cases r; simp [inR.absL] at h; exact h.symm
  | d :: ds, _, _, h, ⟨v, r, e, h1, h2⟩ => by
    unfold inR.absL at h
    split at h
    · rename_i w ws e1 e2
      cases h
      subst e
      rw [absD_rel e1 h1, absL_rel e2 h2]
    · cases h
def rDIn (neg : Bool) : R2 := fun y x H Q => ∃ a o, x = .ref a ∧ DGet H a y o ∧ Q (.bl (if neg then !o.isSome else o.isSome)) H
section
variable {X : Cx}
theorem op_inDict (hu : X.A.units + 1 < cLine) : OpR X (compareOp .In) (rDIn false) := by
  intro pins s σ H y x iv u Q I ry rx h
  obtain ⟨a, o, ex, g, q⟩ := h
  subst ex
  cases (show u = Value.ref a from rx)
  exact d_in hu I g ry fun s3 I3 => ⟨.bl o.isSome, H, I3, rfl, q⟩
theorem op_notInDict (hu : X.A.units + 1 < cLine) : OpR X (compareOp .NotIn) (rDIn true) := by
  intro pins s σ H y x iv u Q I ry rx h
  obtain ⟨a, o, ex, g, q⟩ := h
  subst ex
  cases (show u = Value.ref a from rx)
  exact d_notIn hu I g ry fun s3 I3 => ⟨.bl (!o.isSome), H, I3, rfl, q⟩
theorem inR_low {neg : Bool} {K : PySem.W.Frag} {x y : V} {H : Hp} {Q : VK} (h : lowR2 K (inR neg) x y H Q) :
    (rDIn neg x y H Q ∨ (∃ d ds, Dp K H x d ∧ Dp K H y (.list ds) ∧ SeqAt.shaped d = true ∧ SeqAt.shaped (.list ds) = true ∧ Q (.bl (if neg then !ds.any (fun q => PyData.eqv q d) else ds.any (fun q => PyData.eqv q d))) H)) ∨
    (rIn K neg x y H Q ∨ ∃ i j, x = .str i ∧ y = .str j ∧ Q (.bl (if neg then !(!(Builtin.Str.occurrences j i 0 j.length 1).isEmpty) else !(Builtin.Str.occurrences j i 0 j.length 1).isEmpty)) H) := by
  obtain ⟨a, b, M, Q0, ra, rb, m, h, k⟩ := h
  cases b with
  | ref p =>
    cases rb
    have h' : (match rdD M p with
      | some (t, kvs) => isKey t a = true ∧ Q0 (.bl (if neg then !(look kvs a).isSome else (look kvs a).isSome)) M
      | none => (match rdL M p with
        | some ys => ∃ q qs, PyR M a q ∧ PyRL M ys qs ∧ SeqAt.shaped q = true ∧ SeqAt.shaped (.list qs) = true ∧ Q0 (.bl (if neg then !qs.any (fun z => PyData.eqv z q) else qs.any (fun z => PyData.eqv z q))) M
        | none => False)) := h
    split at h'
    · rename_i t kvs e
      obtain ⟨o, g, c⟩ := rdD_get m e h'.1 ra
      refine .inl (.inl ⟨p, o, rfl, g, ?_⟩)
      have eo : o.isSome = (look kvs a).isSome := by
        rcases c with ⟨e, v, h1, h2, _⟩ | ⟨h1, h2⟩ <;> rw [h1, h2] <;> rfl
      rw [eo]
      exact k.bl m h'.2
    · split at h'
      · rename_i ys e
        obtain ⟨q, qs, h1, h2, s1, s2, h'⟩ := h'
        exact .inl (.inr ⟨q, qs, PyR.dp m _ _ _ h1 ra, PyR.dp m _ _ _ (.lst e h2) rfl, s1, s2, k.bl m h'⟩)
      · exact h'.elim
  | tup ys =>
    obtain ⟨p, vs, e, q, rl⟩ := rb
    obtain ⟨vx, ws, e1, e2, f1, f2, h⟩ := h
    have z1 := absD_rel e1 ra
    have z2 := absL_rel e2 rl
    subst z1 z2 e
    exact .inr (.inl ⟨p, vs, rfl, .inr (.of q), f1, f2, k.bl m h⟩)
  | str j => cases a with
    | str i => cases ra; cases rb; exact .inr (.inr ⟨i, j, rfl, rfl, k.bl m h⟩)
    | _ => exact h.elim
  | _ => exact h.elim
theorem op_inDD (hu : X.A.units + 65 < cLine) : OpR X (compareOp .In) (lowR2 X.K (inR false)) := by
  refine OpR.mono (((op_inDict (by omega)).or (op_inD hu)).or (op_in_seq.or op_in_str)) fun x y H Q w => ?_
  rcases inR_low w with (h | ⟨d, ds, h⟩) | (h | h)
  · exact .inl (.inl h)
  · exact .inl (.inr ⟨d, ds, h⟩)
  · exact .inr (.inl h)
  · exact .inr (.inr h)
theorem op_notInDD (hu : X.A.units + 65 < cLine) : OpR X (compareOp .NotIn) (lowR2 X.K (inR true)) := by
  refine OpR.mono (((op_notInDict (by omega)).or (op_notInD hu)).or (op_notIn_seq.or op_notIn_str)) fun x y H Q w => ?_
  rcases inR_low w with (h | ⟨d, ds, h⟩) | (h | h)
  · exact .inl (.inl h)
  · exact .inl (.inr ⟨d, ds, h⟩)
  · exact .inr (.inl h)
  · exact .inr (.inr h)
end

/-! ### slices -/
abbrev TOd := Envd → Mem → (Option Int → Mem → Prop) → Prop
def lowO (K : PySem.W.Frag) (t : TOd) : TO := fun σ H Q => ∃ ρ M Q0, RelE H ρ σ ∧ RelM K H M ∧ t ρ M Q0 ∧ ∀ o H' M', Tle H H' → RelM K H' M' → Q0 o M' → Q o H'
structure POd (X : Cx) (e : Option Expr) (t : TOd) : Prop where
  po : PO X e (lowO X.K t)
def tnopart : TOd := fun _ M Q => Q none M
def tpart (t : TEd) : TOd := fun ρ M Q => t ρ M fun x M1 => match x with
  | .int i => Q (some i) M1
  | _ => False
def cutD (xs : List D) (lo hi : Option Int) : List D := (xs.drop (HT.sIx xs.length 0 lo)).take (HT.sIx xs.length xs.length hi - HT.sIx xs.length 0 lo)
theorem RelL.cut {H : Hp} {ds : List D} {vs : List V} (r : RelL H ds vs) (lo hi : Option Int) : RelL H (cutD ds lo hi) (cutV vs lo hi) := by
  unfold cutD cutV
  rw [r.length]
  exact (r.drop _).take _
theorem cutD_whole {xs : List D} {lo hi : Option Int} (h : HT.sIx xs.length 0 lo = 0 ∧ HT.sIx xs.length xs.length hi = xs.length) : cutD xs lo hi = xs := by
  unfold cutD
  rw [h.1, h.2]
  simp
def slR (x : D) (lo hi : Option Int) (M : Mem) (Q : VKd) : Prop := match x with
  | .tup xs => Q (.tup (cutD xs lo hi)) M
  | .str s => s.length ≤ sizeLine ∧ Q (.str (cutS s lo hi)) M
  | .ref a => (match rdL M a with
    | some xs => ∀ p, M p = none → Q (.ref p) (put M p (.lst (cutD xs lo hi)))
    | none => False)
  | _ => False
def tslice (te : TEd) (tl th : TOd) : TEd := fun ρ M Q => te ρ M fun x M1 => tl ρ M1 fun l M2 => th ρ M2 fun u M3 => slR x l u M3 Q
def lowSl (K : PySem.W.Frag) : V → Option Int → Option Int → Hp → VK → Prop := fun x lo hi H Q => ∃ a M Q0, Rel H a x ∧ RelM K H M ∧ slR a lo hi M Q0 ∧ lowV K H Q0 Q
section
variable {X : Cx}
theorem SlR.mono {r r' : V → Option Int → Option Int → Hp → VK → Prop} (h : SlR X r) (q : ∀ x lo hi H Q, r' x lo hi H Q → r x lo hi H Q) : SlR X r' := fun pins s σ H x v vl vu lo hi sl Q I rx hs pl pu w => h pins s σ H x v vl vu lo hi sl Q I rx hs pl pu (q x lo hi H Q w)
theorem sl_D : SlR X (lowSl X.K) := by
  refine SlR.mono ((sl_list.or sl_tupA).or sl_str) fun x lo hi H Q w => ?_
  obtain ⟨a, M, Q0, ra, m, h, k⟩ := w
  cases a with
  | tup xs =>
    obtain ⟨p, vs, e, q, rl⟩ := ra
    subst e
    refine .inl (.inr ⟨p, vs, rfl, .of q, fun hw => ?_, fun _ p hp => k.newT m hp (rl.cut lo hi) h⟩)
    rw [rl.length] at hw
    have h2 : Q0 (.tup (cutD xs lo hi)) M := h
    rw [cutD_whole hw] at h2
    exact k.tup .refl q rl m h2
  | str s => cases ra; exact .inr ⟨s, rfl, h.1, k.str m h.2⟩
  | ref a =>
    cases ra
    have h' : (match rdL M a with
      | some xs => ∀ p, M p = none → Q0 (.ref p) (put M p (.lst (cutD xs lo hi)))
      | none => False) := h
    split at h'
    · rename_i xs e
      obtain ⟨vs, q, rl⟩ := m.rdL e
      exact .inl (.inl ⟨a, vs, rfl, q, fun p hp => k.newL m hp (rl.cut lo hi) h'⟩)
    · exact h'.elim
  | _ => exact h.elim
theorem pod_none : POd X none tnopart := ⟨⟨fun pins s σ H Q I w => by
  obtain ⟨ρ, M, Q0, re, rm, h, k⟩ := w
  exact po_none.run pins s σ H Q I (k none H M .refl rm h)⟩⟩
theorem pod_some {e : Expr} {te : TEd} (h : PEd X e te) : POd X (some e) (tpart te) := ⟨⟨fun pins s σ H Q I w => by
  obtain ⟨ρ, M, Q0, re, rm, hw, k⟩ := w
  refine (po_some h.pe).run pins s σ H Q I ⟨ρ, M, _, re, rm, hw, fun x H1 dx M1 t1 r1 m1 h1 => ?_⟩
  cases dx with
  | int i => cases r1; exact ⟨i, rfl, k _ H1 M1 t1 m1 h1⟩
  | _ => exact h1.elim⟩⟩
theorem ped_slice {e : Expr} {lo hi : Option Expr} {te : TEd} {tl th : TOd} {pos p2 : Pos} (he : PEd X e te) (hl : POd X lo tl) (hu : POd X hi th) : PEd X (.Subscript e (.Slice lo hi none p2) pos) (tslice te tl th) := by
  refine .of (pe_slice sl_D he.pe hl.po hu.po) fun σ H Q h => ?_
  obtain ⟨ρ, M, Q0, re, rm, h, k⟩ := h
  exact ⟨ρ, M, _, re, rm, h, fun x H1 dx M1 t1 r1 m1 h1 => ⟨ρ, M1, _, re.tle t1, m1, h1, fun l H2 M2 t2 m2 h2 => ⟨ρ, M2, _, re.tle (t1.trans t2), m2, h2, fun u H3 M3 t3 m3 h3 =>
    ⟨dx, M3, Q0, r1.tle (t2.trans t3), m3, h3, k.tle ((t1.trans t2).trans t3)⟩⟩⟩⟩
end

/-! ### built-ins called by name -/
abbrev RCd := List D → Mem → VKd → Prop
def lowCR (K : PySem.W.Frag) (r : RCd) : List V → Hp → VK → Prop := fun xs H Q => ∃ ds M Q0, RelL H ds xs ∧ RelM K H M ∧ r ds M Q0 ∧ lowV K H Q0 Q
def tcb (r : RCd) (t : TAd) : TEd := fun ρ M Q => t ρ M fun ds M1 => r ds M1 Q
theorem tcb_low {K : PySem.W.Frag} {r : RCd} {t : TAd} (σ : St) (H : Hp) (Q : VK) (h : lowE K (tcb r t) σ H Q) : tCB (lowCR K r) (lowA K t) σ H Q := by
  obtain ⟨ρ, M, Q0, re, rm, h, k⟩ := h
  exact ⟨ρ, M, _, re, rm, h, fun vs H1 ds M1 t1 r1 m1 h1 => ⟨ds, M1, Q0, r1, m1, h1, k.tle t1⟩⟩
section
variable {X : Cx} {id T : String} {r : RCd} {e : Expr} {es : List Expr} {t : TAd} {x : Str} {p pos : Pos}
theorem CallR.mono {f : Value} {r r' : List V → Hp → VK → Prop} (h : CallR X f r) (q : ∀ xs H Q, r' xs H Q → r xs H Q) : CallR X f r' := fun pins s σ H xs us Q I rv w => h pins s σ H xs us Q I rv (q xs H Q w)
theorem CallR.or {f : Value} {r r' : List V → Hp → VK → Prop} (h : CallR X f r) (h' : CallR X f r') : CallR X f (fun xs H Q => r xs H Q ∨ r' xs H Q) := fun pins s σ H xs us Q I rv w => w.elim (h pins s σ H xs us Q I rv) (h' pins s σ H xs us Q I rv)
theorem ped_callB (hc : CallR X (.builtin id) (lowCR X.K r)) (hg : Gl X x) (hm : X.mg x = none) (hv : bootBuiltins x = some (.builtin id)) (ha : PAd X (e :: es) t) (hn : x ≠ "__name__" := by decide) (hdb : (x == ("__debug__" : Str)) = false := by decide)
    (he : starEach (e :: es) X.env = (false, eval e X.env) :: starEach es X.env := by rfl) (hpl : (backTo pos (starEach es X.env)).any (·.1) = false := by rfl) : PEd X (.Call (.Name x p) (e :: es) [] pos) (tcb r t) :=
  .of (pe_callB hc hg hm hv ha.pa hn hdb he hpl) tcb_low
theorem ped_callTy (hc : CallR X (.type T) (lowCR X.K r)) (hg : Gl X x) (hm : X.mg x = none) (hv : bootBuiltins x = some (.type T)) (ha : PAd X (e :: es) t) (hn : x ≠ "__name__" := by decide) (hdb : (x == ("__debug__" : Str)) = false := by decide)
    (he : starEach (e :: es) X.env = (false, eval e X.env) :: starEach es X.env := by rfl) (hpl : (backTo pos (starEach es X.env)).any (·.1) = false := by rfl) : PEd X (.Call (.Name x p) (e :: es) [] pos) (tcb r t) :=
  .of (pe_callTy hc hg hm hv ha.pa hn hdb he hpl) tcb_low
end
/-- what may be read as a row -/
def rdS (M : Mem) : D → Option (List D)
  | .tup xs => some xs
  | .ref a => rdL M a
  | _ => none
theorem rdS_seq {K : PySem.W.Frag} {H : Hp} {M : Mem} {d : D} {v : V} {xs : List D} (m : RelM K H M) (r : Rel H d v) (h : rdS M d = some xs) : ∃ p vs, v = .ref p ∧ RelL H xs vs ∧ (SqL K H p vs ∨ (SqT K H p vs ∧ H p = some (.tup vs) ∧ d = .tup xs)) := by
  cases d with
  | tup ys =>
    simp [rdS] at h
    subst h
    obtain ⟨p, vs, e, q, rl⟩ := r
    exact ⟨p, vs, e, rl, .inr ⟨.of q, q, rfl⟩⟩
  | ref a =>
    cases r
    obtain ⟨vs, q, rl⟩ := m.rdL h
    exact ⟨a, vs, rfl, rl, .inl q⟩
  | _ => simp [rdS] at h
def lenR1 (d : D) (M : Mem) (Q : VKd) : Prop := match d with
  | .str s => s.length ≤ sizeLine ∧ Q (.int s.length) M
  | .tup xs => Q (.int xs.length) M
  | .ref a => (match rdL M a with
    | some xs => Q (.int xs.length) M
    | none => (match M a with
      | some (.dK kvs) => Q (.int kvs.length) M
      | some (.dT kvs) => Q (.int kvs.length) M
      | _ => False))
  | _ => False
def lenR : RCd := fun ds M Q => match ds with
  | [d] => lenR1 d M Q
  | _ => False
def listR : RCd := fun ds M Q => match ds with
  | [d] => (match rdS M d with
    | some xs => ∀ p, M p = none → Q (.ref p) (put M p (.lst xs))
    | none => False)
  | _ => False
def tupleR : RCd := fun ds M Q => match ds with
  | [d] => (match rdS M d with
    | some xs => Q (.tup xs) M
    | none => False)
  | _ => False
def intR : RCd := fun ds M Q => match ds with
  | [.int i] => Q (.int i) M
  | [.bl k] => Q (.int (if k then 1 else 0)) M
  | _ => False
def absR : RCd := fun ds M Q => match ds with
  | [.int n] => Q (.int (if n < 0 then -n else n)) M
  | _ => False
/-- the ints of a row -/
def intsOf : List D → Option (List Int)
  | [] => some []
  | .int i :: ds => (intsOf ds).map (i :: ·)
  | _ => none
def boolsOf : List D → Option (List Bool)
  | [] => some []
  | .bl i :: ds => (boolsOf ds).map (i :: ·)
  | _ => none
theorem intsOf_rel {H : Hp} : ∀ {ds : List D} {ns : List Int} {vs : List V}, intsOf ds = some ns → RelL H ds vs → vs = ns.map V.int
  | [], _, _, h, r => by simp [intsOf] at h; subst h; exact r
  | .int i :: ds, _, _, h, ⟨v, r, e, h1, h2⟩ => by
    simp [intsOf] at h
    obtain ⟨ns, e1, e2⟩ := h
    subst e2 e
    cases h1
    rw [intsOf_rel e1 h2]
    rfl
  | .non :: _, _, _, h, _ => by simp [intsOf] at h
  | .bl _ :: _, _, _, h, _ => by simp [intsOf] at h
  | .str _ :: _, _, _, h, _ => by simp [intsOf] at h
  | .ref _ :: _, _, _, h, _ => by simp [intsOf] at h
  | .ty _ :: _, _, _, h, _ => by simp [intsOf] at h
  | .tup _ :: _, _, _, h, _ => by simp [intsOf] at h
theorem boolsOf_rel {H : Hp} : ∀ {ds : List D} {ns : List Bool} {vs : List V}, boolsOf ds = some ns → RelL H ds vs → vs = ns.map V.bl
  | [], _, _, h, r => by simp [boolsOf] at h; subst h; exact r
  | .bl i :: ds, _, _, h, ⟨v, r, e, h1, h2⟩ => by
    simp [boolsOf] at h
    obtain ⟨ns, e1, e2⟩ := h
    subst e2 e
    cases h1
    rw [boolsOf_rel e1 h2]
    rfl
  | .non :: _, _, _, h, _ => by simp [boolsOf] at h
  | .int _ :: _, _, _, h, _ => by simp [boolsOf] at h
  | .str _ :: _, _, _, h, _ => by simp [boolsOf] at h
  | .ref _ :: _, _, _, h, _ => by simp [boolsOf] at h
  | .ty _ :: _, _, _, h, _ => by simp [boolsOf] at h
  | .tup _ :: _, _, _, h, _ => by simp [boolsOf] at h
theorem intsOf_map (ns : List Int) : intsOf (ns.map D.int) = some ns := by
  induction ns with
  | nil => rfl
  | cons n ns ih => simp [intsOf, ih]
theorem boolsOf_map (ns : List Bool) : boolsOf (ns.map D.bl) = some ns := by
  induction ns with
  | nil => rfl
  | cons n ns ih => simp [boolsOf, ih]
def sumR : RCd := fun ds M Q => match ds with
  | [.ref a] => ∃ xs ns, rdL M a = some xs ∧ intsOf xs = some ns ∧ Q (.int ns.sum) M
  | _ => False
def allR : RCd := fun ds M Q => match ds with
  | [.ref a] => ∃ xs bs, rdL M a = some xs ∧ boolsOf xs = some bs ∧ Q (.bl (bs.all id)) M
  | _ => False
def anyR : RCd := fun ds M Q => match ds with
  | [.ref a] => ∃ xs bs, rdL M a = some xs ∧ boolsOf xs = some bs ∧ Q (.bl (bs.any id)) M
  | _ => False
def maxR : RCd := fun ds M Q => match ds with
  | [.int m, .int n] => Q (.int (if n > m then n else m)) M
  | [.ref a] => ∃ xs ns, rdL M a = some xs ∧ intsOf xs = some ns ∧ 0 < ns.length ∧ ∀ m, m ∈ ns → (∀ y, y ∈ ns → y ≤ m) → Q (.int m) M
  | _ => False
def minR : RCd := fun ds M Q => match ds with
  | [.int m, .int n] => Q (.int (if n < m then n else m)) M
  | [.ref a] => ∃ xs ns, rdL M a = some xs ∧ intsOf xs = some ns ∧ 0 < ns.length ∧ ∀ m, m ∈ ns → (∀ y, y ∈ ns → m ≤ y) → Q (.int m) M
  | _ => False
section
variable {X : Cx}
theorem one_arg {H : Hp} {d : D} {vs : List V} (r : RelL H [d] vs) : ∃ v, vs = [v] ∧ Rel H d v := by
  obtain ⟨v, r, e, h, e2⟩ := r
  cases e2
  exact ⟨v, e, h⟩
theorem two_arg {H : Hp} {d e : D} {vs : List V} (r : RelL H [d, e] vs) : ∃ v w, vs = [v, w] ∧ Rel H d v ∧ Rel H e w := by
  obtain ⟨v, r, e, h, r2⟩ := r
  obtain ⟨w, e2, h2⟩ := one_arg r2
  subst e2
  exact ⟨v, w, e, h, h2⟩
theorem call_lenK : CallR X (.builtin "len") (fun xs H Q => ∃ p kvs, xs = [.ref p] ∧ H p = some (.dK kvs) ∧ Q (.int kvs.length) H) := by
  intro pins s σ H xs us Q I r h
  obtain ⟨p, kvs, rfl, e, q⟩ := h
  obtain ⟨u, rfl, ru⟩ := vals1 r
  cases (show u = Value.ref p from ru)
  exact d_len I (.inl e) fun t s' I' => ⟨.int kvs.length, H, I', ⟨t, rfl⟩, q⟩
theorem call_lenD2 : CallR X (.builtin "len") (lowCR X.K lenR) := by
  refine CallR.mono (((call_len_seq.or call_len_str).or call_lenK).or call_len_dT) fun xs H Q w => ?_
  obtain ⟨ds, M, Q0, r, m, h, k⟩ := w
  match ds, r, h with
  | [d], r, h =>
    obtain ⟨v, e, r1⟩ := one_arg r
    subst e
    cases d with
    | str s => cases r1; exact .inl (.inl (.inr ⟨s, rfl, h.1, k.int m h.2⟩))
    | tup xs =>
      obtain ⟨p, vs, e, q, rl⟩ := r1
      subst e
      exact .inl (.inl (.inl ⟨p, vs, rfl, .inr (.of q), by rw [rl.length]; exact k.int m h⟩))
    | ref a =>
      have h' : (match rdL M a with
        | some xs => Q0 (.int xs.length) M
        | none => (match M a with
          | some (.dK kvs) => Q0 (.int kvs.length) M
          | some (.dT kvs) => Q0 (.int kvs.length) M
          | _ => False)) := h
      cases r1
      split at h'
      · rename_i xs e
        obtain ⟨vs, q, rl⟩ := m.rdL e
        exact .inl (.inl (.inl ⟨a, vs, rfl, .inl q, by rw [rl.length]; exact k.int m h'⟩))
      · split at h'
        · rename_i kvs e
          obtain ⟨hv, q, rl⟩ := m a _ e
          exact .inl (.inr ⟨a, hv, rfl, q, by rw [← Paired.length rl]; exact k.int m h'⟩)
        · rename_i kvs e
          obtain ⟨hv, q, rl⟩ := m a _ e
          exact .inr ⟨a, hv, rfl, q, by rw [← Paired.length rl]; exact k.int m h'⟩
        · exact h'.elim
    | _ => exact h.elim
theorem call_listD : CallR X (.type "list") (lowCR X.K listR) := by
  refine CallR.mono call_list_of fun xs H Q w => ?_
  obtain ⟨ds, M, Q0, r, m, h, k⟩ := w
  match ds, r, h with
  | [d], r, h =>
    obtain ⟨v, e, r1⟩ := one_arg r
    subst e
    have h' : (match rdS M d with
      | some xs => ∀ p, M p = none → Q0 (.ref p) (put M p (.lst xs))
      | none => False) := h
    split at h'
    · rename_i xs e
      obtain ⟨p, vs, ev, rl, q⟩ := rdS_seq m r1 e
      subst ev
      exact ⟨p, vs, rfl, q.imp id fun z => z.1, fun l hl => k.newL m hl rl h'⟩
    · exact h'.elim
theorem call_tupleD : CallR X (.type "tuple") (lowCR X.K tupleR) := by
  refine CallR.mono call_tuple_of fun xs H Q w => ?_
  obtain ⟨ds, M, Q0, r, m, h, k⟩ := w
  match ds, r, h with
  | [d], r, h =>
    obtain ⟨v, e, r1⟩ := one_arg r
    subst e
    have h' : (match rdS M d with
      | some xs => Q0 (.tup xs) M
      | none => False) := h
    split at h'
    · rename_i xs e
      obtain ⟨p, vs, ev, rl, q⟩ := rdS_seq m r1 e
      subst ev
      refine ⟨p, vs, rfl, ?_⟩
      rcases q with q | ⟨q, q2, ed⟩
      · exact .inl ⟨q, fun l hl => k.newT m hl rl h'⟩
      · exact .inr ⟨q, k.tup .refl q2 rl m h'⟩
    · exact h'.elim
theorem call_intD : CallR X (.type "int") (lowCR X.K intR) := by
  refine CallR.mono call_int1 fun xs H Q w => ?_
  obtain ⟨ds, M, Q0, r, m, h, k⟩ := w
  match ds, r, h with
  | _ :: _ :: _, _, h => exact False.elim (by simp [intR] at h)
  | [d], r, h =>
    obtain ⟨v, e, r1⟩ := one_arg r
    subst e
    cases d with
    | int i => cases r1; exact .inl ⟨i, rfl, k.int m h⟩
    | bl i => cases r1; exact .inr ⟨i, rfl, k.int m h⟩
    | _ => exact h.elim
theorem call_absD : CallR X (.builtin "abs") (lowCR X.K absR) := by
  refine CallR.mono call_abs fun xs H Q w => ?_
  obtain ⟨ds, M, Q0, r, m, h, k⟩ := w
  match ds, r, h with
  | [.int i], r, h =>
    obtain ⟨v, e, r1⟩ := one_arg r
    subst e
    cases r1
    exact ⟨i, rfl, k.int m h⟩
theorem call_sumD (hc : X.calm = true) : CallR X (.builtin "sum") (lowCR X.K sumR) := by
  refine CallR.mono (cr_sum hc) fun xs H Q w => ?_
  obtain ⟨ds, M, Q0, r, m, h, k⟩ := w
  match ds, r, h with
  | [.ref a], r, ⟨xs, ns, e1, e2, h⟩ =>
    obtain ⟨v, e, r1⟩ := one_arg r
    subst e
    cases r1
    obtain ⟨vs, q, rl⟩ := m.rdL e1
    have ev := intsOf_rel e2 rl
    subst ev
    exact ⟨a, ns, rfl, q, k.int m h⟩
theorem call_allD (hc : X.calm = true) : CallR X (.builtin "all") (lowCR X.K allR) := by
  refine CallR.mono (cr_all hc) fun xs H Q w => ?_
  obtain ⟨ds, M, Q0, r, m, h, k⟩ := w
  match ds, r, h with
  | [.ref a], r, ⟨xs, ns, e1, e2, h⟩ =>
    obtain ⟨v, e, r1⟩ := one_arg r
    subst e
    cases r1
    obtain ⟨vs, q, rl⟩ := m.rdL e1
    have ev := boolsOf_rel e2 rl
    subst ev
    exact ⟨a, ns, rfl, q, k.bl m h⟩
theorem call_anyD (hc : X.calm = true) : CallR X (.builtin "any") (lowCR X.K anyR) := by
  refine CallR.mono (cr_any hc) fun xs H Q w => ?_
  obtain ⟨ds, M, Q0, r, m, h, k⟩ := w
  match ds, r, h with
  | [.ref a], r, ⟨xs, ns, e1, e2, h⟩ =>
    obtain ⟨v, e, r1⟩ := one_arg r
    subst e
    cases r1
    obtain ⟨vs, q, rl⟩ := m.rdL e1
    have ev := boolsOf_rel e2 rl
    subst ev
    exact ⟨a, ns, rfl, q, k.bl m h⟩
theorem call_maxD (hc : X.calm = true) : CallR X (.builtin "max") (lowCR X.K maxR) := by
  refine CallR.mono ((call_max2 hc).or (cr_max hc)) fun xs H Q w => ?_
  obtain ⟨ds, M, Q0, r, m, h, k⟩ := w
  match ds, r, h with
  | [.int i, .int j], r, h =>
    obtain ⟨v, w, e, r1, r2⟩ := two_arg r
    subst e
    cases r1
    cases r2
    exact .inl ⟨i, j, rfl, k.int m h⟩
  | [.ref a], r, ⟨xs, ns, e1, e2, hl, h⟩ =>
    obtain ⟨v, e, r1⟩ := one_arg r
    subst e
    cases r1
    obtain ⟨vs, q, rl⟩ := m.rdL e1
    have ev := intsOf_rel e2 rl
    subst ev
    exact .inr ⟨a, ns, rfl, q, hl, fun z h1 h2 => k.int m (h z h1 h2)⟩
theorem call_minD (hc : X.calm = true) : CallR X (.builtin "min") (lowCR X.K minR) := by
  refine CallR.mono ((call_min2 hc).or (cr_min hc)) fun xs H Q w => ?_
  obtain ⟨ds, M, Q0, r, m, h, k⟩ := w
  match ds, r, h with
  | [.int i, .int j], r, h =>
    obtain ⟨v, w, e, r1, r2⟩ := two_arg r
    subst e
    cases r1
    cases r2
    exact .inl ⟨i, j, rfl, k.int m h⟩
  | [.ref a], r, ⟨xs, ns, e1, e2, hl, h⟩ =>
    obtain ⟨v, e, r1⟩ := one_arg r
    subst e
    cases r1
    obtain ⟨vs, q, rl⟩ := m.rdL e1
    have ev := intsOf_rel e2 rl
    subst ev
    exact .inr ⟨a, ns, rfl, q, hl, fun z h1 h2 => k.int m (h z h1 h2)⟩
end
end DL

end T_DL6

section T_DL7
set_option Elab.async false
set_option linter.all false
set_option maxRecDepth 100000
set_option maxHeartbeats 1000000
/-! The D layer, 7: methods, displays of dicts, defs. -/
namespace DL
open PySem PySem.Spec L2
open PyProof.Rows hiding St

/-! ### methods of lists -/
def isL (x : D) (M : Mem) : Prop := match x with
  | .ref a => (rdL M a).isSome = true
  | _ => False
abbrev RMd := D → List D → Mem → VKd → Prop
def lowMt (K : PySem.W.Frag) (r : RMd) : V → List V → Hp → VK → Prop := fun x xs H Q => ∃ d ds M Q0, Rel H d x ∧ RelL H ds xs ∧ RelM K H M ∧ r d ds M Q0 ∧ lowV K H Q0 Q
def tlm0 (r : RMd) (to : TEd) : TEd := fun ρ M Q => to ρ M fun x M1 => isL x M1 ∧ r x [] M1 Q
def tlm (r : RMd) (to : TEd) (t : TAd) : TEd := fun ρ M Q => to ρ M fun x M1 => isL x M1 ∧ t ρ M1 fun ds M2 => r x ds M2 Q
def appR : RMd := fun x ds M Q => match x, ds with
  | .ref a, [y] => (match M a with
    | some (.lst xs) => xs.length < sizeLine ∧ Q .non (put M a (.lst (xs ++ [y])))
    | _ => False)
  | _, _ => False
def extR : RMd := fun x ds M Q => match x, ds with
  | .ref a, [.ref b] => (match M a, M b with
    | some (.lst xs), some (.lst ys) => xs.length + ys.length ≤ sizeLine ∧ Q .non (put M a (.lst (xs ++ ys)))
    | _, _ => False)
  | _, _ => False
def popR : RMd := fun x ds M Q => match x, ds with
  | .ref a, [] => (match M a with
    | some (.lst xs) => (match xs[xs.length - 1]? with
      | some y => Q y (put M a (.lst xs.dropLast))
      | none => False)
    | _ => False)
  | _, _ => False
def popAtR : RMd := fun x ds M Q => match x, ds with
  | .ref a, [.int i] => (match M a with
    | some (.lst xs) => (-(2 ^ 63) ≤ i ∧ i < 2 ^ 63) ∧ (match seqIndex? i xs.length with
      | some k => (match xs[k]? with
        | some y => Q y (put M a (.lst (xs.eraseIdx k)))
        | none => False)
      | none => False)
    | _ => False)
  | _, _ => False
theorem RelL.dropLast {H : Hp} {ds : List D} {vs : List V} (r : RelL H ds vs) : RelL H ds.dropLast vs.dropLast := by
  rw [List.dropLast_eq_take, List.dropLast_eq_take, r.length]
  exact r.take _
theorem RelL.eraseIdx {H : Hp} {ds : List D} {vs : List V} (r : RelL H ds vs) (k : Nat) : RelL H (ds.eraseIdx k) (vs.eraseIdx k) := by
  rw [List.eraseIdx_eq_take_drop_succ, List.eraseIdx_eq_take_drop_succ]
  exact (r.take _).append (r.drop _)
section
variable {X : Cx} {o e : Expr} {es : List Expr} {to : TEd} {t : TAd} {name : Str} {apos cpos : Pos} {id : String} {r : RMd}
theorem isL_ty {K : PySem.W.Frag} {H : Hp} {M : Mem} {d : D} {v : V} (m : RelM K H M) (rd : Rel H d v) (h : isL d M) : tyV K "list" v H := by
  cases d with
  | ref a =>
    cases rd
    obtain ⟨xs, e⟩ := Option.isSome_iff_exists.mp (show (rdL M a).isSome = true from h)
    obtain ⟨vs, q, _⟩ := m.rdL e
    exact .inl ⟨rfl, vs, q⟩
  | _ => exact h.elim
theorem ped_lm0 (slot : Slot "list" name id) (hty : typeOf (.builtin id) = pure (.type "method_descriptor")) (hm : MtR X id (lowMt X.K r)) (ho : PEd X o to)
    (hbase : attributeBase o name X.env (eval o X.env) = eval o X.env := by rfl) (hline : (apos.endLine == cpos.line) = true := by rfl) : PEd X (.Call (.Attribute o name apos) [] [] cpos) (tlm0 r to) := by
  refine .of (pe_bm0 PySem.F.plainAttrs_list slot hty hm ho.pe hbase hline) fun σ H Q h => ?_
  obtain ⟨ρ, M, Q0, re, rm, h, k⟩ := h
  exact ⟨ρ, M, _, re, rm, h, fun x H1 dx M1 t1 r1 m1 h1 => ⟨isL_ty m1 r1 h1.1, dx, [], M1, Q0, r1, rfl, m1, h1.2, k.tle t1⟩⟩
theorem ped_lm (slot : Slot "list" name id) (hty : typeOf (.builtin id) = pure (.type "method_descriptor")) (hm : MtR X id (lowMt X.K r)) (ho : PEd X o to) (ha : PAd X (e :: es) t)
    (hbase : attributeBase o name X.env (eval o X.env) = eval o X.env := by rfl)
    (hfew : ((backTo cpos (starEach (e :: es) X.env)).all (fun x => !x.1) && (backToKw cpos (keywordEach [] X.env)).all (fun x => x.1.isSome)
      && decide ((e :: es).length + ([] : List Keyword).length + (if ([] : List Keyword).isEmpty then 0 else 1) < 30)) = true := by rfl)
    (hline : (apos.endLine == cpos.line) = true := by rfl) (hs : starEach (e :: es) X.env = (false, eval e X.env) :: starEach es X.env := by rfl) (hplain : (backTo cpos (starEach es X.env)).any (·.1) = false := by rfl) :
    PEd X (.Call (.Attribute o name apos) (e :: es) [] cpos) (tlm r to t) := by
  refine .of (pe_bm PySem.F.plainAttrs_list slot hty hm ho.pe ha.pa hbase hfew hline hs hplain) fun σ H Q h => ?_
  obtain ⟨ρ, M, Q0, re, rm, h, k⟩ := h
  exact ⟨ρ, M, _, re, rm, h, fun x H1 dx M1 t1 r1 m1 h1 => ⟨isL_ty m1 r1 h1.1, ρ, M1, _, re.tle t1, m1, h1.2, fun vs H2 ds M2 t2 r2 m2 h2 => ⟨dx, ds, M2, Q0, r1.tle t2, r2, m2, h2, k.tle (t1.trans t2)⟩⟩⟩
theorem MtR.mono {r r' : V → List V → Hp → VK → Prop} (h : MtR X id r) (q : ∀ x xs H Q, r' x xs H Q → r x xs H Q) : MtR X id r' := fun pins s σ H x xs v us Q I rx rv w => h pins s σ H x xs v us Q I rx rv (q x xs H Q w)
theorem mt_appD : MtR X "list.append" (lowMt X.K appR) := by
  refine MtR.mono mt_append fun x xs H Q w => ?_
  obtain ⟨d, ds, M, Q0, rd, rl, m, h, k⟩ := w
  match d, ds, rd, rl, h with
  | .ref a, [y], rd, rl, h =>
    cases rd
    obtain ⟨v, e, ry⟩ := one_arg rl
    subst e
    have h' : (match M a with
      | some (.lst xs) => xs.length < sizeLine ∧ Q0 .non (put M a (.lst (xs ++ [y])))
      | _ => False) := h
    split at h'
    · rename_i xs e
      obtain ⟨vs, q, rl⟩ := m.lst e
      have tw : Tle H (upd H a (.lst (vs ++ [v]))) := .write q fun xs z => nomatch z
      exact ⟨a, vs, v, rfl, rfl, q, by rw [rl.length]; exact h'.1, k .non _ .non _ tw rfl (m.write (d := .lst (xs ++ [y])) q (fun xs z => nomatch z) ⟨_, upd_same, (rl.append (.cons ry .nil)).tle tw⟩) h'.2⟩
    · exact h'.elim
theorem mt_extD : MtR X "list.extend" (lowMt X.K extR) := by
  refine MtR.mono mt_extend fun x xs H Q w => ?_
  obtain ⟨d, ds, M, Q0, rd, rl, m, h, k⟩ := w
  match d, ds, rd, rl, h with
  | .ref a, [.ref b], rd, rl, h =>
    cases rd
    obtain ⟨v, e, ry⟩ := one_arg rl
    cases ry
    subst e
    have h' : (match M a, M b with
      | some (.lst xs), some (.lst ys) => xs.length + ys.length ≤ sizeLine ∧ Q0 .non (put M a (.lst (xs ++ ys)))
      | _, _ => False) := h
    split at h'
    · rename_i xs ys e1 e2
      obtain ⟨vs, q, rl⟩ := m.lst e1
      obtain ⟨us, q2, rl2⟩ := m.lst e2
      have tw : Tle H (upd H a (.lst (vs ++ us))) := .write q fun xs z => nomatch z
      exact ⟨a, b, vs, us, rfl, rfl, q, q2, by rw [rl.length, rl2.length]; exact h'.1, k .non _ .non _ tw rfl (m.write (d := .lst (xs ++ ys)) q (fun xs z => nomatch z) ⟨_, upd_same, (rl.append rl2).tle tw⟩) h'.2⟩
    · exact h'.elim
theorem mt_popD : MtR X "list.pop" (lowMt X.K popR) := by
  refine MtR.mono mt_pop fun x xs H Q w => ?_
  obtain ⟨d, ds, M, Q0, rd, rl, m, h, k⟩ := w
  match d, ds, rd, rl, h with
  | .ref a, [], rd, rl, h =>
    cases rd
    cases rl
    have h' : (match M a with
      | some (.lst xs) => (match xs[xs.length - 1]? with
        | some y => Q0 y (put M a (.lst xs.dropLast))
        | none => False)
      | _ => False) := h
    split at h'
    · rename_i xs e
      obtain ⟨vs, q, rl⟩ := m.lst e
      split at h'
      · rename_i y ey
        obtain ⟨v, ev, rv⟩ := rl.get ey
        have tw : Tle H (upd H a (.lst vs.dropLast)) := .write q fun xs z => nomatch z
        exact ⟨a, vs, v, rfl, rfl, q, by rw [rl.length]; exact ev, k v _ y _ tw (rv.tle tw) (m.write (d := .lst xs.dropLast) q (fun xs z => nomatch z) ⟨_, upd_same, rl.dropLast.tle tw⟩) h'⟩
      · exact h'.elim
    · exact h'.elim
theorem mt_popAtD : MtR X "list.pop" (lowMt X.K popAtR) := by
  refine MtR.mono mt_popAt fun x xs H Q w => ?_
  obtain ⟨d, ds, M, Q0, rd, rl, m, h, k⟩ := w
  match d, ds, rd, rl, h with
  | .ref a, [.int i], rd, rl, h =>
    cases rd
    obtain ⟨v, e, ry⟩ := one_arg rl
    cases ry
    subst e
    have h' : (match M a with
      | some (.lst xs) => (-(2 ^ 63) ≤ i ∧ i < 2 ^ 63) ∧ (match seqIndex? i xs.length with
        | some k => (match xs[k]? with
          | some y => Q0 y (put M a (.lst (xs.eraseIdx k)))
          | none => False)
        | none => False)
      | _ => False) := h
    split at h'
    · rename_i xs e
      obtain ⟨vs, q, rl⟩ := m.lst e
      obtain ⟨⟨b1, b2⟩, h'⟩ := h'
      split at h'
      · rename_i j ej
        split at h'
        · rename_i y ey
          obtain ⟨v, ev, rv⟩ := rl.get ey
          have tw : Tle H (upd H a (.lst (vs.eraseIdx j))) := .write q fun xs z => nomatch z
          exact ⟨a, vs, i, j, v, rfl, rfl, q, b1, b2, by rw [rl.length]; exact ej, ev, k v _ y _ tw (rv.tle tw) (m.write (d := .lst (xs.eraseIdx j)) q (fun xs z => nomatch z) ⟨_, upd_same, (rl.eraseIdx j).tle tw⟩) h'⟩
        · exact h'.elim
      · exact h'.elim
    · exact h'.elim
theorem ped_append (ho : PEd X o to) (ha : PAd X [e] t) (hbase : attributeBase o "append" X.env (eval o X.env) = eval o X.env := by rfl)
    (hfew : ((backTo cpos (starEach [e] X.env)).all (fun x => !x.1) && (backToKw cpos (keywordEach [] X.env)).all (fun x => x.1.isSome)
      && decide ([e].length + ([] : List Keyword).length + (if ([] : List Keyword).isEmpty then 0 else 1) < 30)) = true := by rfl)
    (hline : (apos.endLine == cpos.line) = true := by rfl) (hs : starEach [e] X.env = (false, eval e X.env) :: starEach [] X.env := by rfl) :
    PEd X (.Call (.Attribute o "append" apos) [e] [] cpos) (tlm appR to t) := ped_lm PySem.F.slot_list_append PySem.F.type_list_append mt_appD ho ha hbase hfew hline hs
theorem ped_pop (ho : PEd X o to) (hbase : attributeBase o "pop" X.env (eval o X.env) = eval o X.env := by rfl) (hline : (apos.endLine == cpos.line) = true := by rfl) :
    PEd X (.Call (.Attribute o "pop" apos) [] [] cpos) (tlm0 popR to) := ped_lm0 PySem.F.slot_list_pop PySem.F.type_list_pop mt_popD ho hbase hline
theorem ped_popAt (ho : PEd X o to) (ha : PAd X [e] t) (hbase : attributeBase o "pop" X.env (eval o X.env) = eval o X.env := by rfl)
    (hfew : ((backTo cpos (starEach [e] X.env)).all (fun x => !x.1) && (backToKw cpos (keywordEach [] X.env)).all (fun x => x.1.isSome)
      && decide ([e].length + ([] : List Keyword).length + (if ([] : List Keyword).isEmpty then 0 else 1) < 30)) = true := by rfl)
    (hline : (apos.endLine == cpos.line) = true := by rfl) (hs : starEach [e] X.env = (false, eval e X.env) :: starEach [] X.env := by rfl) :
    PEd X (.Call (.Attribute o "pop" apos) [e] [] cpos) (tlm popAtR to t) := ped_lm PySem.F.slot_list_pop PySem.F.type_list_pop mt_popAtD ho ha hbase hfew hline hs
theorem ped_extend (ho : PEd X o to) (ha : PAd X [e] t) (hbase : attributeBase o "extend" X.env (eval o X.env) = eval o X.env := by rfl)
    (hfew : ((backTo cpos (starEach [e] X.env)).all (fun x => !x.1) && (backToKw cpos (keywordEach [] X.env)).all (fun x => x.1.isSome)
      && decide ([e].length + ([] : List Keyword).length + (if ([] : List Keyword).isEmpty then 0 else 1) < 30)) = true := by rfl)
    (hline : (apos.endLine == cpos.line) = true := by rfl) (hs : starEach [e] X.env = (false, eval e X.env) :: starEach [] X.env := by rfl) :
    PEd X (.Call (.Attribute o "extend" apos) [e] [] cpos) (tlm extR to t) := ped_lm PySem.F.slot_list_extend PySem.F.type_list_extend mt_extD ho ha hbase hfew hline hs
end

/-! ### dicts: displays, get, del -/
def tprs : List (TEd × TEd) → Envd → Mem → (List (D × D) → Mem → Prop) → Prop
  | [], _, M, Q => Q [] M
  | (tk, tv) :: r, ρ, M, Q => tk ρ M fun x M1 => tv ρ M1 fun y M2 => tprs r ρ M2 fun ps M3 => Q ((x, y) :: ps) M3
def mergeD (kvs more : List (D × D)) : List (D × D) := more.foldl (fun acc kv => dput acc kv.1 kv.2) kvs
def tdisp (trs : List (TEd × TEd)) : TEd := fun ρ M Q => ∀ p, M p = none → tprs trs ρ (put M p (.dK [])) fun ps M2 => M2 p = some (.dK []) ∧ (ps.all fun kv => (keyOf kv.1).isSome) = true ∧ ps.length ≤ 15 ∧ Q (.ref p) (put M2 p (.dK (mergeD [] ps)))
def tdnewK : TEd := fun _ M Q => ∀ p, M p = none → Q (.ref p) (put M p (.dK []))
def tdnewT : TEd := fun _ M Q => ∀ p, M p = none → Q (.ref p) (put M p (.dT []))
/-- d.get(k), d.get(k, x) -/
def tget1 (td ty : TEd) : TEd := fun ρ M Q => td ρ M fun x M1 => match x with
  | .ref a => (rdD M1 a).isSome = true ∧ ty ρ M1 fun y M2 => match rdD M2 a with
    | some (t, kvs) => isKey t y = true ∧ Q ((look kvs y).getD .non) M2
    | none => False
  | _ => False
def tget2 (td ty tx : TEd) : TEd := fun ρ M Q => td ρ M fun x M1 => match x with
  | .ref a => (rdD M1 a).isSome = true ∧ ty ρ M1 fun y M2 => tx ρ M2 fun z M3 => match rdD M3 a with
    | some (t, kvs) => isKey t y = true ∧ Q ((look kvs y).getD z) M3
    | none => False
  | _ => False
inductive PPsd (X : Cx) (pos : Pos) : List (Option Expr) → List Expr → List (TEd × TEd) → Prop
  | nil : PPsd X pos [] [] []
  | cons {k v : Expr} {ks : List (Option Expr)} {vs : List Expr} {tk tv : TEd} {trs : List (TEd × TEd)} : PEd X k tk → PEd X v tv → PPsd X pos ks vs trs → PPsd X pos (some k :: ks) (v :: vs) ((tk, tv) :: trs)
theorem PPsd.low {X : Cx} {pos : Pos} {ks : List (Option Expr)} {vs : List Expr} {trs : List (TEd × TEd)} (h : PPsd X pos ks vs trs) : PPs X pos ks vs (trs.map fun t => (lowE X.K t.1, lowE X.K t.2)) := by
  induction h with
  | nil => exact pps_nil
  | cons a b _ ih => exact pps_cons a.pe b.pe ih
theorem tprs_low {K : PySem.W.Frag} : ∀ (trs : List (TEd × TEd)) (ρ : Envd) (M : Mem) (σ : St) (H : Hp) (Q0 : List (D × D) → Mem → Prop) (Q : List (V × V) → Hp → Prop), RelE H ρ σ → RelM K H M → tprs trs ρ M Q0 →
    (∀ ps H' ds M', Tle H H' → RelM K H' M' → Paired (fun p q => Rel H' p.1 q.1 ∧ Rel H' p.2 q.2) ds ps → Q0 ds M' → Q ps H') → tPairs (trs.map fun t => (lowE K t.1, lowE K t.2)) σ H Q
  | [], ρ, M, σ, H, Q0, Q, re, rm, h, k => k [] H [] M .refl rm .nil h
  | (tk, tv) :: r, ρ, M, σ, H, Q0, Q, re, rm, h, k =>
    ⟨ρ, M, _, re, rm, h, fun x H1 dx M1 t1 r1 m1 h1 => ⟨ρ, M1, _, re.tle t1, m1, h1, fun y H2 dy M2 t2 r2 m2 h2 =>
      tprs_low r ρ M2 σ H2 _ _ (re.tle (t1.trans t2)) m2 h2 fun ps H3 ds M3 t3 m3 p3 h3 => k _ H3 _ M3 ((t1.trans t2).trans t3) m3 (.cons ⟨r1.tle (t2.trans t3), r2.tle t3⟩ p3) h3⟩⟩
theorem keys_back {H : Hp} : ∀ {ds : List (D × D)} {ps : List (V × V)}, (ds.all fun kv => (keyOf kv.1).isSome) = true → Paired (fun p q => Rel H p.1 q.1 ∧ Rel H p.2 q.2) ds ps →
    ∃ kvs : List (Key × V), ps = kvs.map (fun kv => (kV kv.1, kv.2)) ∧ RelKv H ds kvs
  | _, _, _, .nil => ⟨[], rfl, .nil⟩
  | (dk, dv) :: ds, (v, u) :: ps, h, .cons ⟨r1, r2⟩ t => by
    simp only [List.all_cons, Bool.and_eq_true] at h
    obtain ⟨k, ek⟩ := Option.isSome_iff_exists.mp h.1
    have ed := keyOf_eq ek
    simp only at ed r1 r2
    subst ed
    obtain ⟨kvs, e, rl⟩ := keys_back h.2 t
    exact ⟨(k, u) :: kvs, by rw [List.map_cons, ← e, kD_rel r1], .cons ⟨rfl, r2⟩ rl⟩
theorem merge_rel {H : Hp} : ∀ {more : List (D × D)} {hm : List (Key × V)} {kvs : List (D × D)} {hv : List (Key × V)}, RelKv H more hm → RelKv H kvs hv → RelKv H (mergeD kvs more) (mergeK hv hm)
  | _, _, _, _, .nil, r => r
  | (dk, dv) :: more, (k, v) :: hm, kvs, hv, .cons ⟨e, r⟩ t, r0 => by
    simp only at e r
    subst e
    exact merge_rel (more := more) (hm := hm) t (dput_gen (f := kD) (fun _ _ => kD_inj) k r r0)
section
variable {X : Cx} {o e f : Expr} {td ty tx : TEd} {apos cpos pos : Pos}
theorem ped_disp {keys : List (Option Expr)} {values : List Expr} {trs : List (TEd × TEd)} (h : PPsd X pos keys values trs) (hall : keys.all (·.isSome) = true) (hl : keys.length = values.length) (h0 : keys ≠ [])
    (h15 : keys.length ≤ 15) : PEd X (.Dict keys values pos) (tdisp trs) := by
  refine .of (pe_disp h.low hall hl h0 h15) fun σ H Q w => ?_
  obtain ⟨ρ, M, Q0, re, rm, h, k⟩ := w
  intro p hp
  refine tprs_low trs ρ _ σ _ _ _ (re.tle (.new hp)) (rm.new (d := .dK []) hp ⟨[], upd_same, .nil⟩) (h p (rm.fresh hp)) fun ps H2 ds M2 t2 m2 pr h2 => ?_
  obtain ⟨e2, hk, hl, h2⟩ := h2
  obtain ⟨hv, q2, rl2⟩ := m2 p _ e2
  have ev : hv = [] := by cases rl2; rfl
  subst ev
  obtain ⟨kvs, ep, rk⟩ := keys_back hk pr
  have lk : kvs.length = ds.length := (Paired.length rk).symm
  have tw : Tle H2 (upd H2 p (.dK (mergeK [] kvs))) := .write q2 fun xs z => nomatch z
  exact ⟨q2, kvs, ep, by omega, k _ _ (.ref p) _ (((Tle.new hp).trans t2).trans tw) rfl (m2.write (d := .dK (mergeD [] ds)) q2 (fun xs z => nomatch z) ⟨_, upd_same, RelKv.tle tw (merge_rel rk .nil)⟩) h2⟩
theorem ped_dnewK : PEd X (.Dict [] [] pos) tdnewK := by
  refine .of pe_dnewK fun σ H Q w => ?_
  obtain ⟨ρ, M, Q0, re, rm, h, k⟩ := w
  exact fun p hp => k.ref (.new hp) (rm.new (d := .dK []) hp ⟨[], upd_same, .nil⟩) (h p (rm.fresh hp))
theorem ped_dnewT : PEd X (.Dict [] [] pos) tdnewT := by
  refine .of pe_dnewT fun σ H Q w => ?_
  obtain ⟨ρ, M, Q0, re, rm, h, k⟩ := w
  exact fun p hp => k.ref (.new hp) (rm.new (d := .dT []) hp ⟨[], upd_same, .nil⟩) (h p (rm.fresh hp))
theorem rdD_isD {K : PySem.W.Frag} {H : Hp} {M : Mem} {a : Addr} {z : Bool × List (D × D)} (m : RelM K H M) (h : rdD M a = some z) : IsD H a := by
  unfold rdD at h
  split at h
  · rename_i l e; obtain ⟨hv, q, rl⟩ := m a _ e; exact .inl ⟨hv, .inl q⟩
  · rename_i o hv l e; obtain ⟨q, rl⟩ := m a _ e; exact .inl ⟨hv, .inr ⟨o, q⟩⟩
  · rename_i l e; obtain ⟨hv, q, rl⟩ := m a _ e; exact .inr ⟨hv, .inl q⟩
  · rename_i o hv l e; obtain ⟨q, rl⟩ := m a _ e; exact .inr ⟨hv, .inr ⟨o, q⟩⟩
  · cases h
end
end DL

end T_DL7

section T_DL8
set_option Elab.async false
set_option linter.all false
set_option maxRecDepth 100000
set_option maxHeartbeats 1000000
/-! The D layer, 8: defs and their calls. -/
namespace DL
open PySem PySem.Spec L2
open PyProof.Rows hiding St

section
variable {X : Cx} {o e f i : Expr} {td ty tx : TEd} {apos cpos pos tpos : Pos}
theorem get_gives {H : Hp} {M : Mem} {a : Addr} {t : Bool} {kvs : List (D × D)} {d : D} {y : V} {K : PySem.W.Frag} (m : RelM K H M) (h : rdD M a = some (t, kvs)) (hk : isKey t d = true) (r : Rel H d y) (z : D) (u : V) (rz : Rel H z u) :
    ∃ o, DGet H a y o ∧ Rel H ((look kvs d).getD z) (o.getD u) := by
  obtain ⟨o, g, c⟩ := rdD_get m h hk r
  refine ⟨o, g, ?_⟩
  rcases c with ⟨e, v, h1, h2, h3⟩ | ⟨h1, h2⟩
  · rw [h1, h2]; exact h3
  · rw [h1, h2]; exact rz
theorem ped_get1 (hu : X.A.units + 1 < cLine) (ho : PEd X o td) (he : PEd X e ty) (m : M1 X o "get" apos e cpos := by exact ⟨rfl, rfl, rfl, rfl⟩) : PEd X (.Call (.Attribute o "get" apos) [e] [] cpos) (tget1 td ty) := by
  refine .of (pe_dget1 hu ho.pe he.pe m) fun σ H Q w => ?_
  obtain ⟨ρ, M, Q0, re, rm, h, k⟩ := w
  refine ⟨ρ, M, _, re, rm, h, fun x H1 dx M1 t1 r1 m1 h1 => ?_⟩
  cases dx with
  | ref a =>
    cases r1
    obtain ⟨q1, h1⟩ := h1
    obtain ⟨z, ez⟩ := Option.isSome_iff_exists.mp q1
    refine ⟨a, rfl, rdD_isD m1 ez, ρ, M1, _, re.tle t1, m1, h1, fun y H2 dy M2 t2 r2 m2 h2 => ?_⟩
    have h3 : (match rdD M2 a with
      | some (t, kvs) => isKey t dy = true ∧ Q0 ((look kvs dy).getD .non) M2
      | none => False) := h2
    split at h3
    · rename_i t kvs e2
      obtain ⟨oo, g, rr⟩ := get_gives m2 e2 h3.1 r2 .non .non rfl
      exact ⟨oo, g, (k.tle (t1.trans t2)).any rr m2 h3.2⟩
    · exact h3.elim
  | _ => exact h1.elim
theorem ped_get2 (hu : X.A.units + 1 < cLine) (ho : PEd X o td) (he : PEd X e ty) (hf : PEd X f tx) (m : M2 X o "get" apos e f cpos := by exact ⟨rfl, rfl, rfl, rfl⟩) : PEd X (.Call (.Attribute o "get" apos) [e, f] [] cpos) (tget2 td ty tx) := by
  refine .of (pe_dget2 hu ho.pe he.pe hf.pe m) fun σ H Q w => ?_
  obtain ⟨ρ, M, Q0, re, rm, h, k⟩ := w
  refine ⟨ρ, M, _, re, rm, h, fun x H1 dx M1 t1 r1 m1 h1 => ?_⟩
  cases dx with
  | ref a =>
    cases r1
    obtain ⟨q1, h1⟩ := h1
    obtain ⟨z, ez⟩ := Option.isSome_iff_exists.mp q1
    refine ⟨a, rfl, rdD_isD m1 ez, ρ, M1, _, re.tle t1, m1, h1, fun y H2 dy M2 t2 r2 m2 h2 => ⟨ρ, M2, _, re.tle (t1.trans t2), m2, h2, fun zz H3 dz M3 t3 r3 m3 h3 => ?_⟩⟩
    have h4 : (match rdD M3 a with
      | some (t, kvs) => isKey t dy = true ∧ Q0 ((look kvs dy).getD dz) M3
      | none => False) := h3
    split at h4
    · rename_i t kvs e2
      obtain ⟨oo, g, rr⟩ := get_gives m3 e2 h4.1 (r2.tle t3) dz zz r3
      exact ⟨oo, g, (k.tle ((t1.trans t2).trans t3)).any rr m3 h4.2⟩
    · exact h4.elim
  | _ => exact h1.elim
end

/-! ### del d[k] -/
def tdel (td ty : TEd) : TSd := fun D ρ M => td ρ M fun x M1 => ty ρ M1 fun y M2 => delR x y M2 fun M3 => D.nx ρ M3
section
variable {X : Cx} {pins : List (Addr × Obj)} {σ : St} {H : Hp} {s : Shared} {a b : Addr} {kvs : List (List Key × V)} {k : List Key} {A : Around} {E : Value → Shared → Prop}
theorem d_delT {Q : Unit → Shared → Prop} (hu : A.units + 1 < cLine) (I : Inv X pins σ H s) (e : H a = some (.dT kvs)) (eb : H b = some (.tup (k.map kV))) (l : (valV kvs k).isSome = true)
    (h : ∀ s', Inv X pins σ (upd H a (.dT (dropK kvs k))) s' → Q () s') : wpAny (model X.prog X.w) A (delItem (.ref a) (.ref b)) Q E s := by
  obtain ⟨z, hd, xs, rel, dd⟩ := dt_of I.hok e
  have hz : xs.length ≤ sizeLine := by rw [← Paired.length rel]; exact z
  obtain ⟨v, hv⟩ := Option.isSome_iff_exists.mp l
  obtain ⟨w', hw, _⟩ := RelO.some_of (v := v) (o := (atKey xs k).map (·.2)) (by rw [← hv]; exact rel.val k)
  obtain ⟨p, hp, _⟩ := Option.map_eq_some_iff.mp hw
  refine wpAny_delItem_heap (hsz := hz) (tupleKind_room_in1 hu) (key_of I.hok eb) hd dd hp fun h' dd' hs => h _ ?_
  obtain ⟨q, es, ep, hq, h2, h3, h4, _, h5⟩ := dd'
  have kt := L2.DX.KT_drop (H := H) k rel
  refine d_write I (by rw [e]; exact True.intro) hs ⟨q, hq⟩ ⟨Nat.le_trans (dropK_le kvs k) z, hd, _, kt.keeps fun c ys ec => ?_, q, es, ep, hq, h2, h3, h4, h5⟩
  rw [upd_ne (ne_of ec e (fun z => nomatch z))]
  exact ec
end
section
variable {X : Cx} {o i : Expr} {td ty : TEd} {pos tpos : Pos}
def sDelA (td ty : TE) : TS := fun D σ H => td σ H fun x H1 => ty σ H1 fun y H2 => ∃ a, x = .ref a ∧ ((∃ kvs k, H2 a = some (.dK kvs) ∧ y = kV k ∧ (valV kvs k).isSome = true ∧ D.nx σ (upd H2 a (.dK (dropK kvs k)))) ∨
  ∃ kvs k b, H2 a = some (.dT kvs) ∧ y = .ref b ∧ H2 b = some (.tup (k.map kV)) ∧ (valV kvs k).isSome = true ∧ D.nx σ (upd H2 a (.dT (dropK kvs k))))
theorem ps_delA {td ty : TE} (hu : X.A.units + 1 < cLine) (ho : PE X o td) (hi : PE X i ty) : PS X (.Delete [.Subscript o i tpos] pos) (sDelA td ty) := by
  refine ⟨fun pins s σ H D I h => ?_⟩
  refine wpAny_Delete (wpAny_deleteEach_cons (wpAny_delete_Subscript (thn (ho.run pins s σ H _ I h) fun u s1 w1 => ?_)))
  obtain ⟨x, H1, I1, rx, q1⟩ := w1
  refine thn (hi.run pins s1 σ H1 _ I1 q1) fun iv s2 w2 => ?_
  obtain ⟨y, H2, I2, ry, a, ex, q2⟩ := w2
  subst ex
  obtain rfl : u = Value.ref a := rx
  rcases q2 with ⟨kvs, k, e, ey, l, q2⟩ | ⟨kvs, k, b, e, ey, eb, l, q2⟩
  · subst ey
    exact d_delItem I2 e ry l fun s3 I3 => wpAny_deleteEach_nil ⟨σ, _, I3, q2⟩
  · subst ey
    obtain rfl : iv = Value.ref b := ry
    exact d_delT hu I2 e eb l fun s3 I3 => wpAny_deleteEach_nil ⟨σ, _, I3, q2⟩
theorem look_val {κ : Type} [DecidableEq κ] {f : κ → D} {H : Hp} (inj : ∀ a b, f a = f b → a = b) (k : κ) {kvs : List (D × D)} {hv : List (κ × V)} (h : Paired (fun (p : D × D) (q : κ × V) => p.1 = f q.1 ∧ Rel H p.2 q.2) kvs hv) (l : (look kvs (f k)).isSome = true) : (valV hv k).isSome = true := by
  rcases look_gen inj k h with ⟨e, v, h1, h2, h3⟩ | ⟨h1, h2⟩
  · rw [h2]; rfl
  · rw [h1] at l; cases l
theorem psd_del (hu : X.A.units + 1 < cLine) (ho : PEd X o td) (hi : PEd X i ty) : PSd X (.Delete [.Subscript o i tpos] pos) (tdel td ty) := by
  refine .of (ps_delA hu ho.pe hi.pe) fun D σ H w => ?_
  obtain ⟨ρ, M, E0, re, rm, h, k⟩ := w
  refine ⟨ρ, M, _, re, rm, h, fun x H1 dx M1 t1 r1 m1 h1 => ⟨ρ, M1, _, re.tle t1, m1, h1, fun y H2 dy M2 t2 r2 m2 h2 => ?_⟩⟩
  cases dx with
  | ref a =>
    cases r1
    refine ⟨a, rfl, ?_⟩
    have h3 : (match M2 a with
      | some (.dK kvs) => isKey false dy = true ∧ (look kvs dy).isSome = true ∧ E0.nx ρ (put M2 a (.dK (ddel kvs dy)))
      | some (.dT kvs) => isKey true dy = true ∧ (look kvs dy).isSome = true ∧ E0.nx ρ (put M2 a (.dT (ddel kvs dy)))
      | _ => False) := h2
    split at h3
    · rename_i kvs e
      obtain ⟨hv, q, rl⟩ := m2 a _ e
      obtain ⟨hk, hl, h3⟩ := h3
      obtain ⟨key, ek⟩ := Option.isSome_iff_exists.mp (show (keyOf dy).isSome = true by cases dy <;> exact hk)
      have ed := keyOf_eq ek
      subst ed
      have tw : Tle H2 (upd H2 a (.dK (dropK hv key))) := .write q fun xs z => nomatch z
      exact .inl ⟨hv, key, q, kD_rel r2, look_val (f := kD) (fun _ _ => kD_inj) key rl hl, k.nx σ _ ρ _ ((t1.trans t2).trans tw) (re.tle ((t1.trans t2).trans tw))
        (m2.write (d := .dK (ddel kvs (kD key))) q (fun xs z => nomatch z) ⟨_, upd_same, RelKv.tle tw (ddel_gen (f := kD) (fun _ _ => kD_inj) key rl)⟩) h3⟩
    · rename_i kvs e
      obtain ⟨hv, q, rl⟩ := m2 a _ e
      obtain ⟨hk, hl, h3⟩ := h3
      cases dy with
      | tup ds =>
        obtain ⟨key, ek⟩ := Option.isSome_iff_exists.mp (show (keysOf ds).isSome = true from hk)
        have ed := keysOf_eq ek
        subst ed
        obtain ⟨b, vs, ey, qb, rb⟩ := r2
        rw [kD_relL rb] at qb
        have tw : Tle H2 (upd H2 a (.dT (dropK hv key))) := .write q fun xs z => nomatch z
        exact .inr ⟨hv, key, b, q, ey, qb, look_val (κ := List Key) (f := fun k => DL.D.tup (k.map kD)) tK_inj key rl hl, k.nx σ _ ρ _ ((t1.trans t2).trans tw) (re.tle ((t1.trans t2).trans tw))
          (m2.write (d := .dT (ddel kvs (.tup (key.map kD)))) q (fun xs z => nomatch z) ⟨_, upd_same, RelTv.tle tw (ddel_gen (κ := List Key) (f := fun k => DL.D.tup (k.map kD)) tK_inj key rl)⟩) h3⟩
      | _ => cases hk
    · exact h3.elim
  | _ => exact h2.elim
end

/-! ### what a def promises -/
abbrev XKd := Addr → List (Str × D) → Mem → Prop
abbrev SpD := List D → Mem → VKd → XKd → Prop
def lowX (K : PySem.W.Frag) (H : Hp) (E0 : XKd) (E : XK) : Prop := ∀ C d H' vs fs M', Tle H H' → H' d = some (.xd vs) → RelFs H' fs vs → RelM K H' M' → E0 C fs M' → E (.ref C) (some d) H'
def lowSp (K : PySem.W.Frag) (s : SpD) : Sp := fun vs H Q E => ∃ ds M Q0 E0, RelL H ds vs ∧ RelM K H M ∧ s ds M Q0 E0 ∧ lowV K H Q0 Q ∧ lowX K H E0 E
/-- the def x stands and keeps s -/
def FnD (P : Program) (w : World) (K : PySem.W.Frag) (mg : Str → Option Value) (base : Heap) (k : Nat) (x : Str) (ps : List Str) (s : SpD) : Prop :=
  ∃ (f : Addr) (fd : FuncData), FnOk P w K mg base (L2.CX P w) k f fd ps (lowSp K s) ∧ mg x = some (.ref f) ∧ PySem.W.keepIn K (.ref f) = true ∧ Binds K fd ps []
/-- what a body wishes of exceptions: class, fields, slots, memory -/
abbrev WXd := Addr → List (Str × D) → Envd → Mem → Prop
def lowW (X : Cx) (W : WXd) : WX := fun cls d σ H => ∃ C dd vs fs ρ M, cls = .ref C ∧ d = some dd ∧ H dd = some (.xd vs) ∧ RelFs H fs vs ∧ RelE H ρ σ ∧ RelM X.K H M ∧ Tle X.H_0 H ∧ W C fs ρ M
def TakesD (X : Cx) (W : WXd) : Prop := Takes X (lowW X W)
theorem takesD0 {X : Cx} : TakesD X (fun _ _ _ _ => False) := takes0.imp fun c d σ H h => by
  obtain ⟨_, _, _, _, _, _, _, _, _, _, _, _, _, z⟩ := h
  exact z
def tcall (W : WXd) (s : SpD) (t : TAd) : TEd := fun ρ M Q => t ρ M fun ds M1 => s ds M1 Q fun C fs M2 => W C fs ρ M2
/-- the entry's tuples stand -/
theorem PE.base {X : Cx} {e : Expr} {t : TE} (h : PE X e t) : PE X e (fun σ H Q => Tle X.H_0 H → t σ H Q) := ⟨fun pins s σ H Q I w => h.run pins s σ H Q I (w I.base.tups)⟩
section
variable {X : Cx} {k : Nat} {x : Str} {ps : List Str} {s : SpD} {W : WXd} {e : Expr} {es : List Expr} {t : TAd} {p pos : Pos}
theorem ped_call (F : FnD X.prog X.w X.K X.mg X.base k x ps s) (hr : Room k X.A) (hg : Gl X x) (tk : TakesD X W) (ha : PAd X (e :: es) t) (hdb : (x == ("__debug__" : Str)) = false := by decide)
    (he : starEach (e :: es) X.env = (false, eval e X.env) :: starEach es X.env := by rfl) (hpl : (backTo pos (starEach es X.env)).any (·.1) = false := by rfl) : PEd X (.Call (.Name x p) (e :: es) [] pos) (tcall W s t) := by
  obtain ⟨f, fd, fok, hm, hk, hb⟩ := F
  refine .of (PE.base (pe_callS (E := WE (lowW X W)) fok hr hg hm hk hb (passAt tk) ha.pa hdb he hpl)) fun σ H Q w => ?_
  obtain ⟨ρ, M, Q0, re, rm, h, kk⟩ := w
  intro tb
  exact ⟨ρ, M, _, re, rm, h, fun vs H1 ds M1 t1 r1 m1 h1 => ⟨ds, M1, Q0, _, r1, m1, h1, kk.tle t1, fun C d H2 us fs M2 t2 ed rf m2 h2 =>
    ⟨C, d, us, fs, ρ, M2, rfl, rfl, ed, rf, re.tle (t1.trans t2), m2, tb.trans (t1.trans t2), h2⟩⟩⟩
end
/-- less is told of the memory -/
def Down (Q : VKd) : VKd := fun d M' => ∃ M, (∀ a o, M a = some o → M' a = some o) ∧ Q d M
def startD (N : List Str) (ds : List D) : Envd := ds.map some ++ List.replicate (N.length - ds.length) none
theorem start_rel {H : Hp} {N : List Str} {ds : List D} {vs : List V} (r : RelL H ds vs) : RelE H (startD N ds) (L2.start N vs) := by
  have hl := r.length
  refine ⟨by simp [startD, L2.start, hl], fun i d e => ?_⟩
  unfold startD at e
  unfold L2.start
  by_cases hi : i < ds.length
  · rw [List.getElem?_append_left (by simpa using hi), List.getElem?_map] at e
    cases ed : ds[i]? with
    | none => rw [ed] at e; cases e
    | some d' =>
      rw [ed] at e
      cases e
      obtain ⟨v, ev, rv⟩ := r.get ed
      exact ⟨v, by rw [List.getElem?_append_left (by simpa [hl] using hi), List.getElem?_map, ev]; rfl, rv⟩
  · rw [List.getElem?_append_right (by simpa using hi), List.getElem?_replicate] at e
    split at e <;> cases e
section
variable {P : Program} {w : World} {K : PySem.W.Frag} {mg : Str → Option Value} {base : Heap}
theorem FnD.of {x : Str} {st : Stmt} {f : Addr} {fd : FuncData} {N ps : List Str} {k : Nat} {s : SpD} (F : Fun K x x st f fd) (S : FnScope N ps (defScope st)) (hm : mg x = some (.ref f)) (hb : Binds K fd ps [])
    (len : ∀ ds M Q E, s ds M Q E → ds.length = ps.length)
    (body : ∀ (cdv : Value) (A : Around) (outer : List Env) (s0 : Shared) (H0 : Hp) (E : XK) (E0 : XKd), Room k (A.deeper (envOfC x (defScope st) s0.heap.objs.size f cdv)) →
      TakesD (cxOf (L2.CX P w) P w K mg base N x (defScope st) f cdv A outer s0 H0 E) (fun C fs _ M' => ∃ M, (∀ a o, M a = some o → M' a = some o) ∧ E0 C fs M) →
      PassesOwn (model P w) (A.deeper (envOfC x (defScope st) s0.heap.objs.size f cdv)) (envOfC x (defScope st) s0.heap.objs.size f cdv) (cxOf (L2.CX P w) P w K mg base N x (defScope st) f cdv A outer s0 H0 E).xe →
      ∃ t, PSsd (cxOf (L2.CX P w) P w K mg base N x (defScope st) f cdv A outer s0 H0 E) (defBody st) t ∧ ∀ ds M Q, s ds M Q E0 → t { nx := fun _ M' => Down Q .non M', rt := Down Q } (startD N ds) M) :
    FnD P w K mg base (k + 1) x ps s := by
  refine ⟨f, fd, F.okX S (fun vs H Q E h => ?_) (fun cdv A outer s0 H vs Q E hr h => ?_), hm, F.kp, hb⟩
  · obtain ⟨ds, M, Q0, E0, rl, _, h, _⟩ := h
    rw [rl.length]
    exact len _ _ _ _ h
  · obtain ⟨ds, M, Q0, E0, rl, rm, h, kq, kx⟩ := h
    have down : lowV K H (Down Q0) Q := fun v H' d M' t r m q => by
      obtain ⟨M2, hs, q⟩ := q
      exact kq v H' d M2 t r (m.less hs) q
    obtain ⟨t, pt, ht⟩ := body cdv A outer s0 H E E0 hr ((takes_of rfl rfl rfl rfl).imp fun cls d σ H' h => by
      obtain ⟨C, dd, vs, fs, ρ, M', e1, e2, e3, e4, e5, e6, e7, M2, hs, q⟩ := h
      subst e1 e2
      exact kx C dd H' vs fs M2 e7 e3 e4 (e6.less hs) q) (passes_of rfl)
    exact ⟨_, pt.ps, startD N ds, M, _, start_rel rl, rm, ht ds M Q0 h, ⟨fun σ H' ρ M' t r m q => down .non H' .non M' t rfl m q, down, fun _ _ _ _ _ _ _ z => z.elim, fun _ _ _ _ _ _ _ z => z.elim⟩⟩
end
end DL

end T_DL8

section T_DL9
set_option Elab.async false
set_option linter.all false
set_option maxRecDepth 100000
set_option maxHeartbeats 1000000
/-! The D layer, 9: short words for printed terms. -/
namespace DL
open PySem PySem.Spec L2
open PyProof.Rows hiding St

theorem u1 {k : Nat} {A : Around} (r : Room k A) : A.units + 1 < cLine := by have := r.un; omega
theorem u64 {k : Nat} {A : Around} (r : Room k A) : A.units + 64 < cLine := by have := r.un; omega
theorem u65 {k : Nat} {A : Around} (r : Room k A) : A.units + 65 < cLine := by have := r.un; omega
section
variable {X : Cx}
theorem v (i : Nat) {x : Str} {pos : Pos} (hN : X.N[i]? = some x := by rfl) (hv : Vis X.env.scope x := by first | exact Or.inl rfl | exact Or.inr (Or.inl rfl) | exact Or.inr (Or.inr rfl)) (hd : (x == ("__debug__" : Str)) = false := by decide)
    (hcd : (x == ("__classdict__" : Str)) = false := by decide) : PEd X (.Name x pos) (tvar i) := ped_var hN hv hd hcd
theorem gn (i : Nat) {x : Str} {pos : Pos} (hN : X.N.Nodup) (hi : X.N[i]? = some x := by rfl) (hx : Loc X.env.scope x := by first | exact Or.inl rfl | exact Or.inr rfl)
    (hf : X.fn x = true ∨ X.env.scope.names.lookup x = some .local := by first | exact .inl rfl | exact .inr rfl) : PGd X (.Name x pos) [i] (gname i) := pgd_name hN hi hx hf
theorem sv (i : Nat) {x : Str} {e : Expr} {te : TEd} {pos pos' : Pos} (hN : X.N.Nodup) (he : PEd X e te) (hi : X.N[i]? = some x := by rfl) (hx : Loc X.env.scope x := by first | exact Or.inl rfl | exact Or.inr rfl)
    (hs : swapsWith e (some (.Name x pos')) pos.line X.env = pure false := by rfl) (hf : X.fn x = true ∨ X.env.scope.names.lookup x = some .local := by first | exact .inl rfl | exact .inr rfl) :
    PSd X (.Assign [.Name x pos'] e pos) (tasg te (gname i)) := psd_set hN hi hx he hs hf
/-- a, b = e, f -/
theorem sp2 (i j : Nat) {x y : Str} {a b : Expr} {ta : TAd} {px py pt pos : Pos} {kt k2 pt2} (hc : X.calm = true) (hN : X.N.Nodup) (ha : PAd X [a, b] ta) (hi : X.N[i]? = some x := by rfl) (hj : X.N[j]? = some y := by rfl) (hij : i ≠ j := by decide)
    (hx : X.env.scope.names.lookup x = some .local := by rfl) (hy : X.env.scope.names.lookup y = some .local := by rfl)
    (hw : swappedStores [.Tuple [.Name x px, .Name y py] kt pt] (.Tuple [a, b] k2 pt2) X.env = pure (some [x, y]) := by rfl)
    (hs : swapsWithSole [.Tuple [.Name x px, .Name y py] kt pt] (.Tuple [a, b] k2 pt2) pos.line X.env = pure false := by rfl) :
    PSd X (.Assign [.Tuple [.Name x px, .Name y py] kt pt] (.Tuple [a, b] k2 pt2) pos) (tpar i j ta) := .of (ps_par hc hN hi hj hij hx hy ha.pa hw hs) tpar_low
/-- a def as it stands -/
def Stands (K : PySem.W.Frag) (mg : Str → Option Value) (x : Str) (st : Stmt) (ps : List Str) : Prop := ∃ f fd, Fun K x x st f fd ∧ mg x = some (.ref f) ∧ Binds K fd ps []
end
end DL

end T_DL9

section T_DLA
set_option Elab.async false
set_option linter.all false
set_option maxRecDepth 100000
set_option maxHeartbeats 1000000
/-! The D layer, A: equations for stepping. -/
namespace DL
open PySem PySem.Spec L2
open PyProof.Rows hiding St
def tpar2 (i j : Nat) (ds : List D) (E : Endsd) (ρ : Envd) (M1 : Mem) : Prop := match ds with
  | [v, w] => E.nx ((ρ.set i (some v)).set j (some w)) M1
  | _ => False
def popK (o : Option D) (M : Mem) (Q : VKd) (a : Addr) (xs : List D) : Prop := match o with
  | some y => Q y (put M a (.lst xs.dropLast))
  | none => False
section
variable {M : Mem} {Q : VKd} {ρ : Envd} {d x y z : D} {a b p : Addr} {i j : Int} {n : Nat} {xs ys : List D} {s t' : Str} {ta tb tc te : TEd} {t u tt : TTd} {r : R2d} {r1 : R1d} {R : RCd} {T : TAd} {D : Endsd}
theorem e_seq {t u : TSd} : tseq t u D ρ M = t { D with nx := u D } ρ M := rfl
theorem e_next : tnext D ρ M = D.nx ρ M := rfl
theorem e_break : tbreak D ρ M = D.bk ρ M := rfl
theorem e_cont : tcont D ρ M = D.ct ρ M := rfl
theorem e_drop : tdrop te D ρ M = te ρ M fun _ M1 => D.nx ρ M1 := rfl
theorem e_ret : tret te D ρ M = te ρ M D.rt := rfl
theorem e_retN : tretN D ρ M = D.rt .non M := rfl
theorem e_ifS {t u : TSd} {c : TTd} : tifS c t u D ρ M = c ρ M fun b M1 => if b = true then t D ρ M1 else u D ρ M1 := rfl
theorem e_asg {g : TGd} : tasg te g D ρ M = te ρ M fun x M1 => g x ρ M1 D.nx := rfl
theorem e_par {i j : Nat} : tpar i j T D ρ M = T ρ M fun ds M1 => tpar2 i j ds D ρ M1 := rfl
theorem e_par2 {i j : Nat} : tpar2 i j [x, y] D ρ M = D.nx ((ρ.set i (some x)).set j (some y)) M := rfl
theorem e_del : tdel ta tb D ρ M = ta ρ M fun x M1 => tb ρ M1 fun y M2 => delR x y M2 fun M3 => D.nx ρ M3 := rfl
theorem e_gname {i : Nat} {Q : Envd → Mem → Prop} : gname i d ρ M Q = Q (ρ.set i (some d)) M := rfl
theorem e_gsub {Q : Envd → Mem → Prop} : gsub ta tb d ρ M Q = ta ρ M fun o M1 => tb ρ M1 fun i M2 => setR o i d M2 fun M3 => Q ρ M3 := rfl
theorem e_gtup {Q : Envd → Mem → Prop} {g : TGsd} : gtup n g (.tup xs) ρ M Q = (xs.length = n ∧ g xs ρ M Q) := rfl
theorem e_gcons {Q : Envd → Mem → Prop} {g : TGd} {h : TGsd} : gcons g h (x :: xs) ρ M Q = g x ρ M fun ρ1 M1 => h xs ρ1 M1 Q := rfl
theorem e_gnil {Q : Envd → Mem → Prop} : gnil [] ρ M Q = Q ρ M := rfl
theorem e_var0 : tvar 0 (some d :: ρ) M Q = Q d M := rfl
theorem e_varS {o : Option DL.D} : tvar (n + 1) (o :: ρ) M Q = tvar n ρ M Q := rfl
theorem e_con : tcon d ρ M Q = Q d M := rfl
theorem e_top2 : top2 r ta tb ρ M Q = ta ρ M fun x M1 => tb ρ M1 fun y M2 => r x y M2 Q := rfl
theorem e_top1 : top1 r1 ta ρ M Q = ta ρ M fun x M1 => r1 x M1 Q := rfl
theorem e_cb : tcb R T ρ M Q = T ρ M fun ds M1 => R ds M1 Q := rfl
theorem e_nil {Q : List DL.D → Mem → Prop} : tnil ρ M Q = Q [] M := rfl
theorem e_cons {Q : List DL.D → Mem → Prop} : tcons te T ρ M Q = te ρ M fun x M1 => T ρ M1 fun xs M2 => Q (x :: xs) M2 := rfl
theorem e_tup : ttup T ρ M Q = T ρ M fun xs M1 => xs.length ≤ sizeLine ∧ Q (.tup xs) M1 := rfl
theorem e_lst : tlst T ρ M Q = T ρ M fun xs M1 => xs.length ≤ sizeLine ∧ ∀ p, M1 p = none → Q (.ref p) (put M1 p (.lst xs)) := rfl
def testK (x : DL.D) (M1 : Mem) (Q : Bool → Mem → Prop) : Prop := match x with
  | .bl b => Q b M1
  | _ => False
theorem e_test {Q : Bool → Mem → Prop} : ttest te ρ M Q = te ρ M fun x M1 => testK x M1 Q := rfl
theorem e_testK {b : Bool} {Q : Bool → Mem → Prop} : testK (.bl b) M Q = Q b M := rfl
theorem e_tru {Q : Bool → Mem → Prop} : ttru te ρ M Q = te ρ M fun x M1 => truR x M1 Q := rfl
theorem e_truB {b : Bool} {Q : Bool → Mem → Prop} : truR (.bl b) M Q = Q b M := rfl
theorem e_truN {Q : Bool → Mem → Prop} : truR .non M Q = Q false M := rfl
theorem e_truL {Q : Bool → Mem → Prop} (h : M a = some (.lst xs)) : truR (.ref a) M Q = Q (!xs.isEmpty) M := by simp only [truR, h]
theorem e_and {Q : Bool → Mem → Prop} : tandT t u ρ M Q = t ρ M fun c M1 => if c = true then u ρ M1 Q else Q false M1 := rfl
theorem e_or {Q : Bool → Mem → Prop} : torT t u ρ M Q = t ρ M fun c M1 => if c = true then Q true M1 else u ρ M1 Q := rfl
theorem e_not {Q : Bool → Mem → Prop} : tnotT t ρ M Q = t ρ M fun c M1 => Q (!c) M1 := rfl
theorem e_if : tif tt ta tb ρ M Q = tt ρ M fun c M1 => if c = true then ta ρ M1 Q else tb ρ M1 Q := rfl
def andK (x : DL.D) (ρ : Envd) (M1 : Mem) (tb : TEd) (Q : VKd) : Prop := match x with
  | .bl c => if c = true then tb ρ M1 Q else Q (.bl false) M1
  | _ => False
def orK (x : DL.D) (ρ : Envd) (M1 : Mem) (tb : TEd) (Q : VKd) : Prop := match x with
  | .bl c => if c = true then Q (.bl true) M1 else tb ρ M1 Q
  | _ => False
def notK (x : DL.D) (M1 : Mem) (Q : VKd) : Prop := match x with
  | .bl c => Q (.bl (!c)) M1
  | _ => False
theorem e_andV : tandV ta tb ρ M Q = ta ρ M fun x M1 => andK x ρ M1 tb Q := rfl
theorem e_andK {c : Bool} : andK (.bl c) ρ M tb Q = if c = true then tb ρ M Q else Q (.bl false) M := rfl
theorem e_orV : torV ta tb ρ M Q = ta ρ M fun x M1 => orK x ρ M1 tb Q := rfl
theorem e_orK {c : Bool} : orK (.bl c) ρ M tb Q = if c = true then Q (.bl true) M else tb ρ M Q := rfl
theorem e_notV : tnotV ta ρ M Q = ta ρ M fun x M1 => notK x M1 Q := rfl
theorem e_notK {c : Bool} : notK (.bl c) M Q = Q (.bl (!c)) M := rfl
theorem e_add : addR (.int i) (.int j) M Q = Q (.int (i + j)) M := rfl
theorem e_addS {s t : Str} : addR (.str s) (.str t) M Q = (s.length + t.length ≤ sizeLine ∧ Q (.str (s ++ t)) M) := rfl
theorem e_addT : addR (.tup xs) (.tup ys) M Q = (xs.length + ys.length ≤ sizeLine ∧ Q (.tup (xs ++ ys)) M) := rfl
theorem e_addL (ha : M a = some (.lst xs)) (hb : M b = some (.lst ys)) : addR (.ref a) (.ref b) M Q = (xs.length + ys.length ≤ sizeLine ∧ ∀ p, M p = none → Q (.ref p) (put M p (.lst (xs ++ ys)))) := by
  show (match M a, M b with
    | some (.lst xs), some (.lst ys) => xs.length + ys.length ≤ sizeLine ∧ ∀ p, M p = none → Q (.ref p) (put M p (.lst (xs ++ ys)))
    | _, _ => False) = _
  rw [ha, hb]
theorem e_sub : subR (.int i) (.int j) M Q = Q (.int (i - j)) M := rfl
theorem e_mul : mulR (.int i) (.int j) M Q = (((-(2 ^ 64) < i ∧ i < 2 ^ 64) ∨ (-(2 ^ 64) < j ∧ j < 2 ^ 64)) ∧ Q (.int (i * j)) M) := rfl
theorem e_mulL (ha : M a = some (.lst xs)) : mulR (.ref a) (.int i) M Q = ((-(2 ^ 63) ≤ i ∧ i < 2 ^ 63 ∧ xs.length * i.toNat ≤ sizeLine) ∧ ∀ p, M p = none → Q (.ref p) (put M p (.lst (List.replicate i.toNat xs).flatten))) := by
  show (match M a with
    | some (.lst xs) => (-(2 ^ 63) ≤ i ∧ i < 2 ^ 63 ∧ xs.length * i.toNat ≤ sizeLine) ∧ ∀ p, M p = none → Q (.ref p) (put M p (.lst (List.replicate i.toNat xs).flatten))
    | _ => False) = _
  rw [ha]
theorem e_mulT : mulR (.tup xs) (.int i) M Q = ((xs ≠ [] ∧ 2 ≤ i ∧ i ≤ 1000 ∧ xs.length ≤ 1000) ∧ Q (.tup (List.replicate i.toNat xs).flatten) M) := rfl
theorem e_fdiv : fdivR (.int i) (.int j) M Q = ((0 < j ∧ j < 1073741824) ∧ Q (.int (i / j)) M) := rfl
theorem e_mod : modR (.int i) (.int j) M Q = (0 < j ∧ Q (.int (i % j)) M) := rfl
theorem e_pow : powR (.int i) (.int j) M Q = ((0 ≤ j ∧ j ≤ 1000000 ∧ i.natAbs < 2 ^ 64) ∧ Q (.int (i ^ j.toNat)) M) := rfl
theorem e_neg : negR (.int i) M Q = Q (.int (-i)) M := rfl
theorem e_lt : ltR (.int i) (.int j) M Q = Q (.bl (decide (i < j))) M := rfl
theorem e_le : leR (.int i) (.int j) M Q = Q (.bl (decide (i ≤ j))) M := rfl
theorem e_gt : gtR (.int i) (.int j) M Q = Q (.bl (decide (j < i))) M := rfl
theorem e_ge : geR (.int i) (.int j) M Q = Q (.bl (decide (j ≤ i))) M := rfl
theorem e_eqI : eqR (.int i) (.int j) M Q = Q (.bl (decide (i = j))) M := rfl
theorem e_eqS {s t : Str} : eqR (.str s) (.str t) M Q = Q (.bl (decide (s = t))) M := rfl
theorem e_neI : neR (.int i) (.int j) M Q = Q (.bl (!decide (i = j))) M := rfl
theorem e_neS {s t : Str} : neR (.str s) (.str t) M Q = Q (.bl (!decide (s = t))) M := rfl
theorem e_isN : isR x .non M Q = Q (.bl (decide (x = .non))) M := by cases x <;> rfl
theorem e_isntN : isntR x .non M Q = Q (.bl (!decide (x = .non))) M := by cases x <;> rfl
theorem e_isB {c d : Bool} : isR (.bl c) (.bl d) M Q = Q (.bl (decide (c = d))) M := rfl
theorem e_isntB {c d : Bool} : isntR (.bl c) (.bl d) M Q = Q (.bl (!decide (c = d))) M := rfl
/-- items -/
def atK (o : Option DL.D) (M : Mem) (Q : VKd) : Prop := match o with
  | some d => Q d M
  | none => False
theorem e_atK : atK (some d) M Q = Q d M := rfl
theorem e_ixT : ixR (.tup xs) (.int i) M Q = atK (atI xs i) M Q := rfl
theorem e_ixL (h : M a = some (.lst xs)) : ixR (.ref a) (.int i) M Q = atK (atI xs i) M Q := by
  show ixRef a (.int i) M Q = _
  simp only [ixRef, rdL, h]
  rfl
theorem e_ixK {kvs : List (DL.D × DL.D)} (h : M a = some (.dK kvs)) : ixR (.ref a) y M Q = (isKey false y = true ∧ atK (look kvs y) M Q) := by
  have e : ixR (.ref a) y M Q = ixRef a y M Q := by cases y <;> rfl
  rw [e]
  simp only [ixRef, rdL, rdD, h]
  rfl
theorem e_ixDT {kvs : List (DL.D × DL.D)} (h : M a = some (.dT kvs)) : ixR (.ref a) y M Q = (isKey true y = true ∧ atK (look kvs y) M Q) := by
  have e : ixR (.ref a) y M Q = ixRef a y M Q := by cases y <;> rfl
  rw [e]
  simp only [ixRef, rdL, rdD, h]
  rfl
theorem e_setK {kvs : List (DL.D × DL.D)} {Q : Mem → Prop} (h : M a = some (.dK kvs)) : setR (.ref a) y d M Q = (isKey false y = true ∧ kvs.length < sizeLine ∧ Q (put M a (.dK (dput kvs y d)))) := by simp only [setR, h]
theorem e_setDT {kvs : List (DL.D × DL.D)} {Q : Mem → Prop} (h : M a = some (.dT kvs)) : setR (.ref a) y d M Q = (isKey true y = true ∧ kvs.length < sizeLine ∧ Q (put M a (.dT (dput kvs y d)))) := by simp only [setR, h]
def setK (o : Option Nat) (a : Addr) (xs : List DL.D) (d : DL.D) (M : Mem) (Q : Mem → Prop) : Prop := match o with
  | some j => Q (put M a (.lst (xs.set j d)))
  | none => False
theorem e_setSome {j : Nat} {Q : Mem → Prop} : setK (some j) a xs d M Q = Q (put M a (.lst (xs.set j d))) := rfl
theorem e_setL {Q : Mem → Prop} (h : M a = some (.lst xs)) : setR (.ref a) (.int i) d M Q = setK (ixN xs.length i) a xs d M Q := by simp only [setR, h]; rfl
theorem e_delK {kvs : List (DL.D × DL.D)} {Q : Mem → Prop} (h : M a = some (.dK kvs)) : delR (.ref a) y M Q = (isKey false y = true ∧ (look kvs y).isSome = true ∧ Q (put M a (.dK (ddel kvs y)))) := by simp only [delR, h]
theorem e_delT {kvs : List (DL.D × DL.D)} {Q : Mem → Prop} (h : M a = some (.dT kvs)) : delR (.ref a) y M Q = (isKey true y = true ∧ (look kvs y).isSome = true ∧ Q (put M a (.dT (ddel kvs y)))) := by simp only [delR, h]
theorem e_inT {kvs : List (DL.D × DL.D)} {neg : Bool} (h : M a = some (.dT kvs)) : inR neg x (.ref a) M Q = (isKey true x = true ∧ Q (.bl (if neg then !(look kvs x).isSome else (look kvs x).isSome)) M) := by
  simp only [inR, rdD, h]
theorem e_inK {kvs : List (DL.D × DL.D)} {neg : Bool} (h : M a = some (.dK kvs)) : inR neg x (.ref a) M Q = (isKey false x = true ∧ Q (.bl (if neg then !(look kvs x).isSome else (look kvs x).isSome)) M) := by
  simp only [inR, rdD, h]
theorem e_lenL (h : M a = some (.lst xs)) : lenR [.ref a] M Q = Q (.int xs.length) M := by
  show lenR1 (.ref a) M Q = _
  simp only [lenR1, rdL, h]
theorem e_lenT : lenR [.tup xs] M Q = Q (.int xs.length) M := rfl
theorem e_lenK {kvs : List (DL.D × DL.D)} (h : M a = some (.dK kvs)) : lenR [.ref a] M Q = Q (.int kvs.length) M := by
  show lenR1 (.ref a) M Q = _
  simp only [lenR1, rdL, h]
theorem e_lenDT {kvs : List (DL.D × DL.D)} (h : M a = some (.dT kvs)) : lenR [.ref a] M Q = Q (.int kvs.length) M := by
  show lenR1 (.ref a) M Q = _
  simp only [lenR1, rdL, h]
theorem e_lenS {s : Str} : lenR [.str s] M Q = (s.length ≤ sizeLine ∧ Q (.int s.length) M) := rfl
theorem e_listL (h : M a = some (.lst xs)) : listR [.ref a] M Q = ∀ p, M p = none → Q (.ref p) (put M p (.lst xs)) := by
  simp only [listR, rdS, rdL, h]
theorem e_listO (h : M a = some (.ro xs)) : listR [.ref a] M Q = ∀ p, M p = none → Q (.ref p) (put M p (.lst xs)) := by
  simp only [listR, rdS, rdL, h]
theorem e_listT : listR [.tup xs] M Q = ∀ p, M p = none → Q (.ref p) (put M p (.lst xs)) := rfl
theorem e_tupleL (h : M a = some (.lst xs)) : tupleR [.ref a] M Q = Q (.tup xs) M := by
  simp only [tupleR, rdS, rdL, h]
theorem e_tupleT : tupleR [.tup xs] M Q = Q (.tup xs) M := rfl
theorem e_int : intR [.int i] M Q = Q (.int i) M := rfl
theorem e_lm0 {r : RMd} : tlm0 r te ρ M Q = te ρ M fun x M1 => isL x M1 ∧ r x [] M1 Q := rfl
theorem e_lm {r : RMd} : tlm r te T ρ M Q = te ρ M fun x M1 => isL x M1 ∧ T ρ M1 fun ds M2 => r x ds M2 Q := rfl
theorem e_isL (h : M a = some (.lst xs)) : isL (.ref a) M = True := by
  simp only [isL, rdL, h, Option.isSome_some]
theorem e_app (h : M a = some (.lst xs)) : appR (.ref a) [d] M Q = (xs.length < sizeLine ∧ Q .non (put M a (.lst (xs ++ [d])))) := by
  simp only [appR, h]
theorem e_pop (h : M a = some (.lst xs)) : popR (.ref a) [] M Q = popK (xs[xs.length - 1]?) M Q a xs := by
  simp only [popR, h]; rfl
theorem e_popSome : popK (some d) M Q a xs = Q d (put M a (.lst xs.dropLast)) := rfl
theorem e_call {W : WXd} {s : SpD} : tcall W s T ρ M Q = T ρ M fun ds M1 => s ds M1 Q fun C fs M2 => W C fs ρ M2 := rfl
theorem e_newT : tdnewT ρ M Q = ∀ p, M p = none → Q (.ref p) (put M p (.dT [])) := rfl
theorem e_newK : tdnewK ρ M Q = ∀ p, M p = none → Q (.ref p) (put M p (.dK [])) := rfl
theorem e_disp {trs : List (TEd × TEd)} : tdisp trs ρ M Q = ∀ p, M p = none → tprs trs ρ (put M p (.dK [])) fun ps M2 => M2 p = some (.dK []) ∧ (ps.all fun kv => (keyOf kv.1).isSome) = true ∧ ps.length ≤ 15 ∧ Q (.ref p) (put M2 p (.dK (mergeD [] ps))) := rfl
theorem e_prs0 {Q : List (DL.D × DL.D) → Mem → Prop} : tprs [] ρ M Q = Q [] M := rfl
theorem e_prsS {tr : TEd × TEd} {r : List (TEd × TEd)} {Q : List (DL.D × DL.D) → Mem → Prop} : tprs (tr :: r) ρ M Q = tr.1 ρ M fun x M1 => tr.2 ρ M1 fun y M2 => tprs r ρ M2 fun ps M3 => Q ((x, y) :: ps) M3 := rfl
theorem e_start {N : List Str} : startD N xs = xs.map some ++ List.replicate (N.length - xs.length) none := rfl
theorem e_for {ti : TId} {g : TGd} {tb : TSd} : tfor ti g tb D ρ M = ti ρ M fun items ok M1 => ∃ W : Nat → Envd → Mem → Prop, W 0 ρ M1 ∧ ∀ i ρ M, i ≤ items.length → W i ρ M → ok M ∧ (match items[i]? with
  | none => D.nx ρ M
  | some x => g x ρ M fun ρ2 M2 => tb { D with nx := W (i + 1), ct := W (i + 1), bk := D.nx } ρ2 M2) := rfl
end
end DL
namespace DL
open PySem PySem.Spec L2
/-- what holds behind the first statement -/
theorem seq_cut {t u : TSd} {E : Endsd} {ρ : Envd} {M : Mem} (J : Envd → Mem → Prop) (main : ∀ N : Envd → Mem → Prop, (∀ ρ' M', J ρ' M' → N ρ' M') → t { E with nx := N } ρ M) (fin : ∀ ρ' M', J ρ' M' → u E ρ' M') : tseq t u E ρ M := main (u E) fin
theorem Down.of {Q : VKd} {d : D} {M : Mem} (h : Q d M) : Down Q d M := ⟨M, fun _ _ e => e, h⟩
end DL

end T_DLA

section T_DLB
set_option Elab.async false
set_option linter.all false
set_option maxRecDepth 100000
set_option maxHeartbeats 1000000
/-! The D layer, B: defs that ask for texts of data (repr), and the kinds of data. -/
namespace DL
open PySem PySem.Spec L2
open PyProof.Rows hiding St

/-! ### promises that hold where no text is being made -/
structure FnQ (P : Program) (w : World) (K : PySem.W.Frag) (mg : Str → Option Value) (base : Heap) (k : Nat) (f : Addr) (fd : FuncData) (ps : List Str) (sp : Sp) : Prop where
  len : ∀ vs H Q E, sp vs H Q E → vs.length = ps.length
  go : ∀ (A : Around) (outer : List Env) (s : Shared) (H : Hp) (args : Args) (us : List Value) (vs : List V) (Q : VK) (E : XK), A.guards = some [] → Room k A →
    Env0 P w K mg base A outer s H → BindsTo s fd args (ps.zip us) → Vals vs us → sp vs H Q E → codeAny (model P w) A (.call (.ref f) args) (CR (L2.CX P w) outer P w H s Q E) s
theorem FnQ.ofOk {P : Program} {w : World} {K : PySem.W.Frag} {mg : Str → Option Value} {base : Heap} {k : Nat} {f : Addr} {fd : FuncData} {ps : List Str} {sp : Sp}
    (F : FnOk P w K mg base (L2.CX P w) k f fd ps sp) : FnQ P w K mg base k f fd ps sp :=
  ⟨F.len, fun A outer s H args us vs Q E _ => F.run A outer s H args us vs Q E⟩
/-- cv is the code object of the function at f -/
def CodeAt (K : PySem.W.Frag) (f : Addr) (cv : Value) : Prop := ∃ oc od fd osl, K.lookup f = some ⟨oc, od, .func fd, osl⟩ ∧ fd.code = cv ∧ ∃ q, PySem.W.codeIn K cv q = true
theorem FnQ.byBody {P : Program} {w : World} {K : PySem.W.Frag} {mg : Str → Option Value} {base : Heap} {k : Nat} {x q : Str} {st : Stmt} {f : Addr} {fd : FuncData} {N ps : List Str} {sp : Sp}
    (F : Fun K x q st f fd) (S : FnScope N ps (defScope st)) (len : ∀ vs H Q E, sp vs H Q E → vs.length = ps.length)
    (body : ∀ (cv : Value) (A : Around) (outer : List Env) (s : Shared) (H : Hp) (vs : List V) (Q : VK) (E : XK), CodeAt K f cv → A.guards = some [] →
      Room k (A.deeper (envOfC q (defScope st) s.heap.objs.size f cv)) → sp vs H Q E →
      ∃ t, PSs (cxOf (L2.CX P w) P w K mg base N q (defScope st) f cv A outer s H E) (defBody st) t ∧ t { nx := fun _ H2 => Q .non H2, rt := Q } (L2.start N vs) H) :
    FnQ P w K mg base (k + 1) f fd ps sp := by
  obtain ⟨oc, od, kV, doc, pm, an, cv, ct, osl, rfl, lk, code⟩ := F.ex
  refine ⟨len, fun A outer s H args us vs Q E hA room e0 binds rv hsp => ?_⟩
  have kin : K.In s.heap := e0.mod.kin.keeps fun b o z => (e0.bs b o z).1
  have nolim : s.heap.NoLimit := e0.mod.nolimit.keeps fun b o z => (e0.bs b o z).1
  have kinds : ∀ y ∈ ps.zip us, (defScope st).names.lookup y.1 = some .local ∨
      ((defScope st).names.lookup y.1 = some .cell ∧ ((cellsFrom (s.heap.objs.size + 1) (defScope st).names []).lookup y.1).isSome = true) := by
    rintro ⟨n, u⟩ hy
    rcases S.par n (List.of_mem_zip hy).1 with z | z
    · exact .inl z
    · exact .inr ⟨z, PySem.W.cellsFrom_some _ _ _ (.inl z)⟩
  refine codeAny_call_function room.depth (kin _ _ lk) rfl S.co S.gen rfl (PySem.W.codeRec_of kin code) (binds _ _ _ _ ?_)
  refine wpAny_newFunctionEnv_cells S.kind kinds ?_
  intro env ee s1 inC
  subst ee
  refine ⟨nolim.keeps inC.toInCall.keep, codeAny_func ?_⟩
  obtain ⟨t, pt, tq⟩ := body cv A outer s H vs Q E ⟨_, _, _, _, lk, rfl, _, code⟩ hA (room.deeper _) hsp
  have I := inv_start (CX := L2.CX P w) (P := P) (w := w) (K := K) (mg := mg) (base := base) (E := E) S room.hd e0 (len _ _ _ _ hsp) rv inC
  refine wpAny_mono (pt.run [] s1 (L2.start N vs) H _ I tq) ?_ (fun _ _ z => z)
  intro fl s' hs
  cases fl with
  | next => obtain ⟨σ', H', J, q⟩ := hs; exact ⟨V.non, H', J.os, J.bare, J.base, J.hok, rfl, q⟩
  | ret u => obtain ⟨y, σ', H', J, ry, q⟩ := hs; exact ⟨y, H', J.os, J.bare, J.base, J.hok, ry, q⟩
  | brk => obtain ⟨_, _, _, q⟩ := hs; exact q.elim
  | cont => obtain ⟨_, _, _, q⟩ := hs; exact q.elim
/-- the def x stands and keeps s, where no text is being made -/
def FnG (P : Program) (w : World) (K : PySem.W.Frag) (mg : Str → Option Value) (base : Heap) (k : Nat) (x : Str) (ps : List Str) (s : SpD) : Prop :=
  ∃ (f : Addr) (fd : FuncData), FnQ P w K mg base k f fd ps (lowSp K s) ∧ mg x = some (.ref f) ∧ PySem.W.keepIn K (.ref f) = true ∧ Binds K fd ps []
theorem FnD.g {P : Program} {w : World} {K : PySem.W.Frag} {mg : Str → Option Value} {base : Heap} {k : Nat} {x : Str} {ps : List Str} {s : SpD} (F : FnD P w K mg base k x ps s) : FnG P w K mg base k x ps s := by
  obtain ⟨f, fd, ok, r⟩ := F
  exact ⟨f, fd, .ofOk ok, r⟩
section
variable {P : Program} {w : World} {K : PySem.W.Frag} {mg : Str → Option Value} {base : Heap}
theorem FnQ.ofD {x : Str} {st : Stmt} {f : Addr} {fd : FuncData} {N ps : List Str} {k : Nat} {s : SpD} (F : Fun K x x st f fd) (S : FnScope N ps (defScope st))
    (len : ∀ ds M Q E, s ds M Q E → ds.length = ps.length)
    (body : ∀ (cdv : Value) (A : Around) (outer : List Env) (s0 : Shared) (H0 : Hp) (E : XK) (E0 : XKd), A.guards = some [] → Room k (A.deeper (envOfC x (defScope st) s0.heap.objs.size f cdv)) →
      TakesD (cxOf (L2.CX P w) P w K mg base N x (defScope st) f cdv A outer s0 H0 E) (fun C fs _ M' => ∃ M, (∀ a o, M a = some o → M' a = some o) ∧ E0 C fs M) →
      PassesOwn (model P w) (A.deeper (envOfC x (defScope st) s0.heap.objs.size f cdv)) (envOfC x (defScope st) s0.heap.objs.size f cdv) (cxOf (L2.CX P w) P w K mg base N x (defScope st) f cdv A outer s0 H0 E).xe →
      ∃ t, PSsd (cxOf (L2.CX P w) P w K mg base N x (defScope st) f cdv A outer s0 H0 E) (defBody st) t ∧ ∀ ds M Q, s ds M Q E0 → t { nx := fun _ M' => Down Q .non M', rt := Down Q } (startD N ds) M) :
    FnQ P w K mg base (k + 1) f fd ps (lowSp K s) := by
  refine .byBody F S (fun vs H Q E h => ?_) (fun cdv A outer s0 H vs Q E _ hA hr h => ?_)
  · obtain ⟨ds, M, Q0, E0, rl, _, h, _⟩ := h
    rw [rl.length]
    exact len _ _ _ _ h
  · obtain ⟨ds, M, Q0, E0, rl, rm, h, kq, kx⟩ := h
    have down : lowV K H (Down Q0) Q := fun v H' d M' t r m q => by
      obtain ⟨M2, hs, q⟩ := q
      exact kq v H' d M2 t r (m.less hs) q
    obtain ⟨t, pt, ht⟩ := body cdv A outer s0 H E E0 hA hr ((takes_of rfl rfl rfl rfl).imp fun cls d σ H' h => by
      obtain ⟨C, dd, vs, fs, ρ, M', e1, e2, e3, e4, e5, e6, e7, M2, hs, q⟩ := h
      subst e1 e2
      exact kx C dd H' vs fs M2 e7 e3 e4 (e6.less hs) q) (passes_of rfl)
    exact ⟨_, pt.ps, startD N ds, M, _, start_rel rl, rm, ht ds M Q0 h, ⟨fun σ H' ρ M' t r m q => down .non H' .non M' t rfl m q, down, fun _ _ _ _ _ _ _ z => z.elim, fun _ _ _ _ _ _ _ z => z.elim⟩⟩
theorem FnG.of {x : Str} {st : Stmt} {f : Addr} {fd : FuncData} {N ps : List Str} {k : Nat} {s : SpD} (F : Fun K x x st f fd) (S : FnScope N ps (defScope st)) (hm : mg x = some (.ref f)) (hb : Binds K fd ps [])
    (len : ∀ ds M Q E, s ds M Q E → ds.length = ps.length)
    (body : ∀ (cdv : Value) (A : Around) (outer : List Env) (s0 : Shared) (H0 : Hp) (E : XK) (E0 : XKd), A.guards = some [] → Room k (A.deeper (envOfC x (defScope st) s0.heap.objs.size f cdv)) →
      TakesD (cxOf (L2.CX P w) P w K mg base N x (defScope st) f cdv A outer s0 H0 E) (fun C fs _ M' => ∃ M, (∀ a o, M a = some o → M' a = some o) ∧ E0 C fs M) →
      PassesOwn (model P w) (A.deeper (envOfC x (defScope st) s0.heap.objs.size f cdv)) (envOfC x (defScope st) s0.heap.objs.size f cdv) (cxOf (L2.CX P w) P w K mg base N x (defScope st) f cdv A outer s0 H0 E).xe →
      ∃ t, PSsd (cxOf (L2.CX P w) P w K mg base N x (defScope st) f cdv A outer s0 H0 E) (defBody st) t ∧ ∀ ds M Q, s ds M Q E0 → t { nx := fun _ M' => Down Q .non M', rt := Down Q } (startD N ds) M) :
    FnG P w K mg base (k + 1) x ps s := ⟨f, fd, .ofD F S len body, hm, F.kp, hb⟩
end
section
variable {X : Cx} {k : Nat} {x : Str} {ps : List Str} {s : SpD} {W : WXd} {e : Expr} {es : List Expr} {t : TAd} {p pos : Pos}
theorem ped_callG (F : FnG X.prog X.w X.K X.mg X.base k x ps s) (hA : X.A.guards = some []) (hr : Room k X.A) (hg : Gl X x) (tk : TakesD X W) (ha : PAd X (e :: es) t) (hdb : (x == ("__debug__" : Str)) = false := by decide)
    (he : starEach (e :: es) X.env = (false, eval e X.env) :: starEach es X.env := by rfl) (hpl : (backTo pos (starEach es X.env)).any (·.1) = false := by rfl) : PEd X (.Call (.Name x p) (e :: es) [] pos) (tcall W s t) := by
  obtain ⟨f, fd, fok, hm, hk, hb⟩ := F
  refine ⟨⟨fun pins s0 σ H Q I w => ?_⟩⟩
  obtain ⟨ρ, M, Q0, re, rm, h, kk⟩ := w
  have tb : Tle X.H_0 H := I.base.tups
  refine wpAny_Call_Name_kw (ld_glob I hg hm ?_ hdb)
  refine PySem.W.callWith_K (h₀ := X.base) I.ok.mod.kin hk (thn (ha.pa.run pos pins s0 σ H (fun vs H1 => Tle H H1 ∧ lowSp X.K s vs H1 Q (WE (lowW X W) σ)) I ⟨ρ, M, _, re, rm, h, fun vs H1 ds M1 t1 r1 m1 h1 => ?_⟩) fun us s1 ⟨vs, H1, I1, rv, q⟩ => ⟨I1.kIn, ?_⟩) he hpl
  · exact ⟨t1, ds, M1, Q0, _, r1, m1, h1, kk.tle t1, fun C d H2 us fs M2 t2 ed rf m2 h2 => ⟨C, d, us, fs, ρ, M2, rfl, rfl, ed, rf, re.tle (t1.trans t2), m2, tb.trans (t1.trans t2), h2⟩⟩
  · have hl : us.length = ps.length := by rw [← rv.length]; exact fok.len _ _ _ _ q.2
    have b := hb s1 us I1.kIn (by rw [List.append_nil]; exact hl)
    rw [List.append_nil] at b
    refine wpAny_call (codeAny_mono (fok.go X.A X.stack s1 H1 ⟨us, []⟩ us vs Q _ hA hr I1.env0 b rv q.2) ?_)
    intro r s' hq
    cases r with
    | error e => exact passAt tk σ pins H1 s1 e s' I1 hq
    | ok fl =>
      cases fl with
      | ret u => exact I1.after hq
      | next => exact hq.elim
      | brk => exact hq.elim
      | cont => exact hq.elim
end

/-! ### repr -/
def reprR : RCd := fun ds M Q => match ds with
  | [d] => (∃ p, PyR M d p ∧ p.showable = true ∧ p.depth ≤ 32 ∧ p.shown.length ≤ sizeLine ∧ Q (.str p.shown) M) ∨ (∃ a, d = .ref a ∧ (M a = some (.dK []) ∨ M a = some (.dT [])) ∧ Q (.str (PyData.dict []).shown) M)
  | _ => False
theorem PyR.noDict {M : Mem} : ∀ (p : PyData) (d : D), PyR M d p → p.hasDict = false
  | .none, _, _ => rfl
  | .bool _, _, _ => rfl
  | .int _, _, _ => rfl
  | .str _, _, _ => rfl
  | .tuple ps, _, .tup h => all ps _ h
  | .list ps, _, .lst _ h => all ps _ h
where all : ∀ {M : Mem} (ps : List PyData) (ds : List D), PyRL M ds ps → PyData.hasDictAll ps = false
  | _, [], _, .nil => rfl
  | _, p :: ps, _, .cons h t => by simp [PyData.hasDictAll, PyR.noDict p _ h, all ps _ t]
section
variable {X : Cx}
theorem call_reprU (hA : X.A.guards = some []) (un : X.A.units + 200 < cLine) : CallR X (.builtin "repr") (lowCR X.K reprR) := by
  intro pins s σ H xs us Q I rv w
  obtain ⟨ds, M, Q0, r, m, h, kk⟩ := w
  match ds, r, h with
  | [d], r, h =>
    obtain ⟨v, e, r1⟩ := one_arg r
    subst e
    obtain ⟨u, rfl, ru⟩ := vals1 rv
    rcases h with ⟨p, hp, hs, hd, hl, q⟩ | ⟨a, rfl, hM, q⟩
    · have dp := PyR.dp m p d v hp r1
      obtain ⟨as, rd⟩ := Dp.reads I p v u dp ru
      have nd := PyR.noDict p d hp
      have fin : ∀ h' (u' : Tok) tk, (∀ b o, s.heap.get? b = some o → h'.get? b = some o) → EP X pins σ Q (.str p.shown u') { s with heap := h', toks := tk } := fun h' u' tk hk =>
        ⟨.str p.shown, H, I.kept (t' := tk) hk, ⟨u', rfl⟩, kk.str m q⟩
      cases rd with
      | none => exact PySem.P.repr_of_none (fin s.heap _ _ fun _ _ z => z)
      | bool b => exact PySem.P.repr_of_bool (fin s.heap _ _ fun _ _ z => z)
      | int i t => exact PySem.P.repr_of_int (of_decide_eq_true hs) (fin s.heap _ _ fun _ _ z => z)
      | str y t => exact PySem.P.repr_of_str (fin s.heap _ _ fun _ _ z => z) hl
      | list h1 h2 h3 h4 => exact repr_of_reads' (.list h1 h2 h3 h4) hs (fun z => by rw [nd] at z; cases z) hA (by omega) (fun _ _ z => z) fin hl
      | tuple h1 h2 h3 h4 => exact repr_of_reads' (.tuple h1 h2 h3 h4) hs (fun z => by rw [nd] at z; cases z) hA (by omega) (fun _ _ z => z) fin hl
      | dict h1 h2 h3 h4 h5 => cases nd
    · cases r1
      cases ru
      have fin : ∀ h' (u' : Tok) tk, (∀ b o, s.heap.get? b = some o → h'.get? b = some o) → EP X pins σ Q (.str (PyData.dict []).shown u') { s with heap := h', toks := tk } := fun h' u' tk hk =>
        ⟨.str (PyData.dict []).shown, H, I.kept (t' := tk) hk, ⟨u', rfl⟩, kk.str m q⟩
      have done : ∀ (o : Obj) (es : Array DictEntry) (n : Nat), s.heap.get? a = some o → o.cls = .type "dict" → o.data = .dict es n → es.toList = [] → (a == sysModules) = false → wpAny (model X.prog X.w) X.A (call (.builtin "repr") [.ref a]) (EP X pins σ Q) X.xe s := fun o es n h1 h2 h3 h4 h5 => by
        refine repr_of_reads' (d := .dict []) (as := a :: [] ++ []) (.dict h1 h2 h3 (by rw [h4]; exact .nil) (by rw [h4]; exact .nil)) rfl (fun _ z => ?_) hA (by have : (PyData.dict []).depth = 1 := rfl; omega) (fun _ _ z => z) fin (by decide +kernel)
        have e : sysModules = a := by simpa using z
        rw [e] at h5
        simp at h5
      rcases hM with e | e
      · obtain ⟨hv, q2, rl⟩ := m a _ e
        have ev : hv = [] := by cases rl; rfl
        subst ev
        obtain ⟨_, hy, vs, kv, o, es, ep, h1, h2, h3, h4⟩ := (show ObjOk X.prog X.w H s.heap a (.dK []) from I.hok a _ q2)
        cases kv
        exact done o es ep h1 h2.1 h3 (by have h5 := h4.2.1; generalize es.toList = l at h5; cases h5; rfl) hy
      · obtain ⟨hv, q2, rl⟩ := m a _ e
        have ev : hv = [] := by cases rl; rfl
        subst ev
        obtain ⟨_, hy, vs, kv, o, es, ep, h1, h2, h3, h4, _⟩ := (show ObjOk X.prog X.w H s.heap a (.dT []) from I.hok a _ q2)
        cases kv
        exact done o es ep h1 h2.1 h3 (by simpa using h4) hy
theorem call_reprD {k : Nat} (hA : X.A.guards = some []) (hr : Room k X.A) : CallR X (.builtin "repr") (lowCR X.K reprR) := call_reprU hA (by have := hr.un; omega)
end

/-! ### isinstance -/
/-- the name of a datum's type -/
def kindD (M : Mem) : D → Option String
  | .non => some "NoneType"
  | .bl _ => some "bool"
  | .int _ => some "int"
  | .str _ => some "str"
  | .tup _ => some "tuple"
  | .ref a => (match M a with
    | some (.lst _) => some "list"
    | some (.dK _) => some "dict"
    | some (.dT _) => some "dict"
    | _ => none)
  | .ty _ => none
def isiK (o : Option Bool) (M : Mem) (Q : VKd) : Prop := match o with
  | some b => Q (.bl b) M
  | none => False
def isiR : RCd := fun ds M Q => match ds with
  | [d, .ty n] => isiK ((kindD M d).bind fun t => kitB t n) M Q
  | _ => False
section
variable {X : Cx} {pins : List (Addr × Obj)} {σ : St} {H : Hp} {s : Shared}
theorem kit_D {M : Mem} {d : D} {v : V} {u : Value} {t : String} (I : Inv X pins σ H s) (m : RelM X.K H M) (r : Rel H d v) (ru : RelV v u) (h : kindD M d = some t) :
    ∃ P : Heap → Prop, PySem.W.KitX X.K u (.type t) P ∧ P s.heap ∧ u ≠ .builtin "__main__.__loader__#opaque" := by
  cases d with
  | non => cases h; cases r; exact kit_of I ru (.base .non)
  | bl b => cases h; cases r; exact kit_of I ru (.base (.bl b))
  | int i => cases h; cases r; exact kit_of I ru (.base (.int i))
  | str x => cases h; cases r; exact kit_of I ru (.base (.str x))
  | tup xs =>
    cases h
    obtain ⟨a, vs, e, q, _⟩ := r
    subst e
    exact kit_of I ru (.base (.tup q))
  | ty n => cases h
  | ref a =>
    cases r
    have h' : (match M a with
      | some (.lst _) => some "list"
      | some (.dK _) => some "dict"
      | some (.dT _) => some "dict"
      | _ => none) = some t := h
    split at h'
    · rename_i xs e; cases h'; obtain ⟨vs, q, _⟩ := m.lst e; exact kit_of I ru (.base (.lst q))
    · rename_i xs e; cases h'; obtain ⟨vs, q, _⟩ := m a _ e; exact kit_of I ru (.base (.dK q))
    · rename_i xs e
      cases h'
      obtain ⟨hv, q, _⟩ := m a _ e
      cases ru
      obtain ⟨_, _, _, _, o, es, ep, h1, h2, _⟩ := (show ObjOk X.prog X.w H s.heap a (.dT hv) from I.hok a _ q)
      exact ⟨_, PySem.W.kitx_dict, ⟨o, h1, h2.1⟩, fun z => nomatch z⟩
    · cases h'
theorem call_isiD : CallR X (.builtin "isinstance") (lowCR X.K isiR) := by
  intro pins s σ H xs us Q I rv w
  obtain ⟨ds, M, Q0, r, m, h, kk⟩ := w
  match ds, r, h with
  | [d, .ty n], r, h =>
    obtain ⟨v, y, e, r1, r2⟩ := two_arg r
    subst e
    cases r2
    obtain ⟨u1, u2, rfl, q1, q2⟩ := vals2 rv
    cases (show u2 = Value.type n from q2)
    cases e1 : kindD M d with
    | none => exact False.elim (by simpa [isiR, e1, isiK] using h)
    | some t =>
      cases e2 : kitB t n with
      | none => exact False.elim (by simpa [isiR, e1, e2, isiK] using h)
      | some b =>
        have h' : Q0 (.bl b) M := by simpa [isiR, e1, e2, isiK] using h
        obtain ⟨P, Z, p, hx⟩ := kit_D I m r1 q1 e1
        exact PySem.W.kia_one Z I.kIn p (kit_ty e2) hx fun tk => ⟨.bl b, H, I.tok tk, rfl, kk.bl m h'⟩
end
end DL

end T_DLB

section T_DLC
set_option Elab.async false
set_option linter.all false
set_option maxRecDepth 100000
set_option maxHeartbeats 1000000
/-! The D layer, C: rows of any kind, sorted. -/
namespace DL
open PySem PySem.Spec L2
open PyProof.Rows hiding St

theorem pyL_map : ∀ xs : List D, D.pyL xs = xs.map D.py
  | [] => rfl
  | x :: xs => by rw [D.pyL, pyL_map xs, List.map_cons]
/-- what is told, one by one, by lists, tuples and dicts -/
def rdI (M : Mem) : D → Option (List D)
  | .tup xs => some xs
  | .ref a => (match M a with
    | some (.lst xs) => some xs
    | some (.ro xs) => some xs
    | some (.dK kvs) => some (kvs.map (·.1))
    | some (.fK _ _ kvs) => some (kvs.map (·.1))
    | some (.dT kvs) => some (kvs.map (·.1))
    | some (.fT _ _ kvs) => some (kvs.map (·.1))
    | _ => none)
  | _ => none
theorem keys_relK {H : Hp} : ∀ {kvs : List (D × D)} {hv : List (Key × V)}, RelKv H kvs hv → RelL H (kvs.map (·.1)) (hv.map fun q => kV q.1)
  | _, _, .nil => .nil
  | (k, d) :: _, (q, y) :: _, .cons h t => by
    refine .cons ?_ (keys_relK t)
    have e : k = kD q := h.1
    show Rel H k (kV q)
    rw [e]
    cases q <;> rfl
theorem relL_keys {H : Hp} : ∀ (ks : List Key), RelL H (ks.map kD) (ks.map kV)
  | [] => .nil
  | k :: ks => .cons (by cases k <;> rfl) (relL_keys ks)
theorem keys_relT {H : Hp} : ∀ {kvs : List (D × D)} {hv : List (List Key × V)} {bs : List Addr}, RelTv H kvs hv → IsKeys H hv bs → RelL H (kvs.map (·.1)) (bs.map V.ref)
  | _, _, _, .nil, .nil => .nil
  | (k, d) :: _, (q, y) :: _, b :: _, .cons h t, .cons g u => by
    refine .cons ?_ (keys_relT t u)
    have e : k = .tup (q.map kD) := h.1
    show Rel H k (.ref b)
    rw [e]
    exact ⟨b, _, rfl, g, relL_keys q⟩
section
variable {X : Cx} {pins : List (Addr × Obj)} {σ : St} {H : Hp} {s : Shared}
theorem dk_vals {P : Program} {w : World} {acc : Array Value} {kvs : List (Key × V)} {vs : List (Key × Value)} (rk : KV kvs vs)
    (h : ItemsOf (fun i v => ∃ k y, vs[i]? = some (k, y) ∧ (mixKind P w).is k v = true) acc vs.length) : Vals (kvs.map fun q => kV q.1) acc.toList := by
  have hl : kvs.length = vs.length := Paired.length rk
  have el : acc.toList.length = acc.size := by simp
  refine vals_of_at (by rw [List.length_map, el, h.1, hl]) fun j x u h1 h2 => ?_
  obtain ⟨k, y, e1, e2⟩ := h.2 j u (by rw [← Array.getElem?_toList]; exact h2)
  have e3 : (kvs.map (·.1))[j]? = some k := by rw [KV.keys rk, List.getElem?_map, e1] <;> rfl
  have e4 : (kvs.map fun kv => kV kv.1)[j]? = some (kV k) := by
    have e5 : (kvs.map fun kv => kV kv.1) = (kvs.map (·.1)).map kV := by rw [List.map_map] <;> rfl
    rw [e5, List.getElem?_map, e3] <;> rfl
  rw [e4] at h1
  cases h1
  exact keyIs_rel e2
theorem collectD {M : Mem} {d : D} {v : V} {u : Value} {xs : List D} {A : Around} {E : Value → Shared → Prop} {Q : List Value → Shared → Prop} (hh : A.handled = none) (I : Inv X pins σ H s) (m : RelM X.K H M) (r : Rel H d v) (ru : RelV v u) (e : rdI M d = some xs)
    (hz : xs.length ≤ sizeLine) (h : ∀ (vs : List V) (us : List Value) (h' : Heap) (tk : Nat), RelL H xs vs → Vals vs us → (∀ b o, s.heap.get? b = some o → h'.get? b = some o) → Q us { s with heap := h', toks := tk }) :
    wpAny (model X.prog X.w) A (collect u) Q E s := by
  have seq : ∀ (T : String) (a : Addr) (o : Obj) (its : List Value) (n : Nat) (vs : List V), (T = "list" ∨ T = "tuple") → s.heap.get? a = some o → o.cls = .type T → o.data = .seq its.toArray n → Vals vs its → RelL H xs vs → wpAny (model X.prog X.w) A (collect (.ref a)) Q E s :=
    fun T a o its n vs hT ho hc hd rv rl => wpAny_collect_seq a hT ho hc hd (fun h' k => by
      have := h vs its h' s.toks rl rv k
      simpa using this) (by have := rl.length; have := rv.length; simp; omega)
  have lst : ∀ (a : Addr) (vs : List V), SqL X.K H a vs → RelL H xs vs → wpAny (model X.prog X.w) A (collect (.ref a)) Q E s := fun a vs q rl => by
    obtain ⟨its, rv, ⟨o, n, ho, hc, _, hd⟩, _⟩ := I.list q
    exact seq "list" a o its n vs (.inl rfl) ho hc hd rv rl
  have dK : ∀ (a : Addr) (kvs : List (D × D)) (hv : List (Key × V)), xs = kvs.map (·.1) → Rd H a (.dK hv) → RelKv H kvs hv → wpAny (model X.prog X.w) A (collect (.ref a)) Q E s := fun a kvs hv ex q rl => by
    obtain ⟨z, lo, vs, rel, dd⟩ := dk_rd I.hok q
    obtain ⟨ep, hat⟩ := dd.dictAt
    have hl : hv.length = vs.length := Paired.length rel
    refine PySem.W.kdu_collect (PySem.W.kdl_dict (knd := mixKind X.prog X.w) (kvs := vs) (ep := ep) lo) hh hat (by omega) fun h' tk acc hk hacc => ?_
    exact h _ _ h' tk (by rw [ex]; exact keys_relK rl) (dk_vals rel hacc) hk
  have dT : ∀ (a : Addr) (kvs : List (D × D)) (hv : List (List Key × V)), xs = kvs.map (·.1) → Rd H a (.dT hv) → RelTv H kvs hv → wpAny (model X.prog X.w) A (collect (.ref a)) Q E s := fun a kvs hv ex q rl => by
    obtain ⟨z, hs, ks, pr, o, es, ep, ho, hx, hdt, he, hn⟩ := (show ObjOk X.prog X.w H s.heap a (.dT hv) from q.ok I.hok)
    have l1 : es.size = ks.length := size_of_entries he
    have l2 : hv.length = ks.length := Paired.length pr
    refine PySem.W.kdu_collect (kdl_raw hs hx hdt) hh ho (by omega) fun h' tk acc hk it => ?_
    have ea : acc.toList = (ks.map fun x => x.2.1).map Value.ref := by
      rw [List.map_map]
      have hl : acc.toList.length = ks.length := by rw [Array.length_toList, it.1]; exact l1
      apply List.ext_getElem?
      intro j
      rw [List.getElem?_map]
      cases hj : acc.toList[j]? with
      | none =>
        have h1 := List.getElem?_eq_none_iff.mp hj
        rw [List.getElem?_eq_none (by omega)]
        rfl
      | some y =>
        obtain ⟨en, hen, hy⟩ := it.2 j y (by rw [← Array.getElem?_toList]; exact hj)
        have qe := entry_at he j
        rw [hen] at qe
        cases hb : ks[j]? with
        | none => rw [hb] at qe; cases qe
        | some b =>
          rw [hb] at qe
          have e2 : en = entryOfKey (tupleKind (mixKind X.prog X.w)) b := Option.some.inj qe
          rw [hy, e2]
          rfl
    refine h _ _ h' tk (by rw [ex]; exact keys_relT rl (isKeys_of pr)) ?_ hk
    rw [ea]
    exact vals_refs _
  cases d with
  | tup ys =>
    cases e
    obtain ⟨a, vs, ev, q, rl⟩ := r
    subst ev
    cases ru
    obtain ⟨_, its, rv, o, ho, hc, n, hd⟩ := I.hok a _ q
    exact seq "tuple" a o its n vs (.inr rfl) ho hc hd rv rl
  | ref a =>
    cases r
    cases ru
    have e' : (match M a with
      | some (.lst xs) => some xs
      | some (.ro xs) => some xs
      | some (.dK kvs) => some (kvs.map (·.1))
      | some (.fK _ _ kvs) => some (kvs.map (·.1))
      | some (.dT kvs) => some (kvs.map (·.1))
      | some (.fT _ _ kvs) => some (kvs.map (·.1))
      | _ => none) = some xs := e
    split at e'
    · rename_i ys em; cases e'; obtain ⟨vs, q, rl⟩ := m.rdL (rdL_lst em); exact lst a vs q rl
    · rename_i ys em; cases e'; obtain ⟨vs, q, rl⟩ := m.rdL (rdL_ro em); exact lst a vs q rl
    · rename_i ys em; cases e'; obtain ⟨hv, q, rl⟩ := m a _ em; exact dK a ys hv rfl (.inl q) rl
    · rename_i o hv ys em; cases e'; obtain ⟨q, rl⟩ := m a _ em; exact dK a ys hv rfl (.inr ⟨o, q⟩) rl
    · rename_i ys em; cases e'; obtain ⟨hv, q, rl⟩ := m a _ em; exact dT a ys hv rfl (.inl q) rl
    · rename_i o hv ys em; cases e'; obtain ⟨q, rl⟩ := m a _ em; exact dT a ys hv rfl (.inr ⟨o, q⟩) rl
    · cases e'
  | _ => cases e
end

/-! ### sorted -/
def leD : D → D → Bool := PySem.W.dataLe false D.py
def srt (xs : List D) : List D := xs.mergeSort leD
structure SortOk (xs : List D) : Prop where
  len : xs.length < sizeLine
  pure : D.pureL xs = true
  alike : PySem.W.AllAlike (D.pyL xs)
  able : PySem.W.Sortable (D.pyL xs)
  deep : ∀ d ∈ xs, d.py.depth ≤ 32
def sortedR : RCd := fun ds M Q => match ds with
  | [d] => ∃ xs, rdI M d = some xs ∧ SortOk xs ∧ ∀ p, M p = none → Q (.ref p) (put M p (.lst (srt xs)))
  | _ => False
theorem each_of {H : Hp} : ∀ {xs : List D} {vs : List V} {us : List Value}, RelL H xs vs → Vals vs us → PySem.W.EachIs (fun u d => ∃ v, Rel H d v ∧ RelV v u) us xs
  | [], _, _, h, r => by cases h; cases r; exact .nil
  | _ :: _, _, _, ⟨v, vr, e, h1, h2⟩, r => by
    subst e
    cases r with
    | cons a b => exact .cons ⟨v, h1, a⟩ (each_of h2 b)
theorem of_each {H : Hp} : ∀ {xs : List D} {us : List Value}, PySem.W.EachIs (fun u d => ∃ v, Rel H d v ∧ RelV v u) us xs → ∃ vs, RelL H xs vs ∧ Vals vs us
  | _, _, .nil => ⟨[], .nil, .nil⟩
  | _, _, .cons ⟨v, h1, h2⟩ t => by
    obtain ⟨vs, a, b⟩ := of_each t
    exact ⟨v :: vs, .cons h1 a, .cons h2 b⟩
section
variable {X : Cx}
theorem pureL_mem : ∀ {xs : List D} {d : D}, D.pureL xs = true → d ∈ xs → d.pure = true
  | x :: xs, d, h, hm => by
    simp only [D.pureL, Bool.and_eq_true] at h
    rcases List.mem_cons.mp hm with e | hm
    · rw [e]; exact h.1
    · exact pureL_mem h.2 hm
  | [], _, _, hm => by cases hm
theorem each_reads {pins : List (Addr × Obj)} {σ : St} {H : Hp} {s : Shared} (I : Inv X pins σ H s) {M : Mem} (m : RelM X.K H M) : ∀ {xs : List D} {vs : List V} {us : List Value}, D.pureL xs = true → RelL H xs vs → Vals vs us → PySem.W.EachIs (fun u d => ∃ as, Reads s.heap u (D.py d) as) us xs
  | [], _, _, _, h, r => by cases h; cases r; exact .nil
  | x :: xs, _, _, hp, ⟨v, vr, e, h1, h2⟩, r => by
    subst e
    simp only [D.pureL, Bool.and_eq_true] at hp
    cases r with
    | cons a b => exact .cons (Dp.reads I _ _ _ (PyR.dp m _ _ _ (PyR.of_pure hp.1) h1) a) (each_reads I m hp.2 h2 b)
theorem call_sortedAny (hc : X.calm = true) {k : Nat} (hr : Room k X.A) : CallR X (.builtin "sorted") (lowCR X.K sortedR) := by
  intro pins s σ H zs us Q I rv w
  obtain ⟨ds, M, Q0, r, m, h, kk⟩ := w
  match ds, r, h with
  | [d], r, ⟨xs, e, ok, h⟩ =>
    obtain ⟨v, ez, r1⟩ := one_arg r
    subst ez
    obtain ⟨u, rfl, ru⟩ := vals1 rv
    have un := hr.un
    refine Calls.call_function_entry PyProof.Rows.kind_sorted PyProof.Rows.plain_sorted PyProof.Rows.entry_sorted (PyProof.Rows.args_sorted1 _) ?_
    unfold Builtin.«sorted»
    refine wpAny_bind (m := checkCount "sorted" 1 1 _) (wpAny_pure ?_)
    refine wpAny_bind (collectD (A := X.A.in1) (I.ok.hd hc) I m r1 ru e (Nat.le_of_lt ok.len) fun vs its h' tk rl ri hk => ?_)
    have hl : its.length = xs.length := by rw [← ri.length, rl.length]
    have hz : its.length ≤ sizeLine := by rw [hl]; exact Nat.le_of_lt ok.len
    have I1 : Inv X pins σ H { s with heap := h', toks := tk } := I.kept hk
    refine wpAny_bind (wpAny_newList ?_ hz)
    have hoL : (h'.push (seqObj "list" its.toArray 0)).get? h'.objs.size = some (seqObj "list" its.toArray 0) := Heap.get?_push_size _ rfl
    show wpAny _ _ _ _ _ { s with heap := h'.push (seqObj "list" its.toArray 0), toks := tk }
    -- what the items read as, in the heap in which they are sorted
    have old : ∀ b o, h'.get? b = some o → (PySem.W.sortingHeap (h'.push (seqObj "list" its.toArray 0)) h'.objs.size its).get? b = some o := fun b o q =>
      PySem.W.sortingHeap_old (Nat.ne_of_lt (Heap.lt_size q)) (Heap.get?_push_of_some _ q)
    have I2 : Inv X pins σ H { s with heap := PySem.W.sortingHeap (h'.push (seqObj "list" its.toArray 0)) h'.objs.size its, toks := tk } := I1.kept old
    have rd := each_reads I2 m ok.pure rl ri
    have bnd : ∀ d, d ∈ xs.map D.py → X.A.in1.in1.units + d.depth < cLine := by
      intro p hp
      obtain ⟨d, hd, rfl⟩ := List.mem_map.mp hp
      have := ok.deep d hd
      show X.A.units + 1 + 1 + _ < _
      omega
    have al : PySem.W.AllAlike (xs.map D.py) := by rw [← pyL_map]; exact ok.alike
    have ab : PySem.W.Sortable (xs.map D.py) := by rw [← pyL_map]; exact ok.able
    have S := PySem.W.SortsAt.data (prog := X.prog) (w := X.w) (A := X.A.in1.in1) (s := { s with heap := PySem.W.sortingHeap (h'.push (seqObj "list" its.toArray 0)) h'.objs.size its, toks := tk }) (vs := its) (ds := xs.map D.py)
      (PySem.W.each_map (R := fun v d => ∃ as, Reads (PySem.W.sortingHeap (h'.push (seqObj "list" its.toArray 0)) h'.objs.size its) v d as) D.py rd) al ab bnd
    refine wpAny_bind (wpAny_holding (wpAny_call_entry PyProof.Rows.slot_list_sort ⟨_, hoL, rfl⟩ PyProof.Rows.entry_list_sort
      (PySem.W.list_sort_vals (s := { s with heap := h'.push (seqObj "list" its.toArray 0), toks := tk }) hoL S hz ⟨_, rfl, ?_⟩) (PyProof.Rows.args_list_sort _)))
    have out := PySem.W.sortVals_data (h' := PySem.W.sortingHeap (h'.push (seqObj "list" its.toArray 0)) h'.objs.size its) (R := fun u d => ∃ v, Rel H d v ∧ RelV v u) (enc := D.py) false (each_of rl ri) rd al
    obtain ⟨ws, rw1, rw2⟩ := of_each out
    obtain ⟨e', he'⟩ := PyProof.Rows.sortedHeap_at (vs := its) (out := (PySem.W.sortVals (PySem.W.dataKind (PySem.W.sortingHeap (h'.push (seqObj "list" its.toArray 0)) h'.objs.size its) (xs.map D.py)) false its its).toArray) hoL
    have hp := I1.hok.fresh (Nat.le_refl h'.objs.size)
    have lw : ws.length ≤ sizeLine := by
      rw [rw1.length]
      show (xs.mergeSort _).length ≤ _
      rw [List.length_mergeSort]
      exact Nat.le_of_lt ok.len
    refine wpAny_pure ⟨_, rfl, .ref h'.objs.size, upd H h'.objs.size (.lst ws), I1.laid (t' := tk) (fun b o q => ?_) (Nat.le_refl _) (show ObjOk X.prog X.w _ _ _ (.lst ws) from ⟨lw, _, e', rw2, he'⟩), rfl, ?_⟩
    · have hb : b < h'.objs.size := Heap.lt_size q
      rw [PyProof.Rows.sortedHeap_old (Nat.ne_of_lt hb) (by rw [size_push']; exact Nat.lt_succ_of_lt hb)]
      exact Heap.get?_push_of_some _ q
    · exact kk.newL m hp rw1 h
end
end DL

end T_DLC

section T_DLD
set_option Elab.async false
set_option linter.all false
set_option maxRecDepth 100000
set_option maxHeartbeats 2000000
/-! The D layer, D: dicts made from rows, dicts walked. -/
namespace DL
open PySem PySem.Spec L2
open PyProof.Rows hiding St

section
variable {X : Cx} {pins : List (Addr × Obj)} {σ : St} {H : Hp} {s : Shared}
theorem d_dictSetA {A : Around} {E : Value → Shared → Prop} {Q : Unit → Shared → Prop} {a : Addr} {y v : V} {u r : Value} {H' : Hp} (hu : A.units + 1 < cLine) (I : Inv X pins σ H s) (g : DPut H a y v H') (ry : RelV y u) (rv : RelV v r)
    (h : ∀ s', Inv X pins σ H' s' → Q () s') : wpAny (model X.prog X.w) A (dictSet a u r) Q E s := by
  rcases g with ⟨kvs, k, e, rfl, l, rfl⟩ | ⟨kvs, k, b, e, rfl, eb, l, rfl⟩
  · obtain ⟨z, hd, vs, rel, dd⟩ := dk_of I.hok e
    have hl : (putK kvs k v).length ≤ sizeLine := by have := length_putK kvs k v; omega
    refine wpAny_dictSet_pairs (hsz := by rw [← rel.length]; exact z) (kV_is ry) dd fun h' dd' hs => h _ (d_write I (by rw [e]; trivial) hs ?_ (dk_new hl hd (rel.put k rv) dd'))
    obtain ⟨q, _, _, hq, _⟩ := dd'
    exact ⟨q, hq⟩
  · cases ry
    obtain ⟨z, hd, xs, rel, dd⟩ := dt_of I.hok e
    have hl : (putK kvs k v).length ≤ sizeLine := by have := length_putK kvs k v; omega
    refine wpAny_dictSet_heap (hsz := by rw [← Paired.length rel]; exact z) (show A.units < cLine by omega) (key_of I.hok eb) dd fun h' ⟨q, es, ep, hq, h2, h3, h4, _, h5⟩ hs => h _ ?_
    refine d_write I (by rw [e]; trivial) hs ⟨q, hq⟩ ⟨hl, hd, _, (rel.put k eb rv).keeps fun c ys ec => ?_, q, es, ep, hq, h2, h3, h4, h5⟩
    rw [upd_ne (ne_of ec e (by intro z; cases z)), ec]
/-- a dict from a row: e0 the empty one, of the keys' kind -/
def tDcA (e0 : HO) (wi : TI) (g : TG) (tt : TT) (tk tv : TE) (vs : List Nat) : TE := fun σ H Q => wi σ H fun J H1 => ∀ D, H1 D = none → ∃ W : Nat → Nat → Hp → Prop, (∃ m, W 0 m (upd H1 D e0)) ∧ ∀ i m H, W i m H →
  (J.stop i H ∧ Q (.ref D) H) ∨ (J.go i H ∧ ∃ Nx : Hp → Prop, (∀ H', Nx H' → ∃ m', m' < m ∧ W (i + 1) m' H') ∧ ∀ x H', J.yld i H x H' → g x (L2.wipe σ vs) H' fun σ2 H2 => L2.wipe σ2 vs = L2.wipe σ vs ∧ tt σ2 H2 fun b H3 =>
    if b = true then tk σ2 H3 fun y H4 => tv σ2 H4 fun z H5 => ∃ H6, DPut H5 D y z H6 ∧ Nx H6 else Nx H3)
end
def isE (e0 : HO) : Prop := e0 = .dK [] ∨ e0 = .dT []
theorem empty_ok {P : Program} {w : World} {H : Hp} {h : Heap} {e0 : HO} (he : isE e0) (big : sysModules < h.objs.size) : ObjOk P w H (h.push { cls := .type "dict", data := .dict #[] }) h.objs.size e0 := by
  rcases he with rfl | rfl
  · exact dk_empty h big
  · exact dt_empty h big
section
variable {X : Cx}
theorem pe_dcA {e0 : HO} {kx vx tg iter : Expr} {ifs : List Expr} {scope : Scope} {own : List (Str × Nat)} {pos : Pos} {wi : TI} {g : TG} {tt : TT} {tk tv : TE} (he0 : isE e0) (hu : X.A.units + 1 < cLine) (hc : X.calm = true) (hN : X.N.Nodup)
    (hi : PI X tg iter wi) (ok : BlkOk X.N X.env.scope scope own)
    (hg : ∀ (s : Shared) (H : Hp) (C : Addr) (cl : List (Str × Addr)) (fp : List Addr), PG (X.blk s H scope (compEnvC scope cl C X.env) fp) tg g)
    (ht : ∀ (s : Shared) (H : Hp) (C : Addr) (cl : List (Str × Addr)) (fp : List Addr), PTs (X.blk s H scope (compEnvC scope cl C X.env) fp) ifs tt)
    (hk : ∀ (s : Shared) (H : Hp) (C : Addr) (cl : List (Str × Addr)) (fp : List Addr), PE (X.blk s H scope (compEnvC scope cl C X.env) fp) kx tk)
    (hv : ∀ (s : Shared) (H : Hp) (C : Addr) (cl : List (Str × Addr)) (fp : List Addr), PE (X.blk s H scope (compEnvC scope cl C X.env) fp) vx tv)
    (hs : ∀ x, foldedSetIterable iter X.env x = pure x := by intro _; rfl) : PE X (.DictComp kx vx [⟨tg, iter, ifs, 0⟩] scope pos) (tDcA e0 wi g tt tk tv (own.map (·.2))) := by
  refine ⟨fun pins s σ H Q I h => ?_⟩
  rw [arm_eval_DictComp]
  have free : ∀ y ∈ scope.names, y.2 = .free → ∃ c, X.env.cells.lookup y.1 = some c := fun y hy e => I.ok.has _ (ok.free y hy e)
  refine wpAny_comprehension_free rfl hs (closure_ok free) ok.kind (fun y hy e => by rw [ok.uniq y hy, e]) (thn (hi.run pins s σ H _ I h) fun xv s1 hx => thn hx fun itv s2 h2 => ?_)
  obtain ⟨it, fp, tn, J, H2, rfl, I2, T, st2, f2, q⟩ := h2
  refine wpAny_newObj_type (newEnv_comp ?_)
  have old : ∀ b o, s2.heap.get? b = some o → b < s2.heap.objs.size := fun b o e => Heap.lt_size e
  obtain ⟨d, ed⟩ : ∃ d, s2.heap.objs.size = d := ⟨_, rfl⟩
  rw [ed]
  have dn : H2 d = none := I2.hok.fresh (Nat.le_of_eq ed)
  obtain ⟨W, ⟨m0, w0⟩, turn⟩ := q d dn
  obtain ⟨t3, e3⟩ : ∃ t : Shared, t = { s2 with heap := s2.heap.push { cls := .type "dict", data := .dict #[] } } := ⟨_, rfl⟩
  have hp3 : t3.heap = s2.heap.push { cls := .type "dict", data := .dict #[] } := by rw [e3]
  have I3 : Inv X pins σ (upd H2 d e0) t3 := by
    rw [e3]
    refine I2.laid (t' := s2.toks) (fun b o e => Heap.get?_push_of_some _ e) (Nat.le_of_eq ed) ?_
    rw [← ed]
    exact empty_ok he0 I2.big
  have fps : ∀ b ∈ fp, FpOk X pins (upd H2 d e0) b ∧ b < t3.heap.objs.size := by
    intro b hb
    obtain ⟨o, eo, _⟩ := T.obj _ _ st2 b hb
    have lt := old b o eo
    have ne : b ≠ d := by rw [← ed]; exact Nat.ne_of_lt lt
    exact ⟨⟨by rw [upd_ne ne]; exact (f2 b hb).1, (f2 b hb).2⟩, by rw [hp3, Heap.size_push]; exact Nat.lt_succ_of_lt lt⟩
  have st3 : tn 0 t3.heap := T.keep _ _ _ st2 fun b _ o eo => by rw [hp3]; exact Heap.get?_push_of_some _ eo
  have I4 := block_start I3 ok hN fps
  rw [← e3]
  obtain ⟨cl, ecl⟩ : ∃ cl, cl = cellsFrom (t3.heap.objs.size + 1) scope.names (cloFrom X.env.cells scope.names []) := ⟨_, rfl⟩
  have pg := hg t3 (upd H2 d e0) t3.heap.objs.size cl fp
  have pt := ht t3 (upd H2 d e0) t3.heap.objs.size cl fp
  have pk := hk t3 (upd H2 d e0) t3.heap.objs.size cl fp
  have pv := hv t3 (upd H2 d e0) t3.heap.objs.size cl fp
  rw [← ecl] at I4
  have nfp : ∀ b ∈ fp, (upd H2 d e0) b = none := fun b hb => (fps b hb).1.1
  show codeAny _ _ (.compStart (.DictComp kx vx [⟨tg, iter, ifs, 0⟩] scope pos) 0 (.ref it) (.ref d) (compEnvC scope (cellsFrom (t3.heap.objs.size + 1) scope.names (cloFrom X.env.cells scope.names [])) t3.heap.objs.size X.env)) (compPost (model X.prog X.w) X.A X.xe _ _ (.ref d) t3.heap.objs.size) { t3 with heap := pushCells (t3.heap.push { cls := .type "dict", data := .dict #[] }) scope.names }
  rw [← ecl]
  obtain ⟨ce, ece⟩ : ∃ ce, ce = compEnvC scope cl t3.heap.objs.size X.env := ⟨_, rfl⟩
  rw [← ece] at I4 pg pt pk pv ⊢
  have ceL : ce.locals = t3.heap.objs.size := by rw [ece]; rfl
  obtain ⟨H3, eH3⟩ : ∃ H3, H3 = upd H2 d e0 := ⟨_, rfl⟩
  rw [← eH3] at I3 I4 pg pt pk pv w0 nfp fps
  obtain ⟨t4, e4⟩ : ∃ t : Shared, t = { t3 with heap := pushCells (t3.heap.push { cls := .type "dict", data := .dict #[] }) scope.names } := ⟨_, rfl⟩
  rw [← e4] at I4 ⊢
  have st4 : tn 0 t4.heap := T.keep _ _ _ st3 fun b _ o eo => by rw [e4]; exact pushCells_keeps _ _ _ _ (Heap.get?_push_of_some _ eo)
  have stat : ∀ {σ' : St} {H' : Hp} {s' : Shared}, Inv (X.blk t3 H3 scope ce fp) [] σ' H' s' → (∀ b ∈ fp, H' b = none) → ∀ b ∈ fp, FpOk (X.blk t3 H3 scope ce fp) [] H' b := fun {σ' H' s'} J nn b hb =>
    ⟨nn b hb, (J.ok.exf b hb).1, J.ok.exfs b hb, .inl hb, fun x c e => (J.ok.exf b hb).2 x c e, fun p hp => by cases (show p ∈ ([] : List (Addr × Obj)) from hp)⟩
  have loop : codeAny (model X.prog X.w) X.A (.compLoop (.DictComp kx vx [⟨tg, iter, ifs, 0⟩] scope pos) 0 (.ref it) (.ref d) ce) (compPost (model X.prog X.w) X.A X.xe Option.none (EP X pins σ Q) (.ref d) t3.heap.objs.size) t4 := by
    refine compLoop_anyD (fun n s' => ∃ i H', Inv (X.blk t3 H3 scope ce fp) [] (L2.wipe σ (own.map (·.2))) H' s' ∧ tn i s'.heap ∧ (∀ b ∈ fp, H' b = none) ∧ W i n H') ?_ m0 ⟨0, H3, I4, st4, nfp, w0⟩
    rintro n s5 ⟨i, H5, I5, st5, n5, w5⟩
    rcases turn i n H5 w5 with ⟨stop, qq⟩ | ⟨go, Nx, hNx, step⟩
    · refine thnF (T.done (X.blk t3 H3 scope ce fp) rfl rfl rfl hc i [] s5 _ H5 (fun _ _ => False) I5 (stat I5 n5) st5 stop) fun r s6 ⟨er, I6⟩ => ?_
      subst er
      have I7 : Inv X pins σ H5 s6 := I3.call' (ch := fp) I6.os I6.base I6.hok I6.bare fun b hb => ⟨(fps b hb).1.2.2.2.1, (fps b hb).1.2.1, (fps b hb).1.2.2.2.2.1, (fps b hb).1.2.2.2.2.2⟩
      have nC : H5 t3.heap.objs.size = none := by rw [← ceL]; exact I6.free
      obtain ⟨mm, ns, _⟩ := I6.loc
      have ns : s6.heap.Ns t3.heap.objs.size mm := by rw [← ceL]; exact ns
      obtain ⟨g0, g1, g2, g3, g4, g5⟩ := I3.fpOk (Nat.le_refl _) nC
      exact ⟨mm, ns, fun h'' sb => ⟨.ref d, H5, I7.turned (t' := s6.toks) (fun b o hb e => (sb.2 b hb).trans e) g0 g1 g3 g4 g5, rfl, qq⟩⟩
    · refine thnF (T.item (X.blk t3 H3 scope ce fp) rfl rfl rfl hc i [] s5 _ H5 (fun _ _ => False) I5 (stat I5 n5) st5 go) fun r s6 ⟨u, er, h6⟩ => ?_
      subst er
      refine thnF h6 fun _ s7 ⟨x, H7, I7, r7, y7, st7, n7⟩ => ?_
      refine thnF (pg.run _ s7 _ H7 x u _ (I7.pinned (stat I7 n7) (T.obj _ _ st7)) r7 (step x H7 y7)) fun _ s8 ⟨σ8, H8, I8, hw8, q8⟩ => ?_
      refine thnF (pt.run _ s8 σ8 H8 _ I8 q8) fun b s9 ⟨H9, I9, q9⟩ => ?_
      have fin : ∀ {s' : Shared} {H' : Hp}, Inv (X.blk t3 H3 scope ce fp) ([] ++ pinsAt fp s7.heap) σ8 H' s' → Nx H' →
          ∃ m, m < n ∧ ∃ i H', Inv (X.blk t3 H3 scope ce fp) [] (L2.wipe σ (own.map (·.2))) H' s' ∧ tn i s'.heap ∧ (∀ b ∈ fp, H' b = none) ∧ W i m H' := by
        intro s' H' I' nx
        obtain ⟨m', lt, w'⟩ := hNx H' nx
        have pin' : ∀ b ∈ fp, ∀ o, s7.heap.get? b = some o → s'.heap.get? b = some o ∧ H' b = none := fun b hb o e => by
          have z := I'.pin (b, o) (List.mem_append_right _ (List.mem_append_right _ (mem_pinsAt hb e)))
          exact ⟨z.1, z.2.1⟩
        refine ⟨m', lt, i + 1, H', (I'.unpinned (pins := [])).weak (by rw [← hw8, wipe_length]) (fun j v e => ?_), T.keep _ _ _ st7 fun b hb o e => (pin' b hb o e).1, fun b hb => ?_, w'⟩
        · rw [← hw8] at e
          exact (wipe_some e).1
        · obtain ⟨o, e, _⟩ := T.obj _ _ st7 b hb
          exact (pin' b hb o e).2
      cases b with
      | false => exact fin I9 q9
      | true =>
        refine thnF (pk.run _ s9 σ8 H9 _ I9 q9) fun z s10 ⟨yk, H10, I10, r10, q10⟩ => ?_
        refine thnF (pv.run _ s10 σ8 H10 _ I10 q10) fun z2 s11 ⟨yv, H11, I11, r11, H12, dp, nx⟩ => ?_
        exact d_dictSetA (X := X.blk t3 H3 scope ce fp) hu I11 dp r10 r11 fun s12 I12 => fin I12 nx
  exact codeAny_compStart_dict loop (T.self X.A 0 _ _ _ st4 loop)
end
end DL

end T_DLD

section T_DLE
set_option Elab.async false
set_option linter.all false
set_option maxRecDepth 100000
set_option maxHeartbeats 2000000
/-! The D layer, E: dict comprehensions, dicts walked under a lock, list(d), dict(pairs). -/
namespace DL
open PySem PySem.Spec L2
open PyProof.Rows hiding St

/-- a dict; of tuple keys (true) or others -/
def dX : Bool → List (D × D) → DO
  | false, kvs => .dK kvs
  | true, kvs => .dT kvs
def dE : Bool → HO
  | false => .dK []
  | true => .dT []
theorem dE_is (t : Bool) : isE (dE t) := by cases t <;> simp [dE, isE]
theorem dX_new {K : PySem.W.Frag} {H : Hp} {M : Mem} {p : Addr} (t : Bool) (m : RelM K H M) (h : H p = none) : RelM K (upd H p (dE t)) (put M p (dX t [])) := by
  cases t with
  | false => exact m.new (d := .dK []) h ⟨[], upd_same, .nil⟩
  | true => exact m.new (d := .dT []) h ⟨[], upd_same, .nil⟩
theorem dput_low {K : PySem.W.Frag} {H : Hp} {M : Mem} {p : Addr} {t : Bool} {acc : List (D × D)} {k d : D} {y z : V} (m : RelM K H M) (e : M p = some (dX t acc)) (hk : isKey t k = true) (hl : acc.length < sizeLine) (ry : Rel H k y) (rz : Rel H d z) :
    ∃ H6, DPut H p y z H6 ∧ Tle H H6 ∧ RelM K H6 (put M p (dX t (dput acc k d))) := by
  cases t with
  | false =>
    obtain ⟨hv, q, rl⟩ := m p _ e
    obtain ⟨key, ek⟩ := Option.isSome_iff_exists.mp (show (keyOf k).isSome = true by cases k <;> exact hk)
    have ed := keyOf_eq ek
    subst ed
    have tw : Tle H (upd H p (.dK (putK hv key z))) := .write q fun xs z => nomatch z
    have el : acc.length = hv.length := Paired.length rl
    have ei := kD_rel ry
    subst ei
    exact ⟨_, DPut.k q (by omega), tw, m.write (d := .dK (dput acc (kD key) d)) q (fun xs z => nomatch z) ⟨_, upd_same, RelKv.tle tw (dput_gen (f := kD) (fun _ _ => kD_inj) key rz rl)⟩⟩
  | true =>
    obtain ⟨hv, q, rl⟩ := m p _ e
    cases k with
    | tup ds =>
      obtain ⟨key, ek⟩ := Option.isSome_iff_exists.mp (show (keysOf ds).isSome = true from hk)
      have ed := keysOf_eq ek
      subst ed
      obtain ⟨b, vs, ey, qb, rb⟩ := ry
      subst ey
      rw [kD_relL rb] at qb
      have tw : Tle H (upd H p (.dT (putK hv key z))) := .write q fun xs z => nomatch z
      have el : acc.length = hv.length := Paired.length rl
      exact ⟨_, DPut.t q qb (by omega), tw, m.write (d := .dT (dput acc (.tup (key.map kD)) d)) q (fun xs z => nomatch z) ⟨_, upd_same, RelTv.tle tw (dput_gen (κ := List Key) (f := fun k => D.tup (k.map kD)) tK_inj key rz rl)⟩⟩
    | _ => cases hk
/-- {k: v for .. in ..} -/
def tdc (b : Bool) (ti : TId) (g : TGd) (tt : TTd) (tk tv : TEd) (vs : List Nat) : TEd := fun ρ M Q => ti ρ M fun items ok M1 => ∀ p, M1 p = none → ∃ W : Nat → List (D × D) → Mem → Prop, W 0 [] (put M1 p (dX b [])) ∧
  ∀ i acc M, i ≤ items.length → W i acc M → ok M ∧ (match items[i]? with
    | none => Q (.ref p) M
    | some x => g x (wiped ρ vs) M fun ρ2 M2 => tt ρ2 M2 fun c M3 => if c = true then tk ρ2 M3 fun k M4 => tv ρ2 M4 fun y M5 => M5 p = some (dX b acc) ∧ isKey b k = true ∧ acc.length < sizeLine ∧ W (i + 1) (dput acc k y) (put M5 p (dX b (dput acc k y)))
      else W (i + 1) acc M3)
theorem tdc_low {K : PySem.W.Frag} {b : Bool} {ti : TId} {g : TGd} {tt : TTd} {tk tv : TEd} {vs js : List Nat} (hj : ∀ i ∈ js, i ∈ vs) (σ : St) (H : Hp) (Q : VK) (h : lowE K (tdc b ti g tt tk tv vs) σ H Q) :
    tDcA (dE b) (lowI K ti) (lowG K js g) (lowT K tt) (lowE K tk) (lowE K tv) vs σ H Q := by
  obtain ⟨ρ, M, Q0, re, rm, h, k⟩ := h
  refine ⟨ρ, M, _, re, rm, h, fun J H1 items ok M1 t1 m1 rel h1 => ?_⟩
  intro p hp
  obtain ⟨W, w0, turn⟩ := h1 p (m1.fresh hp)
  have tp : Tle H1 (upd H1 p (dE b)) := .new hp
  refine ⟨fun i m H' => m + i = items.length ∧ ∃ acc M', Tle H1 H' ∧ RelM K H' M' ∧ W i acc M', ⟨items.length, rfl, [], _, tp, dX_new b m1 hp, w0⟩, fun i m H2 w2 => ?_⟩
  obtain ⟨em, acc, M2, t2, m2, w2⟩ := w2
  obtain ⟨hok, ht⟩ := turn i acc M2 (by omega) w2
  by_cases hi : i < items.length
  · rw [List.getElem?_eq_getElem hi] at ht
    refine .inr ⟨rel.go i H2 M2 t2 m2 hok hi, fun H' => ∃ acc M', Tle H1 H' ∧ RelM K H' M' ∧ W (i + 1) acc M', fun H' q => ⟨m - 1, by omega, by omega, q⟩, fun x H3 y => ?_⟩
    obtain ⟨t3, m3, r3⟩ := rel.yld i H2 M2 x H3 _ t2 m2 hok (List.getElem?_eq_getElem hi) y
    have re3 : RelE H3 (wiped ρ vs) (L2.wipe σ vs) := (re.tle ((t1.trans t2).trans t3)).wipe vs
    refine ⟨_, _, M2, _, r3, re3, m3, ht, fun σ4 H4 ρ4 M4 so t4 re4 m4 h4 => ?_⟩
    have e4 : L2.wipe σ4 vs = L2.wipe σ vs := (so vs hj).trans (by
      apply List.ext_getElem?
      intro j
      rw [wipe_get, wipe_get]
      by_cases hj : j ∈ vs
      · simp only [if_pos hj, wipe_get]
        cases σ[j]? <;> simp
      · simp only [if_neg hj, wipe_get])
    refine ⟨e4, ρ4, M4, _, re4, m4, h4, fun c H5 M5 t5 m5 h5 => ?_⟩
    cases c with
    | true =>
      refine ⟨ρ4, M5, _, re4.tle t5, m5, h5, fun y H6 dy M6 t6 r6 m6 h6 => ⟨ρ4, M6, _, re4.tle (t5.trans t6), m6, h6, fun z H7 dz M7 t7 r7 m7 h7 => ?_⟩⟩
      obtain ⟨e7, hk, l7, w7⟩ := h7
      obtain ⟨H8, dp, t8, m8⟩ := dput_low m7 e7 hk l7 (r6.tle t7) r7
      exact ⟨H8, dp, _, _, (((((t2.trans t3).trans t4).trans t5).trans t6).trans t7).trans t8, m8, w7⟩
    | false => exact ⟨_, _, ((t2.trans t3).trans t4).trans t5, m5, h5⟩
  · have e : i = items.length := by omega
    subst e
    rw [List.getElem?_eq_none (Nat.le_refl _)] at ht
    exact .inl ⟨rel.stop H2 M2 t2 m2 hok, (k.tle t1).ref t2 m2 ht⟩
section
variable {X : Cx} {kx vx tg iter : Expr} {ifs : List Expr} {scope : Scope} {own : List (Str × Nat)} {pos : Pos} {ti : TId} {g : TGd} {js : List Nat} {tt : TTd} {tk tv : TEd}
theorem ped_dc (b : Bool) (hu : X.A.units + 1 < cLine) (hc : X.calm = true) (hN : X.N.Nodup) (hi : PId X tg iter ti) (ok : BlkOk X.N X.env.scope scope own) (hj : ∀ i ∈ js, i ∈ own.map (·.2))
    (hg : ∀ (s : Shared) (H : Hp) (C : Addr) (cl : List (Str × Addr)) (fp : List Addr), PGd (X.blk s H scope (compEnvC scope cl C X.env) fp) tg js g) (ht : ∀ (s : Shared) (H : Hp) (C : Addr) (cl : List (Str × Addr)) (fp : List Addr), PTsd (X.blk s H scope (compEnvC scope cl C X.env) fp) ifs tt)
    (hk : ∀ (s : Shared) (H : Hp) (C : Addr) (cl : List (Str × Addr)) (fp : List Addr), PEd (X.blk s H scope (compEnvC scope cl C X.env) fp) kx tk) (hv : ∀ (s : Shared) (H : Hp) (C : Addr) (cl : List (Str × Addr)) (fp : List Addr), PEd (X.blk s H scope (compEnvC scope cl C X.env) fp) vx tv)
    (hs : ∀ x, foldedSetIterable iter X.env x = pure x := by intro _; rfl) : PEd X (.DictComp kx vx [⟨tg, iter, ifs, 0⟩] scope pos) (tdc b ti g tt tk tv (own.map (·.2))) :=
  .of (pe_dcA (dE_is b) hu hc hN hi.pi ok (fun s H C cl fp => (hg s H C cl fp).pg) (fun s H C cl fp => (ht s H C cl fp).pt) (fun s H C cl fp => (hk s H C cl fp).pe) (fun s H C cl fp => (hv s H C cl fp).pe) hs) (tdc_low hj)
end

/-! ### while a dict is walked -/
def isF (b : Bool) (kvs : List (D × D)) : DO → Prop
  | .fK _ _ l => b = false ∧ l = kvs
  | .fT _ _ l => b = true ∧ l = kvs
  | _ => False
def tlock (t : TSd) : TSd := fun D ρ M => ∃ a b kvs, M a = some (dX b kvs) ∧ ∀ f, isF b kvs f → t ⟨fun ρ' M' => M' a = some f ∧ D.nx ρ' (put M' a (dX b kvs)), fun v M' => M' a = some f ∧ D.rt v (put M' a (dX b kvs)), fun ρ' M' => M' a = some f ∧ D.bk ρ' (put M' a (dX b kvs)),
  fun ρ' M' => M' a = some f ∧ D.ct ρ' (put M' a (dX b kvs))⟩ ρ (put M a f)
def tlockE (t : TEd) : TEd := fun ρ M Q => ∃ a b kvs, M a = some (dX b kvs) ∧ ∀ f, isF b kvs f → t ρ (put M a f) fun v M' => M' a = some f ∧ Q v (put M' a (dX b kvs))
theorem lock_in {K : PySem.W.Frag} {H : Hp} {M : Mem} {a : Addr} {b : Bool} {kvs : List (D × D)} (m : RelM K H M) (e : M a = some (dX b kvs)) :
    ∃ u, H a = some u ∧ L2.Mut (some u) ∧ ∀ od, ∃ f, isF b kvs f ∧ Tle H (upd H a (.frz od u)) ∧ RelM K (upd H a (.frz od u)) (put M a f) ∧
      ∀ H' M', RelM K H' M' → M' a = some f → H' a = some (.frz od u) ∧ Tle H' (upd H' a u) ∧ RelM K (upd H' a u) (put M' a (dX b kvs)) := by
  cases b with
  | false =>
    obtain ⟨hv, q, rl⟩ := m a _ e
    refine ⟨_, q, trivial, fun od => ?_⟩
    have tw : Tle H (upd H a (.frz od (.dK hv))) := .write q fun xs z => nomatch z
    refine ⟨.fK od hv kvs, ⟨rfl, rfl⟩, tw, m.write (d := .fK od hv kvs) q (fun xs z => nomatch z) ⟨upd_same, RelKv.tle tw rl⟩, fun H' M' m' e' => ?_⟩
    obtain ⟨q', rl'⟩ := m' a _ e'
    have tv : Tle H' (upd H' a (.dK hv)) := .write q' fun xs z => nomatch z
    exact ⟨q', tv, m'.write (d := .dK kvs) q' (fun xs z => nomatch z) ⟨hv, upd_same, RelKv.tle tv rl'⟩⟩
  | true =>
    obtain ⟨hv, q, rl⟩ := m a _ e
    refine ⟨_, q, trivial, fun od => ?_⟩
    have tw : Tle H (upd H a (.frz od (.dT hv))) := .write q fun xs z => nomatch z
    refine ⟨.fT od hv kvs, ⟨rfl, rfl⟩, tw, m.write (d := .fT od hv kvs) q (fun xs z => nomatch z) ⟨upd_same, RelTv.tle tw rl⟩, fun H' M' m' e' => ?_⟩
    obtain ⟨q', rl'⟩ := m' a _ e'
    have tv : Tle H' (upd H' a (.dT hv)) := .write q' fun xs z => nomatch z
    exact ⟨q', tv, m'.write (d := .dT kvs) q' (fun xs z => nomatch z) ⟨hv, upd_same, RelTv.tle tv rl'⟩⟩
section
variable {X : Cx}
theorem psd_lock {st : Stmt} {t : TSd} (h : PSd X st t) : PSd X st (tlock t) := by
  refine .of (ps_lock h.ps) fun D σ H w => ?_
  obtain ⟨ρ, M, E0, re, rm, ⟨a, b, kvs, e, h⟩, k⟩ := w
  obtain ⟨u, q, mu, lk⟩ := lock_in rm e
  refine ⟨a, u, q, mu, fun od => ?_⟩
  obtain ⟨f, hf, t1, m1, back⟩ := lk od
  refine ⟨ρ, put M a f, _, re.tle t1, m1, h f hf, ?_⟩
  have side : ∀ {Q0 : Envd → Mem → Prop} {Q : St → Hp → Prop}, lowN X.K H Q0 Q → lowN X.K (upd H a (.frz od u)) (fun ρ' M' => M' a = some f ∧ Q0 ρ' (put M' a (dX b kvs))) (fun σ' H' => H' a = some (.frz od u) ∧ Q σ' (upd H' a u)) := fun {Q0 Q} hh σ' H' ρ' M' t2 r2 m2 q2 => by
    obtain ⟨q3, t3, m3⟩ := back H' M' m2 q2.1
    exact ⟨q3, hh σ' _ ρ' _ ((t1.trans t2).trans t3) (r2.tle t3) m3 q2.2⟩
  refine ⟨side k.nx, fun v H' d M' t2 r2 m2 q2 => ?_, side k.bk, side k.ct⟩
  obtain ⟨q3, t3, m3⟩ := back H' M' m2 q2.1
  exact ⟨q3, k.rt v _ d _ ((t1.trans t2).trans t3) (r2.tle t3) m3 q2.2⟩
theorem ped_lock {x : Expr} {t : TEd} (h : PEd X x t) : PEd X x (tlockE t) := by
  refine .of (pe_lock h.pe) fun σ H Q w => ?_
  obtain ⟨ρ, M, Q0, re, rm, ⟨a, b, kvs, e, h⟩, k⟩ := w
  obtain ⟨u, q, mu, lk⟩ := lock_in rm e
  refine ⟨a, u, q, mu, fun od => ?_⟩
  obtain ⟨f, hf, t1, m1, back⟩ := lk od
  refine ⟨ρ, put M a f, _, re.tle t1, m1, h f hf, fun v H' d M' t2 r2 m2 q2 => ?_⟩
  obtain ⟨q3, t3, m3⟩ := back H' M' m2 q2.1
  exact ⟨q3, k v _ d _ ((t1.trans t2).trans t3) (r2.tle t3) m3 q2.2⟩
/-- the keys of a locked dict -/
def ikeys (td : TEd) : TId := fun ρ M R => td ρ M fun x M1 => match x with
  | .ref a => (match M1 a with
    | some (.fK o hv kvs) => R (kvs.map (·.1)) (fun M => M a = some (.fK o hv kvs)) M1
    | some (.fT o hv kvs) => R (kvs.map (·.1)) (fun M => M a = some (.fT o hv kvs)) M1
    | _ => False)
  | _ => False
theorem paired_at {α β : Type} {F : α → β → Prop} : ∀ {l : List α} {r : List β} {i : Nat} {x : α}, Paired F l r → l[i]? = some x → ∃ y, r[i]? = some y ∧ F x y
  | _, _, _, _, .nil, e => by simp at e
  | _, _, 0, _, .cons h t, e => by simp at e; subst e; exact ⟨_, rfl, h⟩
  | _, _, i + 1, _, .cons h t, e => by
    obtain ⟨y, a, b⟩ := paired_at (i := i) t (by simpa using e)
    exact ⟨y, by simpa using a, b⟩
theorem pid_keys {tg e : Expr} {td : TEd} (he : PEd X e td) : PId X tg e (ikeys td) := by
  refine .of (pi_keys he.pe) fun σ H R h => ?_
  obtain ⟨ρ, M, R0, re, rm, h, k⟩ := h
  refine ⟨ρ, M, _, re, rm, h, fun x H1 dx M1 t1 r1 m1 h1 => ?_⟩
  cases dx with
  | ref a =>
    cases r1
    have h2 : (match M1 a with
      | some (.fK o hv kvs) => R0 (kvs.map (·.1)) (fun M => M a = some (.fK o hv kvs)) M1
      | some (.fT o hv kvs) => R0 (kvs.map (·.1)) (fun M => M a = some (.fT o hv kvs)) M1
      | _ => False) := h1
    split at h2
    · rename_i o hv kvs e1
      obtain ⟨q, rl⟩ := m1 a _ e1
      have ll : kvs.length = hv.length := Paired.length rl
      refine ⟨a, o, rfl, .inl ⟨hv, q, k (Itk a o hv) H1 _ _ M1 t1 m1 ⟨fun i H M _ m ok hi => ?_, fun H M _ m ok => ?_, fun i H M x H' d t m ok hd y => ?_⟩ h2⟩⟩
      · obtain ⟨q, _⟩ := m a _ ok
        exact ⟨q, by rw [List.length_map] at hi; omega⟩
      · obtain ⟨q, _⟩ := m a _ ok
        exact ⟨q, by rw [List.length_map]; omega⟩
      · obtain ⟨e2, kk, v, e3, e4⟩ := y
        subst e2 e4
        refine ⟨.refl, m, ?_⟩
        rw [List.getElem?_map] at hd
        obtain ⟨p, ep, ed⟩ := Option.map_eq_some_iff.mp hd
        obtain ⟨y, ey, f1, f2⟩ := paired_at rl ep
        rw [e3] at ey
        cases ey
        rw [← ed, f1]
        show Rel H' (kD kk) (kV kk)
        cases kk <;> rfl
    · rename_i o hv kvs e1
      obtain ⟨q, rl⟩ := m1 a _ e1
      have ll : kvs.length = hv.length := Paired.length rl
      refine ⟨a, o, rfl, .inr ⟨hv, q, k (Itkt a o hv) H1 _ _ M1 t1 m1 ⟨fun i H M _ m ok hi => ?_, fun H M _ m ok => ?_, fun i H M x H' d t m ok hd y => ?_⟩ h2⟩⟩
      · obtain ⟨q, _⟩ := m a _ ok
        exact ⟨q, by rw [List.length_map] at hi; omega⟩
      · obtain ⟨q, _⟩ := m a _ ok
        exact ⟨q, by rw [List.length_map]; omega⟩
      · obtain ⟨e2, kk, v, b, e3, e4, e5⟩ := y
        subst e2 e4
        refine ⟨.refl, m, ?_⟩
        rw [List.getElem?_map] at hd
        obtain ⟨p, ep, ed⟩ := Option.map_eq_some_iff.mp hd
        obtain ⟨y, ey, f1, f2⟩ := paired_at rl ep
        rw [e3] at ey
        cases ey
        rw [← ed, f1]
        exact ⟨b, _, rfl, e5, relL_keys kk⟩
    · exact h2.elim
  | _ => exact h1.elim

/-! ### list(d) -/
def listIR : RCd := fun ds M Q => match ds with
  | [d] => ∃ xs, rdI M d = some xs ∧ xs.length ≤ sizeLine ∧ ∀ p, M p = none → Q (.ref p) (put M p (.lst xs))
  | _ => False
theorem call_list_dKr (hc : X.calm = true) : CallR X (.type "list") (fun xs H Q => ∃ p kvs, xs = [.ref p] ∧ Rd H p (.dK kvs) ∧ ∀ q, H q = none → Q (.ref q) (upd H q (.lst (kvs.map fun kv => kV kv.1)))) := L2.call_listD hc
theorem call_listI (hc : X.calm = true) : CallR X (.type "list") (lowCR X.K listIR) := by
  refine CallR.mono ((call_list_of.or (L2.call_listD hc)).or (call_list_dT hc)) fun zs H Q w => ?_
  obtain ⟨ds, M, Q0, r, m, h, k⟩ := w
  match ds, r, h with
  | [d], r, ⟨xs, ex, lx, h⟩ =>
    obtain ⟨v, e, r1⟩ := one_arg r
    subst e
    cases d with
    | tup ys =>
      cases ex
      obtain ⟨a, vs, ev, q, rl⟩ := r1
      subst ev
      exact .inl (.inl ⟨a, vs, rfl, .inr (.of q), fun l hl => k.newL m hl rl h⟩)
    | ref a =>
      cases r1
      have e' : (match M a with
        | some (.lst xs) => some xs
        | some (.ro xs) => some xs
        | some (.dK kvs) => some (kvs.map (·.1))
        | some (.fK _ _ kvs) => some (kvs.map (·.1))
        | some (.dT kvs) => some (kvs.map (·.1))
        | some (.fT _ _ kvs) => some (kvs.map (·.1))
        | _ => none) = some xs := ex
      split at e'
      · rename_i ys em; cases e'; obtain ⟨vs, q, rl⟩ := m.rdL (rdL_lst em); exact .inl (.inl ⟨a, vs, rfl, .inl q, fun l hl => k.newL m hl rl h⟩)
      · rename_i ys em; cases e'; obtain ⟨vs, q, rl⟩ := m.rdL (rdL_ro em); exact .inl (.inl ⟨a, vs, rfl, .inl q, fun l hl => k.newL m hl rl h⟩)
      · rename_i ys em; cases e'; obtain ⟨hv, q, rl⟩ := m a _ em; exact .inl (.inr ⟨a, hv, rfl, .inl q, fun l hl => k.newL m hl (keys_relK rl) h⟩)
      · rename_i o hv ys em; cases e'; obtain ⟨q, rl⟩ := m a _ em; exact .inl (.inr ⟨a, hv, rfl, .inr ⟨o, q⟩, fun l hl => k.newL m hl (keys_relK rl) h⟩)
      · rename_i ys em; cases e'; obtain ⟨hv, q, rl⟩ := m a _ em; exact .inr ⟨a, hv, rfl, .inl q, fun l bs hl hb => k.newL m hl (keys_relT rl hb) h⟩
      · rename_i o hv ys em; cases e'; obtain ⟨q, rl⟩ := m a _ em; exact .inr ⟨a, hv, rfl, .inr ⟨o, q⟩, fun l bs hl hb => k.newL m hl (keys_relT rl hb) h⟩
      · cases e'
    | _ => cases ex
end
end DL

end T_DLE

section T_DLF
set_option Elab.async false
set_option linter.all false
set_option maxRecDepth 100000
set_option maxHeartbeats 2000000
/-! The D layer, F: dict(xs) of a list of pairs, keys of any kind. -/
namespace DL
open PySem PySem.Spec L2
open PyProof.Rows hiding St

def prsOf : List D → Option (List (D × D))
  | [] => some []
  | .tup [k, y] :: r => (prsOf r).map ((k, y) :: ·)
  | _ => none
theorem prsOf_cons {xs : List D} {ps : List (D × D)} {x : D} (h : prsOf (x :: xs) = some ps) : ∃ k y r, x = .tup [k, y] ∧ ps = (k, y) :: r ∧ prsOf xs = some r := by
  cases x with
  | tup zs =>
    match zs, h with
    | [k, y], h =>
      simp only [prsOf] at h
      obtain ⟨r, e1, e2⟩ := Option.map_eq_some_iff.mp h
      exact ⟨k, y, r, rfl, e2.symm, e1⟩
    | [], h => simp [prsOf] at h
    | [_], h => simp [prsOf] at h
    | _ :: _ :: _ :: _, h => simp [prsOf] at h
  | _ => simp [prsOf] at h
theorem dput_len (kvs : List (D × D)) (k d : D) : (dput kvs k d).length ≤ kvs.length + 1 := by
  unfold dput
  split
  · rw [List.length_map]; omega
  · simp
theorem rdL_put {M : Mem} {l p : Addr} {xs : List D} {o : DO} (h : rdL M l = some xs) (ne : l ≠ p) : rdL (put M p o) l = some xs := by
  unfold rdL
  rw [put_ne ne]
  exact h
theorem rdL_dX {M : Mem} {a : Addr} {b : Bool} {kvs : List (D × D)} (h : M a = some (dX b kvs)) : rdL M a = none := by
  unfold rdL
  rw [h]
  cases b <;> rfl
section
variable {X : Cx} {pins : List (Addr × Obj)} {σ : St}
theorem dict_walk {A : Around} {R : Result → Shared → Prop} {S I l : Addr} {b : Bool} {xs : List D} {res : Value} (hh : A.handled = none) (hu : A.units + 2 < cLine) (hSI : S ≠ I) (fI : ∀ H' : Hp, H' I = none → FpOk X pins H' I) :
    ∀ (ps : List (D × D)) (i : Nat) (acc : List (D × D)) (M : Mem) (H : Hp) (ix : Int) (t : Tok) (s : Shared), prsOf (xs.drop i) = some ps → i ≤ xs.length → rdL M l = some xs → M S = some (dX b acc) → (∀ p ∈ ps, isKey b p.1 = true) →
      acc.length + ps.length < sizeLine → Inv X pins σ H s → RelM X.K H M → H I = none → s.heap.IsListIter I l i →
      (∀ H' s', Tle H H' → Inv X pins σ H' s' → RelM X.K H' (put M S (dX b (mergeD acc ps))) → R (.ok (.ret res)) s') →
      codeAny (model X.prog X.w) A (.builtin "dict.update.loop" ⟨[.ref S, .ref I, .int ix t, res], []⟩) R s
  | ps, i, acc, M, H, ix, t, s, hp, hi, hl, hS, hk, hz, J, m, hI, it, hR => by
    have lS : l ≠ S := fun e => by rw [e, rdL_dX hS] at hl; cases hl
    obtain ⟨vs, sq, rl⟩ := m.rdL hl
    obtain ⟨its, rv, ⟨o, n, ho, hc, _, hd⟩, _⟩ := J.list sq
    have lI : l ≠ I := fun e => by
      obtain ⟨q, q1, q2, _⟩ := id it
      rw [← e, ho] at q1
      cases q1
      rw [hc] at q2
      exact absurd (Value.type.inj q2) (by decide)
    have L0 : s.heap.IsList l its.toArray := ⟨o, ho, hc, n, hd⟩
    have len : its.length = xs.length := by rw [← rv.length, rl.length]
    obtain ⟨f0, f1, f2, f3, f4, f5⟩ := fI H hI
    refine codeAny_builtin ud_entry ?_
    rw [Around.under_plainId ud_plain _]
    show wpAny _ A.in1 (pyNext (.ref I) >>= _) _ _ s
    by_cases hlt : i < xs.length
    · rw [List.drop_eq_getElem_cons hlt] at hp
      obtain ⟨k, y, r, ex, rfl, hp'⟩ := prsOf_cons hp
      have gx : xs[i]? = some (.tup [k, y]) := by rw [List.getElem?_eq_getElem hlt, ex]
      obtain ⟨v, gv, relv⟩ := rl.get gx
      obtain ⟨u, gu, ru⟩ := rv.get gv
      obtain ⟨a, ws, ev, ta, rw2⟩ := relv
      subst ev
      cases ru
      obtain ⟨vk, vy, ews, rk, ry⟩ := two_arg rw2
      subst ews
      refine wpAny_bind (wpAny_pyNext_list_item (x := .ref a) it L0 (by simpa using gu) fun h1 it1 hs1 => ?_)
      have J1 : Inv X pins σ H { s with heap := h1 } := J.turned (t' := s.toks) (fun b ob hb e => (hs1.2 b hb).trans e) f0 f1 f3 f4 f5
      obtain ⟨_, tits, rt, to, t1, t2, tn, t3⟩ := J1.hok a _ ta
      obtain ⟨uk, uy, e2, ruk, ruy⟩ := vals2 rt
      subst e2
      show wpAny _ A.in1 (holding [Value.ref a] _ >>= _) _ _ _
      refine wpAny_bind (wpAny_holding ?_)
      refine wpAny_bind (wpAny_tryCatch ?_)
      unfold Builtin.Dict.pairItems
      refine wpAny_bind (wpAny_typeOf (T := "tuple") ⟨to, t1, t2⟩ ?_)
      rw [if_pos (by first | decide | rfl | simp)]
      refine wpAny_bind (wpAny_seqItems t1 t3 (wpAny_pure ?_))
      show wpAny _ A.in1 (holding [uk, uy] (dictSet S uk uy)) _ _ _
      simp only [List.length_cons] at hz
      obtain ⟨H2, dp, t2', m2⟩ := dput_low m hS (hk _ List.mem_cons_self) (by omega) rk ry
      have hI2 : H2 I = none := by
        have up : ∀ {w : HO}, upd H S w I = none := fun {w} => by rw [upd_ne (Ne.symm hSI)]; exact hI
        rcases dp with ⟨_, _, _, _, _, e⟩ | ⟨_, _, _, _, _, _, _, e⟩ <;> (rw [e]; exact up)
      obtain ⟨io, i1, i2, i3⟩ := id it1
      have J1p := J1.pinned (fp := [I]) (fun c hc => by rw [List.mem_singleton.mp hc]; exact fI H hI) (fun c hc => by rw [List.mem_singleton.mp hc]; exact ⟨io, i1, fun v z => by rw [i3] at z; cases z⟩)
      refine wpAny_holding (d_dictSetA (by show A.units + 1 + 1 < cLine; omega) J1p dp ruk ruy fun s2 J2 => ?_)
      have i4 := (J2.pin (I, io) (List.mem_append_right _ (List.mem_append_right _ (mem_pinsAt (List.mem_singleton.mpr rfl) i1)))).1
      refine wpAny_pure ⟨plainId_quiet ud_plain _, ?_⟩
      refine dict_walk hh hu hSI fI r (i + 1) (dput acc k y) _ H2 (ix + 1) 0 s2 hp' hlt (rdL_put hl lS) put_same (fun p hp => hk p (List.mem_cons_of_mem _ hp)) (by have := dput_len acc k y; omega) J2.unpinned m2 hI2 ⟨io, i4, i2, i3⟩ fun H' s' t3 J3 m3 => hR H' s' (t2'.trans t3) J3 ?_
      rw [put_put] at m3
      exact m3
    · have e : i = xs.length := by omega
      subst e
      rw [List.drop_length] at hp
      cases hp
      refine wpAny_bind (wpAny_pyNext_list_end (A := A.in1) hh it L0 (by simp [len]) fun h' he => ?_)
      show wpAny _ A.in1 (Builtin.Dict.addKeywords S [] >>= _) _ _ _
      refine wpAny_bind (wpAny_pure (wpAny_pure ?_))
      refine hR H _ .refl (J.turned (t' := s.toks) (fun b o hb e => he b o hb e) f0 f1 f3 f4 f5) ?_
      show RelM X.K H (put M S (dX b acc))
      rw [put_eq hS]
      exact m
  termination_by ps => ps.length
end
/-- dict(xs), xs a list of pairs -/
def dictR (b : Bool) : RCd := fun ds M Q => match ds with
  | [.ref a] => ∃ xs ps, rdL M a = some xs ∧ prsOf xs = some ps ∧ (∀ p ∈ ps, isKey b p.1 = true) ∧ ps.length < sizeLine ∧ ∀ q, M q = none → Q (.ref q) (put M q (dX b (mergeD [] ps)))
  | _ => False
section
variable {X : Cx}
theorem call_dictB (b : Bool) (hc : X.calm = true) {k : Nat} (hr : Room k X.A) : CallR X (.type "dict") (lowCR X.K (dictR b)) := by
  intro pins s σ H zs us Q J rv w
  obtain ⟨ds, M, Q0, r, m, h, kk⟩ := w
  match ds, r, h with
  | [.ref l], r, ⟨xs, ps, hl, hp, hk, hz, h⟩ =>
    obtain ⟨v, ez, r1⟩ := one_arg r
    subst ez
    cases r1
    obtain ⟨u, rfl, ru⟩ := vals1 rv
    cases ru
    have un := hr.un
    have hh : X.A.handled = none := J.ok.hd hc
    obtain ⟨vs, sq, rl⟩ := m.rdL hl
    obtain ⟨its, rv2, ⟨o, n, ho, hcl, hdo, hd⟩, _⟩ := J.list sq
    obtain ⟨S, eS⟩ : ∃ S, s.heap.objs.size = S := ⟨_, rfl⟩
    refine callType_codes (Q₁ := fun obj s₁ => obj = .ref s.heap.objs.size ∧ s₁ = { s with heap := s.heap.push { cls := .type "dict", data := .dict #[] } }) PySem.F.kt_called_dict (PySem.F.kt_typeCall_dict_1 _) PySem.F.entry_dict_init (kt_code_dict_new _ ⟨rfl, rfl⟩) ?_
    rintro obj s₁ ⟨rfl, rfl⟩
    have ty : ({ s with heap := s.heap.push { cls := .type "dict", data := .dict #[] } } : Shared).TypeIs (.ref s.heap.objs.size) "dict" := ⟨_, Heap.get?_push_size _ rfl, rfl⟩
    have k0 : ∀ b o, s.heap.get? b = some o → (s.heap.push { cls := .type "dict", data := .dict #[] }).get? b = some o := fun b o e => Heap.get?_push_of_some _ e
    have J0 : Inv X pins σ (upd H s.heap.objs.size (dE b)) { s with heap := s.heap.push { cls := .type "dict", data := .dict #[] } } := J.laid (t' := s.toks) k0 (Nat.le_refl _) (empty_ok (dE_is b) J.big)
    have hf := J.hok.fresh (Nat.le_refl s.heap.objs.size)
    have m0 := dX_new b m hf
    refine ⟨ty, PySem.F.args_dict_init_2 _ _, ?_⟩
    unfold Builtin.«dict.__init__»
    refine wpAny_bind ?_
    unfold Builtin.Dict.selfAndRest
    refine wpAny_bind (wpAny_notOrdered_dict ty ?_)
    show wpAny _ _ (pure (s.heap.objs.size, [Value.ref l])) _ _ _
    refine wpAny_pure ?_
    show wpAny _ _ (Builtin.Dict.updateFrom "dict.__init__" s.heap.objs.size (.ref l) [] .none) _ _ _
    unfold Builtin.Dict.updateFrom
    refine wpAny_bind (wpAny_typeOf (T := "list") ⟨o, k0 _ _ ho, hcl⟩ ?_)
    rw [if_pos (by first | decide | rfl | simp)]
    refine wpAny_bind (miss_list (k0 _ _ ho) hcl hd hdo hh fun h1 tk1 hk1 => ?_)
    rw [if_pos (show (none : Option Value).isNone = true from rfl)]
    refine wpAny_bind (wpAny_rule ?_)
    have J1 : Inv X pins σ (upd H s.heap.objs.size (dE b)) { s with heap := h1, toks := tk1 } := J0.kept (t' := tk1) hk1
    have L1 : h1.IsList l its.toArray := ⟨o, hk1 _ _ (k0 _ _ ho), hcl, n, hd⟩
    refine wpAny_bind (wpAny_pyIter_list L1 ?_)
    have J2 : Inv X pins σ (upd H s.heap.objs.size (dE b)) { s with heap := h1.push { cls := .type "list_iterator", data := .fields #[.ref l, .int 0 0] }, toks := tk1 } := J1.kept (t' := tk1) fun b o e => Heap.get?_push_of_some _ e
    have hS1 : s.heap.objs.size < h1.objs.size := Heap.lt_size (hk1 _ _ (Heap.get?_push_size _ rfl))
    have hI : upd H s.heap.objs.size (dE b) h1.objs.size = none := J1.hok.fresh (Nat.le_refl _)
    have key := dict_walk (X := X) (pins := pins) (σ := σ) (A := X.A.in1) (R := wants (fun r s₂ => r = .none ∧ EP X pins σ Q (.ref s.heap.objs.size) s₂) X.xe) (S := s.heap.objs.size) (I := h1.objs.size) (l := l) (b := b) (xs := xs) (res := Value.none) hh
      (by show X.A.units + 1 + 2 < cLine; omega) (Nat.ne_of_lt hS1) (fun H' hn => J1.fpOk (Nat.le_refl _) hn) ps 0 [] (put M s.heap.objs.size (dX b [])) _ 0 0
      { s with heap := h1.push { cls := .type "list_iterator", data := .fields #[.ref l, .int 0 0] }, toks := tk1 } hp (Nat.zero_le _) (rdL_put hl (Nat.ne_of_lt (Heap.lt_size ho))) put_same hk (by simpa using hz) J2 m0 hI ⟨_, Heap.get?_push_size _ rfl, rfl, rfl⟩
      (fun H' s' t J3 m3 => ⟨rfl, .ref s.heap.objs.size, H', J3, rfl, by
        rw [put_put] at m3
        exact kk (.ref s.heap.objs.size) H' (.ref s.heap.objs.size) _ ((Tle.new hf).trans t) rfl m3 (h _ (m.fresh hf))⟩)
    first
      | exact wpAny_pure ⟨plainId_quiet ud_plain _, key⟩
      | exact wpAny_bind (wpAny_pure (wpAny_pure ⟨plainId_quiet ud_plain _, key⟩))
end
end DL

end T_DLF

section T_DLX
set_option Elab.async false
set_option linter.all false
set_option maxRecDepth 100000
set_option maxHeartbeats 2000000
/-! The D layer, X: own exceptions as values: made, looked at, asked for their kind. -/
namespace DL
open PySem PySem.Spec L2
open PyProof.Rows hiding St

/-- what is asked of a class of exceptions, so that its instances may be looked at -/
structure ExK (K : PySem.W.Frag) (C : Addr) : Prop where
  ga : PySem.W.findIn K (.ref C) "__getattribute__" = some (some (.builtin "BaseException.__getattribute__"))
  gg : PySem.W.findIn K (.ref C) "__getattr__" = some none
  su : PySem.W.subIn K (.ref C) (.type "BaseException") = some true
  hd : PySem.W.hasDictIn K C = true
  ca : PySem.W.findIn K (.ref C) "__class__" = some (some (.builtin "object.__class__"))
  gn : PySem.W.specialIn K (.builtin "object.__class__") "__get__" = some (some (.builtin "getset_descriptor.__get__"))
  tk : PySem.W.takesIn K (.builtin "object.__class__") = some true
  mo : PySem.W.mroIn K C (.type "object") = some true
def exKB (K : PySem.W.Frag) (C : Addr) : Bool :=
  decide (PySem.W.findIn K (.ref C) "__getattribute__" = some (some (.builtin "BaseException.__getattribute__"))) && decide (PySem.W.findIn K (.ref C) "__getattr__" = some none) &&
  decide (PySem.W.subIn K (.ref C) (.type "BaseException") = some true) && PySem.W.hasDictIn K C && decide (PySem.W.findIn K (.ref C) "__class__" = some (some (.builtin "object.__class__"))) &&
  decide (PySem.W.specialIn K (.builtin "object.__class__") "__get__" = some (some (.builtin "getset_descriptor.__get__"))) && decide (PySem.W.takesIn K (.builtin "object.__class__") = some true) && decide (PySem.W.mroIn K C (.type "object") = some true)
theorem exKB_ok {K : PySem.W.Frag} {C : Addr} (h : exKB K C = true) : ExK K C := by
  unfold exKB at h
  simp only [Bool.and_eq_true, decide_eq_true_eq] at h
  obtain ⟨⟨⟨⟨⟨⟨⟨h1, h2⟩, h3⟩, h4⟩, h5⟩, h6⟩, h7⟩, h8⟩ := h
  exact ⟨h1, h2, h3, h4, h5, h6, h7, h8⟩
theorem look_fs {H : Hp} {f : Str} : ∀ {fs : List (Str × D)} {vs : List (Str × V)} {d : D}, RelFs H fs vs → fs.lookup f = some d → ∃ v, vs.lookup f = some v ∧ Rel H d v
  | _, _, _, .nil, e => by simp at e
  | (g, d0) :: fs, (g', v0) :: vs, d, .cons ⟨e1, e2⟩ t, e => by
    simp only at e1 e2
    subst e1
    by_cases h : f = g
    · subst h
      simp [List.lookup] at e
      subst e
      exact ⟨v0, by simp [List.lookup], e2⟩
    · have hn : (f == g) = false := by simpa using h
      simp only [List.lookup, hn] at e ⊢
      exact look_fs t e
/-- e.f -/
def tfld (K : PySem.W.Frag) (f : Str) (te : TEd) : TEd := fun ρ M Q => te ρ M fun x M1 => ∃ a C fs d, x = .ref a ∧ M1 a = some (.exi C fs) ∧ ExK K C ∧ PySem.W.findIn K (.ref C) f = some none ∧ fs.lookup f = some d ∧ Q d M1
section
variable {X : Cx}
theorem ped_fld {e : Expr} {f : Str} {pos : Pos} {te : TEd} (he : PEd X e te) (hb : attributeBase e f X.env (eval e X.env) = eval e X.env := by rfl) : PEd X (.Attribute e f pos) (tfld X.K f te) := by
  refine ⟨⟨fun pins s σ H Q I w => ?_⟩⟩
  obtain ⟨ρ, M, Q0, re, rm, h, k⟩ := w
  refine attr_of hb (thn (he.pe.run pins s σ H (fun v H1 => Tle H H1 ∧ ∃ a C dx vs v', v = .ref a ∧ H1 a = some (exo a C (some dx)) ∧ H1 dx = some (exd dx vs) ∧ ExK X.K C ∧ PySem.W.findIn X.K (.ref C) f = some none ∧ vs.lookup f = some v' ∧ Q v' H1) I
    ⟨ρ, M, _, re, rm, h, fun x H1 dd M1 t1 r1 m1 h1 => ⟨t1, ?_⟩⟩) fun u s1 hh => ?_)
  · obtain ⟨a, C, fs, d, rfl, hM, T, no, lk, q⟩ := h1
    cases r1
    rcases m1 a _ hM with ⟨_, rfl⟩ | ⟨dx, vs, q1, q2, rf, _⟩
    · simp at lk
    · obtain ⟨v, l1, l2⟩ := look_fs rf lk
      exact ⟨a, C, dx, vs, v, rfl, q1, q2, T, no, l1, k v H1 d M1 t1 l2 m1 q⟩
  · obtain ⟨x, H1, I1, rx, _, a, C, dx, vs, v, ex, q1, q2, T, no, l, q⟩ := hh
    subst ex
    cases rx
    obtain ⟨t1, ho⟩ := exo_at I1.hok q1
    obtain ⟨mA, hns, rel⟩ := exd_at I1.hok q2
    obtain ⟨od, hod, hl⟩ := lookIn_ns hns
    obtain ⟨u, hu, ru⟩ := RelO.some_of (v := v) (o := mA f) (by rw [← l]; exact rel f)
    exact PySem.HandSPX.exc_get I1.kIn (ox := { cls := .ref C, dict := some dx, data := .fields #[.ref t1, .none, .none, .none, .bool false, .none] }) (od := some od) ⟨ho, rfl, rfl, hod⟩ T.ga T.gg T.su (PySem.W.findObj_own T.hd no rfl (by rw [hl, hu])) (handed_of ru) ⟨v, H1, I1.tok _, ru, q⟩

/-! ### isinstance(e, C) -/
def clsV : D → Option Value
  | .ref C => some (.ref C)
  | .ty n => some (.type n)
  | _ => none
def isiER (K : PySem.W.Frag) : RCd := fun ds M Q => match ds with
  | [.ref a, c] => ∃ C fs cv b, M a = some (.exi C fs) ∧ ExK K C ∧ clsV c = some cv ∧ PySem.W.kitOne K (.ref C) cv = some b ∧ Q (.bl b) M
  | _ => False
theorem call_isiE : CallR X (.builtin "isinstance") (lowCR X.K (isiER X.K)) := by
  intro pins s σ H xs us Q I rv w
  obtain ⟨ds, M, Q0, r, m, h, kk⟩ := w
  match ds, r, h with
  | [.ref a, c], r, ⟨C, fs, cv, b, hM, T, hc, hb, q⟩ =>
    obtain ⟨v, y, e, r1, r2⟩ := two_arg r
    subst e
    cases r1
    obtain ⟨u1, u2, rfl, q1, q2⟩ := vals2 rv
    cases q1
    have e2 : u2 = cv := by
      cases c with
      | ref D => cases hc; cases r2; cases q2; rfl
      | ty n => cases hc; cases r2; exact q2
      | _ => cases hc
    subst e2
    have cl : (PySem.W.clsIn X.K C).isSome = true := by
      obtain ⟨cd, hcd, _⟩ := PySem.W.any_some T.hd
      rw [hcd]
      rfl
    have go : ∀ (ox : Obj) (od : Option Obj), PySem.W.InstAt s.heap a ox C od → wpAny (model X.prog X.w) X.A (call (.builtin "isinstance") [.ref a, u2]) (EP X pins σ Q) X.xe s := fun ox od J =>
      PySem.W.kia_one (PySem.W.kitx_exc (ox := ox) (od := od) cl T.ga T.gg T.su T.ca T.gn T.tk T.mo) I.kIn J hb (fun z => nomatch z) fun tk => ⟨.bl b, H, I.tok tk, rfl, kk.bl m q⟩
    rcases m a _ hM with ⟨q1, _⟩ | ⟨dx, vs, q1, qd, _⟩
    · obtain ⟨t1, ho⟩ := exo_at I.hok q1
      exact go { cls := .ref C, dict := none, data := .fields #[.ref t1, .none, .none, .none, .bool false, .none] } none ⟨ho, rfl, rfl, trivial⟩
    · obtain ⟨t1, ho⟩ := exo_at I.hok q1
      obtain ⟨mA, hns, _⟩ := exd_at I.hok qd
      obtain ⟨od, hod, _⟩ := lookIn_ns hns
      exact go { cls := .ref C, dict := some dx, data := .fields #[.ref t1, .none, .none, .none, .bool false, .none] } (some od) ⟨ho, rfl, rfl, hod⟩
end

/-! ### C(..) -/
/-- what __init__ promises: the fields, in their order -/
def spIni (C : Addr) (ns : List Str) : Sp := fun vs H Q _ => ∃ a xs, vs = .ref a :: xs ∧ xs.length = ns.length ∧ H a = some (exo a C none) ∧
  ∀ dx, H dx = none → dx ≠ a → Q .non (upd (upd H dx (exd dx (ns.zip xs).reverse)) a (exo a C (some dx)))
/-- a class with such an __init__ -/
def ExI (P : Program) (w : World) (K : PySem.W.Frag) (base : Heap) (k : Nat) (C : Addr) (ns : List Str) : Prop := ∃ (fI : Addr) (fd : FuncData) (ps : List Str), OexC K C ∧ PySem.W.findIn K (.ref C) "__init__" = some (some (.ref fI)) ∧
  PySem.W.typeIn K (.ref fI) = some (.type "function") ∧ L2.Binds K fd ps [] ∧ ns.length ≤ 900 ∧ ∀ mg : Str → Option Value, FnOk P w K mg base (L2.CX P w) k fI fd ps (spIni C ns)
def tmkE (C : Addr) (ns : List Str) (ta : TAd) : TEd := fun ρ M Q => ta ρ M fun ds M1 => ds.length = ns.length ∧ ∀ a, M1 a = none → Q (.ref a) (put M1 a (.exi C (ns.zip ds).reverse))
theorem relFs_zip {H : Hp} : ∀ {ns : List Str} {ds : List D} {vs : List V}, RelL H ds vs → RelFs H (ns.zip ds) (ns.zip vs)
  | [], _, _, _ => by simp only [List.zip_nil_left]; exact .nil
  | _ :: _, [], _, h => by cases h; simp only [List.zip_nil_right]; exact .nil
  | n :: ns, d :: ds, _, ⟨v, r, e, h1, h2⟩ => by
    subst e
    simp only [List.zip_cons_cons]
    exact .cons ⟨rfl, h1⟩ (relFs_zip h2)
theorem paired_rev {α β : Type} {F : α → β → Prop} : ∀ {l : List α} {r : List β}, Paired F l r → Paired F l.reverse r.reverse
  | _, _, .nil => .nil
  | _, _, .cons h t => by
    rw [List.reverse_cons, List.reverse_cons]
    exact paired_app (paired_rev t) (.cons h .nil)
section
variable {X : Cx} {x : Str} {C : Addr} {k : Nat} {ns : List Str} {e : Expr} {es : List Expr} {ta : TAd} {p pos : Pos}
theorem ped_mkE (F : ExI X.prog X.w X.K X.base k C ns) (hr : Room (k + 1) X.A) (hg : Gl X x) (hm : X.mg x = some (.ref C)) (ha : PAd X (e :: es) ta) (hdb : (x == ("__debug__" : Str)) = false := by decide)
    (he : starEach (e :: es) X.env = (false, eval e X.env) :: starEach es X.env := by rfl) (hpl : (backTo pos (starEach es X.env)).any (·.1) = false := by rfl) : PEd X (.Call (.Name x p) (e :: es) [] pos) (tmkE C ns ta) := by
  obtain ⟨fI, fd, ps, T, iC, tI, hb, hn9, F1⟩ := F
  refine ⟨⟨fun pins s σ H Q I w => ?_⟩⟩
  obtain ⟨ρ, M, Q0, re, rm, h, kk⟩ := w
  obtain ⟨nm, q, N, bs, bm, sn, sub, ab, col, dd, k0, k1, k2, k3, k5, hC, hbm⟩ := T.cls
  refine wpAny_Call_Name_kw (ld_glob I hg hm ?_ hdb)
  refine PySem.W.callWith_K (h₀ := X.base) I.ok.mod.kin T.kC (thn (ha.pa.run pos pins s σ H (fun vs H1 => vs.length = ns.length ∧ ∀ a dx, H1 a = none → H1 dx = none → dx ≠ a → Q (.ref a) (upd (upd (upd H1 a (exo a C none)) dx (exd dx (ns.zip vs).reverse)) a (exo a C (some dx)))) I
    ⟨ρ, M, _, re, rm, h, fun vs H1 ds M1 t1 r1 m1 h1 => ⟨r1.length.trans h1.1, fun a dx na ndx ne => ?_⟩⟩) fun us s1 ⟨vs, H1, I1, r1, hl0, q1⟩ => ⟨I1.kIn, ?_⟩) he hpl
  · -- the D side
    have na' : upd H1 a (exo a C none) dx = none := by rw [upd_ne ne]; exact ndx
    have t2 : Tle H1 (upd (upd (upd H1 a (exo a C none)) dx (exd dx (ns.zip vs).reverse)) a (exo a C (some dx))) := fun b xs z => by
      rw [upd_ne (ne_of_none z na), upd_ne (ne_of_none z ndx), upd_ne (ne_of_none z na)]
      exact z
    have m2 : RelM X.K (upd (upd (upd H1 a (exo a C none)) dx (exd dx (ns.zip vs).reverse)) a (exo a C (some dx))) (put M1 a (.exi C (ns.zip ds).reverse)) := by
      have keepX : ∀ b u, H1 b = some u → (b = a → False) → upd (upd (upd H1 a (exo a C none)) dx (exd dx (ns.zip vs).reverse)) a (exo a C (some dx)) b = some u := fun b u y nb => by
        rw [upd_ne nb, upd_ne (ne_of_none y ndx), upd_ne nb]
        exact y
      intro b o z
      by_cases hb : b = a
      · subst hb
        rw [put_same] at z
        cases z
        refine .inr ⟨dx, (ns.zip vs).reverse, upd_same, by rw [upd_ne ne, upd_same], paired_rev (relFs_zip (r1.tle t2)), ?_⟩
        rw [List.length_reverse, List.length_zip]
        omega
      · rw [put_ne hb] at z
        exact (m1 b o z).tle t2 ⟨fun c vs' y => keepX _ _ y (ne_of_none y na), fun c q y => keepX _ _ y (ne_of_none y na)⟩ fun u y => keepX _ _ y hb
    exact kk (.ref a) _ (.ref a) _ (t1.trans t2) rfl m2 (h1.2 a (m1.fresh na))
  · -- the call
    show wpAny _ _ (call (.ref C) us) _ _ _
    obtain ⟨hp, g, dr, tk, os⟩ := s1
    have hsz : hp.objs.size ≤ hp.objs.size + 1 := Nat.le_succ _
    have hn : H1 (hp.objs.size + 1) = none := I1.hok.fresh hsz
    have old : ∀ b o, hp.get? b = some o → ((hp.push (PySem.W.kdv_tup us)).push (PySem.HandSPX.excO C hp.objs.size)).get? b = some o := fun b o z => Heap.get?_push_of_some _ (Heap.get?_push_of_some _ z)
    have got : ((hp.push (PySem.W.kdv_tup us)).push (PySem.HandSPX.excO C hp.objs.size)).get? (hp.objs.size + 1) = some (PySem.HandSPX.excO C hp.objs.size) := by heap_get
    have I2 : Inv X pins σ (upd H1 (hp.objs.size + 1) (exo (hp.objs.size + 1) C none)) ⟨(hp.push (PySem.W.kdv_tup us)).push (PySem.HandSPX.excO C hp.objs.size), g, dr, tk, os⟩ :=
      I1.laid (t' := tk) (a := hp.objs.size + 1) (o := exo (hp.objs.size + 1) C none) (h' := (hp.push (PySem.W.kdv_tup us)).push (PySem.HandSPX.excO C hp.objs.size)) old hsz (exo_ok got)
    have r2 : Vals (V.ref (hp.objs.size + 1) :: vs) (Value.ref (hp.objs.size + 1) :: us) := .cons rfl r1
    have hq : spIni C ns (V.ref (hp.objs.size + 1) :: vs) (upd H1 (hp.objs.size + 1) (exo (hp.objs.size + 1) C none)) (fun v H2 => v = .non ∧ Q (.ref (hp.objs.size + 1)) H2) (fun _ _ _ => False) := by
      refine ⟨_, vs, rfl, hl0, upd_same, fun dx hdx ne => ⟨rfl, q1 _ dx hn ?_ ne⟩⟩
      rw [upd_ne ne] at hdx
      exact hdx
    have lps : (Value.ref (hp.objs.size + 1) :: us).length = ps.length := by
      have z := r2.length
      rw [(F1 X.mg).len _ _ _ _ hq] at z
      exact z.symm
    have hus : us.length ≤ sizeLine := by
      rw [← Paired.length r1, sizeLine_eq]
      omega
    have bb := hb ⟨(hp.push (PySem.W.kdv_tup us)).push (PySem.HandSPX.excO C hp.objs.size), g, dr, tk, os⟩ (Value.ref (hp.objs.size + 1) :: us) I2.kIn (by rw [List.append_nil]; exact lps)
    rw [List.append_nil] at bb
    refine wpAny_call (PySem.HandSPX.call_own F.excBase_ValueError (fun Y => PySem.HandSPX.refsVE_contains Y bm hbm) (I1.kIn _ _ hC) (PySem.W.looks_findIn I1.kIn iC) (fun self => PySem.W.bind_fn I1.kIn self tI) hus
      (codeAny_mono ((F1 X.mg).run _ X.stack _ _ ⟨Value.ref (hp.objs.size + 1) :: us, []⟩ (Value.ref (hp.objs.size + 1) :: us) _ _ (fun _ _ _ => False) (hr.make C us []) (I2.env0.make C us []) bb r2 hq) fun r s' hq' => ?_))
    cases r with
    | error er =>
      obtain ⟨_, _, _, _, _, _, _, _, _, _, _, _, z⟩ := hq'
      exact z.elim
    | ok fl =>
      cases fl with
      | ret u =>
        obtain ⟨v, H2, os2, bare2, un2, hok2, rv, ev, q2⟩ := hq'
        subst ev
        exact ⟨rv, I2.after ⟨.ref (hp.objs.size + 1), H2, os2, bare2, un2, hok2, rfl, q2⟩⟩
      | next => exact hq'.elim
      | brk => exact hq'.elim
      | cont => exact hq'.elim
/-- C(), C without fields of its own -/
def tmk0 (C : Addr) : TEd := fun _ M Q => ∀ a, M a = none → Q (.ref a) (put M a (.exi C []))
theorem ped_mk0 (q : PySem.W.excIn X.K C He.veBase "ValueError.__new__" = true) (kC : PySem.W.keepIn X.K (.ref C) = true) (hg : Gl X x) (hm : X.mg x = some (.ref C)) (hdb : (x == ("__debug__" : Str)) = false := by decide) : PEd X (.Call (.Name x p) [] [] pos) (tmk0 C) := by
  refine ⟨⟨fun pins s σ H Q I w => ?_⟩⟩
  obtain ⟨ρ, M, Q0, re, rm, h, kk⟩ := w
  refine wpAny_Call_Name_kw (ld_glob I hg hm ?_ hdb)
  refine PySem.W.callWith_K0 I.kIn kC ?_
  show wpAny _ _ (call (.ref C) []) _ _ _
  obtain ⟨bm, N, nm, qn, bs, hdct, sn, sub, ab, col, dd, k0, k1, k2, k3, k5, mN, hC, hN, hni, T⟩ := exc_obj I.kIn q
  obtain ⟨hp, g, dr, tk, os⟩ := s
  refine wpAny_call_exc_subT F.excBase_ValueError T hC hN hni (fun h' a mo => ?_) (Nat.zero_le _)
  have hn : H a = none := I.hok.gone mo.new
  obtain ⟨t, ht, _, _⟩ := mo.there
  refine ⟨.ref a, upd H a (exo a C none), I.laidN mo.keeps mo.new hn (exo_ok ht), rfl, ?_⟩
  exact kk.ref (.new hn) (rm.new (d := .exi C []) hn (.inl ⟨upd_same, rfl⟩)) (h a (rm.fresh hn))
end
end DL

end T_DLX

section T_DLZ
set_option Elab.async false
set_option linter.all false
set_option maxRecDepth 100000
set_option maxHeartbeats 2000000
/-! The D layer, Z: the law's own call, where no text is being made. -/
namespace DL
open PySem PySem.Spec L2
open PyProof.Rows hiding St

/-- what is tracked as the law begins: the script (if it's none of the module's own objects), the tables at T -/
def entH (K : PySem.W.Frag) (a : Addr) (o : Obj) (xs : List V) (T : List Addr) : Hp := fun b => if b = a then (if (K.lookup a).isSome = true then none else some (.frz o (.lst xs))) else if b ∈ T then some (.tbl #[]) else none
section
variable {K : PySem.W.Frag} {a b : Addr} {o : Obj} {xs : List V} {T : List Addr}
theorem entH_tab (h : b ≠ a) (hb : b ∈ T) : entH K a o xs T b = some (.tbl #[]) := by unfold entH; rw [if_neg h, if_pos hb]
theorem entH_a (h : K.lookup a = none) : entH K a o xs T a = some (.frz o (.lst xs)) := by unfold entH; rw [if_pos rfl, h]; rfl
theorem entH_ak {u : Obj} (h : K.lookup a = some u) : entH K a o xs T a = none := by unfold entH; rw [if_pos rfl, h]; rfl
theorem entH_no (h : b ≠ a) (hb : b ∉ T) : entH K a o xs T b = none := by unfold entH; rw [if_neg h, if_neg hb]
end
section
variable {P : Program} {w : World} {K : PySem.W.Frag} {mg mb : Str → Option Value} {k : Nat} {fa a : Addr} {cs : List (Addr × Addr)} {fd : FuncData} {x : Str} {sp : Sp} {s : Shared} {vs : List Value} {ns : List Int}
theorem law_callQ (KX : K.In s.heap) (hns : s.heap.Ns mainGlobals mg) (hb : s.heap.Ns builtinsNs mb) (hbb : ∀ x : Str, x ≠ "__name__" → mb x = bootBuiltins x) (hlim : s.heap.NoLimit) (hg : s.gens = #[])
    (hT : ∀ p ∈ cs, s.heap.get? p.2 = some { cls := .none, data := .fields #[] }) (nT : ∀ p ∈ cs, K.lookup p.2 = none) (C : ∀ p ∈ cs, PySem.W.CodeHd s.heap p.1 p.2)
    (hbm : ∃ (bm : Addr) (ob : Obj), mg "__builtins__" = some (.ref bm) ∧ bm ≠ builtinsNs ∧ s.heap.get? bm = some ob ∧ ob.cls = .type "module" ∧ ob.dict = some builtinsNs ∧ ob.data = .plain)
    (ha : s.heap.get? a = some { cls := .type "list", data := .seq vs.toArray }) (hi : IntsAre vs ns) (hl : ns.length ≤ sizeLine) (hr : Room k callerA)
    (F : ∀ base : Heap, K.In base → base.Ns mainGlobals mg → (∀ p ∈ cs, LamX.TabB base mg p.1 p.2) → FnQ P w K mg base k fa fd [x] sp) (bind : ∀ (s : Shared) (u : Value), BindsTo s fd ⟨[u], []⟩ [(x, u)])
    (hsp : ∀ H : Hp, (∀ p ∈ cs, H p.2 = some (.tbl #[])) → SqL K H a (ns.map V.int) → sp [.ref a] H (fun v _ => v = .bl true) fun _ _ _ => False) :
    codeAny (model P w) callerA (.call (.ref fa) ⟨[.ref a], []⟩) (fun r s' => r = .ok (.ret (.bool true)) ∧ OldK s.heap s'.heap ∧ s'.os = s.os ∧ AllBare s'.gens) s := by
  have rv := vals_ints hi
  have isT : ∀ b : Addr, b ∈ cs.map (·.2) → s.heap.get? b = some { cls := .none, data := .fields #[] } ∧ K.lookup b = none := by
    intro b hb
    obtain ⟨p, hp, rfl⟩ := List.mem_map.mp hb
    exact ⟨hT p hp, nT p hp⟩
  have tNa : ∀ b ∈ cs.map (·.2), b ≠ a := by
    rintro b hb rfl
    have z := (isT b hb).1
    rw [ha] at z
    cases z
  obtain ⟨H, eH⟩ : ∃ H, H = entH K a { cls := .type "list", data := .seq vs.toArray } (ns.map V.int) (cs.map (·.2)) := ⟨_, rfl⟩
  have hTab : ∀ p ∈ cs, H p.2 = some (.tbl #[]) := fun p hp => by
    have hm : p.2 ∈ cs.map (·.2) := List.mem_map.mpr ⟨p, hp, rfl⟩
    rw [eH]
    exact entH_tab (tNa _ hm) hm
  -- what is tracked at b
  have what : ∀ b u, H b = some u → (b = a ∧ K.lookup a = none ∧ u = .frz { cls := .type "list", data := .seq vs.toArray } (.lst (ns.map V.int))) ∨ (b ∈ cs.map (·.2) ∧ u = .tbl #[]) := by
    intro b u e
    rw [eH] at e
    by_cases h1 : b = a
    · subst h1
      cases hk : K.lookup b with
      | some q => rw [entH_ak hk] at e; cases e
      | none => rw [entH_a hk] at e; cases e; exact .inl ⟨rfl, rfl, rfl⟩
    · by_cases h2 : b ∈ cs.map (·.2)
      · rw [entH_tab h1 h2] at e; cases e; exact .inr ⟨h2, rfl⟩
      · rw [entH_no h1 h2] at e; cases e
  have lst : SqL K H a (ns.map V.int) := by
    cases hk : K.lookup a with
    | none => exact .inl (.inr ⟨_, by rw [eH]; exact entH_a hk⟩)
    | some q =>
      have e := KX a q hk
      rw [ha] at e
      cases e
      exact .inr ⟨_, vs.toArray, _, hk, rfl, rfl, rfl, by rw [List.size_toArray, hi.length]; exact hl, by simpa using rv⟩
  have hok : HOk P w H s.heap := by
    intro b u e
    rcases what b u e with ⟨rfl, _, rfl⟩ | ⟨hm, rfl⟩
    · exact ⟨ha, by rw [List.length_map]; exact hl, vs, _, rv, ha⟩
    · exact (isT b hm).1
  -- objects of other kinds are not tracked
  have noD : ∀ {b : Addr} {o : Obj}, s.heap.get? b = some o → (∀ l n, o.data ≠ .seq l n) → o.data ≠ .fields #[] → H b = none := by
    intro b o e h1 h2
    cases q : H b with
    | none => rfl
    | some u =>
      rcases what b u q with ⟨rfl, _, _⟩ | ⟨hm, _⟩
      · rw [ha] at e; cases e; exact absurd rfl (h1 _ _)
      · rw [(isT b hm).1] at e; cases e; exact absurd rfl h2
  have keepN : ∀ {b : Addr} {m : Str → Option Value}, s.heap.Ns b m → (hidT s.heap H).Ns b m := by
    rintro b m ⟨q, es, ep, e, d, r⟩
    exact ⟨q, es, ep, hidT_get e (noD e (fun l n z => by rw [d] at z; cases z) (fun z => by rw [d] at z; cases z)), d, r⟩
  have inB : K.In (hidT s.heap H) := by
    intro b q e
    refine hidT_get (KX b q e) ?_
    cases y : H b with
    | none => rfl
    | some u =>
      rcases what b u y with ⟨rfl, h2, _⟩ | ⟨hm, _⟩
      · rw [h2] at e; cases e
      · rw [(isT b hm).2] at e; cases e
  obtain ⟨mc, c1, c2⟩ := hlim
  have md : L2.Mod K mg (hidT s.heap H) := ⟨inB, keepN hns, ⟨mb, keepN hb, hbb⟩, ⟨mc, keepN c1, c2⟩⟩
  have tabs : ∀ p ∈ cs, LamX.TabB (hidT s.heap H) mg p.1 p.2 := by
    intro p hp
    have e2 := hT p hp
    obtain ⟨g1, g2, g3, gE, gD, _⟩ := id hns
    refine ⟨?_, ?_, ?_⟩
    · obtain ⟨q, us, file, tf, flags, tg, inF, text, tt, e1, r1, r2, r3, r⟩ := C p hp
      refine ⟨q, us, file, tf, flags, tg, inF, text, tt, hidT_get e1 (noD e1 (fun l n z => by rw [r2] at z; cases z) fun z => ?_), r1, r2, r3, r⟩
      rw [r2] at z
      cases z
      simp at r3
    · obtain ⟨bm, ob, b1, b2, b3, b4, b5, b6⟩ := hbm
      have y1 : bm ≠ mainGlobals := by
        rintro rfl
        rw [gE] at b3
        cases b3
        rw [gD] at b6
        cases b6
      have y2 : bm ≠ p.2 := by
        rintro rfl
        rw [e2] at b3
        cases b3
        cases b6
      exact ⟨bm, ob, b1, b2, y1, y2, hidT_get b3 (noD b3 (fun l n z => by rw [b6] at z; cases z) (fun z => by rw [b6] at z; cases z)), b4, b5, b6⟩
    · intro z
      rw [z, e2] at gE
      cases gE
      cases gD
  have env : Env0 P w K mg (hidT s.heap H) callerA [] s H := ⟨rfl, md, fun b q e => of_hidT e, Nat.le_of_eq (hidT_size _ _), trivial, fun b hm => (by cases (show b ∈ ([] : List Addr) from hm)), hok, .of_eq hg⟩
  refine codeAny_mono ((F _ inB (keepN hns) tabs).go callerA [] s H ⟨[.ref a], []⟩ [.ref a] [.ref a] _ _ rfl hr env (bind s (.ref a)) (.cons rfl .nil) (hsp H hTab lst)) ?_
  intro r s' hq
  match r, hq with
  | .error e, hq =>
    obtain ⟨_, _, _, _, _, _, _, _, _, _, _, _, z⟩ := hq
    exact z.elim
  | .ok .next, hq => exact hq.elim
  | .ok .brk, hq => exact hq.elim
  | .ok .cont, hq => exact hq.elim
  | .ok (.ret u), hq =>
    obtain ⟨v, H', os, bare, un, hok', r', q⟩ := hq
    have q' : v = .bl true := q
    subst q'
    cases r'
    have other : ∀ b q, b ∉ cs.map (·.2) → s.heap.get? b = some q → s'.heap.get? b = some q := by
      intro b q nb e
      cases y : H b with
      | none => exact un.keep b q e y (by intro z; cases (show b ∈ ([] : List Addr) from z)) (by simp)
      | some u =>
        rcases what b u y with ⟨rfl, _, rfl⟩ | ⟨hm, _⟩
        · have e3 := (hok' b _ (un.frzs b _ _ y)).1
          rw [ha] at e
          cases e
          exact e3
        · exact absurd hm nb
    have grown : ∀ p ∈ cs, ∃ more : Array Value, s'.heap.get? p.2 = some { cls := .none, data := .fields more } := by
      intro p hp
      obtain ⟨more, z⟩ := un.tbls p.2 #[] (hTab p hp)
      exact ⟨_, hok' p.2 _ z⟩
    refine ⟨rfl, ⟨fun b q e => ?_, fun b q e => ?_⟩, os, bare⟩
    · by_cases hm : b ∈ cs.map (·.2)
      · obtain ⟨p, hp, rfl⟩ := List.mem_map.mp hm
        obtain ⟨more, hmo⟩ := grown p hp
        rw [hT p hp] at e
        cases e
        exact .inr (.inl ⟨((C p hp).tab (hT p hp)).isCodeTable, rfl, #[], more, rfl, by rw [Array.empty_append]; exact hmo⟩)
      · exact .inl (other b q hm e)
    · by_cases hm : b ∈ cs.map (·.2)
      · obtain ⟨p, hp, rfl⟩ := List.mem_map.mp hm
        obtain ⟨more, hmo⟩ := grown p hp
        exact ⟨_, hmo⟩
      · exact ⟨q, other b q hm e⟩
end
/-- what the head's heap must give of the law -/
def LawAtQ (l : PySem.W.OpenLaw) (w : World) (k n : Nat) (x : Str) (mg : Str → Option Value) (fa : Addr) (h : Heap) : Prop :=
  ∃ (K : PySem.W.Frag) (fd : FuncData) (cs : List (Addr × Addr)) (sp : Sp), K.In h ∧ (∀ p ∈ cs, h.get? p.2 = some { cls := .none, data := .fields #[] }) ∧ (∀ p ∈ cs, K.lookup p.2 = none) ∧ (∀ p ∈ cs, PySem.W.CodeHd h p.1 p.2) ∧
    (∀ (s : Shared) (u : Value), BindsTo s fd ⟨[u], []⟩ [(x, u)]) ∧
    (∀ (H : Hp) (a : Addr) (ns : List Int), ns.length ≤ n → (∀ z ∈ ns, Builtin.Int.intBits z ≤ 1048576) → (∀ p ∈ cs, H p.2 = some (.tbl #[])) → SqL K H a (ns.map V.int) → sp [.ref a] H (fun v _ => v = .bl true) fun _ _ _ => False) ∧
    ∀ base : Heap, K.In base → base.Ns mainGlobals mg → (∀ p ∈ cs, LamX.TabB base mg p.1 p.2) → FnQ l.prog w K mg base k fa fd [x] sp
theorem walk_Q {l : PySem.W.OpenLaw} {n k : Nat} {q : Program} {loose : List Str} {XP : (Str → Option Value) → Heap → Prop} {YP : World → Heap → Prop} {d : DefRec} {x : Str} (hn : l.most = some n) (hn2 : n ≤ sizeLine) (hdf : d.params.defaults = []) (hr : Room k callerA)
    (F : ∀ (w : World) (mg : Str → Option Value) (fa : Addr) (h : Heap), YP w h → h.Ns mainGlobals mg → mg d.name = some (.ref fa) → LawAtQ l w k n x mg fa h) :
    PySem.W.WalkO q loose XP YP l.row.toRowW d [] (fun f vs => PySem.call f vs) := by
  refine Att.attach_callB hn hdf fun w s0 s mg mb fa o pm cd doc a vs ns G Y ho hd hcd hmg hobj hints hlen hbits hg => ?_
  obtain ⟨K, fd, cs, sp, KX, hT, nT, C, bd, hsp, hF⟩ := F w mg fa _ Y G.T.g hmg
  exact law_callQ KX G.T.g G.T.b G.T.builtins G.T.nolimit hg hT nT C G.T.bmain hobj hints (Nat.le_trans hlen hn2) hr hF bd fun H hH hS => hsp H a ns hlen hbits hH hS
end DL

end T_DLZ

section T_DLY
set_option Elab.async false
set_option linter.all false
set_option maxRecDepth 100000
set_option maxHeartbeats 2000000
/-! The D layer, Y: more stepping: loops, comprehensions, texts, kinds. -/
namespace DL
open PySem PySem.Spec L2
open PyProof.Rows hiding St

/-! ### words -/
def tpar3 (i j l : Nat) (ds : List D) (E : Endsd) (ρ : Envd) (M1 : Mem) : Prop := match ds with
  | [x, y, z] => E.nx (((ρ.set i (some x)).set j (some y)).set l (some z)) M1
  | _ => False
def tparT (i j l : Nat) (ta : TAd) : TSd := fun E ρ M => ta ρ M fun ds M1 => tpar3 i j l ds E ρ M1
theorem tpar3_get {i j l : Nat} {ds : List D} {E : Endsd} {ρ : Envd} {M : Mem} (h : tpar3 i j l ds E ρ M) : ∃ x y z, ds = [x, y, z] ∧ E.nx (((ρ.set i (some x)).set j (some y)).set l (some z)) M := by
  unfold tpar3 at h
  split at h
  · exact ⟨_, _, _, rfl, h⟩
  · exact h.elim
theorem tpar3_low {K : PySem.W.Frag} {ta : TAd} {i j l : Nat} (D : Ends) (σ : St) (H : Hp) (w : lowS K (tparT i j l ta) D σ H) : tPar3 i j l (lowA K ta) D σ H := by
  obtain ⟨ρ, M, E0, re, rm, h, k⟩ := w
  refine ⟨ρ, M, fun ds M1 => tpar3 i j l ds E0 ρ M1, re, rm, h, fun vs H1 ds M1 t1 r1 m1 h1 => ?_⟩
  obtain ⟨d1, d2, d3, eds, h2⟩ := tpar3_get h1
  subst eds
  obtain ⟨v1, r, e1, q1, r2⟩ := r1
  obtain ⟨v2, v3, e2, q2, q3⟩ := two_arg r2
  subst e2 e1
  exact ⟨v1, v2, v3, rfl, k.nx _ _ _ _ t1 ((((re.tle t1).set q1).set q2).set q3) m1 h2⟩
section
variable {X : Cx}
theorem sp3 (i j l : Nat) {x y z : Str} {a b c : Expr} {ta : TAd} {px py pz pt pos : Pos} {kt k2 pt2} (hc : X.calm = true) (hN : X.N.Nodup) (ha : PAd X [a, b, c] ta) (hi : X.N[i]? = some x := by rfl) (hj : X.N[j]? = some y := by rfl) (hl : X.N[l]? = some z := by rfl)
    (hij : i ≠ j := by decide) (hil : i ≠ l := by decide) (hjl : j ≠ l := by decide) (hx : X.env.scope.names.lookup x = some .local := by rfl) (hy : X.env.scope.names.lookup y = some .local := by rfl) (hz : X.env.scope.names.lookup z = some .local := by rfl)
    (hw : swappedStores [.Tuple [.Name x px, .Name y py, .Name z pz] kt pt] (.Tuple [a, b, c] k2 pt2) X.env = pure (some [x, y, z]) := by rfl)
    (hs : swapsWithSole [.Tuple [.Name x px, .Name y py, .Name z pz] kt pt] (.Tuple [a, b, c] k2 pt2) pos.line X.env = pure false := by rfl) :
    PSd X (.Assign [.Tuple [.Name x px, .Name y py, .Name z pz] kt pt] (.Tuple [a, b, c] k2 pt2) pos) (tparT i j l ta) := .of (ps_par3 hc hN hi hj hl hij hil hjl hx hy hz ha.pa hw hs) tpar3_low
/-- y = [.. for ..] -/
theorem svL (i : Nat) {y : Str} {py pos spos : Pos} {elt tg iter : Expr} {ifs : List Expr} {scope : Scope} {own : List (Str × Nat)} {ti : TId} {g : TGd} {js : List Nat} {tt : TTd} {te : TEd} (hN : X.N.Nodup) (hi : PId X tg iter ti) (ok : BlkOk X.N X.env.scope scope own) (hj : ∀ i ∈ js, i ∈ own.map (·.2))
    (hg : ∀ (s : Shared) (H : Hp) (C : Addr) (cl : List (Str × Addr)) (fp : List Addr), PGd (X.blk s H scope (compEnvC scope cl C X.env) fp) tg js g) (ht : ∀ (s : Shared) (H : Hp) (C : Addr) (cl : List (Str × Addr)) (fp : List Addr), PTsd (X.blk s H scope (compEnvC scope cl C X.env) fp) ifs tt)
    (he : ∀ (s : Shared) (H : Hp) (C : Addr) (cl : List (Str × Addr)) (fp : List Addr), PEd (X.blk s H scope (compEnvC scope cl C X.env) fp) elt te) (hc : X.calm = true := by rfl) (hy : X.N[i]? = some y := by rfl) (hyl : X.env.scope.names.lookup y = some .local := by rfl)
    (hsw : swapsWith (.ListComp elt [⟨tg, iter, ifs, 0⟩] scope pos) (some (.Name y py)) spos.line X.env = pure true := by rfl) (hs : ∀ x, foldedSetIterable iter X.env x = pure x := by intro _; rfl) :
    PSd X (.Assign [.Name y py] (.ListComp elt [⟨tg, iter, ifs, 0⟩] scope pos) spos) (tasg (tlc ti g tt te (own.map (·.2))) (gname i)) := psd_setLc hc hN hy hyl hsw hi ok hj hg ht he hs
end

/-! ### equations -/
/-- for: the turns -/
def forK (items : List D) (ok : Mem → Prop) (g : TGd) (tb : TSd) (E : Endsd) (ρ : Envd) (M : Mem) : Prop := ∃ W : Nat → Envd → Mem → Prop, W 0 ρ M ∧ ∀ i ρ M, i ≤ items.length → W i ρ M → ok M ∧ (match items[i]? with
  | none => E.nx ρ M
  | some x => g x ρ M fun ρ2 M2 => tb { E with nx := W (i + 1), ct := W (i + 1), bk := E.nx } ρ2 M2)
def lcK (items : List D) (ok : Mem → Prop) (g : TGd) (tt : TTd) (te : TEd) (vs : List Nat) (p : Addr) (ρ : Envd) (M1 : Mem) (Q : VKd) : Prop := ∃ W : Nat → List D → Mem → Prop, W 0 [] (put M1 p (.lst [])) ∧
  ∀ i acc M, i ≤ items.length → W i acc M → ok M ∧ (match items[i]? with
    | none => Q (.ref p) M
    | some x => g x (wiped ρ vs) M fun ρ2 M2 => tt ρ2 M2 fun b M3 => if b = true then te ρ2 M3 fun y M4 => M4 p = some (.lst acc) ∧ acc.length < sizeLine ∧ W (i + 1) (acc ++ [y]) (put M4 p (.lst (acc ++ [y]))) else W (i + 1) acc M3)
def dcK (b : Bool) (items : List D) (ok : Mem → Prop) (g : TGd) (tt : TTd) (tk tv : TEd) (vs : List Nat) (p : Addr) (ρ : Envd) (M1 : Mem) (Q : VKd) : Prop := ∃ W : Nat → List (D × D) → Mem → Prop, W 0 [] (put M1 p (dX b [])) ∧
  ∀ i acc M, i ≤ items.length → W i acc M → ok M ∧ (match items[i]? with
    | none => Q (.ref p) M
    | some x => g x (wiped ρ vs) M fun ρ2 M2 => tt ρ2 M2 fun c M3 => if c = true then tk ρ2 M3 fun k M4 => tv ρ2 M4 fun y M5 => M5 p = some (dX b acc) ∧ isKey b k = true ∧ acc.length < sizeLine ∧ W (i + 1) (dput acc k y) (put M5 p (dX b (dput acc k y)))
      else W (i + 1) acc M3)
section
variable {M : Mem} {Q : VKd} {ρ : Envd} {d x y z : D} {a b p : Addr} {i j : Int} {n : Nat} {xs ys : List D} {ta tb tc te : TEd} {t u tt : TTd} {T : TAd} {E : Endsd} {ti : TId} {g : TGd} {R : List D → (Mem → Prop) → Mem → Prop}
theorem f_for {tb : TSd} : tfor ti g tb E ρ M = ti ρ M fun items ok M1 => forK items ok g tb E ρ M1 := rfl
theorem f_lc {vs : List Nat} : tlc ti g tt te vs ρ M Q = ti ρ M fun items ok M1 => ∀ p, M1 p = none → lcK items ok g tt te vs p ρ M1 Q := rfl
theorem f_dc {b : Bool} {tk tv : TEd} {vs : List Nat} : tdc b ti g tt tk tv vs ρ M Q = ti ρ M fun items ok M1 => ∀ p, M1 p = none → dcK b items ok g tt tk tv vs p ρ M1 Q := rfl
def seqK (x : D) (M1 : Mem) (R : List D → (Mem → Prop) → Mem → Prop) : Prop := match x with
  | .tup ds => R ds (fun _ => True) M1
  | .ref a => (match rdL M1 a with
    | some ds => R ds (fun M => rdL M a = some ds) M1
    | none => False)
  | _ => False
theorem f_iseq : iseq te ρ M R = te ρ M fun x M1 => seqK x M1 R := rfl
theorem f_seqT : seqK (.tup xs) M R = R xs (fun _ => True) M := rfl
theorem f_seqR (h : rdL M a = some xs) : seqK (.ref a) M R = R xs (fun M => rdL M a = some xs) M := by simp only [seqK, h]
theorem f_seqL (h : M a = some (.lst xs)) : seqK (.ref a) M R = R xs (fun M => rdL M a = some xs) M := f_seqR (rdL_lst h)
theorem f_seqO (h : M a = some (.ro xs)) : seqK (.ref a) M R = R xs (fun M => rdL M a = some xs) M := f_seqR (rdL_ro h)
def rngK (ds : List D) (M1 : Mem) (R : List D → (Mem → Prop) → Mem → Prop) : Prop := match ds with
  | [.int j] => (-(2 ^ 62) ≤ j ∧ j < 2 ^ 62) ∧ R (intsD 0 j.toNat) (fun _ => True) M1
  | _ => False
theorem f_rng1 : irng1 T ρ M R = T ρ M fun ds M1 => rngK ds M1 R := rfl
theorem f_rngK : rngK [.int j] M R = ((-(2 ^ 62) ≤ j ∧ j < 2 ^ 62) ∧ R (intsD 0 j.toNat) (fun _ => True) M) := rfl
def zipK (ds : List D) (M1 : Mem) (R : List D → (Mem → Prop) → Mem → Prop) : Prop := match ds with
  | [.tup xs, .tup ys] => R (pairs xs ys) (fun _ => True) M1
  | [.ref a, .ref b] => (match rdL M1 a, rdL M1 b with
    | some xs, some ys => R (pairs xs ys) (fun M => rdL M a = some xs ∧ rdL M b = some ys) M1
    | _, _ => False)
  | _ => False
theorem f_zip : izip T ρ M R = T ρ M fun ds M1 => zipK ds M1 R := rfl
theorem f_zipT : zipK [.tup xs, .tup ys] M R = R (pairs xs ys) (fun _ => True) M := rfl
theorem f_yes {Q : Bool → Mem → Prop} : tyes ρ M Q = Q true M := rfl
theorem f_par3 {i j l : Nat} : tparT i j l T E ρ M = T ρ M fun ds M1 => tpar3 i j l ds E ρ M1 := rfl
theorem f_par3K {i j l : Nat} : tpar3 i j l [x, y, z] E ρ M = E.nx (((ρ.set i (some x)).set j (some y)).set l (some z)) M := rfl
theorem f_isi {n : String} : isiR [d, .ty n] M Q = isiK ((kindD M d).bind fun t => kitB t n) M Q := rfl
theorem f_isiK {b : Bool} : isiK (some b) M Q = Q (.bl b) M := rfl
theorem f_fld {K : PySem.W.Frag} {f : Str} : tfld K f te ρ M Q = te ρ M fun x M1 => ∃ a C fs d, x = .ref a ∧ M1 a = some (.exi C fs) ∧ ExK K C ∧ PySem.W.findIn K (.ref C) f = some none ∧ fs.lookup f = some d ∧ Q d M1 := rfl
theorem f_mkE {C : Addr} {ns : List Str} : tmkE C ns T ρ M Q = T ρ M fun ds M1 => ds.length = ns.length ∧ ∀ a, M1 a = none → Q (.ref a) (put M1 a (.exi C (ns.zip ds).reverse)) := rfl
theorem f_mk0 {C : Addr} : tmk0 C ρ M Q = ∀ a, M a = none → Q (.ref a) (put M a (.exi C [])) := rfl
theorem f_slice {tl th : TOd} : tslice te tl th ρ M Q = te ρ M fun x M1 => tl ρ M1 fun lo M2 => th ρ M2 fun hi M3 => slR x lo hi M3 Q := rfl
theorem f_nopart {Q : Option Int → Mem → Prop} : tnopart ρ M Q = Q none M := rfl
def partK (x : D) (M1 : Mem) (Q : Option Int → Mem → Prop) : Prop := match x with
  | .int i => Q (some i) M1
  | _ => False
theorem f_part {Q : Option Int → Mem → Prop} : tpart te ρ M Q = te ρ M fun x M1 => partK x M1 Q := rfl
theorem f_partK {Q : Option Int → Mem → Prop} : partK (.int i) M Q = Q (some i) M := rfl
theorem f_slT {lo hi : Option Int} : slR (.tup xs) lo hi M Q = Q (.tup (cutD xs lo hi)) M := rfl
end

/-! ### rows, whatever bears them -/
theorem g_len {M : Mem} {d : D} {xs : List D} {Q : VKd} (h : rdS M d = some xs) : lenR [d] M Q = Q (.int xs.length) M := by
  show lenR1 d M Q = _
  cases d with
  | tup ys => simp [rdS] at h; subst h; rfl
  | ref a => simp only [rdS] at h; simp only [lenR1, h]
  | _ => simp [rdS] at h
theorem g_ix {M : Mem} {d x : D} {xs : List D} {i : Int} {Q : VKd} (h : rdS M d = some xs) (e : atI xs i = some x) : ixR d (.int i) M Q = Q x M := by
  cases d with
  | tup ys => simp [rdS] at h; subst h; simp only [ixR, e]
  | ref a => simp only [rdS] at h; simp only [ixR, ixRef, h, e]
  | _ => simp [rdS] at h
theorem atI_mem {xs : List D} {i : Int} (h0 : 0 ≤ i) (h1 : i < xs.length) : ∃ x, x ∈ xs ∧ atI xs i = some x := by
  have hl : i.toNat < xs.length := by omega
  refine ⟨xs[i.toNat], List.getElem_mem hl, ?_⟩
  unfold atI ixN
  rw [if_pos h0, if_pos (by omega)]
  simp [hl]
theorem rdS_keep {M M' : Mem} {d : D} (h : ∀ a, d = .ref a → M' a = M a) : rdS M' d = rdS M d := by
  cases d with
  | ref a => simp only [rdS, rdL, h a rfl]
  | _ => rfl

/-! ### loops by invariants -/
theorem for_inv {items : List D} {ok : Mem → Prop} {g : TGd} {tb : TSd} {E : Endsd} {ρ : Envd} {M : Mem} (W : Nat → Envd → Mem → Prop) (w0 : W 0 ρ M) (hok : ∀ i ρ M, i ≤ items.length → W i ρ M → ok M)
    (step : ∀ i x ρ M, items[i]? = some x → W i ρ M → g x ρ M fun ρ2 M2 => tb { E with nx := W (i + 1), ct := W (i + 1), bk := E.nx } ρ2 M2) (fin : ∀ ρ M, W items.length ρ M → E.nx ρ M) : forK items ok g tb E ρ M := by
  refine ⟨W, w0, fun i ρ M hi w => ⟨hok i ρ M hi w, ?_⟩⟩
  cases e : items[i]? with
  | none =>
    have : i = items.length := by
      have := List.getElem?_eq_none_iff.mp e
      omega
    subst this
    exact fin ρ M w
  | some x => exact step i x ρ M e w
/-- what stood stays -/
def Keep (M M' : Mem) : Prop := ∀ b o, M b = some o → M' b = some o
theorem Keep.refl {M : Mem} : Keep M M := fun _ _ h => h
theorem Keep.trans {M1 M2 M3 : Mem} (h : Keep M1 M2) (k : Keep M2 M3) : Keep M1 M3 := fun b o e => k b o (h b o e)
theorem Keep.new {M : Mem} {p : Addr} {o : DO} (h : M p = none) : Keep M (put M p o) := fun b u e => by rw [put_ne (ne_none e h)]; exact e
theorem Keep.put {M M' : Mem} {p : Addr} {o : DO} (k : Keep M M') (h : M p = none) : Keep M (put M' p o) := fun b u e => by rw [put_ne (ne_none e h)]; exact k b u e
theorem lc_inv {items : List D} {ok : Mem → Prop} {g : TGd} {tt : TTd} {te : TEd} {vs : List Nat} {p : Addr} {ρ : Envd} {M1 : Mem} {Q : VKd} (W : Nat → List D → Mem → Prop) (w0 : W 0 [] (put M1 p (.lst []))) (hok : ∀ i acc M, i ≤ items.length → W i acc M → ok M)
    (step : ∀ i x acc M, items[i]? = some x → W i acc M → g x (wiped ρ vs) M fun ρ2 M2 => tt ρ2 M2 fun b M3 => if b = true then te ρ2 M3 fun y M4 => M4 p = some (.lst acc) ∧ acc.length < sizeLine ∧ W (i + 1) (acc ++ [y]) (put M4 p (.lst (acc ++ [y]))) else W (i + 1) acc M3)
    (fin : ∀ acc M, W items.length acc M → Q (.ref p) M) : lcK items ok g tt te vs p ρ M1 Q := by
  refine ⟨W, w0, fun i acc M hi w => ⟨hok i acc M hi w, ?_⟩⟩
  cases e : items[i]? with
  | none =>
    have : i = items.length := by
      have := List.getElem?_eq_none_iff.mp e
      omega
    subst this
    exact fin acc M w
  | some x => exact step i x acc M e w
theorem take_succ_some {α : Type} {l : List α} {i : Nat} {x : α} (h : l[i]? = some x) : l.take (i + 1) = l.take i ++ [x] := by
  rw [List.take_add_one, h]
  rfl
/-- each item gives F x, or nothing; what stood stays -/
theorem lc_pure {items : List D} {ok : Mem → Prop} {g : TGd} {tt : TTd} {te : TEd} {vs : List Nat} {p : Addr} {ρ : Envd} {M1 : Mem} {Q : VKd} (F : D → Option D) (hp : M1 p = none) (hl : items.length < sizeLine) (hok : ∀ M, Keep M1 M → ok M)
    (step : ∀ x ∈ items, ∀ (M : Mem) (acc : List D), Keep M1 M → M p = some (.lst acc) → ∀ (Ky : D → Mem → Prop) (Kn : Mem → Prop), (∀ M' y, F x = some y → Keep M M' → Ky y M') → (∀ M', F x = none → Keep M M' → Kn M') →
      g x (wiped ρ vs) M fun ρ2 M2 => tt ρ2 M2 fun b M3 => if b = true then te ρ2 M3 Ky else Kn M3)
    (fin : ∀ M, Keep M1 M → M p = some (.lst (items.filterMap F)) → Q (.ref p) M) : lcK items ok g tt te vs p ρ M1 Q := by
  refine lc_inv (fun i acc M => Keep M1 M ∧ M p = some (.lst acc) ∧ acc = (items.take i).filterMap F) ⟨Keep.new hp, put_same, by simp⟩ (fun i acc M _ w => hok M w.1) (fun i x acc M e w => ?_) fun acc M w => ?_
  · obtain ⟨k, hM, ea⟩ := w
    have hlen : acc.length ≤ i := by
      rw [ea]
      exact Nat.le_trans (List.length_filterMap_le _ _) (by rw [List.length_take]; omega)
    have hi : i < items.length := (List.getElem?_eq_some_iff.mp e).1
    refine step x (List.mem_of_getElem? e) M acc k hM _ _ (fun M' y ey kM => ⟨kM p _ hM, by omega, (k.trans kM).put hp, put_same, ?_⟩) fun M' ey kM => ⟨k.trans kM, kM p _ hM, ?_⟩
    · rw [take_succ_some e, List.filterMap_append, ← ea]
      simp [ey]
    · rw [take_succ_some e, List.filterMap_append, ← ea]
      simp [ey]
  · obtain ⟨k, hM, ea⟩ := w
    rw [List.take_length] at ea
    rw [ea] at hM
    exact fin M k hM

theorem fun_of {K : PySem.W.Frag} {x q : Str} {st : Stmt} {kws : List (Str × V)} {f : Addr} {fd : FuncData} (F : FunD K x q (defArgs st) (defBody st) (defScope st) [] kws f fd) : Fun K x q st f fd := by
  obtain ⟨oc, od, dV, kV, doc, pm, an, cdv, ct, osl, e, lk, hcd, hD, hK⟩ := F.ex
  rcases hD with ⟨_, rfl⟩ | ⟨z, _⟩
  · exact ⟨⟨oc, od, kV, doc, pm, an, cdv, ct, osl, e, lk, hcd⟩, F.kp⟩
  · exact absurd rfl z
end DL

end T_DLY

section T_DLI
set_option Elab.async false
set_option linter.all false
set_option maxRecDepth 100000
set_option maxHeartbeats 2000000
/-! The D layer, I: what __init__ of an own exception does. -/
namespace DL
open PySem PySem.Spec L2
open PyProof.Rows hiding St

/-! ### __init__ of an own exception -/
section
variable {P : Program} {w : World} {K : PySem.W.Frag} {mg : Str → Option Value} {base : Heap} {C f : Addr} {fd : FuncData} {q : Str} {st : Stmt}
theorem upd_turn {H : Hp} {a b : Addr} {x y z : HO} (h : a ≠ b) : upd (upd (upd H a x) b y) a z = upd (upd H a z) b y := by
  funext c
  unfold upd
  by_cases h1 : c = a
  · subst h1
    simp [h]
  · simp [h1]
theorem ini1 {n1 : Str} {p1 p2 p3 p4 : Pos} (F : Fun K "__init__" q st f fd) (S : FnScope ["self", n1] ["self", n1] (defScope st)) (hb : defBody st = [.Assign [.Attribute (.Name "self" p1) n1 p2] (.Name n1 p3) p4]) (T : OexC K C)
    (h1 : PySem.W.findIn K (.ref C) n1 = some none) (d1 : (n1 == ("__debug__" : Str)) = false) (c1 : (n1 == ("__classdict__" : Str)) = false) (v1 : (defScope st).names.lookup n1 = some .local) (v0 : (defScope st).names.lookup ("self" : Str) = some .local) : FnOk P w K mg base (L2.CX P w) 1 f fd ["self", n1] (spIni C [n1]) := by
  refine F.okX S (fun vs H Q E h => ?_) (fun cdv A outer s H vs Q E hr h => ⟨tOst K n1 (tVar 0) (tVar 1), ?_, ?_⟩)
  · obtain ⟨a, xs, rfl, hl, _⟩ := h
    simp [hl]
  · rw [hb]
    exact pss_one (ps_ost (pe_var rfl (.inl v0) (by decide) (by decide)) (pe_var rfl (.inl v1) d1 c1))
  · obtain ⟨a, xs, rfl, hl, ha, k⟩ := h
    match xs, hl with
    | [x], _ => exact ⟨_, rfl, _, rfl, a, C, rfl, T, h1, .inl ⟨ha, fun dx n ne => k dx n ne⟩⟩
theorem ini2 {n1 n2 : Str} {p1 p2 p3 p4 q1 q2 q3 q4 : Pos} (F : Fun K "__init__" q st f fd) (S : FnScope ["self", n1, n2] ["self", n1, n2] (defScope st))
    (hb : defBody st = [.Assign [.Attribute (.Name "self" p1) n1 p2] (.Name n1 p3) p4, .Assign [.Attribute (.Name "self" q1) n2 q2] (.Name n2 q3) q4]) (T : OexC K C)
    (h1 : PySem.W.findIn K (.ref C) n1 = some none) (d1 : (n1 == ("__debug__" : Str)) = false) (c1 : (n1 == ("__classdict__" : Str)) = false) (v1 : (defScope st).names.lookup n1 = some .local) (v0 : (defScope st).names.lookup ("self" : Str) = some .local)
    (h2 : PySem.W.findIn K (.ref C) n2 = some none) (d2 : (n2 == ("__debug__" : Str)) = false) (c2 : (n2 == ("__classdict__" : Str)) = false) (v2 : (defScope st).names.lookup n2 = some .local) : FnOk P w K mg base (L2.CX P w) 1 f fd ["self", n1, n2] (spIni C [n1, n2]) := by
  refine F.okX S (fun vs H Q E h => ?_) (fun cdv A outer s H vs Q E hr h => ⟨tSeq (tOst K n1 (tVar 0) (tVar 1)) (tOst K n2 (tVar 0) (tVar 2)), ?_, ?_⟩)
  · obtain ⟨a, xs, rfl, hl, _⟩ := h
    simp [hl]
  · rw [hb]
    exact pss_cons (ps_ost (pe_var rfl (.inl v0) (by decide) (by decide)) (pe_var rfl (.inl v1) d1 c1)) (pss_one (ps_ost (pe_var rfl (.inl v0) (by decide) (by decide)) (pe_var rfl (.inl v2) d2 c2)))
  · obtain ⟨a, xs, rfl, hl, ha, k⟩ := h
    match xs, hl with
    | [x, y], _ =>
      refine ⟨_, rfl, _, rfl, a, C, rfl, T, h1, .inl ⟨ha, fun dx n ne => ⟨_, rfl, _, rfl, a, C, rfl, T, h2, .inr ⟨dx, [(n1, x)], upd_same, by rw [upd_ne ne, upd_same], by simp, ?_⟩⟩⟩⟩
      have e := k dx n ne
      rw [upd_turn ne]
      exact e
theorem ini3 {n1 n2 n3 : Str} {p1 p2 p3 p4 q1 q2 q3 q4 r1 r2 r3 r4 : Pos} (F : Fun K "__init__" q st f fd) (S : FnScope ["self", n1, n2, n3] ["self", n1, n2, n3] (defScope st))
    (hb : defBody st = [.Assign [.Attribute (.Name "self" p1) n1 p2] (.Name n1 p3) p4, .Assign [.Attribute (.Name "self" q1) n2 q2] (.Name n2 q3) q4, .Assign [.Attribute (.Name "self" r1) n3 r2] (.Name n3 r3) r4]) (T : OexC K C)
    (h1 : PySem.W.findIn K (.ref C) n1 = some none) (d1 : (n1 == ("__debug__" : Str)) = false) (c1 : (n1 == ("__classdict__" : Str)) = false) (v1 : (defScope st).names.lookup n1 = some .local) (v0 : (defScope st).names.lookup ("self" : Str) = some .local)
    (h2 : PySem.W.findIn K (.ref C) n2 = some none) (d2 : (n2 == ("__debug__" : Str)) = false) (c2 : (n2 == ("__classdict__" : Str)) = false) (v2 : (defScope st).names.lookup n2 = some .local)
    (h3 : PySem.W.findIn K (.ref C) n3 = some none) (d3 : (n3 == ("__debug__" : Str)) = false) (c3 : (n3 == ("__classdict__" : Str)) = false) (v3 : (defScope st).names.lookup n3 = some .local) : FnOk P w K mg base (L2.CX P w) 1 f fd ["self", n1, n2, n3] (spIni C [n1, n2, n3]) := by
  refine F.okX S (fun vs H Q E h => ?_) (fun cdv A outer s H vs Q E hr h => ⟨tSeq (tOst K n1 (tVar 0) (tVar 1)) (tSeq (tOst K n2 (tVar 0) (tVar 2)) (tOst K n3 (tVar 0) (tVar 3))), ?_, ?_⟩)
  · obtain ⟨a, xs, rfl, hl, _⟩ := h
    simp [hl]
  · rw [hb]
    exact pss_cons (ps_ost (pe_var rfl (.inl v0) (by decide) (by decide)) (pe_var rfl (.inl v1) d1 c1)) (pss_cons (ps_ost (pe_var rfl (.inl v0) (by decide) (by decide)) (pe_var rfl (.inl v2) d2 c2)) (pss_one (ps_ost (pe_var rfl (.inl v0) (by decide) (by decide)) (pe_var rfl (.inl v3) d3 c3))))
  · obtain ⟨a, xs, rfl, hl, ha, k⟩ := h
    match xs, hl with
    | [x, y, z], _ =>
      refine ⟨_, rfl, _, rfl, a, C, rfl, T, h1, .inl ⟨ha, fun dx n ne => ⟨_, rfl, _, rfl, a, C, rfl, T, h2, .inr ⟨dx, [(n1, x)], upd_same, by rw [upd_ne ne, upd_same], by simp, ⟨_, rfl, _, rfl, a, C, rfl, T, h3, .inr ⟨dx, [(n2, y), (n1, x)], by rw [upd_ne (Ne.symm ne), upd_same], upd_same, by simp, ?_⟩⟩⟩⟩⟩⟩
      have e := k dx n ne
      rw [upd_upd, upd_turn ne]
      exact e
end
end DL

end T_DLI

section T_DLH
set_option Elab.async false
set_option linter.all false
set_option maxRecDepth 100000
set_option maxHeartbeats 2000000
/-! The D layer, H: facts of the head, as Bools. -/
namespace DL
open PySem PySem.Spec L2
open PyProof.Rows hiding St

/-- the method m of the class that the top statement st makes -/
def methOf (st : Stmt) (j : Nat) : Stmt := match st with
  | .ClassDef _ _ _ body _ _ _ _ _ _ _ => body.getD j (.Pass ⟨0, 0, 0, 0⟩)
  | _ => .Pass ⟨0, 0, 0, 0⟩
def topDef (x : Str) (st : Stmt) : He.DefD := ⟨(x, none), x, x, defArgs st, defBody st, defScope st, [], []⟩
def metDef (c m : Str) (q : Str) (st : Stmt) : He.DefD := ⟨(c, some m), m, q, defArgs st, defBody st, defScope st, [], []⟩
def oexB (K : PySem.W.Frag) (C : Addr) : Bool := (match K.lookup C with
  | some ⟨.type "type", _, .cls cd, sl⟩ => (match cd.mro, sl.toList with
    | .ref C' :: bm, [_, _, _, _, some (.builtin n), _] => C' == C && n == "ValueError.__new__" && cd.hasDict && !cd.hasDel && PySem.HandSPX.refsVE bm
    | _, _ => false)
  | _ => false) && decide (PySem.W.findIn K (.ref C) "__setattr__" = some (some (.builtin "object.__setattr__"))) && decide (PySem.W.subIn K (.ref C) (.type "BaseException") = some true) && decide (PySem.W.typeIn K (.ref C) = some (.type "type")) && PySem.W.keepIn K (.ref C)
theorem oexB_ok {K : PySem.W.Frag} {C : Addr} (h : oexB K C = true) : OexC K C := by
  unfold oexB at h
  simp only [Bool.and_eq_true, decide_eq_true_eq] at h
  obtain ⟨⟨⟨⟨q, h2⟩, h3⟩, h4⟩, h5⟩ := h
  refine ⟨?_, h2, h3, h4, h5⟩
  split at q
  · rename_i dd cd sl ho
    split at q
    · rename_i C' bm k0 k1 k2 k3 n k5 hm hs
      simp only [Bool.and_eq_true, beq_iff_eq, Bool.not_eq_true'] at q
      obtain ⟨⟨⟨⟨e1, e2⟩, e3⟩, e4⟩, e5⟩ := q
      subst e1 e2
      obtain ⟨nm, bs, mro, ns, qn, hd, sn, sub, ab, col, dl⟩ := cd
      dsimp only at hm e3 e4
      subst hm e3 e4
      obtain ⟨l⟩ := sl
      have hsl : l = [k0, k1, k2, k3, some (.builtin "ValueError.__new__"), k5] := hs
      subst hsl
      exact ⟨nm, qn, ns, bs, bm, sn, sub, ab, col, dd, k0, k1, k2, k3, k5, ho, e5⟩
    · cases q
  · cases q
def iniB (K : PySem.W.Frag) (x : Str) : Bool := decide (PySem.W.findIn K (.ref (He.ga K x)) "__init__" = some (some (.ref (He.fAd K (x, some "__init__"))))) && decide (PySem.W.typeIn K (.ref (He.fAd K (x, some "__init__"))) = some (.type "function"))
/-- no list stands in the written part -/
def noLst (K : PySem.W.Frag) : Bool := K.all fun p => !decide (p.2.cls = .type "list")
theorem noLst_rd {K : PySem.W.Frag} {H : Hp} {a : Addr} {xs : List V} (h : noLst K = true) (s : SqL K H a xs) : Rd H a (.lst xs) := by
  rcases s with s | ⟨o, its, n, hk, hc, _⟩
  · exact s
  · have z := List.all_eq_true.mp h (a, o) (He.lookup_mem hk)
    simp [hc] at z
/-- the law's call, from its promise on data -/
theorem lowLaw {K : PySem.W.Frag} {H : Hp} {a : Addr} {ns : List Int} {s : SpD} (hl : noLst K = true) (hS : SqL K H a (ns.map V.int)) (h : ∀ M : Mem, M a = some (.ro (ns.map D.int)) → s [.ref a] M (fun d _ => d = .bl true) fun _ _ _ => False) :
    lowSp K s [.ref a] H (fun v _ => v = .bl true) fun _ _ _ => False := by
  have rl : ∀ l : List Int, RelL H (l.map D.int) (l.map V.int) := fun l => by
    induction l with
    | nil => exact .nil
    | cons x l ih => exact .cons rfl ih
  refine ⟨[.ref a], fun b => if b = a then some (.ro (ns.map D.int)) else none, fun d _ => d = .bl true, fun _ _ _ => False, .cons rfl .nil, fun b o e => ?_, h _ (if_pos rfl), fun v H' d M' _ r _ q => ?_, fun _ _ _ _ _ _ _ _ _ _ z => z⟩
  · by_cases hb : b = a
    · subst hb
      have e2 := (if_pos rfl).symm.trans e
      cases e2
      exact ⟨ns.map V.int, noLst_rd hl hS, rl ns⟩
    · have e2 := (if_neg hb).symm.trans e
      cases e2
  · subst q
    exact r
end DL

end T_DLH

section T_DM1
set_option Elab.async false
set_option linter.all false
set_option maxRecDepth 100000
set_option maxHeartbeats 1000000
/-! The D layer, M1: the module's own tuples and dicts, as they are written. -/
namespace DL
open PySem PySem.Spec L2
open PyProof.Rows hiding St

def dOf : Value → Option D
  | .none => some .non
  | .bool b => some (.bl b)
  | .int i _ => some (.int i)
  | .str x _ => some (.str x)
  | .ref a => some (.ref a)
  | _ => none
def vOf : D → V
  | .int i => .int i
  | .ref a => .ref a
  | .bl b => .bl b
  | .str x => .str x
  | _ => .non
theorem dOf_rel {H : Hp} {v : Value} {d : D} (e : dOf v = some d) : Rel H d (vOf d) ∧ L2.RelV (vOf d) v := by
  cases v <;> cases e
  · exact ⟨rfl, rfl⟩
  · exact ⟨rfl, rfl⟩
  · exact ⟨rfl, _, rfl⟩
  · exact ⟨rfl, _, rfl⟩
  · exact ⟨rfl, rfl⟩
/-- a written tuple's items -/
def KT (K : PySem.W.Frag) (a : Addr) : Option (List D) := match K.lookup a with
  | some o => if o.cls = .type "tuple" then (match o.data with
    | .seq its _ => if its.size ≤ sizeLine then its.toList.mapM dOf else none
    | _ => none) else none
  | none => none
theorem mapM_dOf {H : Hp} : ∀ {its : List Value} {ds : List D}, its.mapM dOf = some ds → RelL H ds (ds.map vOf) ∧ Vals (ds.map vOf) its
  | [], ds, e => by
    simp at e
    subst e
    exact ⟨.nil, .nil⟩
  | u :: its, ds, e => by
    rw [List.mapM_cons] at e
    cases h1 : dOf u with
    | none => rw [h1] at e; cases e
    | some d =>
      cases h2 : its.mapM dOf with
      | none => rw [h1, h2] at e; cases e
      | some ds' =>
        rw [h1, h2] at e
        have e2 : d :: ds' = ds := Option.some.inj e
        subst e2
        obtain ⟨r, q⟩ := mapM_dOf (H := H) h2
        obtain ⟨r1, q1⟩ := dOf_rel (H := H) h1
        exact ⟨.cons r1 r, .cons q1 q⟩
theorem KT_seq {K : PySem.W.Frag} {H : Hp} {a : Addr} {ds : List D} (h : KT K a = some ds) : SqT K H a (ds.map vOf) ∧ RelL H ds (ds.map vOf) := by
  unfold KT at h
  split at h
  · rename_i o ho
    split at h
    · rename_i hc
      split at h
      · rename_i its n hd
        split at h
        · rename_i hz
          obtain ⟨r, q⟩ := mapM_dOf (H := H) h
          exact ⟨.inr ⟨o, its, n, ho, hc, hd, hz, q⟩, r⟩
        · cases h
      · cases h
    · cases h
  · cases h
/-- a tuple's items: one of ours, a written one -/
def rdT (K : PySem.W.Frag) : D → Option (List D)
  | .tup xs => some xs
  | .ref a => KT K a
  | _ => none
theorem rdT_seq {K : PySem.W.Frag} {H : Hp} {d : D} {v : V} {xs : List D} (r : Rel H d v) (h : rdT K d = some xs) : ∃ p vs, v = .ref p ∧ ∀ H', Tle H H' → SqT K H' p vs ∧ RelL H' xs vs := by
  cases d with
  | tup ys =>
    have h : some ys = some xs := h
    cases h
    obtain ⟨p, vs, e, q, rl⟩ := r
    exact ⟨p, vs, e, fun H' t => ⟨.of (t p vs q), rl.tle t⟩⟩
  | ref a =>
    cases r
    exact ⟨a, _, rfl, fun H' t => KT_seq h⟩
  | _ => cases h
/-- for .. in a tuple, a written one too -/
def iseqT (K : PySem.W.Frag) (te : TEd) : TId := fun ρ M R => te ρ M fun x M1 => ∃ ds, rdT K x = some ds ∧ R ds (fun _ => True) M1
def izipT (K : PySem.W.Frag) (ta : TAd) : TId := fun ρ M R => ta ρ M fun zs M1 => ∃ x y xs ys, zs = [x, y] ∧ rdT K x = some xs ∧ rdT K y = some ys ∧ R (pairs xs ys) (fun _ => True) M1
section
variable {X : Cx} {tg l : Expr} {te : TEd} {ta : TAd} {p pos : Pos}
theorem itrel_T {K : PySem.W.Frag} {H0 : Hp} {a : Addr} {vs : List V} {ds : List D} (h : ∀ H', Tle H0 H' → SqT K H' a vs ∧ RelL H' ds vs) : ItRel K H0 (Itt K a) ds (fun _ => True) where
  go := fun i H M t m _ hi => by
    obtain ⟨q, r⟩ := h H t
    obtain ⟨v, e, _⟩ := r.get (List.getElem?_eq_getElem hi)
    exact ⟨vs, v, q, e⟩
  stop := fun H M t m _ => ⟨vs, (h H t).1, Nat.le_of_eq (h H t).2.length⟩
  yld := fun i H M x H' d t m _ hd y => by
    obtain ⟨q, r⟩ := h H t
    obtain ⟨e, y⟩ := y
    subst e
    obtain ⟨v, ev, rv⟩ := r.get hd
    have z := y vs q
    rw [ev] at z
    cases z
    exact ⟨.refl, m, rv⟩
theorem pid_seqT (hl : PEd X l te) : PId X tg l (iseqT X.K te) := by
  have gen : PI X tg l (fun σ H R => lowE X.K te σ H fun x H1 => ∃ a, x = .ref a ∧ (∃ xs, SqT X.K H1 a xs) ∧ R (Itt X.K a) H1) := by
    refine ⟨fun pins s σ H R I h => ?_⟩
    refine thn (hl.pe.run pins s σ H _ I h) fun v s1 w => ?_
    obtain ⟨x, H1, I1, r1, a, e, ⟨xs, hq⟩, q⟩ := w
    subst e
    cases r1
    obtain ⟨its, rv, pl, hz⟩ := I1.tuple hq
    exact wpAny_pyIter_tuple (show s1.heap.IsTuple a its.toArray from pl) (pi_one (tk := s1.toks) I1 _ (turn_tuple a _) ⟨_, Heap.get?_push_size _ rfl, rfl, rfl⟩ q)
  refine .of gen fun σ H R h => ?_
  obtain ⟨ρ, M, R0, re, rm, h, k⟩ := h
  refine ⟨ρ, M, _, re, rm, h, fun x H1 dx M1 t1 r1 m1 h1 => ?_⟩
  obtain ⟨ds, hd, h1⟩ := h1
  obtain ⟨a, vs, e, hh⟩ := rdT_seq r1 hd
  exact ⟨a, e, ⟨vs, (hh H1 .refl).1⟩, k _ H1 ds _ M1 t1 m1 (itrel_T hh) h1⟩
theorem pid_zipT {e e2 : Expr} {elts : List Expr} {kk : Nat} {tpos : Pos} (hg : Gl X "zip") (hm : X.mg "zip" = none) (ha : PAd X [e, e2] ta)
    (hs : starEach [e, e2] X.env = (false, eval e X.env) :: starEach [e2] X.env := by rfl) (hpl : (backTo pos (starEach [e2] X.env)).any (·.1) = false := by rfl) :
    PId X (.Tuple elts kk tpos) (.Call (.Name "zip" p) [e, e2] [] pos) (izipT X.K ta) := by
  refine .of (RZ.pi_zipA hg hm ha.pa hs hpl) fun σ H R h => ?_
  obtain ⟨ρ, M, R0, re, rm, h, k⟩ := h
  refine ⟨ρ, M, _, re, rm, h, fun vs H1 ds M1 t1 r1 m1 h1 => ?_⟩
  obtain ⟨dx, dy, xs, ys, e, hx, hy, h1⟩ := h1
  subst e
  obtain ⟨v, _, e1, rx, w, _, e2, ry, e3⟩ := r1
  obtain ⟨a, us, ea, qa⟩ := rdT_seq rx hx
  obtain ⟨b, ws, eb, qb⟩ := rdT_seq ry hy
  subst ea eb e3 e2 e1
  refine ⟨a, b, us, ws, rfl, .inr ⟨(qa H1 .refl).1, (qb H1 .refl).1, k _ H1 (pairs xs ys) (fun _ => True) M1 t1 m1 ⟨fun i H M t m _ hi => ?_, fun H M t m _ => ?_, fun i H M x H' d t m _ hd y => ?_⟩ h1⟩⟩
  · rw [pairs_length] at hi
    obtain ⟨x, ex, _⟩ := (qa H t).2.get (List.getElem?_eq_getElem (show i < xs.length by omega))
    obtain ⟨y, ey, _⟩ := (qb H t).2.get (List.getElem?_eq_getElem (show i < ys.length by omega))
    exact ⟨us, ws, x, y, (qa H t).1, (qb H t).1, ex, ey⟩
  · refine ⟨us, ws, (qa H t).1, (qb H t).1, ?_⟩
    have l1 := (qa H t).2.length
    have l2 := (qb H t).2.length
    rw [pairs_length]
    omega
  · obtain ⟨dx, dy, ex, ey, ed⟩ := pairs_get hd
    obtain ⟨T, x1, y1, e, hT, eH, qx, qy⟩ := y
    obtain ⟨x2, gx, rx⟩ := (qa H t).2.get ex
    obtain ⟨y2, gy, ry⟩ := (qb H t).2.get ey
    have z := qx us (qa H t).1
    rw [gx] at z
    cases z
    have z := qy ws (qb H t).1
    rw [gy] at z
    cases z
    subst e eH ed
    exact ⟨.new hT, m.more hT, rel_pair hT rx ry⟩
end
/-! ### d[n] of a written dict -/
def kdI (K : PySem.W.Frag) (a : Addr) (n : Int) : Option D := match K.lookup a with
  | some o => if o.cls = .type "dict" then (match o.data with
    | .dict es _ => if es.toList.all (fun e => match e.key with
        | .int k _ => e.hash == hashInt k
        | _ => false) then (findBy Value.isInt es n).bind dOf else none
    | _ => none) else none
  | none => none
theorem kdI_map {K : PySem.W.Frag} {h : Heap} {a : Addr} {n : Int} {d : D} (X : K.In h) (e : kdI K a n = some d) : ∃ f v, h.IntMap a f ∧ f n = some v ∧ dOf v = some d := by
  unfold kdI at e
  split at e
  · rename_i o ho
    split at e
    · rename_i hc
      split at e
      · rename_i es ep hd
        split at e
        · rename_i hk
          obtain ⟨v, hv, hd2⟩ := Option.bind_eq_some_iff.mp e
          refine ⟨fun k => findBy Value.isInt es k, v, ⟨o, es, ep, X _ _ ho, hc, hd, fun y hy => ?_, fun _ => rfl⟩, hv, hd2⟩
          have z := List.all_eq_true.mp hk y (Array.mem_toList_iff.mpr hy)
          split at z
          · rename_i k t ek
            exact ⟨k, t, ek, by simpa using z⟩
          · cases z
        · cases e
      · cases e
    · cases e
  · cases e
/-- d[n] of a written dict; t[n] of a written tuple -/
def ixW (K : PySem.W.Frag) : R2d := fun x y M Q => ∃ a n, x = .ref a ∧ y = .int n ∧ ((∃ d, kdI K a n = some d ∧ Q d M) ∨ ∃ ds d, KT K a = some ds ∧ atI ds n = some d ∧ Q d M)
section
variable {X : Cx}
theorem ix_dictW : IxR X (fun x y H Q => ∃ a n d, x = V.ref a ∧ y = V.int n ∧ kdI X.K a n = some d ∧ Q (vOf d) H) := by
  intro value slice pins s σ H x y v u Q I rx ry q hs
  obtain ⟨a, n, d, e1, e2, hk, q⟩ := q
  subst e1 e2
  cases rx
  obtain ⟨t, rfl⟩ := ry
  obtain ⟨f, w, hm, hv, hd⟩ := kdI_map I.kIn hk
  exact tail_any hm.typeIs slot_dict_getitem.lookup (wpAny_getItem_intMap hm hv ⟨_, _, I.tok _, (dOf_rel (H := H) hd).2, q⟩) hs
theorem kdI_rel {K : PySem.W.Frag} {H : Hp} {a : Addr} {n : Int} {d : D} (e : kdI K a n = some d) : Rel H d (vOf d) := by
  unfold kdI at e
  split at e
  · split at e
    · split at e
      · split at e
        · obtain ⟨v, _, hd⟩ := Option.bind_eq_some_iff.mp e
          exact (dOf_rel hd).1
        · cases e
      · cases e
    · cases e
  · cases e
theorem ix_W : IxR X (lowR2 X.K (ixW X.K)) := by
  refine IxR.mono (IxR.or ix_dictW ix_tup) fun x y H Q w => ?_
  obtain ⟨dx, dy, M, Q0, rx, ry, m, h, k⟩ := w
  obtain ⟨a, n, e1, e2, h⟩ := h
  subst e1 e2
  cases rx
  cases ry
  rcases h with ⟨d, hd, q⟩ | ⟨ds, d, hd, ha, q⟩
  · exact .inl ⟨a, n, d, rfl, rfl, hd, k.any (kdI_rel hd) m q⟩
  · obtain ⟨s, r⟩ := KT_seq (H := H) hd
    obtain ⟨v, ev, rv⟩ := r.atI ha
    exact .inr ⟨a, _, n, v, rfl, rfl, s, ev, k.any rv m q⟩
theorem ped_ixW {a b : Expr} {ta tb : TEd} {pos : Pos} (ha : PEd X a ta) (hb : PEd X b tb) (hs : PlainIx b := by intro _ _; rfl) : PEd X (.Subscript a b pos) (top2 (ixW X.K) ta tb) := .of (pe_ix ix_W ha.pe hb.pe hs) top2_low
end
end DL

end T_DM1

section T_DM2
set_option Elab.async false
set_option linter.all false
set_option maxRecDepth 100000
set_option maxHeartbeats 1000000
/-! The D layer, M2: try with several clauses, each with a name for the exception or without. -/
namespace DL
open PySem PySem.Spec L2
open PyProof.Rows hiding St

/-- a clause's suite: the exception, its class, its dict -/
abbrev ClT := Addr → Value → Option Addr → TS
/-- the ends of a suite whose name (slot i) goes behind it -/
def clEnds (D : Ends) : Option Nat → Ends
  | none => D
  | some i => { nx := fun σ H => D.nx (σ.set i none) H, rt := D.rt, bk := fun σ H => D.bk (σ.set i none) H, ct := fun σ H => D.ct (σ.set i none) H }
def clSt (σ : L2.St) (a : Addr) : Option Nat → L2.St
  | none => σ
  | some i => σ.set i (some (.ref a))
/-- what the clauses wish, one behind the other -/
def wCl (K : PySem.W.Frag) (Wout : WX) (D : Ends) : List (Value × Option Nat × ClT) → WX
  | [] => Wout
  | (c, o, ts) :: r => fun cls d σ H => ∃ b, PySem.W.exmOne K cls c = some b ∧ (b = true → ∀ a, H a = none → ts a cls d (clEnds D o) (clSt σ a o) H) ∧ (b = false → wCl K Wout D r cls d σ H)
/-- the clauses as they stand -/
inductive Cls (X : Cx) : List ExceptHandler → List (Value × Option Nat × ClT) → Prop where
  | nil : Cls X [] []
  | bare {x : Str} {c : Value} {ts : ClT} {st : Stmt} {sts : List Stmt} {np hp : Pos} {hs : List ExceptHandler} {l : List (Value × Option Nat × ClT)} (nm : Names X x c)
      (su : ∀ (a : Addr) (oe : Obj) (cls : Value) (d : Option Addr) (pn : List (Addr × Obj)), Zc cls d oe → (∃ vs, oe.data = .fields vs) → PSs (X.suite a ((a, oe) :: pn)) (st :: sts) (ts a cls d)) (rest : Cls X hs l) :
      Cls X (.ExceptHandler (some (.Name x np)) none (st :: sts) hp :: hs) ((c, none, ts) :: l)
  | named {x n : Str} {i : Nat} {c : Value} {ts : ClT} {st : Stmt} {sts : List Stmt} {np hp : Pos} {hs : List ExceptHandler} {l : List (Value × Option Nat × ClT)} (nm : Names X x c) (hi : X.N[i]? = some n) (hl : X.env.kindOf n = some .local)
      (su : ∀ (a : Addr) (oe : Obj) (cls : Value) (d : Option Addr) (pn : List (Addr × Obj)), Zc cls d oe → (∃ vs, oe.data = .fields vs) → PSs (X.suite a ((a, oe) :: pn)) (st :: sts) (ts a cls d)) (rest : Cls X hs l) :
      Cls X (.ExceptHandler (some (.Name x np)) (some n) (st :: sts) hp :: hs) ((c, some i, ts) :: l)
section
variable {X : Cx} {hh : ExceptHandler} {hs : List ExceptHandler} {l : List (Value × Option Nat × ClT)} {body : List Stmt} {tb : WX → TS} {Wout : WX} {pos : Pos}
theorem ps_tryC (stk : X.stack = X.env :: X.outer) (frm : X.env.frame = some X.env.locals) (nd : X.N.Nodup) (tk : Takes X Wout)
    (bd : ∀ (W : WX) (pn : List (Addr × Obj)) (xe : Value → Shared → Prop), Takes (X.tr pn xe) W → PassesOwn (model X.prog X.w) X.A X.env xe → PSs (X.tr pn xe) body (tb W)) (cl : Cls X (hh :: hs) l) :
    PS X (.Try body (hh :: hs) [] [] pos) (fun D σ H => tb (wCl X.K Wout D l) D σ H) := by
  refine ⟨fun pins s0 σ0 H0 D I0 w0 => ?_⟩
  have ok := I0.ok
  have fr : X.A.frames = some (X.env :: X.outer) := ok.frames.trans (by rw [stk])
  refine wpAny_Try_except (wpAny_mono ((bd (wCl X.K Wout D l) (X.pn ++ pins)
    (fun e s1 => wpAny (model X.prog X.w) X.A (noteFrame e X.env)
      (fun _ s2 => wpAny (model X.prog X.w) X.A (setFlight e none) (fun _ s3 => wpAny (model X.prog X.w) X.A (handleBy e X.env (hh :: hs)) (SP X pins D) X.xe s3) X.xe s2) X.xe s1)
    ?caught PassesOwn.looking).run [] s0 σ0 H0 D (I0.toTry _) w0) ?through (fun _ _ z => z))
  case caught =>
    rintro u s' ⟨a, B, sI, pins', σ, H, cls, d, rfl, J0, nb, up, sky, na, os, ag, w⟩
    have J : Inv X pins σ H sI := J0.ofTry ok
    have sky2 : Sky B (X.env :: X.outer) a (Zc cls d) X.env.locals s'.heap := by
      rw [← stk]
      exact sky
    refine Sky.land Zc.steady fr frm sky2 fun h3 fly up3 => ?_
    have J3 : Inv X pins σ H { s' with heap := h3 } := J.landed nb fly.1 (up.trans up3) os ag
    obtain ⟨oe, vs, hoe, hz, hd⟩ := fly.there
    have off : a ∉ frs (X.env :: X.outer) := by
      intro hm
      obtain ⟨_, o2, e2, no⟩ := fly.2.2.1.mem hm
      rw [hoe] at e2
      cases e2
      exact no _ hd
    have n1 : a ≠ X.env.locals := by
      intro z
      exact off (List.mem_filterMap.mpr ⟨X.env, List.mem_cons_self, by rw [frm, z]⟩)
    have n2 : a ∉ X.fs := by
      intro z
      obtain ⟨e, he, q⟩ := List.mem_filterMap.mp z
      exact off (List.mem_filterMap.mpr ⟨e, List.mem_cons_of_mem _ he, q⟩)
    have S3 := J3.suite hoe hd na n1 n2
    have kind : PySem.W.Looks (model X.prog X.w) h3 (typeOf (.ref a)) cls := fun A Q E s k q => wpAny_typeOf_ref (k _ _ hoe) (by
      rw [hz.1]
      exact q)
    -- the name of a class
    have name : ∀ {x : Str} {c : Value} {np : Pos} {Q E : Value → Shared → Prop}, Names X x c → Q c { s' with heap := h3 } → wpAny (model X.prog X.w) (X.A.mark (some (.ref a))) (eval (.Name x np) X.env) Q E { s' with heap := h3 } := by
      rintro x c np Q E ⟨g, db, m | ⟨m, v, nn⟩⟩ q
      · exact ld_glob (X := X.suite a ((a, oe) :: (X.pn ++ pins))) S3 g m q db
      · exact ld_blt (X := X.suite a ((a, oe) :: (X.pn ++ pins))) S3 g m v q nn db
    have run : ∀ {hs' : List ExceptHandler} {l' : List (Value × Option Nat × ClT)}, Cls X hs' l' → wCl X.K Wout D l' cls d σ H →
        wpAny (model X.prog X.w) X.A (handleBy (.ref a) X.env hs') (SP X pins D) X.xe { s' with heap := h3 } := by
      intro hs' l' c
      induction c with
      | nil =>
        intro w
        obtain ⟨f1, f2, f3, oe5, vs5, T, oT, ts5, g1, g2, g3, g4, g5⟩ := id fly
        refine wpAny_handleBy_nil ?_
        unfold PySem.passOn
        refine wpAny_bind (wpAny_field g1 g3 g4 ?_)
        rw [if_neg (show ¬ ((Value.ref T == Value.none) = true) by simp)]
        have out : wpAny (model X.prog X.w) X.A (setFlight (.ref a) X.env.frame) (fun _ s5 => wpAny (model X.prog X.w) X.A (throw (.ref a) : Sem Flow) (SP X pins D) X.xe s5) X.xe { s' with heap := h3 } := by
          rw [frm]
          refine HandSPX.setFlight_upZ fly fun h5 held up5 => wpAny_throw (tk _ _ ⟨a, B, sI, pins, σ, H, cls, d, rfl, J, nb, (up.trans up3).trans up5, .inr (.inr ?_), na, os, ag, w⟩)
          rw [stk]
          exact held
        first
          | exact wpAny_bind (wpAny_pure (wpAny_bind out))
          | exact wpAny_bind out
      | @bare x c ts st sts np hp hs2 l2 nm su rest ih =>
        rintro ⟨b, hb, yes, no⟩
        refine wpAny_handleBy_cons (codeAny_handlers_test (name nm ((PySem.W.exm_one (M := model X.prog X.w) J3.kIn kind hb).here ?_))) (fun z => nomatch z)
        cases b with
        | false => exact ih (no rfl)
        | true =>
          refine codeAny_handlers_suite (HandSPX.lands_againZ fly fun h4 fly4 up4 => ?_)
          obtain ⟨oe4, vs4, k1, k2, k3⟩ := fly4.there
          have S4 := (J.landed nb fly4.1 ((up.trans up3).trans up4) os ag : Inv X pins σ H { s' with heap := h4 }).suite k1 k3 na n1 n2
          refine wpAny_mono ((su a oe4 cls d (X.pn ++ pins) k2 ⟨_, k3⟩).run [] _ _ H _ S4 (yes rfl a na)) ?_ (fun _ _ z => False.elim z)
          intro f s6 q
          cases f with
          | ret u => obtain ⟨v6, σ6, H6, S6, r6, q6⟩ := q; exact ⟨_, _, _, S6.unsuite ok, r6, q6⟩
          | next => obtain ⟨σ6, H6, S6, q6⟩ := q; exact ⟨_, _, S6.unsuite ok, q6⟩
          | brk => obtain ⟨σ6, H6, S6, q6⟩ := q; exact ⟨_, _, S6.unsuite ok, q6⟩
          | cont => obtain ⟨σ6, H6, S6, q6⟩ := q; exact ⟨_, _, S6.unsuite ok, q6⟩
      | @named x n i c ts st sts np hp hs2 l2 nm hi hl su rest ih =>
        rintro ⟨b, hb, yes, no⟩
        refine wpAny_handleBy_cons (codeAny_handlers_test (name nm ((PySem.W.exm_one (M := model X.prog X.w) J3.kIn kind hb).here ?_))) (fun z => nomatch z)
        cases b with
        | false => exact ih (no rfl)
        | true =>
          refine codeAny_handlers_suite_as (HandSPX.lands_againZ fly fun h4 fly4 up4 => ?_)
          obtain ⟨oe4, vs4, k1, k2, k3⟩ := fly4.there
          have S4 := (J.landed nb fly4.1 ((up.trans up3).trans up4) os ag : Inv X pins σ H { s' with heap := h4 }).suite k1 k3 na n1 n2
          refine store_ok (X := X.suite a ((a, oe4) :: (X.pn ++ pins))) (v := .ref a) S4 nd hi (.inl hl) rfl (fun s5 S5 => ?_) (.inr hl)
          refine wpAny_mono ((su a oe4 cls d (X.pn ++ pins) k2 ⟨_, k3⟩).run [] s5 _ H _ S5 (yes rfl a na)) ?_ (fun _ _ z => False.elim z)
          intro f s6 q
          have gone : ∀ {σ6 : L2.St} {H6 : Hp} {R : Shared → Prop}, Inv (X.suite a ((a, oe4) :: (X.pn ++ pins))) [] σ6 H6 s6 → (∀ s7, Inv X pins (σ6.set i none) H6 s7 → R s7) →
              wpAny (model X.prog X.w) X.A (do bindName X.env n .none; unbindBehindTheSuite X.env n hp) (fun _ s7 => R s7) X.xe s6 := fun S6 r => gone_ok (S6.unsuite ok) nd hi hl r
          cases f with
          | ret u => obtain ⟨v6, σ6, H6, S6, r6, q6⟩ := q; exact gone S6 fun s7 J7 => ⟨_, _, _, J7, r6, q6⟩
          | next => obtain ⟨σ6, H6, S6, q6⟩ := q; exact gone S6 fun s7 J7 => ⟨_, _, J7, q6⟩
          | brk => obtain ⟨σ6, H6, S6, q6⟩ := q; exact gone S6 fun s7 J7 => ⟨_, _, J7, q6⟩
          | cont => obtain ⟨σ6, H6, S6, q6⟩ := q; exact gone S6 fun s7 J7 => ⟨_, _, J7, q6⟩
    exact run cl w
  case through =>
    intro f s1 q
    cases f with
    | ret u => obtain ⟨v, σ, H, J, r, q⟩ := q; exact ⟨v, σ, H, J.ofTry ok, r, q⟩
    | next => obtain ⟨σ, H, J, q⟩ := q; exact wpAny_execs_nil ⟨σ, H, J.ofTry ok, q⟩
    | brk => obtain ⟨σ, H, J, q⟩ := q; exact ⟨σ, H, J.ofTry ok, q⟩
    | cont => obtain ⟨σ, H, J, q⟩ := q; exact ⟨σ, H, J.ofTry ok, q⟩
end
end DL

end T_DM2

section T_DM3
set_option Elab.async false
set_option linter.all false
set_option maxRecDepth 100000
set_option maxHeartbeats 1000000
/-! The D layer, M3: try as a def's first statement; the caught exception's fields. -/
namespace DL
open PySem PySem.Spec L2
open PyProof.Rows hiding St

/-- a clause's suite: where the exception stands, its class, its dict -/
abbrev ClTd := Addr → Addr → Addr → TSd
def clEndsD (D : Endsd) : Option Nat → Endsd
  | none => D
  | some i => { nx := fun ρ M => D.nx (ρ.set i none) M, rt := D.rt, bk := fun ρ M => D.bk (ρ.set i none) M, ct := fun ρ M => D.ct (ρ.set i none) M }
def clEnv (ρ : Envd) (a : Addr) : Option Nat → Envd
  | none => ρ
  | some i => ρ.set i (some (.ref a))
def wClD (K : PySem.W.Frag) (W : WXd) (D : Endsd) : List (Value × Option Nat × ClTd) → WXd
  | [] => W
  | (c, o, ts) :: r => fun C fs ρ M => ∃ b, PySem.W.exmOne K (.ref C) c = some b ∧
    (b = true → ∀ a dd M2, M2 dd = some (.exc fs) → (∀ b o, M b = some o → (∀ f, o ≠ .exc f) → M2 b = some o) → ts a C dd (clEndsD D o) (clEnv ρ a o) M2) ∧ (b = false → wClD K W D r C fs ρ M)
def ttry (K : PySem.W.Frag) (W : WXd) (l : List (Value × Option Nat × ClTd)) (tb : WXd → TSd) : TSd := fun D ρ M => tb (wClD K W D l) D ρ M
/-- statements at the def's start -/
structure PSs0 (X : Cx) (ss : List Stmt) (t : TSd) : Prop where
  ps : PSs X ss (fun D σ H => H = X.H_0 ∧ lowS X.K t D σ H)
theorem PSsd.start {X : Cx} {ss : List Stmt} {t : TSd} (h : PSsd X ss t) : PSs0 X ss t := ⟨⟨fun pins s σ H D I w => h.ps.run pins s σ H D I w.2⟩⟩
def lowCl (K : PySem.W.Frag) (p : Value × Option Nat × ClTd) : Value × Option Nat × ClT := (p.1, p.2.1, fun a cls d D σ H => ∃ C dd, cls = .ref C ∧ d = some dd ∧ lowS K (p.2.2 a C dd) D σ H)
structure ClsD (X : Cx) (hs : List ExceptHandler) (l : List (Value × Option Nat × ClTd)) : Prop where
  c : Cls X hs (l.map (lowCl X.K))
section
variable {X : Cx} {hs : List ExceptHandler} {l : List (Value × Option Nat × ClTd)} {x n : Str} {i : Nat} {c : Value} {ts : ClTd} {st : Stmt} {sts : List Stmt} {np hp : Pos}
theorem suite_low (su : ∀ (a : Addr) (oe : Obj) (C dd : Addr) (pn : List (Addr × Obj)), Zc (.ref C) (some dd) oe → (∃ vs, oe.data = .fields vs) → PSsd (X.suite a ((a, oe) :: pn)) (st :: sts) (ts a C dd)) (o : Option Nat) :
    ∀ (a : Addr) (oe : Obj) (cls : Value) (d : Option Addr) (pn : List (Addr × Obj)), Zc cls d oe → (∃ vs, oe.data = .fields vs) → PSs (X.suite a ((a, oe) :: pn)) (st :: sts) ((lowCl X.K (c, o, ts)).2.2 a cls d) := by
  intro a oe cls d pn z f
  refine ⟨fun pins s σ H D I w => ?_⟩
  obtain ⟨C, dd, e1, e2, w⟩ := w
  subst e1 e2
  exact (su a oe C dd pn z f).ps.run pins s σ H D I w
theorem clsd_nil : ClsD X [] [] := ⟨.nil⟩
theorem clsd_bare (nm : Names X x c) (su : ∀ (a : Addr) (oe : Obj) (C dd : Addr) (pn : List (Addr × Obj)), Zc (.ref C) (some dd) oe → (∃ vs, oe.data = .fields vs) → PSsd (X.suite a ((a, oe) :: pn)) (st :: sts) (ts a C dd)) (rest : ClsD X hs l) :
    ClsD X (.ExceptHandler (some (.Name x np)) none (st :: sts) hp :: hs) ((c, none, ts) :: l) := ⟨.bare nm (suite_low (c := c) su none) rest.c⟩
theorem clsd_named (nm : Names X x c) (hi : X.N[i]? = some n) (hl : X.env.kindOf n = some .local)
    (su : ∀ (a : Addr) (oe : Obj) (C dd : Addr) (pn : List (Addr × Obj)), Zc (.ref C) (some dd) oe → (∃ vs, oe.data = .fields vs) → PSsd (X.suite a ((a, oe) :: pn)) (st :: sts) (ts a C dd)) (rest : ClsD X hs l) :
    ClsD X (.ExceptHandler (some (.Name x np)) (some n) (st :: sts) hp :: hs) ((c, some i, ts) :: l) := ⟨.named nm hi hl (suite_low (c := c) su (some i)) rest.c⟩
end
theorem RelE.gone {H : Hp} {ρ : Envd} {σ : L2.St} {i : Nat} (r : RelE H ρ σ) : RelE H (ρ.set i none) (σ.set i none) := by
  refine ⟨by simp [r.1], fun j d e => ?_⟩
  by_cases hj : i = j
  · subst hj
    by_cases hl : i < ρ.length
    · rw [List.getElem?_set_self hl] at e
      cases e
    · rw [List.getElem?_eq_none (by simpa using hl)] at e
      cases e
  · rw [List.getElem?_set_ne hj] at e
    obtain ⟨v, e1, e2⟩ := r.2 j d e
    exact ⟨v, by rw [List.getElem?_set_ne hj]; exact e1, e2⟩
theorem lowD_cl {K : PySem.W.Frag} {H : Hp} {E0 : Endsd} {D : Ends} (k : lowD K H E0 D) : ∀ o, lowD K H (clEndsD E0 o) (clEnds D o)
  | none => k
  | some i => ⟨fun σ H' ρ M' t r m q => k.nx (σ.set i none) H' (ρ.set i none) M' t r.gone m q, k.rt, fun σ H' ρ M' t r m q => k.bk (σ.set i none) H' (ρ.set i none) M' t r.gone m q, fun σ H' ρ M' t r m q => k.ct (σ.set i none) H' (ρ.set i none) M' t r.gone m q⟩
theorem relE_cl {H : Hp} {ρ : Envd} {σ : L2.St} {a : Addr} (r : RelE H ρ σ) : ∀ o, RelE H (clEnv ρ a o) (clSt σ a o)
  | none => r
  | some i => r.set (d := .ref a) (v := .ref a) rfl
section
variable {X : Cx} {hh : ExceptHandler} {hs : List ExceptHandler} {l : List (Value × Option Nat × ClTd)} {body rs : List Stmt} {tb : WXd → TSd} {tr : TSd} {Wd : WXd} {pos : Pos}
theorem wCl_low {D : Ends} {E0 : Endsd} (k : lowD X.K X.H_0 E0 D) : ∀ (l : List (Value × Option Nat × ClTd)) (cls : Value) (d : Option Addr) (σ : L2.St) (H : Hp), lowW X (wClD X.K Wd E0 l) cls d σ H → wCl X.K (lowW X Wd) D (l.map (lowCl X.K)) cls d σ H
  | [], _, _, _, _, h => h
  | (c, o, ts) :: r, cls, d, σ, H, h => by
    obtain ⟨C, dd, vs, fs, ρ, M, e1, e2, e3, e4, e5, e6, e7, b, hb, yes, no⟩ := h
    subst e1 e2
    refine ⟨b, hb, fun hb1 a na => ⟨C, dd, rfl, rfl, clEnv ρ a o, put M dd (.exc fs), clEndsD E0 o, relE_cl e5 o, fun b2 o2 q => ?_, yes hb1 a dd _ put_same (fun b2 o2 q n => ?_), lowD_cl (k.tle e7) o⟩, fun hb0 => wCl_low k r (.ref C) (some dd) σ H ⟨C, dd, vs, fs, ρ, M, rfl, rfl, e3, e4, e5, e6, e7, no hb0⟩⟩
    · by_cases hb2 : b2 = dd
      · subst hb2
        rw [put_same] at q
        cases q
        exact ⟨vs, e3, e4⟩
      · rw [put_ne hb2] at q
        exact e6 b2 o2 q
    · by_cases hb2 : b2 = dd
      · subst hb2
        have r2 := e6 b2 o2 q
        cases o2 with
        | exc f => exact absurd rfl (n f)
        | lst _ => obtain ⟨_, z, _⟩ := r2; rw [e3] at z; cases z
        | ro _ => obtain ⟨_, z, _⟩ := r2; rcases z with z | ⟨_, z⟩ <;> (rw [e3] at z; cases z)
        | dK _ => obtain ⟨_, z, _⟩ := r2; rw [e3] at z; cases z
        | dT _ => obtain ⟨_, z, _⟩ := r2; rw [e3] at z; cases z
        | fK _ _ _ => obtain ⟨z, _⟩ := r2; rw [e3] at z; cases z
        | fT _ _ _ => obtain ⟨z, _⟩ := r2; rw [e3] at z; cases z
        | ins _ _ => obtain ⟨_, _, z, _⟩ := r2; rw [e3] at z; cases z
        | exi _ _ => rcases r2 with ⟨z, _⟩ | ⟨_, _, z, _⟩ <;> (rw [e3] at z; cases z)
        | tab _ _ => obtain ⟨⟨_, z, _⟩, _⟩ := r2; rw [e3] at z; cases z
      · rw [put_ne hb2]
        exact q
theorem pss0_try (stk : X.stack = X.env :: X.outer) (frm : X.env.frame = some X.env.locals) (nd : X.N.Nodup) (tk : TakesD X Wd)
    (bd : ∀ (W : WXd) (pn : List (Addr × Obj)) (xe : Value → Shared → Prop), TakesD (X.tr pn xe) W → PassesOwn (model X.prog X.w) X.A X.env xe → PSsd (X.tr pn xe) body (tb W)) (cl : ClsD X (hh :: hs) l) (rest : PSsd X rs tr) :
    PSs0 X (.Try body (hh :: hs) [] [] pos :: rs) (tseq (ttry X.K Wd l tb) tr) := by
  have main := ps_tryC (pos := pos) (tb := fun W D σ H => ∃ W0 : WXd, (∀ cls d σ H, lowW X W0 cls d σ H → W cls d σ H) ∧ lowS X.K (tb W0) D σ H) stk frm nd tk
    (fun W pn xe tk1 ps1 => ⟨fun pins s σ H D I w => by
      obtain ⟨W0, hW, w⟩ := w
      exact (bd W0 pn xe (tk1.imp hW) ps1).ps.run pins s σ H D I w⟩) cl.c
  refine ⟨⟨fun pins s σ H D I w => (pss_cons main rest.ps).run pins s σ H D I ?_⟩⟩
  obtain ⟨eH, ρ, M, E0, re, rm, h, k⟩ := w
  subst eH
  have k2 : lowD X.K X.H_0 { E0 with nx := tr E0 } { D with nx := lowS X.K tr D } := ⟨fun σ1 H1 ρ1 M1 t1 r1 m1 h1 => ⟨ρ1, M1, E0, r1, m1, h1, k.tle t1⟩, k.rt, k.bk, k.ct⟩
  exact ⟨_, wCl_low k2 l, ρ, M, _, re, rm, h, k2⟩
end
/-- e.f of the caught exception -/
def txf (a dd : Addr) (f : Str) (te : TEd) : TEd := fun ρ M Q => te ρ M fun x M1 => x = .ref a ∧ ∃ fs d, M1 dd = some (.exc fs) ∧ fs.lookup f = some d ∧ Q d M1
theorem relFs_lookup {H : Hp} {f : Str} : ∀ {fs : List (Str × D)} {vs : List (Str × V)} {d : D}, RelFs H fs vs → fs.lookup f = some d → ∃ v, vs.lookup f = some v ∧ Rel H d v
  | [], _, _, .nil, e => by cases e
  | (g, d0) :: fs, _, d, .cons (b := (g2, v0)) ⟨e0, r0⟩ t, e => by
    have e0 : g = g2 := e0
    subst e0
    rw [List.lookup_cons] at e ⊢
    cases q : (f == g) with
    | true =>
      rw [q] at e
      cases e
      exact ⟨v0, rfl, r0⟩
    | false =>
      rw [q] at e
      exact relFs_lookup t e
theorem ped_xf {X : Cx} {a C dd : Addr} {oe : Obj} {pn : List (Addr × Obj)} {e : Expr} {te : TEd} {pos : Pos} {n : Str} (T : ExK X.K C) (hno : PySem.W.findIn X.K (.ref C) n = some none)
    (hz : Zc (.ref C) (some dd) oe) (hf : ∃ vs, oe.data = .fields vs) (he : PEd (X.suite a ((a, oe) :: pn)) e te) (hb : attributeBase e n X.env (eval e X.env) = eval e X.env := by rfl) :
    PEd (X.suite a ((a, oe) :: pn)) (.Attribute e n pos) (txf a dd n te) := by
  refine .of (pe_xf (C := C) ⟨T.ga, T.gg, T.su, T.hd⟩ hno hz hf he.pe hb) fun σ H Q w => ?_
  obtain ⟨ρ, M, Q0, re, rm, h, k⟩ := w
  refine ⟨ρ, M, _, re, rm, h, fun x H1 dx M1 t1 r1 m1 h1 => ?_⟩
  obtain ⟨e1, fs, d, hd, hl, q⟩ := h1
  subst e1
  cases r1
  obtain ⟨vs, ev, rv⟩ := m1 dd _ hd
  obtain ⟨v, lv, rl⟩ := relFs_lookup rv hl
  exact ⟨rfl, rfl, dd, vs, v, rfl, ev, lv, (k.tle t1).any rl m1 q⟩
end DL

end T_DM3

section T_DM4
set_option Elab.async false
set_option linter.all false
set_option maxRecDepth 100000
set_option maxHeartbeats 1000000
/-! The D layer, M4: f(lambda: e). -/
namespace DL
open PySem PySem.Spec L2
open PyProof.Rows hiding St

/-- e.f, the class told by the reading -/
def txfK (K : PySem.W.Frag) (a C dd : Addr) (f : Str) (te : TEd) : TEd := fun ρ M Q => ExK K C ∧ PySem.W.findIn K (.ref C) f = some none ∧ txf a dd f te ρ M Q
theorem ped_xfK {X : Cx} {a C dd : Addr} {oe : Obj} {pn : List (Addr × Obj)} {e : Expr} {te : TEd} {pos : Pos} {n : Str}
    (hz : Zc (.ref C) (some dd) oe) (hf : ∃ vs, oe.data = .fields vs) (he : PEd (X.suite a ((a, oe) :: pn)) e te) (hb : attributeBase e n X.env (eval e X.env) = eval e X.env := by rfl) :
    PEd (X.suite a ((a, oe) :: pn)) (.Attribute e n pos) (txfK X.K a C dd n te) := by
  refine ⟨⟨fun pins s σ H Q I w => ?_⟩⟩
  obtain ⟨ρ, M, Q0, re, rm, ⟨T, hno, h⟩, k⟩ := w
  exact (ped_xf T hno hz hf he hb).pe.run pins s σ H Q I ⟨ρ, M, Q0, re, rm, h, k⟩

/-- what is asked of a thing that may be called without arguments -/
abbrev ActD := XKd → Mem → VKd → Prop
/-- the parameter's call: f stands in slot 0, its code object c is known -/
def tact (f c : Addr) (q : Str) (tl : ActD) (n : Nat) (W : WXd) : TEd := fun ρ M Q => ρ[0]? = some (some (.ref f)) ∧ (∃ P cs, M P = some (.tab q cs) ∧ c ∈ cs) ∧ tl (fun C fs M2 => W C fs (List.replicate n none) M2) M Q
def lowXX (K : PySem.W.Frag) (E0 : XKd) (E : XK) : Prop := ∀ C d H vs fs M, H d = some (.xd vs) → RelFs H fs vs → RelM K H M → E0 C fs M → E (.ref C) (some d) H
/-- tl, at the heaps from H on, is what D says -/
def actLow (K : PySem.W.Frag) (H : Hp) (tD : ActD) (tl : XK → Hp → VK → Prop) : Prop := ∀ E0 E H' M Q0 Q, Tle H H' → RelM K H' M → tD E0 M Q0 → lowV K H' Q0 Q → lowXX K E0 E → tl E H' Q
theorem relE_none {H : Hp} {σ : L2.St} {n : Nat} (h : σ.length = n) : RelE H (List.replicate n none) σ := ⟨by simp [h], fun i d e => by
  rw [List.getElem?_replicate] at e
  split at e <;> cases e⟩
/-- the context of the def that got the lambda -/
abbrev zCx (X : Cx) (Ng : List Str) (x : Str) (st : Stmt) (g : Addr) (cdv : Value) (s : Shared) (H : Hp) : Cx := (cxOf C8.CX0 X.prog X.w X.K X.mg X.base Ng x (defScope st) g cdv X.A X.stack s H C8.E0).nox
/-- the def x keeps sp, told of what the lambda's call does -/
def GivesD (X : Cx) (Ng : List Str) (x : Str) (st : Stmt) (g : Addr) (a q : Str) (sp : ActD → Mem → VKd → Prop) : Prop :=
  ∀ (cdv : Value) (s : Shared) (H : Hp) (f c : Addr) (tl : ActD),
    (∀ (W : WXd) (pn : List (Addr × Obj)) (xe : Value → Shared → Prop) (p1 p2 : Pos), TakesD ((zCx X Ng x st g cdv s H).tr pn xe) W → PEd ((zCx X Ng x st g cdv s H).tr pn xe) (.Call (.Name a p1) [] [] p2) (tact f c q tl Ng.length W)) →
    ∃ t, PSs0 (zCx X Ng x st g cdv s H) (defBody st) t ∧ ∀ M Q, (∃ P cs, M P = some (.tab q cs) ∧ c ∈ cs) → sp tl M Q → t { nx := fun _ M' => Down Q .non M', rt := Down Q } (startD Ng [.ref f]) M
/-- x(lambda: e): sp of the def x, tb of e; the maker's table stands at P -/
def tlam (P : Addr) (q : Str) (sp : ActD → Mem → VKd → Prop) (tb : XKd → TEd) : TEd := fun ρ M Q => ∃ cs, M P = some (.tab q cs) ∧ ∀ c M1, M1 P = some (.tab q (c :: cs)) →
  (∀ b o, M b = some o → (∀ q cs, o ≠ .tab q cs) → M1 b = some o) → sp (fun E0 M2 Q2 => tb E0 ρ M2 Q2) M1 Q
/-- without the tables but the one at P -/
def noTab (M : Mem) (P : Addr) : Mem := fun b => if b = P then M b else match M b with
  | some (.tab _ _) => none
  | o => o
theorem noTab_le {M : Mem} {P b : Addr} {o : DO} (h : noTab M P b = some o) : M b = some o ∧ (b = P ∨ ∀ q cs, o ≠ .tab q cs) := by
  unfold noTab at h
  split at h
  · rename_i e
    exact ⟨h, .inl e⟩
  · split at h
    · cases h
    · rename_i n
      refine ⟨h, .inr fun q cs z => ?_⟩
      subst z
      exact n q cs h
theorem noTab_ge {M : Mem} {P b : Addr} {o : DO} (h : M b = some o) (n : b = P ∨ ∀ q cs, o ≠ .tab q cs) : noTab M P b = some o := by
  unfold noTab
  split
  · exact h
  · rename_i hb
    rcases n with n | n
    · exact absurd n hb
    · split
      · rename_i q cs e
        rw [h] at e
        cases e
        exact absurd rfl (n _ _)
      · exact h
theorem relM_ext {K : PySem.W.Frag} {H H1 : Hp} {M : Mem} {P : Addr} {q : Str} {cs : List Addr} (m : RelM K H M) (hP : M P = some (.tab q cs)) (e : LamX.ExtN H H1) (t : LamX.TabS H1 P q) : RelM K H1 (noTab M P) := by
  intro b o hb
  obtain ⟨hb0, n⟩ := noTab_le hb
  clear hb
  have hb := hb0
  have cod : ∀ c q, H c = some (LamX.CodeO c q) → H1 c = some (LamX.CodeO c q) := fun c q z => e _ _ z LamX.codeO_ne
  by_cases eb : b = P
  · subst eb
    rw [hP] at hb
    cases hb
    exact ⟨t, fun c hc => cod _ _ ((m b _ hP).2 c hc)⟩
  · have n : ∀ q cs, o ≠ .tab q cs := n.resolve_left eb
    have keep : ∀ u, H b = some u → (∀ ps, u ≠ .tbl ps) → H1 b = some u := fun u z y => e b u z y
    have t2 : Tle H H1 := fun a xs z => e a _ z (fun ps y => nomatch y)
    have x2 : Xle H H1 := ⟨fun a vs z => e a _ z (fun ps y => by unfold exd at y; cases y), cod⟩
    have r := m b o hb
    cases o with
    | tab q cs => exact absurd rfl (n q cs)
    | lst _ => obtain ⟨vs, h, r⟩ := r; exact ⟨vs, keep _ h (fun ps y => nomatch y), r.tle t2⟩
    | ro _ =>
      obtain ⟨vs, h, r⟩ := r
      refine ⟨vs, ?_, r.tle t2⟩
      rcases h with h | ⟨o, h⟩
      · exact .inl (keep _ h (fun ps y => nomatch y))
      · exact .inr ⟨o, keep _ h (fun ps y => nomatch y)⟩
    | dK _ => obtain ⟨hv, h, r⟩ := r; exact ⟨hv, keep _ h (fun ps y => nomatch y), r.tle t2⟩
    | dT _ => obtain ⟨hv, h, r⟩ := r; exact ⟨hv, keep _ h (fun ps y => nomatch y), r.tle t2⟩
    | fK _ _ _ => obtain ⟨h, r⟩ := r; exact ⟨keep _ h (fun ps y => nomatch y), r.tle t2⟩
    | fT _ _ _ => obtain ⟨h, r⟩ := r; exact ⟨keep _ h (fun ps y => nomatch y), r.tle t2⟩
    | ins _ _ => obtain ⟨dx, vs, h, r⟩ := r; exact ⟨dx, vs, keep _ h (fun ps y => nomatch y), r.tle t2⟩
    | exi _ _ =>
      rcases r with ⟨h, r⟩ | ⟨dx, vs, h, hd, r, l⟩
      · exact .inl ⟨keep _ h (fun ps y => by unfold exo at y; cases y), r⟩
      · exact .inr ⟨dx, vs, keep _ h (fun ps y => by unfold exo at y; cases y), x2.1 _ _ hd, r.tle t2, l⟩
    | exc _ => obtain ⟨vs, h, r⟩ := r; exact ⟨vs, keep _ h (fun ps y => nomatch y), r.tle t2⟩
section
variable {X : Cx}
theorem takes_more {W : WXd} (tk : TakesD X W) : Takes X (fun cls d σ H => σ.length = X.N.length → Tle X.H_0 H → lowW X W cls d σ H) := by
  rintro u s' ⟨a, B, sI, pins, σ, H, cls, d, e, I, nb, up, sky, na, os, ag, w⟩
  exact tk u s' ⟨a, B, sI, pins, σ, H, cls, d, e, I, nb, up, sky, na, os, ag, w I.len I.base.tups⟩
theorem ped_lam {Ng : List Str} {x a q : Str} {st : Stmt} {g c P : Addr} {fd : FuncData} {k : Nat} {params : Arguments} {body : Expr} {scope : Scope} {sp : ActD → Mem → VKd → Prop} {tb : XKd → TEd} {p lpos pos : Pos}
    (F : Fun X.K x x st g fd) (hb : L2.Binds X.K fd [a] []) (hg : Gl X x) (hm : X.mg x = some (.ref g)) (Sg : FnScope Ng [a] (defScope st)) (hN : Ng[0]? = some a) (hv : Vis (defScope st) a)
    (hG : GivesD X Ng x st g a q sp) (TB : LamX.TabB X.base X.mg c P) (hcode : X.env.code = .ref c) (hq : X.env.qual ++ "<lambda>" = q) (hr : Room (k + 2) X.A) (L : LamX.LamS X.env.scope scope) (hdef : defaultsOf params X.env = ([], []))
    (hbind : ∀ (q : Str) (cl : List (Str × Addr)) (pm cv ctv : Value), bindArgs (PySem.W.kla_fn "<lambda>" q params body scope cl pm cv ctv) ⟨[], []⟩ = pure [])
    (hbody : ∀ (A : Around) (outer : List Env) (s : Shared) (H : Hp) (E : XK) (E0 : XKd) (f c' : Addr), Room k (A.deeper (LamX.lamEnv X scope s.heap.objs.size f c')) → TakesD (LamX.lamCx X A outer s H E scope f c') (fun C fs _ M => E0 C fs M) →
      PEd (LamX.lamCx X A outer s H E scope f c') body (tb E0))
    (hdb : (x == ("__debug__" : Str)) = false := by decide) (hd : (a == ("__debug__" : Str)) = false := by decide) (hcd : (a == ("__classdict__" : Str)) = false := by decide) :
    PEd X (.Call (.Name x p) [.Lambda params body scope lpos] [] pos) (tlam P q sp tb) := by
  subst hq
  have hk := F.kp
  obtain ⟨oc, od, kV, doc, pm, an, cdv, ct, osl, rfl, lk, code⟩ := F.ex
  refine .of (LamX.pe_lamcall (P := P) (T := [(P, X.env.qual ++ "<lambda>")])
    (TT := fun tl H Q => ∃ (tD : ActD) (M : Mem) (Q0 : VKd) (cs : List Addr), actLow X.K H tD tl ∧ RelM X.K H M ∧ M P = some (.tab (X.env.qual ++ "<lambda>") cs) ∧ (∀ c', sp tD (put M P (.tab (X.env.qual ++ "<lambda>") (c' :: cs))) Q0) ∧ lowV X.K H Q0 Q)
    (t := fun E σ H Q => ∃ E0 : XKd, lowXX X.K E0 E ∧ lowE X.K (tb E0) σ H Q) hg hm hk lk code hb Sg hN hv ?gives TB hcode (List.mem_singleton.mpr rfl) (fun p hp _ => by rw [List.mem_singleton.mp hp]) hr L hdef hbind ?bodies hdb hd hcd) ?sim
  case bodies =>
    intro A outer s H E f c' hr2
    refine ⟨fun pins s1 σ H1 Q I w => ?_⟩
    obtain ⟨E0, hE, w⟩ := w
    refine (hbody A outer s H E E0 f c' hr2 ((takes_of rfl rfl rfl rfl).imp fun cls d σ2 H2 z => ?_)).pe.run pins s1 σ H1 Q I w
    obtain ⟨C, dd, vs, fs, ρ, M, e1, e2, e3, e4, _, e6, _, z⟩ := z
    subst e1 e2
    exact hE C dd H2 vs fs M e3 e4 e6 z
  case gives =>
    intro f c' s H Q tl act hc h
    obtain ⟨tD, M, Q0, cs, al, m, hP, hs, kq⟩ := h
    obtain ⟨t, pt, ht⟩ := hG cdv s H f c' tD fun W pn xe p1 p2 tk => by
      refine ⟨⟨fun pins s1 σ H1 Q1 I w => ?_⟩⟩
      have low := act (fun cls d σ2 H2 => σ2.length = Ng.length → Tle H H2 → lowW ((zCx X Ng x st g cdv s H).tr pn xe) W cls d σ2 H2) pn xe
        (fun cls d H2 => ∃ C dd vs fs M2, cls = .ref C ∧ d = some dd ∧ H2 dd = some (.xd vs) ∧ RelFs H2 fs vs ∧ RelM X.K H2 M2 ∧ W C fs (List.replicate Ng.length none) M2) p1 p2 (takes_more tk)
        (fun cls d σ2 H2 z l t => by
          obtain ⟨C, dd, vs, fs, M2, e1, e2, e3, e4, e5, z⟩ := z
          exact ⟨C, dd, vs, fs, _, M2, e1, e2, e3, e4, relE_none l, e5, t, z⟩)
      obtain ⟨ρ, M1, Q2, re, rm, ⟨h1, ⟨P1, cs1, hP1, hc1⟩, h2⟩, k2⟩ := w
      obtain ⟨v, e1, e2⟩ := re.2 0 _ h1
      cases e2
      exact low.run pins s1 σ H1 Q1 I ⟨e1, (rm P1 _ hP1).2 _ hc1, al _ _ H1 M1 Q2 Q1 I.base.tups rm h2 k2 fun C d H2 vs fs M2 a1 a2 a3 a4 => ⟨C, d, vs, fs, M2, rfl, rfl, a1, a2, a3, a4⟩⟩
    refine ⟨_, pt.ps, rfl, startD Ng [.ref f], put M P (.tab (X.env.qual ++ "<lambda>") (c' :: cs)), _, start_rel (ds := [.ref f]) (.cons rfl .nil), fun b o e => ?_, ht _ Q0 ⟨P, _, put_same, List.mem_cons_self⟩ (hs c'),
      ⟨fun σ2 H2 ρ2 M2 t2 r2 m2 q2 => ?_, fun v2 H2 d2 M2 t2 r2 m2 q2 => ?_, fun _ _ _ _ _ _ _ z => z.elim, fun _ _ _ _ _ _ _ z => z.elim⟩⟩
    · by_cases hb2 : b = P
      · subst hb2
        rw [put_same] at e
        cases e
        obtain ⟨r1, r2⟩ := m b _ hP
        exact ⟨r1, fun c2 h2 => by
          rcases List.mem_cons.mp h2 with z | z
          · rw [z]
            exact hc
          · exact r2 c2 z⟩
      · rw [put_ne hb2] at e
        exact m b o e
    · obtain ⟨M3, hs3, q3⟩ := q2
      exact kq .non H2 .non M3 t2 rfl (m2.less hs3) q3
    · obtain ⟨M3, hs3, q3⟩ := q2
      exact kq v2 H2 d2 M3 t2 r2 (m2.less hs3) q3
  case sim =>
    intro σ H Q w
    obtain ⟨ρ, M, Q0, re, rm, ⟨cs, hP, h⟩, k⟩ := w
    have tS := (rm P _ hP).1
    refine ⟨fun p hp => by rw [List.mem_singleton.mp hp]; exact tS, fun H1 eN T1 => ?_⟩
    have t2 : Tle H H1 := fun a xs z => eN a _ z (fun ps y => nomatch y)
    refine ⟨fun E0 M2 Q2 => tb E0 ρ M2 Q2, noTab M P, Q0, cs, ?_, relM_ext rm hP eN (T1 _ (List.mem_singleton.mpr rfl)), noTab_ge hP (.inl rfl), fun c' => ?_, k.tle t2⟩
    · intro E0 E H' M2 Q2 Q3 t3 m2 h2 k3 hE
      exact ⟨E0, hE, ρ, M2, Q2, re.tle (t2.trans t3), m2, h2, k3⟩
    · refine h c' _ put_same fun b o e n => ?_
      have nb : b ≠ P := by
        rintro rfl
        rw [hP] at e
        cases e
        exact n _ _ rfl
      rw [put_ne nb]
      exact noTab_ge e (.inr n)
end
end DL

end T_DM4

section T_DM5
set_option Elab.async false
set_option linter.all false
set_option maxRecDepth 100000
set_option maxHeartbeats 1000000
/-! The D layer, M5: raise C(..) of an own exception. -/
namespace DL
open PySem PySem.Spec L2
open PyProof.Rows hiding St

def traise (W : WXd) (C : Addr) (ns : List Str) (ta : TAd) : TSd := fun _ ρ M => ta ρ M fun ds M1 => ds.length = ns.length ∧ W C (ns.zip ds).reverse ρ M1
section
variable {X : Cx} {x : Str} {C : Addr} {k : Nat} {ns : List Str} {e : Expr} {es : List Expr} {ta : TAd} {p pos pos' : Pos} {W : WXd}
theorem relM_away {K : PySem.W.Frag} {H H' : Hp} {M : Mem} (m : RelM K H M) (h : ∀ b o, H b = some o → H' b = some o) : RelM K H' M := fun b o e => (m b o e).tle (fun a xs z => h a _ z) ⟨fun a vs z => h a _ z, fun c q z => h c _ z⟩ fun u z => h b u z
theorem psd_raise (F : ExI X.prog X.w X.K X.base k C ns) (hc : X.calm = true) (tk : TakesD X W) (hr : Room (k + 1) X.A) (hg : Gl X x) (hm : X.mg x = some (.ref C)) (ha : PAd X (e :: es) ta) (hdb : (x == ("__debug__" : Str)) = false := by decide)
    (he : starEach (e :: es) X.env = (false, eval e X.env) :: starEach es X.env := by rfl) (hpl : (backTo pos (starEach es X.env)).any (·.1) = false := by rfl) :
    PSd X (.Raise (some (.Call (.Name x p) (e :: es) [] pos)) none pos') (traise W C ns ta) := by
  obtain ⟨fI, fd, ps, T, iC, tI, hb, hn9, F1⟩ := F
  have hx : Passes (L2.CX X.prog X.w) X (fun _ _ _ => False) := passes_call takes0 (fun _ _ _ _ z => z)
  have low := ps_raise (pos := pos') hc tk (pmk_oex (p := p) (ds := []) (dvs := []) (sp := spIni C ns) T iC tI (F1 X.mg) hr hb .nil hx hg hm ha.pa hdb he hpl)
  refine ⟨⟨fun pins s σ H D I w => low.run pins s σ H D I ?_⟩⟩
  have t0 : Tle X.H_0 H := I.base.tups
  obtain ⟨ρ, M, E0, re, rm, h, kk⟩ := w
  refine ⟨ρ, M, _, re, rm, h, fun vs H1 ds M1 t1 r1 m1 h1 => ?_⟩
  obtain ⟨hl, hw⟩ := h1
  refine ⟨?_, fun a na => ⟨a, vs, by rw [List.append_nil], r1.length.trans hl, upd_same, fun dx hdx ne => ⟨rfl, dx, _, upd_same, by rw [upd_ne ne, upd_same], ?_, ?_⟩⟩⟩
  · have z := r1.length
    omega
  · rw [upd_ne ne] at hdx
    exact hdx
  · rw [upd_ne ne] at hdx
    have keep : ∀ b o, H1 b = some o → upd (del (upd (upd (upd H1 a (exo a C none)) dx (exd dx (ns.zip vs).reverse)) a (exo a C (some dx))) a) dx (.xd (ns.zip vs).reverse) b = some o := fun b o z => by
      have nb := ne_of_none z na
      have nd := ne_of_none z hdx
      rw [upd_ne nd, del_ne nb, upd_ne nb, upd_ne nd, upd_ne nb]
      exact z
    have t2 : Tle H1 _ := fun b xs z => keep b _ z
    exact ⟨C, dx, (ns.zip vs).reverse, (ns.zip ds).reverse, ρ, M1, rfl, rfl, upd_same, paired_rev (relFs_zip (r1.tle t2)), re.tle (t1.trans t2), relM_away m1 keep, t0.trans (t1.trans t2), hw⟩
end
end DL

end T_DM5

section T_DM6
set_option Elab.async false
set_option linter.all false
set_option maxRecDepth 100000
set_option maxHeartbeats 1000000
/-! The D layer, M6: list(range(n)); promises of defs that begin with a try. -/
namespace DL
open PySem PySem.Spec L2
open PyProof.Rows hiding St

theorem u200 {k : Nat} {A : Around} (r : Room k A) : A.units + 200 < cLine := by
  have := r.un
  omega
theorem u200s {k : Nat} {A : Around} {e : Option Value} (r : Room k A) : (A.mark e).units + 200 < cLine := by
  have := u200 r
  exact this
/-- list(range(n)) -/
def tlrg (te : TEd) : TEd := fun ρ M Q => te ρ M fun x M1 => ∃ n : Int, x = .int n ∧ 0 ≤ n ∧ n ≤ 2 ^ 24 ∧ ∀ p, M1 p = none → Q (.ref p) (put M1 p (.lst (intsD 0 n.toNat)))
theorem rel_map {α : Type} {H : Hp} {f : α → D} {g : α → V} (h : ∀ a, Rel H (f a) (g a)) : ∀ l : List α, RelL H (l.map f) (l.map g)
  | [] => .nil
  | a :: l => .cons (h a) (rel_map h l)
theorem ped_listRg1 {X : Cx} {a : Expr} {te : TEd} {p p2 pos pos2 : Pos} (hc : X.calm = true) (hg : Gl X "list") (hm : X.mg "list" = none) (hg2 : Gl X "range") (hm2 : X.mg "range" = none) (ha : PEd X a te)
    (na : starEach [a] X.env = (false, eval a X.env) :: starEach [] X.env := by rfl)
    (nb : starEach [.Call (.Name "range" p2) [a] [] pos2] X.env = (false, eval (.Call (.Name "range" p2) [a] [] pos2) X.env) :: starEach [] X.env := by rfl) :
    PEd X (.Call (.Name "list" p) [.Call (.Name "range" p2) [a] [] pos2] [] pos) (tlrg te) := by
  refine .of (pe_listRg hc hg hm (prg_1 hg2 hm2 ha.pe na) nb) fun σ H Q w => ?_
  obtain ⟨ρ, M, Q0, re, rm, h, k⟩ := w
  refine ⟨ρ, M, _, re, rm, h, fun x H1 dx M1 t1 r1 m1 h1 => ?_⟩
  obtain ⟨n, e, n0, n1, h1⟩ := h1
  subst e
  cases r1
  refine ⟨n, rfl, .of_le (Int.le_refl 0) (by omega) (by omega) n0, fun q hq => ?_⟩
  refine (k.tle t1).newL m1 hq ?_ h1
  have e : (n - 0).toNat = n.toNat := by simp
  unfold rgV intsD
  rw [e]
  exact rel_map (f := fun i : Nat => D.int (0 + (i : Int))) (g := fun i : Nat => V.int (0 + (i : Int))) (fun i => rfl) _
section
variable {P : Program} {w : World} {K : PySem.W.Frag} {mg : Str → Option Value} {base : Heap}
theorem FnQ.ofD0 {x : Str} {st : Stmt} {f : Addr} {fd : FuncData} {N ps : List Str} {k : Nat} {s : SpD} (F : Fun K x x st f fd) (S : FnScope N ps (defScope st)) (len : ∀ ds M Q E, s ds M Q E → ds.length = ps.length)
    (body : ∀ (cdv : Value) (A : Around) (outer : List Env) (s0 : Shared) (H0 : Hp) (E : XK) (E0 : XKd), A.guards = some [] → Room k (A.deeper (envOfC x (defScope st) s0.heap.objs.size f cdv)) →
      TakesD (cxOf (L2.CX P w) P w K mg base N x (defScope st) f cdv A outer s0 H0 E) (fun C fs _ M' => ∃ M, (∀ a o, M a = some o → M' a = some o) ∧ E0 C fs M) →
      ∃ t, PSs0 (cxOf (L2.CX P w) P w K mg base N x (defScope st) f cdv A outer s0 H0 E) (defBody st) t ∧ ∀ ds M Q, s ds M Q E0 → t { nx := fun _ M' => Down Q .non M', rt := Down Q } (startD N ds) M) :
    FnQ P w K mg base (k + 1) f fd ps (lowSp K s) := by
  refine .byBody F S (fun vs H Q E h => ?_) (fun cdv A outer s0 H vs Q E _ hA hr h => ?_)
  · obtain ⟨ds, M, Q0, E0, rl, _, h, _⟩ := h
    exact rl.length.trans (len _ _ _ _ h)
  · obtain ⟨ds, M, Q0, E0, rl, rm, h, kq, kx⟩ := h
    have down : lowV K H (Down Q0) Q := fun v H' d M' t r m ⟨M2, hs, q⟩ => kq v H' d M2 t r (m.less hs) q
    obtain ⟨t, pt, ht⟩ := body cdv A outer s0 H E E0 hA hr ((takes_of rfl rfl rfl rfl).imp fun cls d σ H' h => by
      obtain ⟨C, dd, vs, fs, ρ, M', e1, e2, e3, e4, e5, e6, e7, M2, hs, q⟩ := h
      subst e1 e2
      exact kx C dd H' vs fs M2 e7 e3 e4 (e6.less hs) q)
    exact ⟨_, pt.ps, rfl, startD N ds, M, _, start_rel rl, rm, ht ds M Q0 h, ⟨fun σ H' ρ M' t r m q => down .non H' .non M' t rfl m q, down, fun _ _ _ _ _ _ _ z => z.elim, fun _ _ _ _ _ _ _ z => z.elim⟩⟩
theorem FnG.of0 {x : Str} {st : Stmt} {f : Addr} {fd : FuncData} {N ps : List Str} {k : Nat} {s : SpD} (F : Fun K x x st f fd) (S : FnScope N ps (defScope st)) (hm : mg x = some (.ref f)) (hb : Binds K fd ps []) (len : ∀ ds M Q E, s ds M Q E → ds.length = ps.length)
    (body : ∀ (cdv : Value) (A : Around) (outer : List Env) (s0 : Shared) (H0 : Hp) (E : XK) (E0 : XKd), A.guards = some [] → Room k (A.deeper (envOfC x (defScope st) s0.heap.objs.size f cdv)) →
      TakesD (cxOf (L2.CX P w) P w K mg base N x (defScope st) f cdv A outer s0 H0 E) (fun C fs _ M' => ∃ M, (∀ a o, M a = some o → M' a = some o) ∧ E0 C fs M) →
      ∃ t, PSs0 (cxOf (L2.CX P w) P w K mg base N x (defScope st) f cdv A outer s0 H0 E) (defBody st) t ∧ ∀ ds M Q, s ds M Q E0 → t { nx := fun _ M' => Down Q .non M', rt := Down Q } (startD N ds) M) :
    FnG P w K mg base (k + 1) x ps s := ⟨f, fd, .ofD0 F S len body, hm, F.kp, hb⟩
end
end DL

end T_DM6

section T_DM7
set_option Elab.async false
set_option linter.all false
set_option maxRecDepth 100000
set_option maxHeartbeats 1000000
/-! The D layer, M7: the law's entry where it makes lambdas. -/
namespace DL
open PySem PySem.Spec L2
open PyProof.Rows hiding St

section
variable {P : Program} {w : World} {K : PySem.W.Frag} {mg : Str → Option Value} {base : Heap}
theorem FnQ.ofDC {x : Str} {st : Stmt} {f : Addr} {fd : FuncData} {N ps : List Str} {k : Nat} {s : SpD} (F : Fun K x x st f fd) (S : FnScope N ps (defScope st))
    (len : ∀ ds M Q E, s ds M Q E → ds.length = ps.length)
    (body : ∀ (cdv : Value) (A : Around) (outer : List Env) (s0 : Shared) (H0 : Hp) (E : XK) (E0 : XKd), CodeAt K f cdv → A.guards = some [] → Room k (A.deeper (envOfC x (defScope st) s0.heap.objs.size f cdv)) →
      TakesD (cxOf (L2.CX P w) P w K mg base N x (defScope st) f cdv A outer s0 H0 E) (fun C fs _ M' => ∃ M, (∀ a o, M a = some o → M' a = some o) ∧ E0 C fs M) →
      PassesOwn (model P w) (A.deeper (envOfC x (defScope st) s0.heap.objs.size f cdv)) (envOfC x (defScope st) s0.heap.objs.size f cdv) (cxOf (L2.CX P w) P w K mg base N x (defScope st) f cdv A outer s0 H0 E).xe →
      ∃ t, PSsd (cxOf (L2.CX P w) P w K mg base N x (defScope st) f cdv A outer s0 H0 E) (defBody st) t ∧ ∀ ds M Q, s ds M Q E0 → t { nx := fun _ M' => Down Q .non M', rt := Down Q } (startD N ds) M) :
    FnQ P w K mg base (k + 1) f fd ps (lowSp K s) := by
  refine .byBody F S (fun vs H Q E h => ?_) (fun cdv A outer s0 H vs Q E hC hA hr h => ?_)
  · obtain ⟨ds, M, Q0, E0, rl, _, h, _⟩ := h
    rw [rl.length]
    exact len _ _ _ _ h
  · obtain ⟨ds, M, Q0, E0, rl, rm, h, kq, kx⟩ := h
    have down : lowV K H (Down Q0) Q := fun v H' d M' t r m q => by
      obtain ⟨M2, hs, q⟩ := q
      exact kq v H' d M2 t r (m.less hs) q
    obtain ⟨t, pt, ht⟩ := body cdv A outer s0 H E E0 hC hA hr ((takes_of rfl rfl rfl rfl).imp fun cls d σ H' h => by
      obtain ⟨C, dd, vs, fs, ρ, M', e1, e2, e3, e4, e5, e6, e7, M2, hs, q⟩ := h
      subst e1 e2
      exact kx C dd H' vs fs M2 e7 e3 e4 (e6.less hs) q) (passes_of rfl)
    exact ⟨_, pt.ps, startD N ds, M, _, start_rel rl, rm, ht ds M Q0 h, ⟨fun σ H' ρ M' t r m q => down .non H' .non M' t rfl m q, down, fun _ _ _ _ _ _ _ z => z.elim, fun _ _ _ _ _ _ _ z => z.elim⟩⟩
end
/-- the code object of a def of the head -/
theorem codeAt_ref {K : PySem.W.Frag} {p : Str × Option Str} {cv : Value} (h : CodeAt K (He.fAd K p) cv) : cv = .ref (He.cT K p).1 := by
  obtain ⟨oc, od, fd, osl, lk, e, q, hq⟩ := h
  obtain ⟨c, rfl⟩ := He.codeIn_ref hq
  exact congrArg Value.ref (He.codeOf_eq lk e).symm
/-- the law's call, from its promise on data: its table is empty -/
theorem lowLawT {K : PySem.W.Frag} {H : Hp} {a T : Addr} {q : Str} {ns : List Int} {s : SpD} (hl : noLst K = true) (hS : SqL K H a (ns.map V.int)) (hT : H T = some (.tbl #[]))
    (h : ∀ M : Mem, a ≠ T → M a = some (.ro (ns.map D.int)) → M T = some (.tab q []) → s [.ref a] M (fun d _ => d = .bl true) fun _ _ _ => False) :
    lowSp K s [.ref a] H (fun v _ => v = .bl true) fun _ _ _ => False := by
  have rd := noLst_rd hl hS
  have ne : a ≠ T := by
    rintro rfl
    rcases rd with z | ⟨o, z⟩ <;> (rw [hT] at z; cases z)
  have rl : ∀ l : List Int, RelL H (l.map D.int) (l.map V.int) := fun l => by
    induction l with
    | nil => exact .nil
    | cons x l ih => exact .cons rfl ih
  refine ⟨[.ref a], fun b => if b = a then some (.ro (ns.map D.int)) else if b = T then some (.tab q []) else none, fun d _ => d = .bl true, fun _ _ _ => False, .cons rfl .nil, fun b o e => ?_, h _ ne (if_pos rfl) ?_, fun v H' d M' _ r _ q => ?_, fun _ _ _ _ _ _ _ _ _ _ z => z⟩
  · by_cases hb : b = a
    · subst hb
      have e2 := (if_pos rfl).symm.trans e
      cases e2
      exact ⟨ns.map V.int, rd, rl ns⟩
    · have e2 := (if_neg hb).symm.trans e
      by_cases hb2 : b = T
      · subst hb2
        have e3 := (if_pos rfl).symm.trans e2
        cases e3
        exact ⟨.nil hT, fun c hc => nomatch hc⟩
      · have e3 := (if_neg hb2).symm.trans e2
        cases e3
  · show (if T = a then _ else if T = T then _ else _) = _
    rw [if_neg (Ne.symm ne), if_pos rfl]
  · subst q
    exact r
end DL

end T_DM7

section T_DN1
set_option Elab.async false
set_option linter.all false
set_option maxRecDepth 100000
set_option maxHeartbeats 1000000
/-! The D layer, N1: rows of ints in their order. -/
namespace DL
open PySem PySem.Spec L2
open PyProof.Rows hiding St

/-- a row of ints, as a tuple -/
def rowD (xs : List Int) : D := .tup (xs.map .int)
theorem rowD_inj {xs ys : List Int} (h : rowD xs = rowD ys) : xs = ys := by
  have e : xs.map D.int = ys.map D.int := D.tup.inj h
  exact (List.map_inj_right (fun a b z => D.int.inj z)).mp e
theorem leD_trans {a b c : D} (h1 : leD a b = true) (h2 : leD b c = true) : leD a c = true := (PySem.W.sortLe_total (listOrd itemOrd) false fun b : D => PySem.W.keyToks b.py).trans a b c h1 h2
theorem leD_total (a b : D) : (leD a b || leD b a) = true := by
  rcases (PySem.W.sortLe_total (listOrd itemOrd) false fun b : D => PySem.W.keyToks b.py).total a b with h | h
  · rw [show leD a b = true from h]; rfl
  · rw [show leD b a = true from h, Bool.or_true]
theorem toks_row : ∀ xs ys : List Int, PySem.W.keyToksAll (D.pyL (xs.map D.int)) = PySem.W.keyToksAll (D.pyL (ys.map D.int)) → xs = ys
  | [], [], _ => rfl
  | [], y :: ys, h => by simp [D.pyL, D.py, PySem.W.keyToksAll] at h
  | x :: xs, [], h => by simp [D.pyL, D.py, PySem.W.keyToksAll] at h
  | x :: xs, y :: ys, h => by
    simp only [List.map_cons, D.pyL, D.py, PySem.W.keyToksAll, PySem.W.keyToks, List.cons_append, List.nil_append, List.cons.injEq, true_and, Sum.inl.injEq] at h
    rw [h.1, toks_row xs ys h.2]
theorem leD_anti {xs ys : List Int} (h1 : leD (rowD xs) (rowD ys) = true) (h2 : leD (rowD ys) (rowD xs) = true) : xs = ys := by
  have e1 : (listOrd itemOrd).blt (PySem.W.keyToks (rowD ys).py) (PySem.W.keyToks (rowD xs).py) = false := by
    have z : (!(listOrd itemOrd).blt (PySem.W.keyToks (rowD ys).py) (PySem.W.keyToks (rowD xs).py)) = true := h1
    simpa using z
  have e2 : (listOrd itemOrd).blt (PySem.W.keyToks (rowD xs).py) (PySem.W.keyToks (rowD ys).py) = false := by
    have z : (!(listOrd itemOrd).blt (PySem.W.keyToks (rowD xs).py) (PySem.W.keyToks (rowD ys).py)) = true := h2
    simpa using z
  have e := (listOrd itemOrd).total _ _ e2 e1
  exact toks_row xs ys e
theorem eq_of_sorted {α : Type} {le : α → α → Bool} : ∀ {l r : List α}, l.Perm r → l.Pairwise (fun a b => le a b = true) → r.Pairwise (fun a b => le a b = true) → (∀ a ∈ l, ∀ b ∈ l, le a b = true → le b a = true → a = b) → l = r
  | [], r, p, _, _, _ => (List.nil_perm.mp p).symm
  | a :: l, [], p, _, _, _ => absurd (List.perm_nil.mp p) (by simp)
  | a :: l, b :: r, p, h1, h2, an => by
    obtain ⟨a1, a2⟩ := List.pairwise_cons.mp h1
    obtain ⟨b1, b2⟩ := List.pairwise_cons.mp h2
    have hb : b ∈ a :: l := p.symm.subset List.mem_cons_self
    have ha : a ∈ b :: r := p.subset List.mem_cons_self
    have e : a = b := by
      rcases List.mem_cons.mp hb with z | z
      · exact z.symm
      · rcases List.mem_cons.mp ha with y | y
        · exact y
        · exact an a List.mem_cons_self b hb (a1 b z) (b1 a y)
    subst e
    rw [eq_of_sorted (List.Perm.cons_inv p) a2 b2 fun x hx y hy => an x (List.mem_cons_of_mem _ hx) y (List.mem_cons_of_mem _ hy)]
theorem srt_perm (xs : List D) : (srt xs).Perm xs := List.mergeSort_perm xs _
theorem srt_sorted (xs : List D) : (srt xs).Pairwise (fun a b => leD a b = true) := List.pairwise_mergeSort (le := leD) (fun a b c => leD_trans) leD_total xs
/-- the sorted row depends on what is in it alone -/
theorem srt_eq {l r : List D} (p : l.Perm r) (rows : ∀ d ∈ l, ∃ xs, d = rowD xs) : srt l = srt r := by
  refine eq_of_sorted ((srt_perm l).trans (p.trans (srt_perm r).symm)) (srt_sorted l) (srt_sorted r) fun a ha b hb h1 h2 => ?_
  obtain ⟨xs, rfl⟩ := rows a ((srt_perm l).subset ha)
  obtain ⟨ys, rfl⟩ := rows b ((srt_perm l).subset hb)
  rw [leD_anti h1 h2]
theorem srt_of_sorted {l r : List D} (p : l.Perm r) (s : r.Pairwise (fun a b => leD a b = true)) (rows : ∀ d ∈ l, ∃ xs, d = rowD xs) : srt l = r := by
  refine eq_of_sorted ((srt_perm l).trans p) (srt_sorted l) s fun a ha b hb h1 h2 => ?_
  obtain ⟨xs, rfl⟩ := rows a ((srt_perm l).subset ha)
  obtain ⟨ys, rfl⟩ := rows b ((srt_perm l).subset hb)
  rw [leD_anti h1 h2]
end DL

end T_DN1

section T_DN2
set_option Elab.async false
set_option linter.all false
set_option maxRecDepth 100000
set_option maxHeartbeats 1000000
/-! The D layer, N2: cells as rows of ints, what is beside, what hangs together (plain). -/
namespace DL
open PySem PySem.Spec L2
open PyProof.Rows hiding St
/-! ### rows, their neighbours -/
abbrev Cel := List Int
/-- each sum -/
def plus (xs ys : List Int) : List Int := List.zipWith (· + ·) xs ys
def stepsL : Nat → List (List Int)
  | 2 => [[-1, 0], [0, -1], [0, 1], [1, 0]]
  | 3 => [[-1, 0, 0], [0, -1, 0], [0, 0, -1], [0, 0, 1], [0, 1, 0], [1, 0, 0]]
  | 4 => [[-1, 0, 0, 0], [0, -1, 0, 0], [0, 0, -1, 0], [0, 0, 0, -1], [0, 0, 0, 1], [0, 0, 1, 0], [0, 1, 0, 0], [1, 0, 0, 0]]
  | _ => []
def nbrs (xs : List Int) : List (List Int) := (stepsL xs.length).map (plus xs)
theorem steps_len {n : Nat} : ∀ s ∈ stepsL n, s.length = n := by
  unfold stepsL
  split <;> simp
def nega (s : Cel) : Cel := s.map fun x => -x
theorem steps_neg {n : Nat} : ∀ s ∈ stepsL n, nega s ∈ stepsL n := by
  unfold stepsL
  split <;> simp [nega]
theorem plus_len : ∀ {xs ys : Cel}, xs.length = ys.length → (plus xs ys).length = xs.length := by
  intro xs ys h
  simp [plus, h]
theorem plus_neg : ∀ {xs ys : Cel}, xs.length = ys.length → plus (plus xs ys) (nega ys) = xs
  | [], [], _ => rfl
  | [], _ :: _, h => by simp at h
  | _ :: _, [], h => by simp at h
  | x :: xs, y :: ys, h => by
    have := plus_neg (xs := xs) (ys := ys) (by simpa using h)
    show (x + y + -y) :: plus (plus xs ys) (nega ys) = x :: xs
    rw [this]
    congr 1
    omega
theorem nbrs_len {x y : Cel} (h : y ∈ nbrs x) : y.length = x.length := by
  obtain ⟨s, hs, rfl⟩ := List.mem_map.mp h
  exact plus_len (steps_len s hs).symm
theorem nbrs_symm {x y : Cel} (h : y ∈ nbrs x) : x ∈ nbrs y := by
  have hl := nbrs_len h
  obtain ⟨s, hs, rfl⟩ := List.mem_map.mp h
  have l := steps_len s hs
  refine List.mem_map.mpr ⟨nega s, ?_, plus_neg l.symm⟩
  rw [hl]
  exact steps_neg s hs

/-! ### what hangs together -/
inductive Reach (L : List Cel) (c : Cel) : Cel → Prop
  | base : c ∈ L → Reach L c c
  | step {x y : Cel} : Reach L c x → y ∈ nbrs x → y ∈ L → Reach L c y
theorem Reach.mem {L : List Cel} {c x : Cel} (h : Reach L c x) : x ∈ L := by
  cases h with
  | base h => exact h
  | step _ _ h => exact h
theorem Reach.start {L : List Cel} {c x : Cel} (h : Reach L c x) : c ∈ L := by
  induction h with
  | base h => exact h
  | step _ _ _ ih => exact ih
theorem Reach.trans {L : List Cel} {a b c : Cel} (h : Reach L a b) (k : Reach L b c) : Reach L a c := by
  induction k with
  | base _ => exact h
  | step _ n m ih => exact .step ih n m
theorem Reach.symm {L : List Cel} {a b : Cel} (h : Reach L a b) : Reach L b a := by
  induction h with
  | base h => exact .base h
  | step h n m ih => exact (Reach.step (.base m) (nbrs_symm n) h.mem).trans ih
theorem Reach.mono {L M : List Cel} {a b : Cel} (s : ∀ x ∈ L, x ∈ M) (h : Reach L a b) : Reach M a b := by
  induction h with
  | base h => exact .base (s _ h)
  | step _ n m ih => exact .step ih n (s _ m)
theorem Reach.within {L S : List Cel} {a b : Cel} (cl : ∀ x y, x ∈ S → Reach L x y → y ∈ S) (ha : a ∉ S) (h : Reach L a b) : Reach (L.filter fun x => decide (x ∉ S)) a b := by
  have out : ∀ z, Reach L a z → z ∉ S := fun z hz q => ha (cl z a q hz.symm)
  induction h with
  | base h => exact .base (List.mem_filter.mpr ⟨h, by simpa using ha⟩)
  | step h n m ih => exact .step ih n (List.mem_filter.mpr ⟨m, by simpa using out _ (.step h n m)⟩)
open Classical in
/-- the part of c -/
noncomputable def comp (L : List Cel) (c : Cel) : List Cel := L.filter fun x => decide (Reach L c x)
open Classical in
theorem mem_comp {L : List Cel} {c x : Cel} : x ∈ comp L c ↔ Reach L c x := by
  unfold comp
  rw [List.mem_filter, decide_eq_true_iff]
  exact ⟨fun h => h.2, fun h => ⟨h.mem, h⟩⟩
theorem perm_of {l r : List Cel} (nl : l.Nodup) (nr : r.Nodup) (h : ∀ x, x ∈ l ↔ x ∈ r) : l.Perm r := by
  rw [List.perm_iff_count]
  intro x
  have a := List.nodup_iff_count.mp nl x
  have b := List.nodup_iff_count.mp nr x
  by_cases hx : x ∈ l
  · have c := List.count_pos_iff.mpr hx
    have d := List.count_pos_iff.mpr ((h x).mp hx)
    omega
  · rw [List.count_eq_zero.mpr hx, List.count_eq_zero.mpr (fun z => hx ((h x).mpr z))]
/-- the spreading: F is done, T is to be done, the pairs D are still to be looked at -/
structure Fl (L : List Cel) (c : Cel) (F T Lf : List Cel) (D : Cel → Cel → Prop) : Prop where
  nd : (F ++ T).Nodup
  re : ∀ x ∈ F ++ T, Reach L c x
  lf : Lf = L.filter fun x => decide (x ∉ F ++ T)
  st : c ∈ F ++ T
  cl : ∀ x ∈ F, ∀ y ∈ nbrs x, y ∈ L → y ∈ F ++ T ∨ D x y
theorem Fl.init {L : List Cel} {c : Cel} (h : c ∈ L) : Fl L c [] [c] (L.filter fun x => decide (x ≠ c)) (fun _ _ => False) where
  nd := by simp
  re := by simpa using Reach.base h
  lf := by simp
  st := by simp
  cl := by simp
theorem Fl.pop {L : List Cel} {c o : Cel} {F T Lf : List Cel} (h : Fl L c F (T ++ [o]) Lf (fun _ _ => False)) : Fl L c (F ++ [o]) T Lf (fun x y => x = o ∧ y ∈ nbrs o) := by
  have mm : ∀ x, x ∈ F ++ [o] ++ T ↔ x ∈ F ++ (T ++ [o]) := fun x => by simp only [List.mem_append, List.mem_singleton]; grind
  refine ⟨?_, fun x hx => h.re x ((mm x).mp hx), ?_, (mm c).mpr h.st, fun x hx y hy hL => ?_⟩
  · have p : (F ++ [o] ++ T).Perm (F ++ (T ++ [o])) := by
      rw [List.append_assoc]
      exact List.Perm.append_left F List.perm_append_comm
    exact p.nodup_iff.mpr h.nd
  · rw [h.lf]
    refine List.filter_congr fun x _ => ?_
    rw [decide_eq_decide, mm x]
  · rcases List.mem_append.mp hx with z | z
    · rcases h.cl x z y hy hL with q | q
      · exact .inl ((mm y).mpr q)
      · exact q.elim
    · rw [List.mem_singleton] at z
      subst z
      exact .inr ⟨rfl, hy⟩
theorem Fl.mem {L : List Cel} {c o y : Cel} {F T Lf : List Cel} {D : Cel → Cel → Prop} (h : Fl L c F T Lf D) : y ∈ Lf ↔ y ∈ L ∧ y ∉ F ++ T := by
  rw [h.lf, List.mem_filter, decide_eq_true_iff]
theorem Fl.take {L : List Cel} {c o y : Cel} {F T Lf ys : List Cel} (h : Fl L c F T Lf (fun x z => x = o ∧ z ∈ y :: ys)) (ho : o ∈ F) (hn : y ∈ nbrs o) (hy : y ∈ Lf) : Fl L c F (T ++ [y]) (Lf.filter fun x => decide (x ≠ y)) (fun x z => x = o ∧ z ∈ ys) := by
  obtain ⟨hL, hm⟩ := (Fl.mem (o := o) h).mp hy
  refine ⟨?_, fun x hx => ?_, ?_, ?_, fun x hx z hz hzL => ?_⟩
  · rw [← List.append_assoc]
    refine List.nodup_append.mpr ⟨h.nd, by simp, fun a ha b hb e => ?_⟩
    rw [List.mem_singleton] at hb
    subst hb e
    exact hm ha
  · rw [← List.append_assoc, List.mem_append] at hx
    rcases hx with hx | hx
    · exact h.re x hx
    · rw [List.mem_singleton] at hx
      subst hx
      exact .step (h.re o (List.mem_append_left _ ho)) hn hL
  · rw [h.lf, List.filter_filter]
    refine List.filter_congr fun x _ => ?_
    rw [← Bool.decide_and, decide_eq_decide]
    simp only [List.mem_append, List.mem_singleton]
    grind
  · rw [← List.append_assoc]
    exact List.mem_append_left _ h.st
  · rw [← List.append_assoc]
    rcases h.cl x hx z hz hzL with q | ⟨rfl, q⟩
    · exact .inl (List.mem_append_left _ q)
    · rcases List.mem_cons.mp q with e | q
      · exact .inl (List.mem_append_right _ (by simp [e]))
      · exact .inr ⟨rfl, q⟩
theorem Fl.skip {L : List Cel} {c o y : Cel} {F T Lf ys : List Cel} (h : Fl L c F T Lf (fun x z => x = o ∧ z ∈ y :: ys)) (hy : y ∉ Lf) : Fl L c F T Lf (fun x z => x = o ∧ z ∈ ys) := by
  refine ⟨h.nd, h.re, h.lf, h.st, fun x hx z hz hzL => ?_⟩
  rcases h.cl x hx z hz hzL with q | ⟨rfl, q⟩
  · exact .inl q
  · rcases List.mem_cons.mp q with e | q
    · subst e
      refine .inl (Classical.byContradiction fun n => hy ((Fl.mem (o := x) h).mpr ⟨hzL, n⟩))
    · exact .inr ⟨rfl, q⟩
theorem Fl.done {L : List Cel} {c o : Cel} {F T Lf : List Cel} (h : Fl L c F T Lf (fun x z => x = o ∧ z ∈ [])) : Fl L c F T Lf (fun _ _ => False) := by
  refine ⟨h.nd, h.re, h.lf, h.st, fun x hx z hz hzL => ?_⟩
  rcases h.cl x hx z hz hzL with q | ⟨_, q⟩
  · exact .inl q
  · cases q
theorem Fl.all {L : List Cel} {c : Cel} {F Lf : List Cel} (h : Fl L c F [] Lf (fun _ _ => False)) (x : Cel) : x ∈ F ↔ Reach L c x := by
  refine ⟨fun hx => h.re x (by simpa using hx), fun hx => ?_⟩
  induction hx with
  | base _ => simpa using h.st
  | step _ n m ih =>
    rcases h.cl _ ih _ n m with q | q
    · simpa using q
    · exact q.elim
theorem Fl.perm {L : List Cel} {c : Cel} {F Lf : List Cel} (h : Fl L c F [] Lf (fun _ _ => False)) (nd : L.Nodup) : F.Perm (comp L c) := by
  refine perm_of (by simpa using h.nd) (nd.sublist List.filter_sublist) fun x => ?_
  rw [h.all, mem_comp]
theorem Fl.rest {L : List Cel} {c : Cel} {F Lf : List Cel} (h : Fl L c F [] Lf (fun _ _ => False)) : Lf = L.filter fun x => decide (x ∉ comp L c) := by
  rw [h.lf]
  refine List.filter_congr fun x _ => ?_
  rw [decide_eq_decide, mem_comp, ← h.all x, List.append_nil]
theorem drop_one {l : List Cel} (nd : l.Nodup) {y : Cel} (h : y ∈ l) : (l.filter fun x => decide (x ≠ y)).length + 1 = l.length := by
  induction l with
  | nil => cases h
  | cons a l ih =>
    obtain ⟨n1, n2⟩ := List.nodup_cons.mp nd
    by_cases e : a = y
    · subst e
      have z : (l.filter fun x => decide (x ≠ a)) = l := List.filter_eq_self.mpr fun x hx => by
        have : x ≠ a := fun q => n1 (q ▸ hx)
        simpa using this
      rw [List.filter_cons_of_neg (by simp), z]
      rfl
    · rw [List.filter_cons_of_pos (by simpa using e)]
      rcases List.mem_cons.mp h with q | q
      · exact absurd q.symm e
      · have := ih n2 q
        simp only [List.length_cons]
        omega
/-! ### all parts, by the order cs -/
section
variable (srtR : List Cel → List Cel)
noncomputable def partsBy (L : List Cel) : List Cel → List Cel → List (List Cel)
  | [], _ => []
  | c :: cs, S => if c ∈ S then partsBy L cs S else srtR (comp L c) :: partsBy L cs (S ++ comp L c)
theorem parts_congr {L : List Cel} : ∀ {cs S T : List Cel}, (∀ x, x ∈ S ↔ x ∈ T) → partsBy srtR L cs S = partsBy srtR L cs T
  | [], _, _, _ => rfl
  | c :: cs, S, T, h => by
    unfold partsBy
    by_cases q : c ∈ S
    · rw [if_pos q, if_pos ((h c).mp q), parts_congr h]
    · rw [if_neg q, if_neg (fun z => q ((h c).mpr z)), parts_congr (S := S ++ comp L c) (T := T ++ comp L c) fun x => by
        rw [List.mem_append, List.mem_append, h x]]
end
/-- a lot closed under hanging together -/
def Shut (L S : List Cel) : Prop := ∀ x y, x ∈ S → Reach L x y → y ∈ S
theorem Shut.more {L S : List Cel} {c : Cel} (h : Shut L S) : Shut L (S ++ comp L c) := fun x y hx hr => by
  rw [List.mem_append, mem_comp] at hx ⊢
  rcases hx with hx | hx
  · exact .inl (h x y hx hr)
  · exact .inr (hx.trans hr)
open Classical in
theorem comp_rest {L S : List Cel} {c : Cel} (h : Shut L S) (hc : c ∉ S) : comp (L.filter fun x => decide (x ∉ S)) c = comp L c := by
  unfold comp
  rw [List.filter_filter]
  refine List.filter_congr fun x _ => ?_
  rw [← Bool.decide_and, decide_eq_decide]
  constructor
  · rintro ⟨a, b⟩
    exact a.mono fun x hx => (List.mem_filter.mp hx).1
  · intro a
    have := a.within h hc
    exact ⟨this, by simpa using (List.mem_filter.mp this.mem).2⟩
theorem rest_rest {L S C : List Cel} : ((L.filter fun x => decide (x ∉ S)).filter fun x => decide (x ∉ C)) = L.filter fun x => decide (x ∉ S ++ C) := by
  rw [List.filter_filter]
  refine List.filter_congr fun x _ => ?_
  rw [← Bool.decide_and, decide_eq_decide, List.mem_append]
  grind
/-- each once, as they come -/
def dedup (xs : List Cel) : List Cel := xs.foldl (fun acc r => if r ∈ acc then acc else acc ++ [r]) []
theorem dedup_inv {P : List Cel → Prop} (step : ∀ acc r, P acc → r ∉ acc → P (acc ++ [r])) : ∀ (xs acc : List Cel), P acc → P (xs.foldl (fun acc r => if r ∈ acc then acc else acc ++ [r]) acc)
  | [], _, h => h
  | x :: xs, acc, h => by
    refine dedup_inv step xs _ ?_
    show P (if x ∈ acc then acc else acc ++ [x])
    by_cases q : x ∈ acc
    · rw [if_pos q]
      exact h
    · rw [if_neg q]
      exact step acc x h q
theorem dedup_nodup (xs : List Cel) : (dedup xs).Nodup := dedup_inv (P := List.Nodup) (fun acc r h n => List.nodup_append.mpr ⟨h, by simp, fun a ha b hb e => by
  rw [List.mem_singleton] at hb
  subst hb e
  exact n ha⟩) xs [] List.nodup_nil
theorem dedup_mem_go (x : Cel) : ∀ (xs acc : List Cel), x ∈ xs.foldl (fun acc r => if r ∈ acc then acc else acc ++ [r]) acc ↔ x ∈ acc ∨ x ∈ xs
  | [], acc => by simp
  | y :: xs, acc => by
    rw [List.foldl_cons, dedup_mem_go x xs]
    by_cases q : y ∈ acc
    · rw [if_pos q]
      grind
    · rw [if_neg q]
      grind
theorem mem_dedup {xs : List Cel} {x : Cel} : x ∈ dedup xs ↔ x ∈ xs := by
  unfold dedup
  rw [dedup_mem_go]
  simp
theorem dedup_len_go : ∀ (xs acc : List Cel), (xs.foldl (fun acc r => if r ∈ acc then acc else acc ++ [r]) acc).length ≤ acc.length + xs.length
  | [], acc => by simp
  | y :: xs, acc => by
    rw [List.foldl_cons]
    have := dedup_len_go xs (if y ∈ acc then acc else acc ++ [y])
    have l : (if y ∈ acc then acc else acc ++ [y]).length ≤ acc.length + 1 := by
      split
      · omega
      · simp
    simp only [List.length_cons]
    omega
theorem dedup_len (xs : List Cel) : (dedup xs).length ≤ xs.length := by
  have := dedup_len_go xs []
  simpa [dedup] using this
/-! ### sorted rows -/
def srtR (L : List Cel) : List Cel := L.mergeSort fun a b => leD (rowD a) (rowD b)
theorem srtR_perm (L : List Cel) : (srtR L).Perm L := List.mergeSort_perm L _
theorem srtR_sorted (L : List Cel) : (srtR L).Pairwise (fun a b => leD (rowD a) (rowD b) = true) := List.pairwise_mergeSort (le := fun a b => leD (rowD a) (rowD b)) (fun a b c => leD_trans) (fun a b => leD_total _ _) L
theorem srt_rows (L : List Cel) : srt (L.map rowD) = (srtR L).map rowD := by
  refine srt_of_sorted ((srtR_perm L).symm.map rowD) ?_ fun d hd => ?_
  · rw [List.pairwise_map]
    exact srtR_sorted L
  · obtain ⟨xs, _, e⟩ := List.mem_map.mp hd
    exact ⟨xs, e.symm⟩
theorem srtR_eq {L M : List Cel} (p : L.Perm M) : srtR L = srtR M := by
  have e := srt_eq (p.map rowD) fun d hd => by
    obtain ⟨xs, _, e⟩ := List.mem_map.mp hd
    exact ⟨xs, e.symm⟩
  rw [srt_rows, srt_rows] at e
  exact (List.map_inj_right (fun a b z => rowD_inj z)).mp e
/-- the parts of a lot, ordered -/
noncomputable def parts (L : List Cel) : List (List Cel) := partsBy srtR L (srtR L) []
end DL
namespace DL
theorem len_le {F L : List Cel} (nd : F.Nodup) (sub : ∀ x ∈ F, x ∈ L) : F.length ≤ L.length := by
  induction F generalizing L with
  | nil => exact Nat.zero_le _
  | cons a F ih =>
    obtain ⟨n1, n2⟩ := List.nodup_cons.mp nd
    have ha := sub a List.mem_cons_self
    have := ih (L := L.erase a) n2 fun x hx => (List.mem_erase_of_ne (fun (e : x = a) => n1 (e ▸ hx))).mpr (sub x (List.mem_cons_of_mem _ hx))
    rw [List.length_erase_of_mem ha] at this
    have p := List.length_pos_of_mem ha
    simp only [List.length_cons]
    omega
end DL

end T_DN2

section T_DN3
set_option Elab.async false
set_option linter.all false
set_option maxRecDepth 100000
set_option maxHeartbeats 1000000
/-! The D layer, N3: rows as keys, sorted rows, the neighbours in their order. -/
namespace DL
open PySem PySem.Spec L2
open PyProof.Rows hiding St

theorem py_ints : ∀ xs : Cel, D.pyL (xs.map D.int) = xs.map PyData.int
  | [] => rfl
  | x :: xs => by
    rw [List.map_cons, D.pyL, py_ints xs]
    rfl
theorem py_row (xs : Cel) : (rowD xs).py = .tuple (xs.map PyData.int) := by
  show PyData.tuple (D.pyL (xs.map D.int)) = _
  rw [py_ints]
theorem pure_ints : ∀ xs : Cel, D.pureL (xs.map D.int) = true
  | [] => rfl
  | x :: xs => by
    rw [List.map_cons, D.pureL, pure_ints xs]
    rfl
theorem pure_row (xs : Cel) : (rowD xs).pure = true := pure_ints xs
theorem pure_rows : ∀ L : List Cel, D.pureL (L.map rowD) = true
  | [] => rfl
  | r :: L => by
    rw [List.map_cons, D.pureL, pure_rows L, pure_row]
    rfl
theorem alike_ints : ∀ xs ys : Cel, PySem.W.alikeAll (xs.map PyData.int) (ys.map PyData.int) = true
  | [], _ => by rw [List.map_nil, PySem.W.alikeAll]
  | _ :: _, [] => by rw [List.map_cons, List.map_nil, PySem.W.alikeAll]
  | x :: xs, y :: ys => by
    rw [List.map_cons, List.map_cons, PySem.W.alikeAll, alike_ints xs ys]
    rfl
theorem depth_ints : ∀ xs : Cel, PyData.depthAll (xs.map PyData.int) = 0
  | [] => rfl
  | x :: xs => by
    rw [List.map_cons, PyData.depthAll, depth_ints xs]
    rfl
theorem rows_ok {L : List Cel} (hl : L.length < sizeLine) (ne : ∀ r ∈ L, r ≠ []) : SortOk (L.map rowD) where
  len := by simpa using hl
  pure := pure_rows L
  alike := by
    rw [pyL_map, List.map_map]
    refine PySem.W.AllAlike.of fun b b' => ?_
    show PySem.W.alike (rowD b).py (rowD b').py = true
    rw [py_row, py_row, PySem.W.alike]
    exact alike_ints b b'
  able := by
    rw [pyL_map, List.map_map]
    refine .inl fun d hd => ?_
    obtain ⟨r, hr, rfl⟩ := List.mem_map.mp hd
    cases e : r with
    | nil => exact absurd e (ne r hr)
    | cons x xs => exact ⟨.int x, xs.map PyData.int, py_row _⟩
  deep := fun d hd => by
    obtain ⟨r, hr, rfl⟩ := List.mem_map.mp hd
    rw [py_row, PyData.depth, depth_ints]
    decide
/-! ### rows as keys -/
def kv (r : Cel) : D × D := (rowD r, .bl true)
def dtO (L : List Cel) : DO := .dT (L.map kv)
theorem keys_ints : ∀ xs : Cel, (keysOf (xs.map D.int)).isSome = true
  | [] => rfl
  | x :: xs => by
    have h := keys_ints xs
    rw [List.map_cons]
    unfold keysOf
    cases e : keysOf (xs.map D.int) with
    | none => rw [e] at h; cases h
    | some k => rfl
theorem key_row (r : Cel) : isKey true (rowD r) = true := keys_ints r
theorem look_kv {r : Cel} : ∀ {L : List Cel}, look (L.map kv) (rowD r) = if r ∈ L then some (.bl true) else none
  | [] => rfl
  | x :: L => by
    have ih := look_kv (r := r) (L := L)
    unfold look at ih ⊢
    rw [List.map_cons, List.find?_cons]
    by_cases e : x = r
    · subst e
      simp [kv]
    · have n : rowD x ≠ rowD r := fun z => e (rowD_inj z)
      have m : (r ∈ x :: L) = (r ∈ L) := by
        rw [List.mem_cons, eq_iff_iff]
        exact ⟨fun h => h.resolve_left (Ne.symm e), .inr⟩
      simp only [kv, n, decide_false, m]
      exact ih
theorem look_some {r : Cel} {L : List Cel} : (look (L.map kv) (rowD r)).isSome = decide (r ∈ L) := by
  rw [look_kv]
  by_cases h : r ∈ L
  · rw [if_pos h, decide_eq_true h]; rfl
  · rw [if_neg h, decide_eq_false h]; rfl
theorem ddel_kv {r : Cel} : ∀ {L : List Cel}, ddel (L.map kv) (rowD r) = (L.filter fun x => decide (x ≠ r)).map kv
  | [] => rfl
  | x :: L => by
    have ih := ddel_kv (r := r) (L := L)
    unfold ddel at ih ⊢
    rw [List.map_cons]
    by_cases e : x = r
    · subst e
      rw [List.filter_cons_of_neg (by simp [kv]), List.filter_cons_of_neg (by simp)]
      exact ih
    · have n : rowD x ≠ rowD r := fun z => e (rowD_inj z)
      rw [List.filter_cons_of_pos (a := kv x) (p := fun p => decide (p.1 ≠ rowD r)) (decide_eq_true n), List.filter_cons_of_pos (by simpa using e), List.map_cons, ih]
theorem dput_kv {r : Cel} {L : List Cel} : dput (L.map kv) (rowD r) (.bl true) = (if r ∈ L then L else L ++ [r]).map kv := by
  unfold dput
  have any : ((L.map kv).any fun p => decide (p.1 = rowD r)) = decide (r ∈ L) := by
    rw [List.any_map, Bool.eq_iff_iff, List.any_eq_true, decide_eq_true_iff]
    constructor
    · rintro ⟨x, hx, e⟩
      have e : rowD x = rowD r := of_decide_eq_true e
      rw [← rowD_inj e]
      exact hx
    · intro h
      exact ⟨r, h, by simp [kv]⟩
  rw [any]
  by_cases h : r ∈ L
  · rw [if_pos (by simpa using h), if_pos h, List.map_map]
    refine List.map_congr_left fun x _ => ?_
    show (if rowD x = rowD r then (rowD x, D.bl true) else kv x) = kv x
    split <;> rfl
  · rw [if_neg (by simpa using h), if_neg h, List.map_append]
    rfl
theorem merge_kv : ∀ (xs acc : List Cel), (xs.map kv).foldl (fun acc p => dput acc p.1 p.2) (acc.map kv) = (xs.foldl (fun acc r => if r ∈ acc then acc else acc ++ [r]) acc).map kv
  | [], acc => rfl
  | x :: xs, acc => by
    rw [List.map_cons, List.foldl_cons, List.foldl_cons]
    show (xs.map kv).foldl _ (dput (acc.map kv) (rowD x) (.bl true)) = _
    rw [dput_kv, merge_kv]
theorem keys_kv (L : List Cel) : (L.map kv).map (·.1) = L.map rowD := by
  rw [List.map_map]
  rfl
/-! ### the order of rows -/
def rlt : Cel → Cel → Bool
  | x :: xs, y :: ys => decide (x < y) || (decide (x = y) && rlt xs ys)
  | _, _ => false
theorem rlt_toks : ∀ {xs ys : Cel}, rlt xs ys = true → PyProof.Rows.lexLt PyProof.Rows.itemOrd (PySem.W.keyToksAll (ys.map PyData.int)) (PySem.W.keyToksAll (xs.map PyData.int)) = false
  | [], _, h => by simp [rlt] at h
  | _ :: _, [], h => by simp [rlt] at h
  | x :: xs, y :: ys, h => by
    simp only [rlt, Bool.or_eq_true, Bool.and_eq_true, decide_eq_true_eq] at h
    simp only [List.map_cons, PySem.W.keyToksAll, PySem.W.keyToks, List.cons_append, List.nil_append, PyProof.Rows.lexLt, PyProof.Rows.itemLt]
    rcases h with h | ⟨rfl, h⟩
    · have n : ¬ y < x := by omega
      simp [h, n]
    · simp [rlt_toks h]
theorem rlt_le {xs ys : Cel} (h : rlt xs ys = true) : leD (rowD xs) (rowD ys) = true := by
  have z := rlt_toks h
  have e1 : PySem.W.keyToks (rowD xs).py = PySem.W.keyToksAll (xs.map PyData.int) := by rw [py_row, PySem.W.keyToks]
  have e2 : PySem.W.keyToks (rowD ys).py = PySem.W.keyToksAll (ys.map PyData.int) := by rw [py_row, PySem.W.keyToks]
  show (!(PyProof.Rows.listOrd PyProof.Rows.itemOrd).blt (PySem.W.keyToks (rowD ys).py) (PySem.W.keyToks (rowD xs).py)) = true
  rw [e1, e2]
  show (!PyProof.Rows.lexLt PyProof.Rows.itemOrd _ _) = true
  rw [z]
  rfl
theorem rlt_plus : ∀ {xs ys zs : Cel}, ys.length = xs.length → zs.length = xs.length → rlt ys zs = true → rlt (plus xs ys) (plus xs zs) = true
  | [], [], [], _, _, h => by simp [rlt] at h
  | x :: xs, y :: ys, z :: zs, h1, h2, h => by
    simp only [rlt, Bool.or_eq_true, Bool.and_eq_true, decide_eq_true_eq] at h
    show rlt ((x + y) :: plus xs ys) ((x + z) :: plus xs zs) = true
    simp only [rlt, Bool.or_eq_true, Bool.and_eq_true, decide_eq_true_eq]
    rcases h with h | ⟨rfl, h⟩
    · left; omega
    · exact .inr ⟨rfl, rlt_plus (by simpa using h1) (by simpa using h2) h⟩
  | [], _ :: _, _, h, _, _ => by simp at h
  | _ :: _, [], _, h, _, _ => by simp at h
  | [], [], _ :: _, _, h, _ => by simp at h
  | _ :: _, _ :: _, [], _, h, _ => by simp at h
theorem steps_sorted {n : Nat} : (stepsL n).Pairwise (fun a b => rlt a b = true) := by
  unfold stepsL
  split
  · decide
  · decide
  · decide
  · exact .nil
theorem nbrs_sorted (xs : Cel) : ((nbrs xs).map rowD).Pairwise (fun a b => leD a b = true) := by
  rw [List.pairwise_map]
  unfold nbrs
  rw [List.pairwise_map]
  refine List.Pairwise.imp_of_mem (fun {a b} ha hb h => ?_) (steps_sorted (n := xs.length))
  exact rlt_le (rlt_plus (steps_len a ha) (steps_len b hb) h)
/-- the law's order of the steps -/
def bmp (xs : Cel) (k : Nat) (d : Int) : Cel := xs.take k ++ (xs.getD k 0 + d) :: xs.drop (k + 1)
def bumps (xs : Cel) (m : Nat) : List Cel := (List.range m).flatMap fun k => [bmp xs k (-1), bmp xs k 1]
theorem bumps_perm {xs : Cel} (h0 : 2 ≤ xs.length) (h1 : xs.length ≤ 4) : (bumps xs xs.length).Perm (nbrs xs) := by
  have e : xs.length = 2 ∨ xs.length = 3 ∨ xs.length = 4 := by omega
  have red : ∀ l : List Cel, (bumps xs xs.length) = l.map (plus xs) → l.isPerm (stepsL xs.length) = true → (bumps xs xs.length).Perm (nbrs xs) := fun l a b => by
    rw [a]
    exact (List.isPerm_iff.mp b).map _
  match xs, e with
  | [a, b], _ => exact red [[-1, 0], [1, 0], [0, -1], [0, 1]] (by simp [bumps, bmp, plus, List.range, List.range.loop]) (by show List.isPerm _ (stepsL 2) = true; decide)
  | [a, b, c], _ => exact red [[-1, 0, 0], [1, 0, 0], [0, -1, 0], [0, 1, 0], [0, 0, -1], [0, 0, 1]] (by simp [bumps, bmp, plus, List.range, List.range.loop]) (by show List.isPerm _ (stepsL 3) = true; decide)
  | [a, b, c, d], _ => exact red [[-1, 0, 0, 0], [1, 0, 0, 0], [0, -1, 0, 0], [0, 1, 0, 0], [0, 0, -1, 0], [0, 0, 1, 0], [0, 0, 0, -1], [0, 0, 0, 1]] (by simp [bumps, bmp, plus, List.range, List.range.loop]) (by show List.isPerm _ (stepsL 4) = true; decide)
  | [], e => simp at e
  | [_], e => simp at e
  | _ :: _ :: _ :: _ :: _ :: _, e => simp at e
theorem bumps_srt {xs : Cel} (h0 : 2 ≤ xs.length) (h1 : xs.length ≤ 4) : srt ((bumps xs xs.length).map rowD) = (nbrs xs).map rowD := by
  refine srt_of_sorted ((bumps_perm h0 h1).map rowD) (nbrs_sorted xs) fun d hd => ?_
  obtain ⟨r, _, e⟩ := List.mem_map.mp hd
  exact ⟨r, e.symm⟩
theorem rdL_keep {M M' : Mem} {a : Addr} {xs : List D} (k : Keep M M') (h : rdL M a = some xs) : rdL M' a = some xs := by
  unfold rdL at h ⊢
  split at h
  · rename_i e; rw [k _ _ e]; exact h
  · rename_i e; rw [k _ _ e]; exact h
  · cases h
theorem rdS_Keep {M M' : Mem} {d : D} {xs : List D} (k : Keep M M') (h : rdS M d = some xs) : rdS M' d = some xs := by
  cases d with
  | ref a => exact rdL_keep k h
  | _ => exact h
end DL

end T_DN3

section T_DN4
set_option Elab.async false
set_option linter.all false
set_option maxRecDepth 100000
set_option maxHeartbeats 1000000
/-! The D layer, N4: data that can be shown and compared; rows as such. -/
namespace DL
open PySem PySem.Spec L2
open PyProof.Rows hiding St

/-! texts of characters -/
theorem ok_append (a b : Str) : PyData.strOk (a ++ b) = (PyData.strOk a && PyData.strOk b) := by
  show (a.cps ++ b.cps).all _ = (a.cps.all _ && b.cps.all _)
  rw [Array.all_append]
theorem ok_ofString (s : String) : PyData.strOk (Str.ofString s) = true := by
  rw [Str.ofString_eq_toList]
  show ((s.toList.map Char.toNat).toArray).all _ = true
  rw [List.all_toArray, List.all_map, List.all_eq_true]
  intro c _
  have h := c.valid
  have : c.toNat < 0x110000 := by
    rcases h with h | h
    · have h2 : c.toNat < 0xd800 := h
      omega
    · exact h.2
  exact decide_eq_true this
theorem ok_join {sep : Str} (h : PyData.strOk sep = true) : ∀ ts : List Str, (∀ t ∈ ts, PyData.strOk t = true) → PyData.strOk (Str.join sep ts) = true
  | [], _ => (by decide +kernel : PyData.strOk Str.empty = true)
  | [x], k => k x List.mem_cons_self
  | x :: y :: r, k => by
    show PyData.strOk (x ++ sep ++ Str.join sep (y :: r)) = true
    rw [ok_append, ok_append, k x List.mem_cons_self, h, ok_join h (y :: r) fun t ht => k t (List.mem_cons_of_mem _ ht)]
    rfl
theorem ok_textFrom : ∀ (ts : List Str) (k : Nat) (acc : Str), PyData.strOk acc = true → (∀ t ∈ ts, PyData.strOk t = true) → PyData.strOk (textFrom k acc ts) = true
  | [], _, _, h, _ => h
  | t :: r, k, acc, h, g => by
    show PyData.strOk (textFrom (k + 1) (acc ++ (if k > 0 then ", " else "" : String) ++ t) r) = true
    refine ok_textFrom r _ _ ?_ fun u hu => g u (List.mem_cons_of_mem _ hu)
    rw [ok_append, ok_append, h, g t List.mem_cons_self, ok_ofString]
    rfl
theorem ok_tupleText {ts : List Str} (h : ∀ t ∈ ts, PyData.strOk t = true) : PyData.strOk (tupleText ts) = true := by
  unfold tupleText
  rw [ok_append, ok_append, ok_ofString, ok_ofString, ok_join (ok_ofString _) ts h]
  rfl
theorem ok_listText {ts : List Str} (h : ∀ t ∈ ts, PyData.strOk t = true) : PyData.strOk (listText ts) = true := by
  unfold listText
  rw [ok_append, ok_ofString, ok_textFrom ts 0 _ (ok_ofString _) h]
  rfl
structure Sh (M : Mem) (d : D) (p : PyData) (dp ln : Nat) : Prop where
  py : PyR M d p
  sh : p.showable = true
  dp : p.depth ≤ dp
  ln : p.shown.length ≤ ln
  lay : p.canLay0 = true
  ok : PyData.strOk p.shown = true
structure ShL (M : Mem) (ds : List D) (ps : List PyData) (dp ln : Nat) : Prop where
  py : PyRL M ds ps
  sh : PyData.showableAll ps = true
  dp : PyData.depthAll ps ≤ dp
  ln : ((PyData.shownAll ps).map (·.length)).sum ≤ ln * ds.length
  len : (PyData.shownAll ps).length = ds.length
  lay : PyData.canLayAll0 ps = true
  ok : ∀ t ∈ PyData.shownAll ps, PyData.strOk t = true
theorem Sh.mono {M : Mem} {d : D} {p : PyData} {k l k' l' : Nat} (h : Sh M d p k l) (hk : k ≤ k') (hl : l ≤ l') : Sh M d p k' l' := ⟨h.py, h.sh, Nat.le_trans h.dp hk, Nat.le_trans h.ln hl, h.lay, h.ok⟩
theorem ShL.nil {M : Mem} {k l : Nat} : ShL M [] [] k l := ⟨.nil, rfl, Nat.zero_le _, Nat.zero_le _, rfl, rfl, by intro t ht; cases ht⟩
theorem ShL.cons {M : Mem} {d : D} {p : PyData} {ds : List D} {ps : List PyData} {k l : Nat} (h : Sh M d p k l) (t : ShL M ds ps k l) : ShL M (d :: ds) (p :: ps) k l := by
  obtain ⟨a1, a2, a3, a4, a5, a6⟩ := h
  obtain ⟨b1, b2, b3, b4, b5, b6, b7⟩ := t
  refine ⟨.cons a1 b1, ?_, ?_, ?_, ?_, ?_, ?_⟩
  · rw [PyData.showableAll, a2, b2]; rfl
  · rw [PyData.depthAll]; omega
  · rw [PyData.shownAll, List.map_cons, List.sum_cons, List.length_cons, Nat.mul_add, Nat.mul_one]; omega
  · rw [PyData.shownAll, List.length_cons, b5, List.length_cons]
  · rw [PyData.canLayAll0, a5, b6]; rfl
  · intro t ht
    rw [PyData.shownAll] at ht
    rcases List.mem_cons.mp ht with rfl | ht
    · exact a6
    · exact b7 t ht
theorem ShL.map {M : Mem} {α : Type} {f : α → D} {g : α → PyData} {k l : Nat} : ∀ {xs : List α}, (∀ x ∈ xs, Sh M (f x) (g x) k l) → ShL M (xs.map f) (xs.map g) k l
  | [], _ => .nil
  | x :: xs, h => .cons (h x List.mem_cons_self) (ShL.map fun y hy => h y (List.mem_cons_of_mem _ hy))
theorem Sh.tup {M : Mem} {ds : List D} {ps : List PyData} {k l n : Nat} (h : ShL M ds ps k l) (hn : ds.length ≤ n) : Sh M (.tup ds) (.tuple ps) (k + 1) ((l + 2) * n + 3) := by
  refine ⟨.tup h.py, h.sh, ?_, ?_, h.lay, ok_tupleText h.ok⟩
  · have := h.dp
    rw [PyData.depth]; omega
  · have z := tupleText_len_le (PyData.shownAll ps)
    have a := h.ln
    have b := h.len
    have e : l * ds.length ≤ l * n := Nat.mul_le_mul_left l hn
    show (tupleText (PyData.shownAll ps)).length ≤ _
    rw [Nat.add_mul]
    omega
theorem Sh.lst {M : Mem} {a : Addr} {ds : List D} {ps : List PyData} {k l n : Nat} (hM : rdL M a = some ds) (h : ShL M ds ps k l) (hn : ds.length ≤ n) : Sh M (.ref a) (.list ps) (k + 1) ((l + 2) * n + 3) := by
  refine ⟨.lst hM h.py, h.sh, ?_, ?_, h.lay, ok_listText h.ok⟩
  · have := h.dp
    rw [PyData.depth]; omega
  · have z := listText_len_le (PyData.shownAll ps)
    have a := h.ln
    have b := h.len
    have e : l * ds.length ≤ l * n := Nat.mul_le_mul_left l hn
    show (listText (PyData.shownAll ps)).length ≤ _
    rw [Nat.add_mul]
    omega
theorem Sh.int {M : Mem} {i : Int} (h : i.natAbs < 10 ^ 50) : Sh M (.int i) (.int i) 0 60 := by
  refine ⟨.int i, ?_, Nat.le_refl _, ?_, rfl, ok_ofString _⟩
  · refine decide_eq_true ?_
    show i.natAbs.log2 < 1920
    by_cases h0 : i.natAbs = 0
    · rw [h0]; decide
    · exact (Nat.log2_lt h0).mpr (Nat.lt_trans h (by decide +kernel))
  · have e := int_text_length_le10 (k := 50) (by decide) h
    show (Str.ofString (toString i)).length ≤ 60
    rw [PySem.ofString_length]
    omega
theorem Sh.non {M : Mem} : Sh M .non .none 0 60 := ⟨.non, rfl, by decide, by decide +kernel, rfl, by decide +kernel⟩
theorem Sh.bl {M : Mem} {b : Bool} : Sh M (.bl b) (.bool b) 0 60 := ⟨.bl b, rfl, Nat.le_refl _, by cases b <;> decide +kernel, rfl, by cases b <;> decide +kernel⟩
theorem Sh.repr {M : Mem} {d : D} {p : PyData} {k l : Nat} {Q : VKd} (h : Sh M d p k l) (hk : k ≤ 32) (hl : l ≤ 16777216) (q : Q (.str p.shown) M) : reprR [d] M Q := by
  have z := sizeLine_eq
  exact .inl ⟨p, h.py, h.sh, Nat.le_trans h.dp hk, by have := h.ln; omega, q⟩
theorem Sh.shaped {M : Mem} {d : D} {p : PyData} {k l : Nat} (h : Sh M d p k l) (hk : k ≤ 64) : SeqAt.shaped p = true := by
  unfold SeqAt.shaped
  rw [h.lay]
  have := h.dp
  simp; omega
theorem Sh.eq {M : Mem} {x y : D} {p q : PyData} {k l k' l' : Nat} {Q : Bool → Mem → Prop} (h : Sh M x p k l) (g : Sh M y q k' l') (hk : k ≤ 64) (hk' : k' ≤ 64) (z : Q (PyData.eqv p q) M) : eqD x y M Q := ⟨p, q, h.py, g.py, h.shaped hk, g.shaped hk', z⟩
/-! ### rows -/
/-- every number is between -b and b -/
def Bd (b : Int) (r : Cel) : Prop := ∀ x ∈ r, -b ≤ x ∧ x ≤ b
theorem Bd.mono {b c : Int} {r : Cel} (h : Bd b r) (k : b ≤ c) : Bd c r := fun x hx => by have := h x hx; omega
theorem Sh.row {M : Mem} {r : Cel} {b : Int} {n : Nat} (h : Bd b r) (hb : b < 10 ^ 40) (hn : r.length ≤ n) : Sh M (rowD r) (.tuple (r.map PyData.int)) 1 (62 * n + 3) := by
  refine Sh.tup (ShL.map (f := D.int) (g := PyData.int) fun x hx => Sh.int ?_) (by simpa using hn)
  have := h x hx
  have h1 : (10 : Nat) ^ 50 = 100000000000000000000000000000000000000000000000000 := by decide +kernel
  have h2 : (10 : Int) ^ 40 = 10000000000000000000000000000000000000000 := by decide +kernel
  omega
theorem Sh.rows {M : Mem} {L : List Cel} {b : Int} (h : ∀ r ∈ L, Bd b r ∧ r.length ≤ 5) (hb : b < 10 ^ 40) : ShL M (L.map rowD) (L.map fun r => .tuple (r.map PyData.int)) 1 313 := ShL.map fun r hr => (Sh.row (n := 5) (h r hr).1 hb (h r hr).2)
theorem eqv_ints : ∀ xs ys : Cel, PyData.eqvAll (xs.map PyData.int) (ys.map PyData.int) = decide (xs = ys)
  | [], [] => rfl
  | [], y :: ys => by simp [PyData.eqvAll]
  | x :: xs, [] => by simp [PyData.eqvAll]
  | x :: xs, y :: ys => by
    simp only [List.map_cons, PyData.eqvAll, eqv_ints xs ys, PyData.eqv]
    rw [Bool.eq_iff_iff]
    simp
theorem eqv_rows : ∀ L L' : List Cel, PyData.eqvAll (L.map fun r => .tuple (r.map PyData.int)) (L'.map fun r => .tuple (r.map PyData.int)) = decide (L = L')
  | [], [] => rfl
  | [], y :: ys => by simp [PyData.eqvAll]
  | x :: xs, [] => by simp [PyData.eqvAll]
  | x :: xs, y :: ys => by
    simp only [List.map_cons, PyData.eqvAll, eqv_rows xs ys, PyData.eqv, eqv_ints]
    rw [Bool.eq_iff_iff]
    simp
/-- data that can be compared -/
structure La (M : Mem) (d : D) (p : PyData) (dp : Nat) : Prop where
  py : PyR M d p
  dp : p.depth ≤ dp
  lay : p.canLay0 = true
theorem Sh.la {M : Mem} {d : D} {p : PyData} {k l : Nat} (h : Sh M d p k l) : La M d p k := ⟨h.py, h.dp, h.lay⟩
theorem La.shaped {M : Mem} {d : D} {p : PyData} {k : Nat} (h : La M d p k) (hk : k ≤ 64) : SeqAt.shaped p = true := by
  unfold SeqAt.shaped
  rw [h.lay]
  have := h.dp
  simp; omega
theorem La.eq {M : Mem} {x y : D} {p q : PyData} {k k' : Nat} {Q : Bool → Mem → Prop} (h : La M x p k) (g : La M y q k') (hk : k ≤ 64) (hk' : k' ≤ 64) (z : Q (PyData.eqv p q) M) : eqD x y M Q := ⟨p, q, h.py, g.py, h.shaped hk, g.shaped hk', z⟩
theorem Sh.ofok {M : Mem} {d : D} {p : PyData} {k l : Nat} (h : Sh M d p k l) : PyData.strOk p.shown = true := h.ok
def rowP (r : Cel) : PyData := .tuple (r.map PyData.int)
theorem lay_ints : ∀ xs : Cel, PyData.canLayAll0 (xs.map PyData.int) = true
  | [] => rfl
  | x :: xs => by
    rw [List.map_cons, PyData.canLayAll0, lay_ints xs]
    rfl
theorem La.row {M : Mem} (r : Cel) : La M (rowD r) (rowP r) 1 := by
  refine ⟨?_, ?_, lay_ints r⟩
  · have := PyR.of_pure (M := M) (pure_row r)
    rw [py_row] at this
    exact this
  · show PyData.depthAll (r.map PyData.int) + 1 ≤ 1
    rw [depth_ints]
    exact Nat.le_refl _
theorem rows_py (M : Mem) : ∀ L : List Cel, PyRL M (L.map rowD) (L.map rowP) ∧ PyData.canLayAll0 (L.map rowP) = true ∧ PyData.depthAll (L.map rowP) ≤ 1
  | [] => ⟨.nil, rfl, Nat.zero_le _⟩
  | r :: L => by
    obtain ⟨a, b, c⟩ := rows_py M L
    have h := La.row (M := M) r
    refine ⟨.cons h.py a, ?_, ?_⟩
    · rw [List.map_cons, PyData.canLayAll0, b, h.lay]; rfl
    · rw [List.map_cons, PyData.depthAll]
      have := h.dp
      omega
theorem La.rows {M : Mem} {a : Addr} {L : List Cel} (h : rdL M a = some (L.map rowD)) : La M (.ref a) (.list (L.map rowP)) 2 := by
  obtain ⟨x, y, z⟩ := rows_py M L
  refine ⟨.lst h x, ?_, y⟩
  rw [PyData.depth]
  omega
theorem La.nil {M : Mem} {a : Addr} (h : rdL M a = some []) : La M (.ref a) (.list []) 2 := La.rows (L := []) h
theorem in_rows {M : Mem} {a : Addr} {L : List Cel} {r : Cel} {neg : Bool} {Q : VKd} (hM : M a = some (.lst (L.map rowD))) (q : Q (.bl (if neg then !decide (r ∈ L) else decide (r ∈ L))) M) : inR neg (rowD r) (.ref a) M Q := by
  have s2 := La.row (M := M) r
  have s1 := La.rows (M := M) (rdL_lst hM)
  have e : (L.map rowP).any (fun q => PyData.eqv q (rowP r)) = decide (r ∈ L) := by
    rw [List.any_map, Bool.eq_iff_iff, List.any_eq_true, decide_eq_true_iff]
    constructor
    · rintro ⟨x, hx, z⟩
      have z : decide (x = r) = true := by
        rw [← eqv_ints]
        exact z
      rw [← of_decide_eq_true z]
      exact hx
    · intro hm
      refine ⟨r, hm, ?_⟩
      show PyData.eqvAll (r.map PyData.int) (r.map PyData.int) = true
      rw [eqv_ints]
      simp
  show (match rdD M a with
    | some (t, kvs) => isKey t (rowD r) = true ∧ Q (.bl (if neg then !(look kvs (rowD r)).isSome else (look kvs (rowD r)).isSome)) M
    | none => (match rdL M a with
      | some ys => ∃ p qs, PyR M (rowD r) p ∧ PyRL M ys qs ∧ SeqAt.shaped p = true ∧ SeqAt.shaped (.list qs) = true ∧ Q (.bl (if neg then !qs.any (fun q => PyData.eqv q p) else qs.any (fun q => PyData.eqv q p))) M
      | none => False))
  have e1 : rdD M a = none := by simp only [rdD, hM]
  rw [e1, rdL_lst hM]
  refine ⟨_, _, s2.py, (rows_py M L).1, s2.shaped (by decide), s1.shaped (by decide), ?_⟩
  rw [e]
  exact q
/-- a list of rows against the empty list -/
theorem rows_nil {M : Mem} {a c : Addr} {L : List Cel} {Q : Bool → Mem → Prop} (ha : M a = some (.lst (L.map rowD))) (hc : M c = some (.lst [])) (q : Q L.isEmpty M) : eqD (.ref a) (.ref c) M Q := by
  refine La.eq (La.rows (rdL_lst ha)) (La.nil (rdL_lst hc)) (by decide) (by decide) ?_
  cases L with
  | nil => exact q
  | cons x xs => exact q
theorem rows_eq {M : Mem} {a c : Addr} {L L' : List Cel} {Q : Bool → Mem → Prop} (ha : M a = some (.lst (L.map rowD))) (hc : M c = some (.lst (L'.map rowD))) (q : Q (decide (L = L')) M) : eqD (.ref a) (.ref c) M Q := by
  refine La.eq (La.rows (rdL_lst ha)) (La.rows (rdL_lst hc)) (by decide) (by decide) ?_
  show Q (PyData.eqvAll (L.map fun r => .tuple (r.map PyData.int)) (L'.map fun r => .tuple (r.map PyData.int))) M
  rw [eqv_rows]
  exact q
theorem Bd.plus {a b : Int} : ∀ {r s : Cel}, Bd a r → Bd b s → Bd (a + b) (plus r s)
  | [], _, _, _ => by intro x hx; simp [DL.plus] at hx
  | _ :: _, [], _, _ => by intro x hx; simp [DL.plus] at hx
  | x :: xs, y :: ys, h, g => by
    intro z hz
    have hz : z ∈ (x + y) :: DL.plus xs ys := hz
    rcases List.mem_cons.mp hz with rfl | hz
    · have := h x List.mem_cons_self
      have := g y List.mem_cons_self
      omega
    · exact Bd.plus (fun u hu => h u (List.mem_cons_of_mem _ hu)) (fun u hu => g u (List.mem_cons_of_mem _ hu)) z hz
theorem steps_bd {n : Nat} : ∀ s ∈ stepsL n, Bd 1 s := by
  unfold stepsL Bd
  split <;> simp <;> decide
theorem Bd.nbrs {b : Int} {r s : Cel} (h : Bd b r) (hs : s ∈ DL.nbrs r) : Bd (b + 1) s := by
  obtain ⟨t, ht, rfl⟩ := List.mem_map.mp hs
  exact h.plus (steps_bd t ht)
end DL

end T_DN4

section T_DN5
set_option Elab.async false
set_option linter.all false
set_option maxRecDepth 100000
set_option maxHeartbeats 1000000
/-! The D layer, N5: a dict display whose keys are tuples. -/
namespace DL
open PySem PySem.Spec L2
open PyProof.Rows hiding St

def mergeT (hv more : List (List Key × V)) : List (List Key × V) := more.foldl (fun acc kv => putK acc kv.1 kv.2) hv
theorem mergeT_len : ∀ (more hv : List (List Key × V)), (mergeT hv more).length ≤ hv.length + more.length
  | [], hv => by show hv.length ≤ hv.length + 0; omega
  | p :: r, hv => by
    have h1 := mergeT_len r (putK hv p.1 p.2)
    have h2 := length_putK hv p.1 p.2
    show (mergeT (putK hv p.1 p.2) r).length ≤ _
    rw [List.length_cons]; omega
/-- the pairs of a display are keys and values in the heap H -/
abbrev PT (H : Hp) : List (V × V) → List (List Key × V) → Prop := Paired fun p q => (∃ b, p.1 = .ref b ∧ H b = some (.tup (q.1.map kV))) ∧ p.2 = q.2
theorem carries_T {P : Program} {w : World} {H : Hp} {h : Heap} (ok : HOk P w H h) : ∀ {ps : List (V × V)} {vs : List (Value × Value)} {kvs acc : List (List Key × V)} {xs : List (List Key × Addr × Value)}, VV ps vs → PT H ps kvs → L2.KT H acc xs →
    ∃ ys, CarriesH (tupleKind (mixKind P w)) h vs ys ∧ L2.KT H (mergeT acc kvs) (storedAllH xs ys)
  | [], _, _, _, _, r, t, k => by
    cases r; cases t
    exact ⟨[], True.intro, k⟩
  | (x, y) :: ps, _, _, acc, xs, r, t, k => by
    cases r with
    | @cons _ b1 _ bs h1 t1 =>
      cases t with
      | @cons _ q _ qs h2 t2 =>
        obtain ⟨⟨b, e, eb⟩, e2⟩ := h2
        obtain ⟨u, w'⟩ := b1
        obtain ⟨key, v⟩ := q
        obtain ⟨r1, r2⟩ := h1
        simp only at e e2 r1 r2 eb
        subst e e2
        cases r1
        obtain ⟨ys, c, z⟩ := carries_T ok t1 t2 (k.put key eb r2)
        exact ⟨(key, b, w') :: ys, ⟨rfl, rfl, key_of ok eb, c⟩, z⟩
def tDispT (trs : List (TE × TE)) : TE := fun σ H Q => ∀ p, H p = none → tPairs trs σ (upd H p (.dT [])) fun ps H2 => H2 p = some (.dT []) ∧ ∃ kvs : List (List Key × V), PT H2 ps kvs ∧ kvs.length ≤ 15 ∧ Q (.ref p) (upd H2 p (.dT (mergeT [] kvs)))
theorem pe_dispT {X : Cx} {pos : Pos} {keys : List (Option Expr)} {values : List Expr} {trs : List (TE × TE)} (hu : X.A.units + 1 < cLine) (h : PPs X pos keys values trs) (hall : keys.all (·.isSome) = true) (hl : keys.length = values.length) (h0 : keys ≠ [])
    (h15 : keys.length ≤ 15) : PE X (.Dict keys values pos) (tDispT trs) := by
  refine ⟨fun pins s σ H Q I q => ?_⟩
  have hn := I.hok.fresh (Nat.le_refl s.heap.objs.size)
  have I1 := I.laid (a := s.heap.objs.size) (o := .dT []) (h' := s.heap.push { cls := .type "dict", data := .dict #[] }) (t' := s.toks) (fun _ _ q => Heap.get?_push_of_some _ q) (Nat.le_refl _) (dt_empty s.heap I.big)
  have lp := pairTrees_length keys values X.env pos hall hl
  have hne : pairTrees keys values X.env pos ≠ [] := fun e => by
    rw [e] at lp
    exact h0 (List.length_eq_zero_iff.mp lp.symm)
  rw [arm_eval_Dict, zip_pairTrees keys values X.env pos hall hl, dictDisplay_pairs _ hne (by omega)]
  refine wpAny_bind (wpAny_standAt (wpAny_bind (wpAny_subDictH (knd := tupleKind (mixKind X.prog X.w)) (Q := fun d s' => wpAny (model X.prog X.w) X.A (pure (Value.ref d)) (EP X pins σ Q) X.xe s') (show X.A.units < cLine by omega) (by omega)
    (thn (h.run pins _ σ _ _ I1 (q _ hn)) fun ws s2 ⟨ps, H2, I2, rel, e, kvs, pt, lk, q2⟩ => ?_))))
  obtain ⟨z, hd, xs, rl, dd⟩ := dt_of I2.hok e
  have ex : xs = [] := by cases rl; rfl
  subst ex
  obtain ⟨ys, c, k⟩ := carries_T I2.hok rel pt rl
  refine ⟨ys, c, dd, fun h' tk dd' hs => wpAny_pure ⟨.ref s.heap.objs.size, _, ?_, rfl, q2⟩⟩
  have hz : (mergeT [] kvs).length ≤ sizeLine := by
    have h1 := mergeT_len kvs []
    rw [List.length_nil] at h1
    rw [sizeLine_eq]; omega
  obtain ⟨o, es, ep, hq, h2, h3, h4, _, h5⟩ := dd'
  refine d_write I2 (by rw [e]; exact True.intro) hs ⟨o, hq⟩ ⟨hz, hd, _, k.keeps fun b ys eb => ?_, o, es, ep, hq, h2, h3, h4, h5⟩
  rw [upd_ne (ne_of eb e (fun z => nomatch z))]
  exact eb
/-- on data -/
def tdispT (trs : List (TEd × TEd)) : TEd := fun ρ M Q => ∀ p, M p = none → tprs trs ρ (put M p (.dT [])) fun ps M2 => M2 p = some (.dT []) ∧ (ps.all fun kv => isKey true kv.1) = true ∧ ps.length ≤ 15 ∧ Q (.ref p) (put M2 p (.dT (mergeD [] ps)))
theorem keys_backT {H : Hp} : ∀ {ds : List (D × D)} {ps : List (V × V)}, (ds.all fun kv => isKey true kv.1) = true → Paired (fun p q => Rel H p.1 q.1 ∧ Rel H p.2 q.2) ds ps → ∃ kvs : List (List Key × V), PT H ps kvs ∧ RelTv H ds kvs
  | _, _, _, .nil => ⟨[], .nil, .nil⟩
  | (dk, dv) :: ds, (v, u) :: ps, h, .cons ⟨r1, r2⟩ t => by
    simp only [List.all_cons, Bool.and_eq_true] at h
    obtain ⟨kvs, e, rl⟩ := keys_backT h.2 t
    cases dk with
    | tup xs =>
      obtain ⟨key, ek⟩ := Option.isSome_iff_exists.mp (show (keysOf xs).isSome = true from h.1)
      have ed := keysOf_eq ek
      subst ed
      obtain ⟨b, vs, ey, qb, rb⟩ := r1
      simp only at ey
      subst ey
      rw [kD_relL rb] at qb
      exact ⟨(key, u) :: kvs, .cons ⟨⟨b, rfl, qb⟩, rfl⟩ e, .cons ⟨rfl, r2⟩ rl⟩
    | _ => cases h.1
theorem merge_relT {H : Hp} : ∀ {more : List (D × D)} {hm : List (List Key × V)} {kvs : List (D × D)} {hv : List (List Key × V)}, RelTv H more hm → RelTv H kvs hv → RelTv H (mergeD kvs more) (mergeT hv hm)
  | _, _, _, _, .nil, r => r
  | (dk, dv) :: more, (k, v) :: hm, kvs, hv, .cons ⟨e, r⟩ t, r0 => by
    simp only at e r
    subst e
    exact merge_relT (more := more) (hm := hm) t (dput_gen (κ := List Key) (f := fun k => D.tup (k.map kD)) tK_inj k r r0)
theorem ped_dispT {X : Cx} {pos : Pos} {keys : List (Option Expr)} {values : List Expr} {trs : List (TEd × TEd)} (hu : X.A.units + 1 < cLine) (h : PPsd X pos keys values trs) (hall : keys.all (·.isSome) = true) (hl : keys.length = values.length) (h0 : keys ≠ [])
    (h15 : keys.length ≤ 15) : PEd X (.Dict keys values pos) (tdispT trs) := by
  refine .of (pe_dispT hu h.low hall hl h0 h15) fun σ H Q w => ?_
  obtain ⟨ρ, M, Q0, re, rm, h, k⟩ := w
  intro p hp
  refine tprs_low trs ρ _ σ _ _ _ (re.tle (.new hp)) (rm.new (d := .dT []) hp ⟨[], upd_same, .nil⟩) (h p (rm.fresh hp)) fun ps H2 ds M2 t2 m2 pr h2 => ?_
  obtain ⟨e2, hk, hl, h2⟩ := h2
  obtain ⟨hv, q2, rl2⟩ := m2 p _ e2
  have ev : hv = [] := by cases rl2; rfl
  subst ev
  obtain ⟨kvs, ep, rk⟩ := keys_backT hk pr
  have lk : kvs.length = ds.length := (Paired.length rk).symm
  have tw : Tle H2 (upd H2 p (.dT (mergeT [] kvs))) := .write q2 fun xs z => nomatch z
  exact ⟨q2, kvs, ep, by omega, k _ _ (.ref p) _ (((Tle.new hp).trans t2).trans tw) rfl (m2.write (d := .dT (mergeD [] ds)) q2 (fun xs z => nomatch z) ⟨_, upd_same, RelTv.tle tw (merge_relT rk .nil)⟩) h2⟩
section
variable {M : Mem} {Q : VKd} {ρ : Envd}
theorem f_lrg {te : TEd} : tlrg te ρ M Q = te ρ M fun x M1 => ∃ n : Int, x = .int n ∧ 0 ≤ n ∧ n ≤ 2 ^ 24 ∧ ∀ p, M1 p = none → Q (.ref p) (put M1 p (.lst (intsD 0 n.toNat))) := rfl
theorem f_dispT {trs : List (TEd × TEd)} : tdispT trs ρ M Q = ∀ p, M p = none → tprs trs ρ (put M p (.dT [])) fun ps M2 => M2 p = some (.dT []) ∧ (ps.all fun kv => isKey true kv.1) = true ∧ ps.length ≤ 15 ∧ Q (.ref p) (put M2 p (.dT (mergeD [] ps))) := rfl
end
end DL

end T_DN5

section T_Head_law_k01
set_option Elab.async false
set_option linter.all false
set_option maxRecDepth 100000
set_option maxHeartbeats 4000000
namespace Lw
open PySem PySem.Spec L2 DL
open PyProof.Rows hiding St
def top (i : Nat) : Stmt := PySem.Challenge.pw_climbabout_k01_cells.main.body.getD i (.Pass ⟨0, 0, 0, 0⟩)
/-- the built-ins' names are free -/
structure Free (mg : Str → Option Value) : Prop where
  len : mg "len" = none
  range : mg "range" = none
  list : mg "list" = none
  tuple : mg "tuple" = none
  int : mg "int" = none
  sum : mg "sum" = none
  all : mg "all" = none
  any : mg "any" = none
  max : mg "max" = none
  min : mg "min" = none
  abs : mg "abs" = none
  sorted : mg "sorted" = none
  zip : mg "zip" = none
  enumerate : mg "enumerate" = none
  isinstance : mg "isinstance" = none
  repr : mg "repr" = none
  dict : mg "dict" = none
  set : mg "set" = none
  bool : mg "bool" = none
  str : mg "str" = none
  ValueError : mg "ValueError" = none

abbrev s_is_whole : Stmt := top 4
theorem sc_is_whole : FnScope ["value"] ["value"] (defScope s_is_whole) := ⟨rfl, rfl, rfl, by decide +kernel, rfl, by decide +kernel, by decide +kernel⟩

abbrev s_is_of : Stmt := top 7
theorem sc_is_of : FnScope ["value", "dimension", "item"] ["value", "dimension"] (defScope s_is_of) := ⟨rfl, rfl, rfl, by decide +kernel, rfl, by decide +kernel, by decide +kernel⟩

abbrev s_is_cell : Stmt := top 8
theorem sc_is_cell : FnScope ["value", "dimension"] ["value", "dimension"] (defScope s_is_cell) := ⟨rfl, rfl, rfl, by decide +kernel, rfl, by decide +kernel, by decide +kernel⟩

abbrev s_is_any : Stmt := top 9
theorem sc_is_any : FnScope ["value"] ["value"] (defScope s_is_any) := ⟨rfl, rfl, rfl, by decide +kernel, rfl, by decide +kernel, by decide +kernel⟩

abbrev s_added : Stmt := top 10
theorem sc_added : FnScope ["one", "two", "a", "b"] ["one", "two"] (defScope s_added) := ⟨rfl, rfl, rfl, by decide +kernel, rfl, by decide +kernel, by decide +kernel⟩

abbrev s_around : Stmt := top 11
theorem sc_around : FnScope ["cell", "step"] ["cell"] (defScope s_around) := ⟨rfl, rfl, rfl, by decide +kernel, rfl, by decide +kernel, by decide +kernel⟩

abbrev s_beside : Stmt := top 12
theorem sc_beside : FnScope ["cell"] ["cell"] (defScope s_beside) := ⟨rfl, rfl, rfl, by decide +kernel, rfl, by decide +kernel, by decide +kernel⟩

abbrev s_taken_part : Stmt := top 13
theorem sc_taken_part : FnScope ["left", "cell", "found", "todo", "one", "other"] ["left", "cell"] (defScope s_taken_part) := ⟨rfl, rfl, rfl, by decide +kernel, rfl, by decide +kernel, by decide +kernel⟩

abbrev s_parts_in : Stmt := top 14
theorem sc_parts_in : FnScope ["cells", "cell", "left", "found"] ["cells"] (defScope s_parts_in) := ⟨rfl, rfl, rfl, by decide +kernel, rfl, by decide +kernel, by decide +kernel⟩

abbrev s_check_cells : Stmt := top 15
theorem sc_check_cells : FnScope ["cells", "cell"] ["cells"] (defScope s_check_cells) := ⟨rfl, rfl, rfl, by decide +kernel, rfl, by decide +kernel, by decide +kernel⟩

abbrev s_parts_of : Stmt := top 16
theorem sc_parts_of : FnScope ["cells"] ["cells"] (defScope s_parts_of) := ⟨rfl, rfl, rfl, by decide +kernel, rfl, by decide +kernel, by decide +kernel⟩

abbrev s_hangs : Stmt := top 17
theorem sc_hangs : FnScope ["cells"] ["cells"] (defScope s_hangs) := ⟨rfl, rfl, rfl, by decide +kernel, rfl, by decide +kernel, by decide +kernel⟩

abbrev s_law_pen : Stmt := top 19
theorem sc_law_pen : FnScope ["script", "fold", "cell"] ["script"] (defScope s_law_pen) := ⟨rfl, rfl, rfl, by decide +kernel, rfl, by decide +kernel, by decide +kernel⟩

abbrev s_law_draw : Stmt := top 20
theorem sc_law_draw : FnScope ["pen", "many", "cell", "digit", "blend"] ["pen", "many"] (defScope s_law_draw) := ⟨rfl, rfl, rfl, by decide +kernel, rfl, by decide +kernel, by decide +kernel⟩

abbrev s_law_pick : Stmt := top 21
theorem sc_law_pick : FnScope ["pen", "some"] ["pen", "some"] (defScope s_law_pick) := ⟨rfl, rfl, rfl, by decide +kernel, rfl, by decide +kernel, by decide +kernel⟩

abbrev s_law_around : Stmt := top 22
theorem sc_law_around : FnScope ["cell", "found", "k", "by"] ["cell"] (defScope s_law_around) := ⟨rfl, rfl, rfl, by decide +kernel, rfl, by decide +kernel, by decide +kernel⟩

abbrev s_law_plus : Stmt := top 23
theorem sc_law_plus : FnScope ["one", "two", "a", "b"] ["one", "two"] (defScope s_law_plus) := ⟨rfl, rfl, rfl, by decide +kernel, rfl, by decide +kernel, by decide +kernel⟩

abbrev s_law_spread : Stmt := top 24
theorem sc_law_spread : FnScope ["cells", "first", "seen", "line", "lap", "other"] ["cells", "first"] (defScope s_law_spread) := ⟨rfl, rfl, rfl, by decide +kernel, rfl, by decide +kernel, by decide +kernel⟩

abbrev s_law_dict : Stmt := top 25
theorem sc_law_dict : FnScope ["cells", "cell"] ["cells"] (defScope s_law_dict) := ⟨rfl, rfl, rfl, by decide +kernel, rfl, by decide +kernel, by decide +kernel⟩

abbrev s_law_parts : Stmt := top 26
theorem sc_law_parts : FnScope ["cells", "known", "seen", "found", "cell", "part", "one"] ["cells"] (defScope s_law_parts) := ⟨rfl, rfl, rfl, by decide +kernel, rfl, by decide +kernel, by decide +kernel⟩

abbrev s_law_grown : Stmt := top 27
theorem sc_law_grown : FnScope ["pen", "dimension", "many", "cells", "lap", "free", "cell"] ["pen", "dimension", "many"] (defScope s_law_grown) := ⟨rfl, rfl, rfl, by decide +kernel, rfl, by decide +kernel, by decide +kernel⟩

abbrev s_law_turned : Stmt := top 28
theorem sc_law_turned : FnScope ["pen", "cells", "dimension", "axes", "order", "lap", "signs", "by", "found", "cell", "axis", "k"] ["pen", "cells"] (defScope s_law_turned) := ⟨rfl, rfl, rfl, by decide +kernel, rfl, by decide +kernel, by decide +kernel⟩

abbrev s_law_odd : Stmt := top 29
theorem sc_law_odd : FnScope ["pen", "cell", "some"] ["pen", "cell"] (defScope s_law_odd) := ⟨rfl, rfl, rfl, by decide +kernel, rfl, by decide +kernel, by decide +kernel⟩

abbrev s_law_any : Stmt := top 30
theorem sc_law_any : FnScope ["value", "item"] ["value"] (defScope s_law_any) := ⟨rfl, rfl, rfl, by decide +kernel, rfl, by decide +kernel, by decide +kernel⟩

abbrev s_law_refused : Stmt := top 31
theorem sc_law_refused : FnScope ["call", "e"] ["call"] (defScope s_law_refused) := ⟨rfl, rfl, rfl, by decide +kernel, rfl, by decide +kernel, by decide +kernel⟩

abbrev s_law_lot : Stmt := top 32
theorem sc_law_lot : FnScope ["pen", "dimension", "found", "lap", "by", "order", "k", "cell"] ["pen", "dimension"] (defScope s_law_lot) := ⟨rfl, rfl, rfl, by decide +kernel, rfl, by decide +kernel, by decide +kernel⟩

abbrev s_law : Stmt := top 33
theorem sc_law : FnScope ["script", "pen", "dimension", "cells", "parts", "passed", "at", "told", "due", "found", "bent", "cell", "odd", "wrong", "other"] ["script"] (defScope s_law) := ⟨rfl, rfl, rfl, by decide +kernel, rfl, by decide +kernel, by decide +kernel⟩
end Lw

end T_Head_law_k01

section T_CELLS
set_option Elab.async false
set_option linter.all false
set_option maxRecDepth 100000
set_option maxHeartbeats 4000000
namespace Lw
open PySem PySem.Spec L2 DL
open PyProof.Rows hiding St
/-! ### what is a whole number, a cell -/
def isI : D → Bool
  | .int _ => true
  | _ => false
def isBl : D → Bool
  | .bl _ => true
  | _ => false
theorem kitN : ∀ t ∈ ["NoneType", "str", "tuple", "list", "dict"], kitB t "int" = some false ∧ kitB t "bool" = some false := by decide +kernel
theorem kit_int {M : Mem} {d : D} (h : (kindD M d).isSome = true) : ∃ t, kindD M d = some t ∧ kitB t "int" = some (isI d || isBl d) ∧ kitB t "bool" = some (isBl d) := by
  cases d with
  | ref a =>
    simp only [kindD] at h ⊢
    split at h
    · exact ⟨_, rfl, kitN "list" (by simp)⟩
    · exact ⟨_, rfl, kitN "dict" (by simp)⟩
    · exact ⟨_, rfl, kitN "dict" (by simp)⟩
    · cases h
  | ty n => cases h
  | non => exact ⟨_, rfl, kitN "NoneType" (by simp)⟩
  | str x => exact ⟨_, rfl, kitN "str" (by simp)⟩
  | tup xs => exact ⟨_, rfl, kitN "tuple" (by simp)⟩
  | int i => exact ⟨_, rfl, (by decide +kernel : kitB "int" "int" = some true ∧ kitB "int" "bool" = some false)⟩
  | bl b => exact ⟨_, rfl, (by decide +kernel : kitB "bool" "int" = some true ∧ kitB "bool" "bool" = some true)⟩
section
variable {P : Program} {w : World} {K : PySem.W.Frag} {mg : Str → Option Value} {base : Heap}
def spWhole : SpD := fun ds M Q _ => ∃ d, ds = [d] ∧ (kindD M d).isSome = true ∧ Q (.bl (isI d)) M
theorem ok_whole (Z : Free mg) (S : Stands K mg "is_whole" s_is_whole ["value"]) : FnD P w K mg base 1 "is_whole" ["value"] spWhole := by
  obtain ⟨f, fd, F, hm, hb⟩ := S
  refine FnD.of F sc_is_whole hm hb (fun ds M Q E h => ?_) fun cdv A outer s0 H0 E E0 hr tk hp => ?_
  · obtain ⟨d, rfl, _⟩ := h; rfl
  have nd := sc_is_whole.nd
  refine ⟨_, (pssd_one (psd_ret (ped_and (ped_callB call_isiD rfl Z.isinstance (by decide +kernel) (pad_cons (v 0) (pad_cons (ped_ty (n := "int") rfl Z.int (by decide +kernel)) pad_nil))) (ped_one (ped_not (ped_callB call_isiD rfl Z.isinstance (by decide +kernel) (pad_cons (v 0) (pad_cons (ped_ty (n := "bool") rfl Z.bool (by decide +kernel)) pad_nil)))))))), fun ds M Q h => ?_⟩
  obtain ⟨d, rfl, hk, q⟩ := h
  obtain ⟨t, e, h1, h2⟩ := kit_int hk
  have dn : Down Q (.bl (isI d)) M := ⟨M, fun _ _ z => z, q⟩
  show tret _ _ [some d] M
  simp only [DL.e_next, DL.e_break, DL.e_cont, DL.e_drop, DL.e_ret, DL.e_retN, DL.e_ifS, DL.e_asg, DL.e_par, DL.e_par2, DL.e_del, DL.e_gname, DL.e_gsub, DL.e_gtup, DL.e_gcons, DL.e_gnil, DL.e_var0, DL.e_varS, DL.e_con, DL.e_top2, DL.e_top1, DL.e_cb, DL.e_nil, DL.e_cons, DL.e_tup, DL.e_lst, DL.e_test, DL.e_testK, DL.e_tru, DL.e_truB, DL.e_truN, DL.e_truL, DL.e_and, DL.e_or, DL.e_not, DL.e_if, DL.e_andV, DL.e_andK, DL.e_orV, DL.e_orK, DL.e_notV, DL.e_notK, DL.e_add, DL.e_addS, DL.e_addT, DL.e_addL, DL.e_sub, DL.e_mul, DL.e_mulL, DL.e_mulT, DL.e_fdiv, DL.e_mod, DL.e_pow, DL.e_neg, DL.e_lt, DL.e_le, DL.e_gt, DL.e_ge, DL.e_eqI, DL.e_eqS, DL.e_neI, DL.e_neS, DL.e_isN, DL.e_isntN, DL.e_isB, DL.e_isntB, DL.e_atK, DL.e_ixT, DL.e_ixL, DL.e_ixK, DL.e_ixDT, DL.e_setK, DL.e_setDT, DL.e_setSome, DL.e_setL, DL.e_delK, DL.e_delT, DL.e_inT, DL.e_inK, DL.e_lenL, DL.e_lenT, DL.e_lenK, DL.e_lenDT, DL.e_lenS, DL.e_listL, DL.e_listO, DL.e_listT, DL.e_tupleL, DL.e_tupleT, DL.e_int, DL.e_lm0, DL.e_lm, DL.e_isL, DL.e_app, DL.e_pop, DL.e_popSome, DL.e_call, DL.e_newT, DL.e_newK, DL.e_disp, DL.e_prs0, DL.e_prsS, DL.f_for, DL.f_lc, DL.f_dc, DL.f_iseq, DL.f_seqT, DL.f_rng1, DL.f_rngK, DL.f_zip, DL.f_zipT, DL.f_yes, DL.f_par3, DL.f_par3K, DL.f_isi, DL.f_isiK, DL.f_fld, DL.f_mkE, DL.f_mk0, DL.f_slice, DL.f_nopart, DL.f_part, DL.f_partK, DL.f_slT, DL.f_lrg, DL.f_dispT, List.set_cons_zero, List.set_cons_succ, List.length_cons, List.length_nil, decide_eq_true_eq, Bool.not_eq_true, true_and, and_true, if_true, Bool.false_eq_true, if_false, Nat.reduceAdd, Nat.reduceLT, Nat.reduceLeDiff, f_isi, e, Option.bind_some, h1, h2, f_isiK]
  cases d <;> simpa [isI, isBl] using dn
/-- a datum whose kind is known, its items' too -/
structure Plain (M : Mem) (d : D) : Prop where
  kind : (kindD M d).isSome = true
  items : ∀ xs, d = .tup xs → xs.length < sizeLine ∧ ∀ x ∈ xs, (kindD M x).isSome = true
def isOf (d : D) (n : Int) : Bool := match d with
  | .tup xs => decide ((xs.length : Int) = n) && xs.all isI
  | _ => false
theorem kitT : ∀ t ∈ ["NoneType", "str", "int", "bool", "list", "dict"], kitB t "tuple" = some false := by decide +kernel
theorem kit_tup {M : Mem} {d : D} (h : (kindD M d).isSome = true) (n : ∀ xs, d ≠ .tup xs) : ∃ t, kindD M d = some t ∧ kitB t "tuple" = some false := by
  cases d with
  | ref a =>
    simp only [kindD] at h ⊢
    split at h
    · exact ⟨_, rfl, kitT "list" (by simp)⟩
    · exact ⟨_, rfl, kitT "dict" (by simp)⟩
    · exact ⟨_, rfl, kitT "dict" (by simp)⟩
    · cases h
  | ty n => cases h
  | non => exact ⟨_, rfl, kitT "NoneType" (by simp)⟩
  | str x => exact ⟨_, rfl, kitT "str" (by simp)⟩
  | tup xs => exact absurd rfl (n xs)
  | int i => exact ⟨_, rfl, kitT "int" (by simp)⟩
  | bl b => exact ⟨_, rfl, kitT "bool" (by simp)⟩
theorem kind_keep {M M' : Mem} {d : D} (k : Keep M M') (h : (kindD M d).isSome = true) : (kindD M' d).isSome = true := by
  cases d with
  | ref a =>
    simp only [kindD] at h ⊢
    split at h
    · rename_i e; rw [k _ _ e]; rfl
    · rename_i e; rw [k _ _ e]; rfl
    · rename_i e; rw [k _ _ e]; rfl
    · cases h
  | ty n => cases h
  | _ => rfl
def spOf : SpD := fun ds M Q _ => ∃ d n, ds = [d, .int n] ∧ Plain M d ∧ Q (.bl (isOf d n)) M
theorem ok_of (Z : Free mg) (S : Stands K mg "is_of" s_is_of ["value", "dimension"]) (C_is_whole : FnD P w K mg base 1 "is_whole" ["value"] spWhole) : FnD P w K mg base 2 "is_of" ["value", "dimension"] spOf := by
  obtain ⟨f, fd, F, hm, hb⟩ := S
  refine FnD.of F sc_is_of hm hb (fun ds M Q E h => ?_) fun cdv A outer s0 H0 E E0 hr tk hp => ?_
  · obtain ⟨d, n, rfl, _⟩ := h; rfl
  have nd := sc_is_of.nd
  refine ⟨_, (pssd_one (psd_ret (ped_and (ped_callB call_isiD rfl Z.isinstance (by decide +kernel) (pad_cons (v 0) (pad_cons (ped_ty (n := "tuple") rfl Z.tuple (by decide +kernel)) pad_nil))) (ped_and (ped_cmp (op_eqDD (u64 hr)) (ped_callB call_lenD2 rfl Z.len PySem.boot_len (pad_cons (v 0) pad_nil)) (v 1) (nomark _)) (ped_one (ped_callB (call_allD rfl) rfl Z.all (by decide +kernel) (pad_cons (ped_lc rfl nd (pid_seq (v 0)) (blkOk_by (own := [("item", 2)]) rfl) (by decide) (fun _ _ _ _ _ => (gn 2 nd)) (fun _ _ _ _ _ => ptsd_nil) (fun _ _ _ _ _ => (ped_call C_is_whole (hr.mono (by decide)) rfl takesD0 (pad_cons (v 2) pad_nil)))) pad_nil))))))), fun ds M Q h => ?_⟩
  obtain ⟨d, n, rfl, ⟨hk, hi⟩, q⟩ := h
  show tret _ _ [some d, some (.int n), none] M
  have dn : ∀ M', Keep M M' → Down Q (.bl (isOf d n)) M' := fun M' k => ⟨M, k, q⟩
  by_cases ht : ∃ xs, d = .tup xs
  · obtain ⟨xs, rfl⟩ := ht
    obtain ⟨hl, hx⟩ := hi xs rfl
    have e1 : kitB "tuple" "tuple" = some true := by decide +kernel
    simp only [DL.e_next, DL.e_break, DL.e_cont, DL.e_drop, DL.e_ret, DL.e_retN, DL.e_ifS, DL.e_asg, DL.e_par, DL.e_par2, DL.e_del, DL.e_gname, DL.e_gsub, DL.e_gtup, DL.e_gcons, DL.e_gnil, DL.e_var0, DL.e_varS, DL.e_con, DL.e_top2, DL.e_top1, DL.e_cb, DL.e_nil, DL.e_cons, DL.e_tup, DL.e_lst, DL.e_test, DL.e_testK, DL.e_tru, DL.e_truB, DL.e_truN, DL.e_truL, DL.e_and, DL.e_or, DL.e_not, DL.e_if, DL.e_andV, DL.e_andK, DL.e_orV, DL.e_orK, DL.e_notV, DL.e_notK, DL.e_add, DL.e_addS, DL.e_addT, DL.e_addL, DL.e_sub, DL.e_mul, DL.e_mulL, DL.e_mulT, DL.e_fdiv, DL.e_mod, DL.e_pow, DL.e_neg, DL.e_lt, DL.e_le, DL.e_gt, DL.e_ge, DL.e_eqI, DL.e_eqS, DL.e_neI, DL.e_neS, DL.e_isN, DL.e_isntN, DL.e_isB, DL.e_isntB, DL.e_atK, DL.e_ixT, DL.e_ixL, DL.e_ixK, DL.e_ixDT, DL.e_setK, DL.e_setDT, DL.e_setSome, DL.e_setL, DL.e_delK, DL.e_delT, DL.e_inT, DL.e_inK, DL.e_lenL, DL.e_lenT, DL.e_lenK, DL.e_lenDT, DL.e_lenS, DL.e_listL, DL.e_listO, DL.e_listT, DL.e_tupleL, DL.e_tupleT, DL.e_int, DL.e_lm0, DL.e_lm, DL.e_isL, DL.e_app, DL.e_pop, DL.e_popSome, DL.e_call, DL.e_newT, DL.e_newK, DL.e_disp, DL.e_prs0, DL.e_prsS, DL.f_for, DL.f_lc, DL.f_dc, DL.f_iseq, DL.f_seqT, DL.f_rng1, DL.f_rngK, DL.f_zip, DL.f_zipT, DL.f_yes, DL.f_par3, DL.f_par3K, DL.f_isi, DL.f_isiK, DL.f_fld, DL.f_mkE, DL.f_mk0, DL.f_slice, DL.f_nopart, DL.f_part, DL.f_partK, DL.f_slT, DL.f_lrg, DL.f_dispT, List.set_cons_zero, List.set_cons_succ, List.length_cons, List.length_nil, decide_eq_true_eq, Bool.not_eq_true, true_and, and_true, if_true, Bool.false_eq_true, if_false, Nat.reduceAdd, Nat.reduceLT, Nat.reduceLeDiff, f_isi, kindD, Option.bind_some, e1, f_isiK]
    by_cases hn : (xs.length : Int) = n
    · rw [if_pos hn]
      intro p hp
      refine lc_pure (fun x => some (.bl (isI x))) hp hl (fun _ _ => trivial) (fun x hx' M' acc k hM Ky Kn ky kn => ?_) fun M' k hM => ?_
      · show spWhole [x] M' Ky (fun _ _ _ => False)
        exact ⟨x, rfl, kind_keep k (hx x hx'), ky M' _ rfl .refl⟩
      · refine ⟨_, xs.map isI, rdL_lst hM, ?_, ?_⟩
        · rw [List.filterMap_eq_map', show List.map (fun x => D.bl (isI x)) xs = (xs.map isI).map D.bl by rw [List.map_map]; rfl]
          exact boolsOf_map _
        · have z : isOf (.tup xs) n = (xs.map isI).all id := by simp [isOf, hn, List.all_map]
          rw [← z]
          exact dn M' k
    · rw [if_neg hn]
      have z : isOf (.tup xs) n = false := by simp [isOf, hn]
      rw [← z]
      exact dn M .refl
  · obtain ⟨t, e, e1⟩ := kit_tup hk (fun xs z => ht ⟨xs, z⟩)
    simp only [DL.e_next, DL.e_break, DL.e_cont, DL.e_drop, DL.e_ret, DL.e_retN, DL.e_ifS, DL.e_asg, DL.e_par, DL.e_par2, DL.e_del, DL.e_gname, DL.e_gsub, DL.e_gtup, DL.e_gcons, DL.e_gnil, DL.e_var0, DL.e_varS, DL.e_con, DL.e_top2, DL.e_top1, DL.e_cb, DL.e_nil, DL.e_cons, DL.e_tup, DL.e_lst, DL.e_test, DL.e_testK, DL.e_tru, DL.e_truB, DL.e_truN, DL.e_truL, DL.e_and, DL.e_or, DL.e_not, DL.e_if, DL.e_andV, DL.e_andK, DL.e_orV, DL.e_orK, DL.e_notV, DL.e_notK, DL.e_add, DL.e_addS, DL.e_addT, DL.e_addL, DL.e_sub, DL.e_mul, DL.e_mulL, DL.e_mulT, DL.e_fdiv, DL.e_mod, DL.e_pow, DL.e_neg, DL.e_lt, DL.e_le, DL.e_gt, DL.e_ge, DL.e_eqI, DL.e_eqS, DL.e_neI, DL.e_neS, DL.e_isN, DL.e_isntN, DL.e_isB, DL.e_isntB, DL.e_atK, DL.e_ixT, DL.e_ixL, DL.e_ixK, DL.e_ixDT, DL.e_setK, DL.e_setDT, DL.e_setSome, DL.e_setL, DL.e_delK, DL.e_delT, DL.e_inT, DL.e_inK, DL.e_lenL, DL.e_lenT, DL.e_lenK, DL.e_lenDT, DL.e_lenS, DL.e_listL, DL.e_listO, DL.e_listT, DL.e_tupleL, DL.e_tupleT, DL.e_int, DL.e_lm0, DL.e_lm, DL.e_isL, DL.e_app, DL.e_pop, DL.e_popSome, DL.e_call, DL.e_newT, DL.e_newK, DL.e_disp, DL.e_prs0, DL.e_prsS, DL.f_for, DL.f_lc, DL.f_dc, DL.f_iseq, DL.f_seqT, DL.f_rng1, DL.f_rngK, DL.f_zip, DL.f_zipT, DL.f_yes, DL.f_par3, DL.f_par3K, DL.f_isi, DL.f_isiK, DL.f_fld, DL.f_mkE, DL.f_mk0, DL.f_slice, DL.f_nopart, DL.f_part, DL.f_partK, DL.f_slT, DL.f_lrg, DL.f_dispT, List.set_cons_zero, List.set_cons_succ, List.length_cons, List.length_nil, decide_eq_true_eq, Bool.not_eq_true, true_and, and_true, if_true, Bool.false_eq_true, if_false, Nat.reduceAdd, Nat.reduceLT, Nat.reduceLeDiff, f_isi, e, Option.bind_some, e1, f_isiK]
    have z : isOf d n = false := by
      cases d with
      | tup xs => exact absurd ⟨xs, rfl⟩ ht
      | _ => rfl
    rw [z] at dn
    exact dn M .refl
def isAny (d : D) : Bool := isOf d 2 || (isOf d 3 || isOf d 4)
def spAny : SpD := fun ds M Q _ => ∃ d, ds = [d] ∧ Plain M d ∧ Q (.bl (isAny d)) M
theorem ok_any (Z : Free mg) (S : Stands K mg "is_any" s_is_any ["value"]) (C_is_of : FnD P w K mg base 2 "is_of" ["value", "dimension"] spOf) : FnD P w K mg base 3 "is_any" ["value"] spAny := by
  obtain ⟨f, fd, F, hm, hb⟩ := S
  refine FnD.of F sc_is_any hm hb (fun ds M Q E h => ?_) fun cdv A outer s0 H0 E E0 hr tk hp => ?_
  · obtain ⟨d, rfl, _⟩ := h; rfl
  have nd := sc_is_any.nd
  refine ⟨_, (pssd_one (psd_ret (ped_or (ped_call C_is_of (hr.mono (by decide)) rfl tk (pad_cons (v 0) (pad_cons ped_int pad_nil))) (ped_or (ped_call C_is_of (hr.mono (by decide)) rfl tk (pad_cons (v 0) (pad_cons ped_int pad_nil))) (ped_one (ped_call C_is_of (hr.mono (by decide)) rfl tk (pad_cons (v 0) (pad_cons ped_int pad_nil)))))))), fun ds M Q h => ?_⟩
  obtain ⟨d, rfl, hP, q⟩ := h
  show tret _ _ [some d] M
  have dn : Down Q (.bl (isAny d)) M := ⟨M, Keep.refl, q⟩
  simp only [DL.e_next, DL.e_break, DL.e_cont, DL.e_drop, DL.e_ret, DL.e_retN, DL.e_ifS, DL.e_asg, DL.e_par, DL.e_par2, DL.e_del, DL.e_gname, DL.e_gsub, DL.e_gtup, DL.e_gcons, DL.e_gnil, DL.e_var0, DL.e_varS, DL.e_con, DL.e_top2, DL.e_top1, DL.e_cb, DL.e_nil, DL.e_cons, DL.e_tup, DL.e_lst, DL.e_test, DL.e_testK, DL.e_tru, DL.e_truB, DL.e_truN, DL.e_truL, DL.e_and, DL.e_or, DL.e_not, DL.e_if, DL.e_andV, DL.e_andK, DL.e_orV, DL.e_orK, DL.e_notV, DL.e_notK, DL.e_add, DL.e_addS, DL.e_addT, DL.e_addL, DL.e_sub, DL.e_mul, DL.e_mulL, DL.e_mulT, DL.e_fdiv, DL.e_mod, DL.e_pow, DL.e_neg, DL.e_lt, DL.e_le, DL.e_gt, DL.e_ge, DL.e_eqI, DL.e_eqS, DL.e_neI, DL.e_neS, DL.e_isN, DL.e_isntN, DL.e_isB, DL.e_isntB, DL.e_atK, DL.e_ixT, DL.e_ixL, DL.e_ixK, DL.e_ixDT, DL.e_setK, DL.e_setDT, DL.e_setSome, DL.e_setL, DL.e_delK, DL.e_delT, DL.e_inT, DL.e_inK, DL.e_lenL, DL.e_lenT, DL.e_lenK, DL.e_lenDT, DL.e_lenS, DL.e_listL, DL.e_listO, DL.e_listT, DL.e_tupleL, DL.e_tupleT, DL.e_int, DL.e_lm0, DL.e_lm, DL.e_isL, DL.e_app, DL.e_pop, DL.e_popSome, DL.e_call, DL.e_newT, DL.e_newK, DL.e_disp, DL.e_prs0, DL.e_prsS, DL.f_for, DL.f_lc, DL.f_dc, DL.f_iseq, DL.f_seqT, DL.f_rng1, DL.f_rngK, DL.f_zip, DL.f_zipT, DL.f_yes, DL.f_par3, DL.f_par3K, DL.f_isi, DL.f_isiK, DL.f_fld, DL.f_mkE, DL.f_mk0, DL.f_slice, DL.f_nopart, DL.f_part, DL.f_partK, DL.f_slT, DL.f_lrg, DL.f_dispT, List.set_cons_zero, List.set_cons_succ, List.length_cons, List.length_nil, decide_eq_true_eq, Bool.not_eq_true, true_and, and_true, if_true, Bool.false_eq_true, if_false, Nat.reduceAdd, Nat.reduceLT, Nat.reduceLeDiff]
  refine ⟨d, 2, rfl, hP, ?_⟩
  simp only [DL.e_next, DL.e_break, DL.e_cont, DL.e_drop, DL.e_ret, DL.e_retN, DL.e_ifS, DL.e_asg, DL.e_par, DL.e_par2, DL.e_del, DL.e_gname, DL.e_gsub, DL.e_gtup, DL.e_gcons, DL.e_gnil, DL.e_var0, DL.e_varS, DL.e_con, DL.e_top2, DL.e_top1, DL.e_cb, DL.e_nil, DL.e_cons, DL.e_tup, DL.e_lst, DL.e_test, DL.e_testK, DL.e_tru, DL.e_truB, DL.e_truN, DL.e_truL, DL.e_and, DL.e_or, DL.e_not, DL.e_if, DL.e_andV, DL.e_andK, DL.e_orV, DL.e_orK, DL.e_notV, DL.e_notK, DL.e_add, DL.e_addS, DL.e_addT, DL.e_addL, DL.e_sub, DL.e_mul, DL.e_mulL, DL.e_mulT, DL.e_fdiv, DL.e_mod, DL.e_pow, DL.e_neg, DL.e_lt, DL.e_le, DL.e_gt, DL.e_ge, DL.e_eqI, DL.e_eqS, DL.e_neI, DL.e_neS, DL.e_isN, DL.e_isntN, DL.e_isB, DL.e_isntB, DL.e_atK, DL.e_ixT, DL.e_ixL, DL.e_ixK, DL.e_ixDT, DL.e_setK, DL.e_setDT, DL.e_setSome, DL.e_setL, DL.e_delK, DL.e_delT, DL.e_inT, DL.e_inK, DL.e_lenL, DL.e_lenT, DL.e_lenK, DL.e_lenDT, DL.e_lenS, DL.e_listL, DL.e_listO, DL.e_listT, DL.e_tupleL, DL.e_tupleT, DL.e_int, DL.e_lm0, DL.e_lm, DL.e_isL, DL.e_app, DL.e_pop, DL.e_popSome, DL.e_call, DL.e_newT, DL.e_newK, DL.e_disp, DL.e_prs0, DL.e_prsS, DL.f_for, DL.f_lc, DL.f_dc, DL.f_iseq, DL.f_seqT, DL.f_rng1, DL.f_rngK, DL.f_zip, DL.f_zipT, DL.f_yes, DL.f_par3, DL.f_par3K, DL.f_isi, DL.f_isiK, DL.f_fld, DL.f_mkE, DL.f_mk0, DL.f_slice, DL.f_nopart, DL.f_part, DL.f_partK, DL.f_slT, DL.f_lrg, DL.f_dispT, List.set_cons_zero, List.set_cons_succ, List.length_cons, List.length_nil, decide_eq_true_eq, Bool.not_eq_true, true_and, and_true, if_true, Bool.false_eq_true, if_false, Nat.reduceAdd, Nat.reduceLT, Nat.reduceLeDiff, e_orK]
  unfold isAny at dn
  cases h2 : isOf d 2 with
  | true => rw [h2] at dn; exact dn
  | false =>
    rw [h2] at dn
    refine ⟨d, 3, rfl, hP, ?_⟩
    simp only [DL.e_next, DL.e_break, DL.e_cont, DL.e_drop, DL.e_ret, DL.e_retN, DL.e_ifS, DL.e_asg, DL.e_par, DL.e_par2, DL.e_del, DL.e_gname, DL.e_gsub, DL.e_gtup, DL.e_gcons, DL.e_gnil, DL.e_var0, DL.e_varS, DL.e_con, DL.e_top2, DL.e_top1, DL.e_cb, DL.e_nil, DL.e_cons, DL.e_tup, DL.e_lst, DL.e_test, DL.e_testK, DL.e_tru, DL.e_truB, DL.e_truN, DL.e_truL, DL.e_and, DL.e_or, DL.e_not, DL.e_if, DL.e_andV, DL.e_andK, DL.e_orV, DL.e_orK, DL.e_notV, DL.e_notK, DL.e_add, DL.e_addS, DL.e_addT, DL.e_addL, DL.e_sub, DL.e_mul, DL.e_mulL, DL.e_mulT, DL.e_fdiv, DL.e_mod, DL.e_pow, DL.e_neg, DL.e_lt, DL.e_le, DL.e_gt, DL.e_ge, DL.e_eqI, DL.e_eqS, DL.e_neI, DL.e_neS, DL.e_isN, DL.e_isntN, DL.e_isB, DL.e_isntB, DL.e_atK, DL.e_ixT, DL.e_ixL, DL.e_ixK, DL.e_ixDT, DL.e_setK, DL.e_setDT, DL.e_setSome, DL.e_setL, DL.e_delK, DL.e_delT, DL.e_inT, DL.e_inK, DL.e_lenL, DL.e_lenT, DL.e_lenK, DL.e_lenDT, DL.e_lenS, DL.e_listL, DL.e_listO, DL.e_listT, DL.e_tupleL, DL.e_tupleT, DL.e_int, DL.e_lm0, DL.e_lm, DL.e_isL, DL.e_app, DL.e_pop, DL.e_popSome, DL.e_call, DL.e_newT, DL.e_newK, DL.e_disp, DL.e_prs0, DL.e_prsS, DL.f_for, DL.f_lc, DL.f_dc, DL.f_iseq, DL.f_seqT, DL.f_rng1, DL.f_rngK, DL.f_zip, DL.f_zipT, DL.f_yes, DL.f_par3, DL.f_par3K, DL.f_isi, DL.f_isiK, DL.f_fld, DL.f_mkE, DL.f_mk0, DL.f_slice, DL.f_nopart, DL.f_part, DL.f_partK, DL.f_slT, DL.f_lrg, DL.f_dispT, List.set_cons_zero, List.set_cons_succ, List.length_cons, List.length_nil, decide_eq_true_eq, Bool.not_eq_true, true_and, and_true, if_true, Bool.false_eq_true, if_false, Nat.reduceAdd, Nat.reduceLT, Nat.reduceLeDiff, e_orK]
    cases h3 : isOf d 3 with
    | true => rw [h3] at dn; exact dn
    | false =>
      rw [h3] at dn
      exact ⟨d, 4, rfl, hP, dn⟩
theorem f_seqW {K : PySem.W.Frag} {te : TEd} {ρ : Envd} {M : Mem} {R : List D → (Mem → Prop) → Mem → Prop} : iseqT K te ρ M R = te ρ M fun x M1 => ∃ ds, rdT K x = some ds ∧ R ds (fun _ => True) M1 := rfl
theorem len_row {xs : List Int} {M : Mem} {Q : VKd} : lenR [rowD xs] M Q = Q (.int ((xs.map D.int).length : Nat)) M := rfl
/-- for .. in a row -/
def seqOkM (d : D) (xs : List D) : Mem → Prop := match d with
  | .ref a => fun M => rdL M a = some xs
  | _ => fun _ => True
theorem seqK_row {M : Mem} {d : D} {xs : List D} {R : List D → (Mem → Prop) → Mem → Prop} (h : rdS M d = some xs) : seqK d M R = R xs (seqOkM d xs) M := by
  cases d with
  | tup ys => cases h; rfl
  | ref a => exact f_seqR h
  | _ => cases h
theorem seqOk {M : Mem} {d : D} {xs : List D} (h : rdS M d = some xs) : seqOkM d xs M := by
  cases d with
  | ref a => exact h
  | _ => exact trivial
def sumD : D → Option D
  | .tup [.int a, .int b] => some (.int (a + b))
  | _ => none
theorem pairs_ints {d : D} : ∀ {xs ys : List Int}, d ∈ pairs (xs.map D.int) (ys.map D.int) → ∃ a b, d = .tup [.int a, .int b]
  | [], _, h => by simp [pairs] at h
  | _ :: _, [], h => by simp [pairs] at h
  | x :: xs, y :: ys, h => by
    rcases List.mem_cons.mp (show d ∈ D.tup [.int x, .int y] :: pairs (xs.map D.int) (ys.map D.int) from h) with e | h
    · exact ⟨x, y, e⟩
    · exact pairs_ints h
theorem sumD_pairs : ∀ {xs ys : List Int}, (pairs (xs.map D.int) (ys.map D.int)).filterMap sumD = (plus xs ys).map D.int
  | [], _ => by simp [pairs, plus]
  | _ :: _, [] => by simp [pairs, plus]
  | x :: xs, y :: ys => by
    show (D.tup [.int x, .int y] :: pairs (xs.map D.int) (ys.map D.int)).filterMap sumD = D.int (x + y) :: (plus xs ys).map D.int
    rw [List.filterMap_cons, sumD_pairs]
    rfl
def spAdded (K : PySem.W.Frag) : SpD := fun ds M Q _ => ∃ x y xs ys, ds = [x, y] ∧ rdT K x = some (xs.map D.int) ∧ rdT K y = some (ys.map D.int) ∧ xs.length < sizeLine ∧ Q (rowD (plus xs ys)) M
theorem ok_added (Z : Free mg) (S : Stands K mg "added" s_added ["one", "two"]) : FnD P w K mg base 1 "added" ["one", "two"] (spAdded K) := by
  obtain ⟨f, fd, F, hm, hb⟩ := S
  refine FnD.of F sc_added hm hb (fun ds M Q E h => ?_) fun cdv A outer s0 H0 E E0 hr tk hp => ?_
  · obtain ⟨x, y, xs, ys, rfl, _⟩ := h; rfl
  have nd := sc_added.nd
  refine ⟨_, (pssd_one (psd_ret (ped_callTy call_tupleD rfl Z.tuple (by decide +kernel) (pad_cons (ped_lc rfl nd (pid_zipT rfl Z.zip (pad_cons (v 0) (pad_cons (v 1) pad_nil))) (blkOk_by (own := [("a", 2), ("b", 3)]) rfl) (by decide) (fun _ _ _ _ _ => (pgd_tup (n := 2) rfl (pgsd_cons (gn 2 nd) (pgsd_cons (gn 3 nd) pgsd_nil)))) (fun _ _ _ _ _ => ptsd_nil) (fun _ _ _ _ _ => (ped_op op_addD (v 2) (v 3)))) pad_nil)))), fun ds M Q h => ?_⟩
  obtain ⟨x, y, xs, ys, rfl, hx, hy, hl, q⟩ := h
  show tret _ _ [some x, some y, none, none] M
  simp only [DL.e_next, DL.e_break, DL.e_cont, DL.e_drop, DL.e_ret, DL.e_retN, DL.e_ifS, DL.e_asg, DL.e_par, DL.e_par2, DL.e_del, DL.e_gname, DL.e_gsub, DL.e_gtup, DL.e_gcons, DL.e_gnil, DL.e_var0, DL.e_varS, DL.e_con, DL.e_top2, DL.e_top1, DL.e_cb, DL.e_nil, DL.e_cons, DL.e_tup, DL.e_lst, DL.e_test, DL.e_testK, DL.e_tru, DL.e_truB, DL.e_truN, DL.e_truL, DL.e_and, DL.e_or, DL.e_not, DL.e_if, DL.e_andV, DL.e_andK, DL.e_orV, DL.e_orK, DL.e_notV, DL.e_notK, DL.e_add, DL.e_addS, DL.e_addT, DL.e_addL, DL.e_sub, DL.e_mul, DL.e_mulL, DL.e_mulT, DL.e_fdiv, DL.e_mod, DL.e_pow, DL.e_neg, DL.e_lt, DL.e_le, DL.e_gt, DL.e_ge, DL.e_eqI, DL.e_eqS, DL.e_neI, DL.e_neS, DL.e_isN, DL.e_isntN, DL.e_isB, DL.e_isntB, DL.e_atK, DL.e_ixT, DL.e_ixL, DL.e_ixK, DL.e_ixDT, DL.e_setK, DL.e_setDT, DL.e_setSome, DL.e_setL, DL.e_delK, DL.e_delT, DL.e_inT, DL.e_inK, DL.e_lenL, DL.e_lenT, DL.e_lenK, DL.e_lenDT, DL.e_lenS, DL.e_listL, DL.e_listO, DL.e_listT, DL.e_tupleL, DL.e_tupleT, DL.e_int, DL.e_lm0, DL.e_lm, DL.e_isL, DL.e_app, DL.e_pop, DL.e_popSome, DL.e_call, DL.e_newT, DL.e_newK, DL.e_disp, DL.e_prs0, DL.e_prsS, DL.f_for, DL.f_lc, DL.f_dc, DL.f_iseq, DL.f_seqT, DL.f_rng1, DL.f_rngK, DL.f_zip, DL.f_zipT, DL.f_yes, DL.f_par3, DL.f_par3K, DL.f_isi, DL.f_isiK, DL.f_fld, DL.f_mkE, DL.f_mk0, DL.f_slice, DL.f_nopart, DL.f_part, DL.f_partK, DL.f_slT, DL.f_lrg, DL.f_dispT, List.set_cons_zero, List.set_cons_succ, List.length_cons, List.length_nil, decide_eq_true_eq, Bool.not_eq_true, true_and, and_true, if_true, Bool.false_eq_true, if_false, Nat.reduceAdd, Nat.reduceLT, Nat.reduceLeDiff]
  refine ⟨x, y, _, _, rfl, hx, hy, fun p hp => ?_⟩
  refine lc_pure sumD hp ?_ (fun _ _ => trivial) (fun d hd M' acc k hM Ky Kn ky kn => ?_) fun M' k hM => ?_
  · rw [pairs_length, List.length_map]
    omega
  · obtain ⟨a, b, rfl⟩ := pairs_ints hd
    show gtup 2 _ (D.tup [.int a, .int b]) [some x, some y, none, none] M' _
    simp only [DL.e_next, DL.e_break, DL.e_cont, DL.e_drop, DL.e_ret, DL.e_retN, DL.e_ifS, DL.e_asg, DL.e_par, DL.e_par2, DL.e_del, DL.e_gname, DL.e_gsub, DL.e_gtup, DL.e_gcons, DL.e_gnil, DL.e_var0, DL.e_varS, DL.e_con, DL.e_top2, DL.e_top1, DL.e_cb, DL.e_nil, DL.e_cons, DL.e_tup, DL.e_lst, DL.e_test, DL.e_testK, DL.e_tru, DL.e_truB, DL.e_truN, DL.e_truL, DL.e_and, DL.e_or, DL.e_not, DL.e_if, DL.e_andV, DL.e_andK, DL.e_orV, DL.e_orK, DL.e_notV, DL.e_notK, DL.e_add, DL.e_addS, DL.e_addT, DL.e_addL, DL.e_sub, DL.e_mul, DL.e_mulL, DL.e_mulT, DL.e_fdiv, DL.e_mod, DL.e_pow, DL.e_neg, DL.e_lt, DL.e_le, DL.e_gt, DL.e_ge, DL.e_eqI, DL.e_eqS, DL.e_neI, DL.e_neS, DL.e_isN, DL.e_isntN, DL.e_isB, DL.e_isntB, DL.e_atK, DL.e_ixT, DL.e_ixL, DL.e_ixK, DL.e_ixDT, DL.e_setK, DL.e_setDT, DL.e_setSome, DL.e_setL, DL.e_delK, DL.e_delT, DL.e_inT, DL.e_inK, DL.e_lenL, DL.e_lenT, DL.e_lenK, DL.e_lenDT, DL.e_lenS, DL.e_listL, DL.e_listO, DL.e_listT, DL.e_tupleL, DL.e_tupleT, DL.e_int, DL.e_lm0, DL.e_lm, DL.e_isL, DL.e_app, DL.e_pop, DL.e_popSome, DL.e_call, DL.e_newT, DL.e_newK, DL.e_disp, DL.e_prs0, DL.e_prsS, DL.f_for, DL.f_lc, DL.f_dc, DL.f_iseq, DL.f_seqT, DL.f_rng1, DL.f_rngK, DL.f_zip, DL.f_zipT, DL.f_yes, DL.f_par3, DL.f_par3K, DL.f_isi, DL.f_isiK, DL.f_fld, DL.f_mkE, DL.f_mk0, DL.f_slice, DL.f_nopart, DL.f_part, DL.f_partK, DL.f_slT, DL.f_lrg, DL.f_dispT, List.set_cons_zero, List.set_cons_succ, List.length_cons, List.length_nil, decide_eq_true_eq, Bool.not_eq_true, true_and, and_true, if_true, Bool.false_eq_true, if_false, Nat.reduceAdd, Nat.reduceLT, Nat.reduceLeDiff]
    exact ky M' _ rfl .refl
  · rw [sumD_pairs] at hM
    show tupleR [.ref p] M' _
    simp only [tupleR, rdS, rdL_lst hM]
    exact ⟨M, k, q⟩
/-! ### the cells beside -/
def rowsAt (K : PySem.W.Frag) : List D → List (List Int) → Bool
  | [], [] => true
  | .ref r :: ds, s :: ss => decide (KT K r = some (s.map D.int)) && rowsAt K ds ss
  | _, _ => false
def stepsB (K : PySem.W.Frag) : Bool := [2, 3, 4].all fun n => match kdI K (He.ga K "STEPS") (n : Nat) with
  | some (.ref a) => (match KT K a with
    | some ds => rowsAt K ds (stepsL n)
    | none => false)
  | _ => false
theorem steps_at (h : stepsB K = true) {n : Nat} (h0 : 2 ≤ n) (h1 : n ≤ 4) : ∃ a ds, kdI K (He.ga K "STEPS") n = some (.ref a) ∧ KT K a = some ds ∧ rowsAt K ds (stepsL n) = true := by
  have hn : n ∈ [2, 3, 4] := by
    have : n = 2 ∨ n = 3 ∨ n = 4 := by omega
    rcases this with rfl | rfl | rfl <;> simp
  have z := List.all_eq_true.mp h n hn
  split at z
  · rename_i a e
    split at z
    · rename_i ds e2
      exact ⟨a, ds, e, e2, z⟩
    · cases z
  · cases z
theorem rows_get : ∀ {ds : List D} {ss : List (List Int)} {i : Nat} {d : D}, rowsAt K ds ss = true → ds[i]? = some d → ∃ r s, d = .ref r ∧ ss[i]? = some s ∧ KT K r = some (s.map D.int)
  | [], _, _, _, _, e => by simp at e
  | d0 :: ds, [], _, _, h, _ => by cases d0 <;> simp [rowsAt] at h
  | d0 :: ds, s :: ss, i, d, h, e => by
    cases d0 with
    | ref r =>
      simp only [rowsAt, Bool.and_eq_true, decide_eq_true_eq] at h
      cases i with
      | zero =>
        simp at e
        subst e
        exact ⟨r, s, rfl, rfl, h.1⟩
      | succ i =>
        obtain ⟨r', s', e1, e2, e3⟩ := rows_get (i := i) h.2 (by simpa using e)
        exact ⟨r', s', e1, by simpa using e2, e3⟩
    | _ => simp [rowsAt] at h
theorem rows_len : ∀ {ds : List D} {ss : List (List Int)}, rowsAt K ds ss = true → ds.length = ss.length
  | [], [], _ => rfl
  | [], _ :: _, h => by simp [rowsAt] at h
  | d0 :: ds, [], h => by cases d0 <;> simp [rowsAt] at h
  | d0 :: ds, s :: ss, h => by
    cases d0 with
    | ref r =>
      simp only [rowsAt, Bool.and_eq_true] at h
      simp [rows_len h.2]
    | _ => simp [rowsAt] at h
def stepD (K : PySem.W.Frag) (xs : List Int) : D → Option D
  | .ref r => ((KT K r).bind intsOf).map fun ys => rowD (plus xs ys)
  | _ => none
theorem stepD_ref {xs s : List Int} {r : Addr} (h : KT K r = some (s.map D.int)) : stepD K xs (.ref r) = some (rowD (plus xs s)) := by
  simp only [stepD, h, Option.bind_some, intsOf_map, Option.map_some]
theorem stepD_rows {xs : List Int} : ∀ {ds : List D} {ss : List (List Int)}, rowsAt K ds ss = true → ds.filterMap (stepD K xs) = ss.map fun s => rowD (plus xs s)
  | [], [], _ => rfl
  | [], _ :: _, h => by simp [rowsAt] at h
  | d0 :: ds, [], h => by cases d0 <;> simp [rowsAt] at h
  | d0 :: ds, s :: ss, h => by
    cases d0 with
    | ref r =>
      simp only [rowsAt, Bool.and_eq_true, decide_eq_true_eq] at h
      rw [List.filterMap_cons, stepD_ref h.1, stepD_rows h.2]
      rfl
    | _ => simp [rowsAt] at h
def spAround : SpD := fun ds M Q _ => ∃ xs, ds = [rowD xs] ∧ 2 ≤ xs.length ∧ xs.length ≤ 4 ∧ Q (.tup ((nbrs xs).map rowD)) M
theorem ok_around (Z : Free mg) (S : Stands K mg "around" s_around ["cell"]) (ST : stepsB K = true) (G_STEPS : mg "STEPS" = some (.ref (He.ga K "STEPS"))) (C_added : FnD P w K mg base 1 "added" ["one", "two"] (spAdded K)) : FnD P w K mg base 2 "around" ["cell"] spAround := by
  obtain ⟨f, fd, F, hm, hb⟩ := S
  refine FnD.of F sc_around hm hb (fun ds M Q E h => ?_) fun cdv A outer s0 H0 E E0 hr tk hp => ?_
  · obtain ⟨xs, rfl, _⟩ := h; rfl
  have nd := sc_around.nd
  refine ⟨_, (pssd_one (psd_ret (ped_callTy call_tupleD rfl Z.tuple (by decide +kernel) (pad_cons (ped_lc rfl nd (pid_seqT (ped_ixW (ped_glob rfl G_STEPS) (ped_callB call_lenD2 rfl Z.len PySem.boot_len (pad_cons (v 0) pad_nil)))) (blkOk_by (own := [("step", 1)]) rfl) (by decide) (fun _ _ _ _ _ => (gn 1 nd)) (fun _ _ _ _ _ => ptsd_nil) (fun _ _ _ _ _ => (ped_call C_added (hr.mono (by decide)) rfl takesD0 (pad_cons (v 0) (pad_cons (v 1) pad_nil))))) pad_nil)))), fun ds M Q h => ?_⟩
  obtain ⟨xs, rfl, h0, h1, q⟩ := h
  obtain ⟨a, ds, e1, e2, e3⟩ := steps_at ST h0 h1
  have e1' : kdI K (He.ga K "STEPS") (((xs.map D.int).length : Nat) : Int) = some (.ref a) := by simpa using e1
  show tret _ _ [some (rowD xs), none] M
  simp only [DL.e_next, DL.e_break, DL.e_cont, DL.e_drop, DL.e_ret, DL.e_retN, DL.e_ifS, DL.e_asg, DL.e_par, DL.e_par2, DL.e_del, DL.e_gname, DL.e_gsub, DL.e_gtup, DL.e_gcons, DL.e_gnil, DL.e_var0, DL.e_varS, DL.e_con, DL.e_top2, DL.e_top1, DL.e_cb, DL.e_nil, DL.e_cons, DL.e_tup, DL.e_lst, DL.e_test, DL.e_testK, DL.e_tru, DL.e_truB, DL.e_truN, DL.e_truL, DL.e_and, DL.e_or, DL.e_not, DL.e_if, DL.e_andV, DL.e_andK, DL.e_orV, DL.e_orK, DL.e_notV, DL.e_notK, DL.e_add, DL.e_addS, DL.e_addT, DL.e_addL, DL.e_sub, DL.e_mul, DL.e_mulL, DL.e_mulT, DL.e_fdiv, DL.e_mod, DL.e_pow, DL.e_neg, DL.e_lt, DL.e_le, DL.e_gt, DL.e_ge, DL.e_eqI, DL.e_eqS, DL.e_neI, DL.e_neS, DL.e_isN, DL.e_isntN, DL.e_isB, DL.e_isntB, DL.e_atK, DL.e_ixT, DL.e_ixL, DL.e_ixK, DL.e_ixDT, DL.e_setK, DL.e_setDT, DL.e_setSome, DL.e_setL, DL.e_delK, DL.e_delT, DL.e_inT, DL.e_inK, DL.e_lenL, DL.e_lenT, DL.e_lenK, DL.e_lenDT, DL.e_lenS, DL.e_listL, DL.e_listO, DL.e_listT, DL.e_tupleL, DL.e_tupleT, DL.e_int, DL.e_lm0, DL.e_lm, DL.e_isL, DL.e_app, DL.e_pop, DL.e_popSome, DL.e_call, DL.e_newT, DL.e_newK, DL.e_disp, DL.e_prs0, DL.e_prsS, DL.f_for, DL.f_lc, DL.f_dc, DL.f_iseq, DL.f_seqT, DL.f_rng1, DL.f_rngK, DL.f_zip, DL.f_zipT, DL.f_yes, DL.f_par3, DL.f_par3K, DL.f_isi, DL.f_isiK, DL.f_fld, DL.f_mkE, DL.f_mk0, DL.f_slice, DL.f_nopart, DL.f_part, DL.f_partK, DL.f_slT, DL.f_lrg, DL.f_dispT, List.set_cons_zero, List.set_cons_succ, List.length_cons, List.length_nil, decide_eq_true_eq, Bool.not_eq_true, true_and, and_true, if_true, Bool.false_eq_true, if_false, Nat.reduceAdd, Nat.reduceLT, Nat.reduceLeDiff, f_seqW]
  rw [len_row]
  refine ⟨_, _, rfl, rfl, .inl ⟨_, e1', ds, e2, fun p hp => ?_⟩⟩
  have hlen : ds.length ≤ 8 := by
    rw [rows_len e3]
    unfold stepsL
    split <;> simp
  refine lc_pure (stepD K xs) hp (Nat.lt_of_le_of_lt hlen (by decide +kernel)) (fun _ _ => trivial) (fun d hd M' acc k hM Ky Kn ky kn => ?_) fun M' k hM => ?_
  · obtain ⟨i, hi, ei⟩ := List.getElem_of_mem hd
    obtain ⟨r, s, rfl, es, er⟩ := rows_get e3 (List.getElem?_eq_some_iff.mpr ⟨hi, ei⟩)
    show spAdded K [rowD xs, .ref r] M' Ky (fun _ _ _ => False)
    exact ⟨_, _, xs, s, rfl, rfl, er, Nat.lt_of_le_of_lt h1 (by decide +kernel), ky M' _ (stepD_ref er) .refl⟩
  · rw [stepD_rows e3] at hM
    show tupleR [.ref p] M' _
    simp only [tupleR, rdS, rdL_lst hM]
    have z : (nbrs xs).map rowD = (stepsL xs.length).map fun s => rowD (plus xs s) := by
      unfold nbrs
      rw [List.map_map]
      rfl
    rw [z] at q
    exact ⟨M, k, q⟩
theorem isOf_row {d : D} {n : Int} (h : isOf d n = true) : ∃ xs, d = rowD xs ∧ (xs.length : Int) = n := by
  cases d with
  | tup ds =>
    simp only [isOf, Bool.and_eq_true, decide_eq_true_eq] at h
    obtain ⟨hl, ha⟩ := h
    have : ∀ l : List D, l.all isI = true → ∃ xs : List Int, l = xs.map D.int := by
      intro l
      induction l with
      | nil => exact fun _ => ⟨[], rfl⟩
      | cons x l ih =>
        intro z
        simp only [List.all_cons, Bool.and_eq_true] at z
        obtain ⟨ys, rfl⟩ := ih z.2
        cases x with
        | int i => exact ⟨i :: ys, rfl⟩
        | _ => cases z.1
    obtain ⟨xs, rfl⟩ := this ds ha
    exact ⟨xs, rfl, by simpa using hl⟩
  | _ => cases h
theorem isAny_row {d : D} (h : isAny d = true) : ∃ xs, d = rowD xs ∧ 2 ≤ xs.length ∧ xs.length ≤ 4 := by
  unfold isAny at h
  simp only [Bool.or_eq_true] at h
  rcases h with h | h | h
  · obtain ⟨xs, e, l⟩ := isOf_row h; exact ⟨xs, e, by omega, by omega⟩
  · obtain ⟨xs, e, l⟩ := isOf_row h; exact ⟨xs, e, by omega, by omega⟩
  · obtain ⟨xs, e, l⟩ := isOf_row h; exact ⟨xs, e, by omega, by omega⟩
theorem isOf_rowD {xs : List Int} {n : Int} : isOf (rowD xs) n = decide ((xs.length : Int) = n) := by
  have : (xs.map D.int).all isI = true := by simp [isI]
  simp [isOf, rowD, this]
theorem isAny_rowD {xs : List Int} (h0 : 2 ≤ xs.length) (h1 : xs.length ≤ 4) : isAny (rowD xs) = true := by
  unfold isAny
  rw [isOf_rowD, isOf_rowD, isOf_rowD]
  simp only [Bool.or_eq_true, decide_eq_true_eq]
  omega
theorem plain_row {M : Mem} {xs : List Int} (h : xs.length < sizeLine) : Plain M (rowD xs) := by
  refine ⟨rfl, fun ys e => ?_⟩
  have e : xs.map D.int = ys := D.tup.inj e
  subst e
  refine ⟨by simpa using h, fun x hx => ?_⟩
  obtain ⟨i, _, rfl⟩ := List.mem_map.mp hx
  rfl
/-- the class C's instances with these fields are let out, or d is given -/
def spBeside (K : PySem.W.Frag) : SpD := fun ds M Q E => ∃ d, ds = [d] ∧ Plain M d ∧ (∀ xs, d = rowD xs → 2 ≤ xs.length → xs.length ≤ 4 → Q (.tup ((nbrs xs).map rowD)) M) ∧ (isAny d = false → E (He.ga K "BadCell") [("cell", d)] M)
theorem ok_beside (Z : Free mg) (S : Stands K mg "beside" s_beside ["cell"]) (I_BadCell : ExI P w K base 1 (He.ga K "BadCell") ["cell"]) (G_BadCell : mg "BadCell" = some (.ref (He.ga K "BadCell"))) (C_is_any : FnD P w K mg base 3 "is_any" ["value"] spAny)
    (C_around : FnD P w K mg base 2 "around" ["cell"] spAround) : FnD P w K mg base 4 "beside" ["cell"] (spBeside K) := by
  obtain ⟨f, fd, F, hm, hb⟩ := S
  refine FnD.of F sc_beside hm hb (fun ds M Q E h => ?_) fun cdv A outer s0 H0 E E0 hr tk hp => ?_
  · obtain ⟨d, rfl, _⟩ := h; rfl
  have nd := sc_beside.nd
  refine ⟨_, (pssd_cons (psd_if (ptd_not (ptd_truth (ped_call C_is_any (hr.mono (by decide)) rfl tk (pad_cons (v 0) pad_nil)))) (pssd_one (psd_raise I_BadCell rfl tk (hr.mono (by decide)) rfl G_BadCell (pad_cons (v 0) pad_nil))) pssd_nil)
  (pssd_one (psd_ret (ped_call C_around (hr.mono (by decide)) rfl tk (pad_cons (v 0) pad_nil))))), fun ds M Q h => ?_⟩
  obtain ⟨d, rfl, hP, hy, hn⟩ := h
  show tseq _ _ _ [some d] M
  simp only [DL.e_next, DL.e_break, DL.e_cont, DL.e_drop, DL.e_ret, DL.e_retN, DL.e_ifS, DL.e_asg, DL.e_par, DL.e_par2, DL.e_del, DL.e_gname, DL.e_gsub, DL.e_gtup, DL.e_gcons, DL.e_gnil, DL.e_var0, DL.e_varS, DL.e_con, DL.e_top2, DL.e_top1, DL.e_cb, DL.e_nil, DL.e_cons, DL.e_tup, DL.e_lst, DL.e_test, DL.e_testK, DL.e_tru, DL.e_truB, DL.e_truN, DL.e_truL, DL.e_and, DL.e_or, DL.e_not, DL.e_if, DL.e_andV, DL.e_andK, DL.e_orV, DL.e_orK, DL.e_notV, DL.e_notK, DL.e_add, DL.e_addS, DL.e_addT, DL.e_addL, DL.e_sub, DL.e_mul, DL.e_mulL, DL.e_mulT, DL.e_fdiv, DL.e_mod, DL.e_pow, DL.e_neg, DL.e_lt, DL.e_le, DL.e_gt, DL.e_ge, DL.e_eqI, DL.e_eqS, DL.e_neI, DL.e_neS, DL.e_isN, DL.e_isntN, DL.e_isB, DL.e_isntB, DL.e_atK, DL.e_ixT, DL.e_ixL, DL.e_ixK, DL.e_ixDT, DL.e_setK, DL.e_setDT, DL.e_setSome, DL.e_setL, DL.e_delK, DL.e_delT, DL.e_inT, DL.e_inK, DL.e_lenL, DL.e_lenT, DL.e_lenK, DL.e_lenDT, DL.e_lenS, DL.e_listL, DL.e_listO, DL.e_listT, DL.e_tupleL, DL.e_tupleT, DL.e_int, DL.e_lm0, DL.e_lm, DL.e_isL, DL.e_app, DL.e_pop, DL.e_popSome, DL.e_call, DL.e_newT, DL.e_newK, DL.e_disp, DL.e_prs0, DL.e_prsS, DL.f_for, DL.f_lc, DL.f_dc, DL.f_iseq, DL.f_seqT, DL.f_rng1, DL.f_rngK, DL.f_zip, DL.f_zipT, DL.f_yes, DL.f_par3, DL.f_par3K, DL.f_isi, DL.f_isiK, DL.f_fld, DL.f_mkE, DL.f_mk0, DL.f_slice, DL.f_nopart, DL.f_part, DL.f_partK, DL.f_slT, DL.f_lrg, DL.f_dispT, List.set_cons_zero, List.set_cons_succ, List.length_cons, List.length_nil, decide_eq_true_eq, Bool.not_eq_true, true_and, and_true, if_true, Bool.false_eq_true, if_false, Nat.reduceAdd, Nat.reduceLT, Nat.reduceLeDiff, e_seq]
  refine ⟨d, rfl, hP, ?_⟩
  simp only [DL.e_next, DL.e_break, DL.e_cont, DL.e_drop, DL.e_ret, DL.e_retN, DL.e_ifS, DL.e_asg, DL.e_par, DL.e_par2, DL.e_del, DL.e_gname, DL.e_gsub, DL.e_gtup, DL.e_gcons, DL.e_gnil, DL.e_var0, DL.e_varS, DL.e_con, DL.e_top2, DL.e_top1, DL.e_cb, DL.e_nil, DL.e_cons, DL.e_tup, DL.e_lst, DL.e_test, DL.e_testK, DL.e_tru, DL.e_truB, DL.e_truN, DL.e_truL, DL.e_and, DL.e_or, DL.e_not, DL.e_if, DL.e_andV, DL.e_andK, DL.e_orV, DL.e_orK, DL.e_notV, DL.e_notK, DL.e_add, DL.e_addS, DL.e_addT, DL.e_addL, DL.e_sub, DL.e_mul, DL.e_mulL, DL.e_mulT, DL.e_fdiv, DL.e_mod, DL.e_pow, DL.e_neg, DL.e_lt, DL.e_le, DL.e_gt, DL.e_ge, DL.e_eqI, DL.e_eqS, DL.e_neI, DL.e_neS, DL.e_isN, DL.e_isntN, DL.e_isB, DL.e_isntB, DL.e_atK, DL.e_ixT, DL.e_ixL, DL.e_ixK, DL.e_ixDT, DL.e_setK, DL.e_setDT, DL.e_setSome, DL.e_setL, DL.e_delK, DL.e_delT, DL.e_inT, DL.e_inK, DL.e_lenL, DL.e_lenT, DL.e_lenK, DL.e_lenDT, DL.e_lenS, DL.e_listL, DL.e_listO, DL.e_listT, DL.e_tupleL, DL.e_tupleT, DL.e_int, DL.e_lm0, DL.e_lm, DL.e_isL, DL.e_app, DL.e_pop, DL.e_popSome, DL.e_call, DL.e_newT, DL.e_newK, DL.e_disp, DL.e_prs0, DL.e_prsS, DL.f_for, DL.f_lc, DL.f_dc, DL.f_iseq, DL.f_seqT, DL.f_rng1, DL.f_rngK, DL.f_zip, DL.f_zipT, DL.f_yes, DL.f_par3, DL.f_par3K, DL.f_isi, DL.f_isiK, DL.f_fld, DL.f_mkE, DL.f_mk0, DL.f_slice, DL.f_nopart, DL.f_part, DL.f_partK, DL.f_slT, DL.f_lrg, DL.f_dispT, List.set_cons_zero, List.set_cons_succ, List.length_cons, List.length_nil, decide_eq_true_eq, Bool.not_eq_true, true_and, and_true, if_true, Bool.false_eq_true, if_false, Nat.reduceAdd, Nat.reduceLT, Nat.reduceLeDiff, e_seq]
  cases h : isAny d with
  | false => exact ⟨rfl, M, fun _ _ z => z, hn h⟩
  | true =>
    obtain ⟨xs, rfl, h0, h1⟩ := isAny_row h
    exact ⟨xs, rfl, h0, h1, M, Keep.refl, hy xs rfl h0 h1⟩
def spCell (K : PySem.W.Frag) : SpD := fun ds M Q E => ∃ d n, ds = [d, n] ∧ (kindD M n).isSome = true ∧
  ((∃ i : Int, n = .int i ∧ (i = 2 ∨ i = 3 ∨ i = 4) ∧ Plain M d ∧ Q (.bl (isOf d i)) M) ∨ ((∀ i : Int, n = .int i → i ≠ 2 ∧ i ≠ 3 ∧ i ≠ 4) ∧ E (He.ga K "BadNumber") [("number", n), ("what", .str "dimension")] M))
theorem ok_cell (Z : Free mg) (S : Stands K mg "is_cell" s_is_cell ["value", "dimension"]) (I_BadNumber : ExI P w K base 1 (He.ga K "BadNumber") ["what", "number"]) (G_BadNumber : mg "BadNumber" = some (.ref (He.ga K "BadNumber"))) (C_is_whole : FnD P w K mg base 1 "is_whole" ["value"] spWhole)
    (C_is_of : FnD P w K mg base 2 "is_of" ["value", "dimension"] spOf) : FnD P w K mg base 3 "is_cell" ["value", "dimension"] (spCell K) := by
  obtain ⟨f, fd, F, hm, hb⟩ := S
  refine FnD.of F sc_is_cell hm hb (fun ds M Q E h => ?_) fun cdv A outer s0 H0 E E0 hr tk hp => ?_
  · obtain ⟨d, n, rfl, _⟩ := h; rfl
  have nd := sc_is_cell.nd
  refine ⟨_, (pssd_cons (psd_if (PWd.pt (pwd_or (ptd_not (ptd_truth (ped_call C_is_whole (hr.mono (by decide)) rfl tk (pad_cons (v 1) pad_nil)))) (pwd_or1 (ptd_cmp (op_notInDD (u65 hr)) (v 1) (ped_tup (pad_cons ped_int (pad_cons ped_int (pad_cons ped_int pad_nil)))) rfl)))) (pssd_one (psd_raise I_BadNumber rfl tk (hr.mono (by decide)) rfl G_BadNumber (pad_cons ped_str (pad_cons (v 1) pad_nil)))) pssd_nil)
  (pssd_one (psd_ret (ped_call C_is_of (hr.mono (by decide)) rfl tk (pad_cons (v 0) (pad_cons (v 1) pad_nil)))))), fun ds M Q h => ?_⟩
  obtain ⟨d, n, rfl, hk, h⟩ := h
  show tseq _ _ _ [some d, some n] M
  simp only [DL.e_next, DL.e_break, DL.e_cont, DL.e_drop, DL.e_ret, DL.e_retN, DL.e_ifS, DL.e_asg, DL.e_par, DL.e_par2, DL.e_del, DL.e_gname, DL.e_gsub, DL.e_gtup, DL.e_gcons, DL.e_gnil, DL.e_var0, DL.e_varS, DL.e_con, DL.e_top2, DL.e_top1, DL.e_cb, DL.e_nil, DL.e_cons, DL.e_tup, DL.e_lst, DL.e_test, DL.e_testK, DL.e_tru, DL.e_truB, DL.e_truN, DL.e_truL, DL.e_and, DL.e_or, DL.e_not, DL.e_if, DL.e_andV, DL.e_andK, DL.e_orV, DL.e_orK, DL.e_notV, DL.e_notK, DL.e_add, DL.e_addS, DL.e_addT, DL.e_addL, DL.e_sub, DL.e_mul, DL.e_mulL, DL.e_mulT, DL.e_fdiv, DL.e_mod, DL.e_pow, DL.e_neg, DL.e_lt, DL.e_le, DL.e_gt, DL.e_ge, DL.e_eqI, DL.e_eqS, DL.e_neI, DL.e_neS, DL.e_isN, DL.e_isntN, DL.e_isB, DL.e_isntB, DL.e_atK, DL.e_ixT, DL.e_ixL, DL.e_ixK, DL.e_ixDT, DL.e_setK, DL.e_setDT, DL.e_setSome, DL.e_setL, DL.e_delK, DL.e_delT, DL.e_inT, DL.e_inK, DL.e_lenL, DL.e_lenT, DL.e_lenK, DL.e_lenDT, DL.e_lenS, DL.e_listL, DL.e_listO, DL.e_listT, DL.e_tupleL, DL.e_tupleT, DL.e_int, DL.e_lm0, DL.e_lm, DL.e_isL, DL.e_app, DL.e_pop, DL.e_popSome, DL.e_call, DL.e_newT, DL.e_newK, DL.e_disp, DL.e_prs0, DL.e_prsS, DL.f_for, DL.f_lc, DL.f_dc, DL.f_iseq, DL.f_seqT, DL.f_rng1, DL.f_rngK, DL.f_zip, DL.f_zipT, DL.f_yes, DL.f_par3, DL.f_par3K, DL.f_isi, DL.f_isiK, DL.f_fld, DL.f_mkE, DL.f_mk0, DL.f_slice, DL.f_nopart, DL.f_part, DL.f_partK, DL.f_slT, DL.f_lrg, DL.f_dispT, List.set_cons_zero, List.set_cons_succ, List.length_cons, List.length_nil, decide_eq_true_eq, Bool.not_eq_true, true_and, and_true, if_true, Bool.false_eq_true, if_false, Nat.reduceAdd, Nat.reduceLT, Nat.reduceLeDiff, e_seq]
  refine ⟨n, rfl, hk, ?_⟩
  simp only [DL.e_next, DL.e_break, DL.e_cont, DL.e_drop, DL.e_ret, DL.e_retN, DL.e_ifS, DL.e_asg, DL.e_par, DL.e_par2, DL.e_del, DL.e_gname, DL.e_gsub, DL.e_gtup, DL.e_gcons, DL.e_gnil, DL.e_var0, DL.e_varS, DL.e_con, DL.e_top2, DL.e_top1, DL.e_cb, DL.e_nil, DL.e_cons, DL.e_tup, DL.e_lst, DL.e_test, DL.e_testK, DL.e_tru, DL.e_truB, DL.e_truN, DL.e_truL, DL.e_and, DL.e_or, DL.e_not, DL.e_if, DL.e_andV, DL.e_andK, DL.e_orV, DL.e_orK, DL.e_notV, DL.e_notK, DL.e_add, DL.e_addS, DL.e_addT, DL.e_addL, DL.e_sub, DL.e_mul, DL.e_mulL, DL.e_mulT, DL.e_fdiv, DL.e_mod, DL.e_pow, DL.e_neg, DL.e_lt, DL.e_le, DL.e_gt, DL.e_ge, DL.e_eqI, DL.e_eqS, DL.e_neI, DL.e_neS, DL.e_isN, DL.e_isntN, DL.e_isB, DL.e_isntB, DL.e_atK, DL.e_ixT, DL.e_ixL, DL.e_ixK, DL.e_ixDT, DL.e_setK, DL.e_setDT, DL.e_setSome, DL.e_setL, DL.e_delK, DL.e_delT, DL.e_inT, DL.e_inK, DL.e_lenL, DL.e_lenT, DL.e_lenK, DL.e_lenDT, DL.e_lenS, DL.e_listL, DL.e_listO, DL.e_listT, DL.e_tupleL, DL.e_tupleT, DL.e_int, DL.e_lm0, DL.e_lm, DL.e_isL, DL.e_app, DL.e_pop, DL.e_popSome, DL.e_call, DL.e_newT, DL.e_newK, DL.e_disp, DL.e_prs0, DL.e_prsS, DL.f_for, DL.f_lc, DL.f_dc, DL.f_iseq, DL.f_seqT, DL.f_rng1, DL.f_rngK, DL.f_zip, DL.f_zipT, DL.f_yes, DL.f_par3, DL.f_par3K, DL.f_isi, DL.f_isiK, DL.f_fld, DL.f_mkE, DL.f_mk0, DL.f_slice, DL.f_nopart, DL.f_part, DL.f_partK, DL.f_slT, DL.f_lrg, DL.f_dispT, List.set_cons_zero, List.set_cons_succ, List.length_cons, List.length_nil, decide_eq_true_eq, Bool.not_eq_true, true_and, and_true, if_true, Bool.false_eq_true, if_false, Nat.reduceAdd, Nat.reduceLT, Nat.reduceLeDiff, e_seq]
  rcases h with ⟨i, rfl, hi, hP, q⟩ | ⟨hi, q⟩
  · have e : inV (.int i) [.int 2, .int 3, .int 4] = true := by
      rcases hi with rfl | rfl | rfl <;> rfl
    rw [if_neg (show ¬ ((!isI (.int i)) = true) by simp [isI])]
    refine ⟨by decide +kernel, .int i, [.int 2, .int 3, .int 4], rfl, rfl, rfl, rfl, ?_⟩
    simp only [DL.e_next, DL.e_break, DL.e_cont, DL.e_drop, DL.e_ret, DL.e_retN, DL.e_ifS, DL.e_asg, DL.e_par, DL.e_par2, DL.e_del, DL.e_gname, DL.e_gsub, DL.e_gtup, DL.e_gcons, DL.e_gnil, DL.e_var0, DL.e_varS, DL.e_con, DL.e_top2, DL.e_top1, DL.e_cb, DL.e_nil, DL.e_cons, DL.e_tup, DL.e_lst, DL.e_test, DL.e_testK, DL.e_tru, DL.e_truB, DL.e_truN, DL.e_truL, DL.e_and, DL.e_or, DL.e_not, DL.e_if, DL.e_andV, DL.e_andK, DL.e_orV, DL.e_orK, DL.e_notV, DL.e_notK, DL.e_add, DL.e_addS, DL.e_addT, DL.e_addL, DL.e_sub, DL.e_mul, DL.e_mulL, DL.e_mulT, DL.e_fdiv, DL.e_mod, DL.e_pow, DL.e_neg, DL.e_lt, DL.e_le, DL.e_gt, DL.e_ge, DL.e_eqI, DL.e_eqS, DL.e_neI, DL.e_neS, DL.e_isN, DL.e_isntN, DL.e_isB, DL.e_isntB, DL.e_atK, DL.e_ixT, DL.e_ixL, DL.e_ixK, DL.e_ixDT, DL.e_setK, DL.e_setDT, DL.e_setSome, DL.e_setL, DL.e_delK, DL.e_delT, DL.e_inT, DL.e_inK, DL.e_lenL, DL.e_lenT, DL.e_lenK, DL.e_lenDT, DL.e_lenS, DL.e_listL, DL.e_listO, DL.e_listT, DL.e_tupleL, DL.e_tupleT, DL.e_int, DL.e_lm0, DL.e_lm, DL.e_isL, DL.e_app, DL.e_pop, DL.e_popSome, DL.e_call, DL.e_newT, DL.e_newK, DL.e_disp, DL.e_prs0, DL.e_prsS, DL.f_for, DL.f_lc, DL.f_dc, DL.f_iseq, DL.f_seqT, DL.f_rng1, DL.f_rngK, DL.f_zip, DL.f_zipT, DL.f_yes, DL.f_par3, DL.f_par3K, DL.f_isi, DL.f_isiK, DL.f_fld, DL.f_mkE, DL.f_mk0, DL.f_slice, DL.f_nopart, DL.f_part, DL.f_partK, DL.f_slT, DL.f_lrg, DL.f_dispT, List.set_cons_zero, List.set_cons_succ, List.length_cons, List.length_nil, decide_eq_true_eq, Bool.not_eq_true, true_and, and_true, if_true, Bool.false_eq_true, if_false, Nat.reduceAdd, Nat.reduceLT, Nat.reduceLeDiff, e, Bool.not_true]
    exact ⟨d, i, rfl, hP, M, Keep.refl, q⟩
  · have fin : ∃ M_1 : Mem, (∀ a o, M_1 a = some o → M a = some o) ∧ E0 (He.ga K "BadNumber") [("number", n), ("what", .str "dimension")] M_1 := ⟨M, fun _ _ z => z, q⟩
    cases hn : isI n with
    | false => exact ⟨rfl, fin⟩
    | true =>
      cases n with
      | int i =>
        have e : inV (.int i) [.int 2, .int 3, .int 4] = false := by
          obtain ⟨h2, h3, h4⟩ := hi i rfl
          simp [inV, eqV, Ne.symm h2, Ne.symm h3, Ne.symm h4]
        rw [if_neg (show ¬ ((!true) = true) by simp)]
        refine ⟨by decide +kernel, .int i, [.int 2, .int 3, .int 4], rfl, rfl, rfl, rfl, ?_⟩
        simp only [DL.e_next, DL.e_break, DL.e_cont, DL.e_drop, DL.e_ret, DL.e_retN, DL.e_ifS, DL.e_asg, DL.e_par, DL.e_par2, DL.e_del, DL.e_gname, DL.e_gsub, DL.e_gtup, DL.e_gcons, DL.e_gnil, DL.e_var0, DL.e_varS, DL.e_con, DL.e_top2, DL.e_top1, DL.e_cb, DL.e_nil, DL.e_cons, DL.e_tup, DL.e_lst, DL.e_test, DL.e_testK, DL.e_tru, DL.e_truB, DL.e_truN, DL.e_truL, DL.e_and, DL.e_or, DL.e_not, DL.e_if, DL.e_andV, DL.e_andK, DL.e_orV, DL.e_orK, DL.e_notV, DL.e_notK, DL.e_add, DL.e_addS, DL.e_addT, DL.e_addL, DL.e_sub, DL.e_mul, DL.e_mulL, DL.e_mulT, DL.e_fdiv, DL.e_mod, DL.e_pow, DL.e_neg, DL.e_lt, DL.e_le, DL.e_gt, DL.e_ge, DL.e_eqI, DL.e_eqS, DL.e_neI, DL.e_neS, DL.e_isN, DL.e_isntN, DL.e_isB, DL.e_isntB, DL.e_atK, DL.e_ixT, DL.e_ixL, DL.e_ixK, DL.e_ixDT, DL.e_setK, DL.e_setDT, DL.e_setSome, DL.e_setL, DL.e_delK, DL.e_delT, DL.e_inT, DL.e_inK, DL.e_lenL, DL.e_lenT, DL.e_lenK, DL.e_lenDT, DL.e_lenS, DL.e_listL, DL.e_listO, DL.e_listT, DL.e_tupleL, DL.e_tupleT, DL.e_int, DL.e_lm0, DL.e_lm, DL.e_isL, DL.e_app, DL.e_pop, DL.e_popSome, DL.e_call, DL.e_newT, DL.e_newK, DL.e_disp, DL.e_prs0, DL.e_prsS, DL.f_for, DL.f_lc, DL.f_dc, DL.f_iseq, DL.f_seqT, DL.f_rng1, DL.f_rngK, DL.f_zip, DL.f_zipT, DL.f_yes, DL.f_par3, DL.f_par3K, DL.f_isi, DL.f_isiK, DL.f_fld, DL.f_mkE, DL.f_mk0, DL.f_slice, DL.f_nopart, DL.f_part, DL.f_partK, DL.f_slT, DL.f_lrg, DL.f_dispT, List.set_cons_zero, List.set_cons_succ, List.length_cons, List.length_nil, decide_eq_true_eq, Bool.not_eq_true, true_and, and_true, if_true, Bool.false_eq_true, if_false, Nat.reduceAdd, Nat.reduceLT, Nat.reduceLeDiff, e, Bool.not_false]
        exact ⟨rfl, fin⟩
      | _ => cases hn
def lenD : D → Nat
  | .tup xs => xs.length
  | _ => 0
/-- the first that is no cell, or of another dimension -/
def badC (xs : List D) : Option D := xs.find? fun x => !isAny x || decide (lenD x ≠ lenD (xs.headD .non))
theorem badC_at {xs : List D} {i : Nat} {x : D} (e : xs[i]? = some x) (ha : ∀ y ∈ xs.take i, isAny y = true ∧ lenD y = lenD (xs.headD .non)) (h : isAny x = false ∨ lenD x ≠ lenD (xs.headD .non)) : badC xs = some x := by
  unfold badC
  rw [List.find?_eq_some_iff_append]
  obtain ⟨hi, he⟩ := List.getElem?_eq_some_iff.mp e
  refine ⟨?_, xs.take i, xs.drop (i + 1), ?_, fun y hy => ?_⟩
  · simpa using h
  · have := List.take_append_drop i xs
    rw [List.drop_eq_getElem_cons hi, he] at this
    exact this.symm
  · obtain ⟨h1, h2⟩ := ha y hy
    simp [h1, h2]
theorem first_ok {xs : List D} {i : Nat} {x : D} (e : xs[i]? = some x) (ha : ∀ y ∈ xs.take i, isAny y = true ∧ lenD y = lenD (xs.headD .non)) (h : isAny x = true) : ∃ y, atI xs 0 = some y ∧ xs.headD .non = y ∧ isAny y = true := by
  cases xs with
  | nil => simp at e
  | cons y ys =>
    refine ⟨y, by simp [atI, ixN], rfl, ?_⟩
    cases i with
    | zero =>
      simp at e
      rw [e]
      exact h
    | succ i => exact (ha y (by simp)).1
def spCheck (K : PySem.W.Frag) : SpD := fun ds M Q E => ∃ c xs, ds = [c] ∧ rdS M c = some xs ∧ (∀ x ∈ xs, Plain M x) ∧ (badC xs = none → Q .non M) ∧ (∀ x, badC xs = some x → E (He.ga K "BadCell") [("cell", x)] M)
theorem ok_check (Z : Free mg) (S : Stands K mg "check_cells" s_check_cells ["cells"]) (I_BadCell : ExI P w K base 1 (He.ga K "BadCell") ["cell"]) (G_BadCell : mg "BadCell" = some (.ref (He.ga K "BadCell"))) (C_is_any : FnD P w K mg base 3 "is_any" ["value"] spAny) :
    FnD P w K mg base 4 "check_cells" ["cells"] (spCheck K) := by
  obtain ⟨f, fd, F, hm, hb⟩ := S
  refine FnD.of F sc_check_cells hm hb (fun ds M Q E h => ?_) fun cdv A outer s0 H0 E E0 hr tk hp => ?_
  · obtain ⟨c, xs, rfl, _⟩ := h; rfl
  have nd := sc_check_cells.nd
  refine ⟨_, (pssd_one (psd_for hp rfl (pid_seq (v 0)) (gn 1 nd) (pssd_one (psd_if (PWd.pt (pwd_or (ptd_not (ptd_truth (ped_call C_is_any (hr.mono (by decide)) rfl tk (pad_cons (v 1) pad_nil)))) (pwd_or1 (ptd_cmp (op_neDD (u64 hr)) (ped_callB call_lenD2 rfl Z.len PySem.boot_len (pad_cons (v 1) pad_nil)) (ped_callB call_lenD2 rfl Z.len PySem.boot_len (pad_cons (ped_ix (u1 hr) (v 0) ped_int) pad_nil)) (nomark _))))) (pssd_one (psd_raise I_BadCell rfl tk (hr.mono (by decide)) rfl G_BadCell (pad_cons (v 1) pad_nil))) pssd_nil)))), fun ds M Q h => ?_⟩
  obtain ⟨c, xs, rfl, hc, hP, hy, hn⟩ := h
  show tfor _ _ _ _ [some c, none] M
  rw [f_for, f_iseq]
  simp only [DL.e_next, DL.e_break, DL.e_cont, DL.e_drop, DL.e_ret, DL.e_retN, DL.e_ifS, DL.e_asg, DL.e_par, DL.e_par2, DL.e_del, DL.e_gname, DL.e_gsub, DL.e_gtup, DL.e_gcons, DL.e_gnil, DL.e_var0, DL.e_varS, DL.e_con, DL.e_top2, DL.e_top1, DL.e_cb, DL.e_nil, DL.e_cons, DL.e_tup, DL.e_lst, DL.e_test, DL.e_testK, DL.e_tru, DL.e_truB, DL.e_truN, DL.e_truL, DL.e_and, DL.e_or, DL.e_not, DL.e_if, DL.e_andV, DL.e_andK, DL.e_orV, DL.e_orK, DL.e_notV, DL.e_notK, DL.e_add, DL.e_addS, DL.e_addT, DL.e_addL, DL.e_sub, DL.e_mul, DL.e_mulL, DL.e_mulT, DL.e_fdiv, DL.e_mod, DL.e_pow, DL.e_neg, DL.e_lt, DL.e_le, DL.e_gt, DL.e_ge, DL.e_eqI, DL.e_eqS, DL.e_neI, DL.e_neS, DL.e_isN, DL.e_isntN, DL.e_isB, DL.e_isntB, DL.e_atK, DL.e_ixT, DL.e_ixL, DL.e_ixK, DL.e_ixDT, DL.e_setK, DL.e_setDT, DL.e_setSome, DL.e_setL, DL.e_delK, DL.e_delT, DL.e_inT, DL.e_inK, DL.e_lenL, DL.e_lenT, DL.e_lenK, DL.e_lenDT, DL.e_lenS, DL.e_listL, DL.e_listO, DL.e_listT, DL.e_tupleL, DL.e_tupleT, DL.e_int, DL.e_lm0, DL.e_lm, DL.e_isL, DL.e_app, DL.e_pop, DL.e_popSome, DL.e_call, DL.e_newT, DL.e_newK, DL.e_disp, DL.e_prs0, DL.e_prsS, DL.f_for, DL.f_lc, DL.f_dc, DL.f_iseq, DL.f_seqT, DL.f_rng1, DL.f_rngK, DL.f_zip, DL.f_zipT, DL.f_yes, DL.f_par3, DL.f_par3K, DL.f_isi, DL.f_isiK, DL.f_fld, DL.f_mkE, DL.f_mk0, DL.f_slice, DL.f_nopart, DL.f_part, DL.f_partK, DL.f_slT, DL.f_lrg, DL.f_dispT, List.set_cons_zero, List.set_cons_succ, List.length_cons, List.length_nil, decide_eq_true_eq, Bool.not_eq_true, true_and, and_true, if_true, Bool.false_eq_true, if_false, Nat.reduceAdd, Nat.reduceLT, Nat.reduceLeDiff, seqK_row hc]
  refine for_inv (fun i ρ M' => M' = M ∧ (∃ o, ρ = [some c, o]) ∧ ∀ x ∈ xs.take i, isAny x = true ∧ lenD x = lenD (xs.headD .non)) ⟨rfl, ⟨_, rfl⟩, by simp⟩ (fun i ρ M' _ h => ?_) (fun i x ρ M' e h => ?_) fun ρ M' h => ?_
  · rw [h.1]
    exact seqOk hc
  · obtain ⟨rfl, ⟨o, rfl⟩, ha⟩ := h
    simp only [DL.e_next, DL.e_break, DL.e_cont, DL.e_drop, DL.e_ret, DL.e_retN, DL.e_ifS, DL.e_asg, DL.e_par, DL.e_par2, DL.e_del, DL.e_gname, DL.e_gsub, DL.e_gtup, DL.e_gcons, DL.e_gnil, DL.e_var0, DL.e_varS, DL.e_con, DL.e_top2, DL.e_top1, DL.e_cb, DL.e_nil, DL.e_cons, DL.e_tup, DL.e_lst, DL.e_test, DL.e_testK, DL.e_tru, DL.e_truB, DL.e_truN, DL.e_truL, DL.e_and, DL.e_or, DL.e_not, DL.e_if, DL.e_andV, DL.e_andK, DL.e_orV, DL.e_orK, DL.e_notV, DL.e_notK, DL.e_add, DL.e_addS, DL.e_addT, DL.e_addL, DL.e_sub, DL.e_mul, DL.e_mulL, DL.e_mulT, DL.e_fdiv, DL.e_mod, DL.e_pow, DL.e_neg, DL.e_lt, DL.e_le, DL.e_gt, DL.e_ge, DL.e_eqI, DL.e_eqS, DL.e_neI, DL.e_neS, DL.e_isN, DL.e_isntN, DL.e_isB, DL.e_isntB, DL.e_atK, DL.e_ixT, DL.e_ixL, DL.e_ixK, DL.e_ixDT, DL.e_setK, DL.e_setDT, DL.e_setSome, DL.e_setL, DL.e_delK, DL.e_delT, DL.e_inT, DL.e_inK, DL.e_lenL, DL.e_lenT, DL.e_lenK, DL.e_lenDT, DL.e_lenS, DL.e_listL, DL.e_listO, DL.e_listT, DL.e_tupleL, DL.e_tupleT, DL.e_int, DL.e_lm0, DL.e_lm, DL.e_isL, DL.e_app, DL.e_pop, DL.e_popSome, DL.e_call, DL.e_newT, DL.e_newK, DL.e_disp, DL.e_prs0, DL.e_prsS, DL.f_for, DL.f_lc, DL.f_dc, DL.f_iseq, DL.f_seqT, DL.f_rng1, DL.f_rngK, DL.f_zip, DL.f_zipT, DL.f_yes, DL.f_par3, DL.f_par3K, DL.f_isi, DL.f_isiK, DL.f_fld, DL.f_mkE, DL.f_mk0, DL.f_slice, DL.f_nopart, DL.f_part, DL.f_partK, DL.f_slT, DL.f_lrg, DL.f_dispT, List.set_cons_zero, List.set_cons_succ, List.length_cons, List.length_nil, decide_eq_true_eq, Bool.not_eq_true, true_and, and_true, if_true, Bool.false_eq_true, if_false, Nat.reduceAdd, Nat.reduceLT, Nat.reduceLeDiff]
    refine ⟨x, rfl, hP x (List.mem_of_getElem? e), ?_⟩
    have bad : (isAny x = false ∨ lenD x ≠ lenD (xs.headD .non)) → ∃ M_1 : Mem, (∀ a o, M_1 a = some o → M' a = some o) ∧ E0 (He.ga K "BadCell") [("cell", x)] M_1 := fun h => ⟨M', fun _ _ z => z, hn x (badC_at e ha h)⟩
    simp only [DL.e_next, DL.e_break, DL.e_cont, DL.e_drop, DL.e_ret, DL.e_retN, DL.e_ifS, DL.e_asg, DL.e_par, DL.e_par2, DL.e_del, DL.e_gname, DL.e_gsub, DL.e_gtup, DL.e_gcons, DL.e_gnil, DL.e_var0, DL.e_varS, DL.e_con, DL.e_top2, DL.e_top1, DL.e_cb, DL.e_nil, DL.e_cons, DL.e_tup, DL.e_lst, DL.e_test, DL.e_testK, DL.e_tru, DL.e_truB, DL.e_truN, DL.e_truL, DL.e_and, DL.e_or, DL.e_not, DL.e_if, DL.e_andV, DL.e_andK, DL.e_orV, DL.e_orK, DL.e_notV, DL.e_notK, DL.e_add, DL.e_addS, DL.e_addT, DL.e_addL, DL.e_sub, DL.e_mul, DL.e_mulL, DL.e_mulT, DL.e_fdiv, DL.e_mod, DL.e_pow, DL.e_neg, DL.e_lt, DL.e_le, DL.e_gt, DL.e_ge, DL.e_eqI, DL.e_eqS, DL.e_neI, DL.e_neS, DL.e_isN, DL.e_isntN, DL.e_isB, DL.e_isntB, DL.e_atK, DL.e_ixT, DL.e_ixL, DL.e_ixK, DL.e_ixDT, DL.e_setK, DL.e_setDT, DL.e_setSome, DL.e_setL, DL.e_delK, DL.e_delT, DL.e_inT, DL.e_inK, DL.e_lenL, DL.e_lenT, DL.e_lenK, DL.e_lenDT, DL.e_lenS, DL.e_listL, DL.e_listO, DL.e_listT, DL.e_tupleL, DL.e_tupleT, DL.e_int, DL.e_lm0, DL.e_lm, DL.e_isL, DL.e_app, DL.e_pop, DL.e_popSome, DL.e_call, DL.e_newT, DL.e_newK, DL.e_disp, DL.e_prs0, DL.e_prsS, DL.f_for, DL.f_lc, DL.f_dc, DL.f_iseq, DL.f_seqT, DL.f_rng1, DL.f_rngK, DL.f_zip, DL.f_zipT, DL.f_yes, DL.f_par3, DL.f_par3K, DL.f_isi, DL.f_isiK, DL.f_fld, DL.f_mkE, DL.f_mk0, DL.f_slice, DL.f_nopart, DL.f_part, DL.f_partK, DL.f_slT, DL.f_lrg, DL.f_dispT, List.set_cons_zero, List.set_cons_succ, List.length_cons, List.length_nil, decide_eq_true_eq, Bool.not_eq_true, true_and, and_true, if_true, Bool.false_eq_true, if_false, Nat.reduceAdd, Nat.reduceLT, Nat.reduceLeDiff]
    cases h : isAny x with
    | false => exact ⟨rfl, bad (.inl h)⟩
    | true =>
      rw [if_neg (show ¬ ((!true) = true) by simp)]
      obtain ⟨y, e0, ey, hy0⟩ := first_ok e ha h
      obtain ⟨r, rfl, h0, h1⟩ := isAny_row h
      obtain ⟨r2, rfl, g0, g1⟩ := isAny_row hy0
      rw [len_row, g_ix hc e0, len_row, e_neI, e_testK]
      by_cases q : r.length = r2.length
      · rw [if_neg (show ¬ ((!decide ((((r.map D.int).length : Nat) : Int) = (((r2.map D.int).length : Nat) : Int))) = true) by simp [q])]
        refine ⟨rfl, ⟨_, rfl⟩, fun z hz => ?_⟩
        rw [take_succ_some e, List.mem_append, List.mem_singleton] at hz
        rcases hz with hz | rfl
        · exact ha z hz
        · refine ⟨h, ?_⟩
          rw [ey]
          simpa [lenD, rowD] using q
      · rw [if_pos (show ((!decide ((((r.map D.int).length : Nat) : Int) = (((r2.map D.int).length : Nat) : Int))) = true) by simp only [List.length_map, Bool.not_eq_true', decide_eq_false_iff_not]; omega)]
        refine ⟨rfl, bad (.inr ?_)⟩
        rw [ey]
        simpa [lenD, rowD] using q
  · obtain ⟨rfl, _, ha⟩ := h
    rw [List.take_length] at ha
    refine ⟨M', Keep.refl, hy ?_⟩
    unfold badC
    rw [List.find?_eq_none]
    intro x hx
    obtain ⟨h1, h2⟩ := ha x hx
    simp [h1, h2]
end
end Lw

end T_CELLS

section T_PARTS
set_option Elab.async false
set_option linter.all false
set_option maxRecDepth 100000
set_option maxHeartbeats 4000000
namespace Lw
open PySem PySem.Spec L2 DL
open PyProof.Rows hiding St
/-! ### parts -/
structure Cells (n : Nat) (L : List Cel) : Prop where
  two : 2 ≤ n
  four : n ≤ 4
  len : ∀ r ∈ L, r.length = n
  small : L.length < 2 ^ 20
/-- all but what stands at a stays -/
def Kp (a : Addr) (M M' : Mem) : Prop := ∀ b o, b ≠ a → M b = some o → M' b = some o
theorem Kp.refl {a : Addr} {M : Mem} : Kp a M M := fun _ _ _ h => h
theorem Kp.trans {a : Addr} {M M1 M2 : Mem} (h : Kp a M M1) (k : Kp a M1 M2) : Kp a M M2 := fun b o n e => k b o n (h b o n e)
theorem Kp.own {a : Addr} {M M' : Mem} {o : DO} (h : Kp a M M') : Kp a M (put M' a o) := fun b u n e => by rw [put_ne n]; exact h b u n e
theorem Kp.new {a p : Addr} {M M' : Mem} {o : DO} (h : Kp a M M') (hp : M p = none) : Kp a M (put M' p o) := fun b u n e => by rw [put_ne (ne_none e hp)]; exact h b u n e
theorem Kp.keep {a : Addr} {M M' : Mem} (h : Keep M M') : Kp a M M' := fun b o _ e => h b o e
theorem Kp.fresh {a p : Addr} {M M' : Mem} {o : DO} (h : Kp a M M') (ha : M a = some o) (hp : M' p = none) (hpa : M' a ≠ none) : M p = none := by
  cases e : M p with
  | none => rfl
  | some u =>
    by_cases q : p = a
    · subst q; exact absurd hp hpa
    · rw [h p u q e] at hp; cases hp
theorem Kp.le {a : Addr} {M M' : Mem} {o : DO} (h : Kp a M M') (ha : M' a = some o) : ∀ b u, put M a o b = some u → M' b = some u := fun b u e => by
  by_cases q : b = a
  · subst q; rw [put_same] at e; cases e; exact ha
  · rw [put_ne q] at e; exact h b u q e
section
variable {P : Program} {w : World} {K : PySem.W.Frag} {mg : Str → Option Value} {base : Heap}
def spTaken : SpD := fun ds M Q _ => ∃ a L c n, ds = [.ref a, rowD c] ∧ M a = some (dtO L) ∧ L.Nodup ∧ Cells n L ∧ c ∈ L ∧ Q (.tup ((srtR (comp L c)).map rowD)) (put M a (dtO (L.filter fun x => decide (x ∉ comp L c))))
theorem snoc_last {L : List Cel} {o : Cel} : ((L ++ [o]).map rowD)[((L ++ [o]).map rowD).length - 1]? = some (rowD o) := by
  rw [List.map_append, List.length_append, List.map_cons, List.map_nil, List.length_singleton, Nat.add_sub_cancel, List.getElem?_append_right (Nat.le_refl _), Nat.sub_self]
  rfl
theorem snoc_drop {L : List Cel} {o : Cel} : ((L ++ [o]).map rowD).dropLast = L.map rowD := by
  rw [List.map_append, List.map_cons, List.map_nil, List.dropLast_concat]
theorem map_get {L : List Cel} {i : Nat} {x : D} (e : (L.map rowD)[i]? = some x) : ∃ y, x = rowD y ∧ L[i]? = some y ∧ L.drop i = y :: L.drop (i + 1) := by
  rw [List.getElem?_map] at e
  obtain ⟨y, ey, rfl⟩ := Option.map_eq_some_iff.mp e
  obtain ⟨hi, he⟩ := List.getElem?_eq_some_iff.mp ey
  exact ⟨y, rfl, ey, by rw [List.drop_eq_getElem_cons hi, he]⟩
theorem ok_taken (Z : Free mg) (S : Stands K mg "taken_part" s_taken_part ["left", "cell"]) (C_around : FnD P w K mg base 2 "around" ["cell"] spAround) : FnD P w K mg base 3 "taken_part" ["left", "cell"] spTaken := by
  obtain ⟨f, fd, F, hm, hb⟩ := S
  refine FnD.of F sc_taken_part hm hb (fun ds M Q E h => ?_) fun cdv A outer s0 H0 E E0 hr tk hp => ?_
  · obtain ⟨a, L, c, n, rfl, _⟩ := h; rfl
  have nd := sc_taken_part.nd
  refine ⟨_, (pssd_cons (psd_del (u1 hr) (v 0) (v 1))
  (pssd_cons (sp2 2 3 rfl nd (pad_cons (ped_lst pad_nil) (pad_cons (ped_lst (pad_cons (v 1) pad_nil)) pad_nil)))
  (pssd_cons (psd_while hp (ptd_truth (v 3)) (pssd_cons (sv 4 nd (ped_pop (v 3)))
      (pssd_cons (psd_expr (ped_append (v 2) (pad_cons (v 4) pad_nil)))
      (pssd_one (psd_for hp rfl (pid_seq (ped_call C_around (hr.mono (by decide)) rfl tk (pad_cons (v 4) pad_nil))) (gn 5 nd) (pssd_one (psd_if (ptd_cmp (op_inDD (u65 hr)) (v 5) (v 0) rfl) (pssd_cons (psd_del (u1 hr) (v 0) (v 5))
              (pssd_one (psd_expr (ped_append (v 3) (pad_cons (v 5) pad_nil))))) pssd_nil)))))))
  (pssd_one (psd_ret (ped_callTy call_tupleD rfl Z.tuple (by decide +kernel) (pad_cons (ped_callB (call_sortedAny rfl hr) rfl Z.sorted (by decide +kernel) (pad_cons (v 2) pad_nil)) pad_nil))))))), fun ds M Q h => ?_⟩
  obtain ⟨a, L, c, n, rfl, hM, nL, cL, hc, q⟩ := h
  have hM0 : M a = some (.dT (L.map kv)) := hM
  show tseq _ _ _ [some (.ref a), some (rowD c), none, none, none, none] M
  refine seq_cut (fun ρ M1 => ρ = [some (.ref a), some (rowD c), none, none, none, none] ∧ M1 = put M a (dtO (L.filter fun x => decide (x ≠ c)))) (fun N hN => ?_) ?_
  · simp only [DL.e_next, DL.e_break, DL.e_cont, DL.e_drop, DL.e_ret, DL.e_retN, DL.e_ifS, DL.e_asg, DL.e_par, DL.e_par2, DL.e_del, DL.e_gname, DL.e_gsub, DL.e_gtup, DL.e_gcons, DL.e_gnil, DL.e_var0, DL.e_varS, DL.e_con, DL.e_top2, DL.e_top1, DL.e_cb, DL.e_nil, DL.e_cons, DL.e_tup, DL.e_lst, DL.e_test, DL.e_testK, DL.e_tru, DL.e_truB, DL.e_truN, DL.e_truL, DL.e_and, DL.e_or, DL.e_not, DL.e_if, DL.e_andV, DL.e_andK, DL.e_orV, DL.e_orK, DL.e_notV, DL.e_notK, DL.e_add, DL.e_addS, DL.e_addT, DL.e_addL, DL.e_sub, DL.e_mul, DL.e_mulL, DL.e_mulT, DL.e_fdiv, DL.e_mod, DL.e_pow, DL.e_neg, DL.e_lt, DL.e_le, DL.e_gt, DL.e_ge, DL.e_eqI, DL.e_eqS, DL.e_neI, DL.e_neS, DL.e_isN, DL.e_isntN, DL.e_isB, DL.e_isntB, DL.e_atK, DL.e_ixT, DL.e_ixL, DL.e_ixK, DL.e_ixDT, DL.e_setK, DL.e_setDT, DL.e_setSome, DL.e_setL, DL.e_delK, DL.e_delT, DL.e_inT, DL.e_inK, DL.e_lenL, DL.e_lenT, DL.e_lenK, DL.e_lenDT, DL.e_lenS, DL.e_listL, DL.e_listO, DL.e_listT, DL.e_tupleL, DL.e_tupleT, DL.e_int, DL.e_lm0, DL.e_lm, DL.e_isL, DL.e_app, DL.e_pop, DL.e_popSome, DL.e_call, DL.e_newT, DL.e_newK, DL.e_disp, DL.e_prs0, DL.e_prsS, DL.f_for, DL.f_lc, DL.f_dc, DL.f_iseq, DL.f_seqT, DL.f_rng1, DL.f_rngK, DL.f_zip, DL.f_zipT, DL.f_yes, DL.f_par3, DL.f_par3K, DL.f_isi, DL.f_isiK, DL.f_fld, DL.f_mkE, DL.f_mk0, DL.f_slice, DL.f_nopart, DL.f_part, DL.f_partK, DL.f_slT, DL.f_lrg, DL.f_dispT, List.set_cons_zero, List.set_cons_succ, List.length_cons, List.length_nil, decide_eq_true_eq, Bool.not_eq_true, true_and, and_true, if_true, Bool.false_eq_true, if_false, Nat.reduceAdd, Nat.reduceLT, Nat.reduceLeDiff, e_delT hM0]
    refine ⟨key_row c, by rw [look_some]; simpa using hc, ?_⟩
    rw [ddel_kv]
    exact hN _ _ ⟨rfl, rfl⟩
  rintro ρ M1 ⟨rfl, rfl⟩
  have K1 : Kp a M (put M a (dtO (L.filter fun x => decide (x ≠ c)))) := Kp.refl.own
  refine seq_cut (fun ρ M' => ∃ pf pt, ρ = [some (.ref a), some (rowD c), some (.ref pf), some (.ref pt), none, none] ∧ pf ≠ pt ∧ M pf = none ∧ M pt = none ∧ M' pf = some (.lst []) ∧ M' pt = some (.lst [rowD c]) ∧ M' a = some (dtO (L.filter fun x => decide (x ≠ c))) ∧ Kp a M M') (fun N hN => ?_) ?_
  · simp only [DL.e_next, DL.e_break, DL.e_cont, DL.e_drop, DL.e_ret, DL.e_retN, DL.e_ifS, DL.e_asg, DL.e_par, DL.e_par2, DL.e_del, DL.e_gname, DL.e_gsub, DL.e_gtup, DL.e_gcons, DL.e_gnil, DL.e_var0, DL.e_varS, DL.e_con, DL.e_top2, DL.e_top1, DL.e_cb, DL.e_nil, DL.e_cons, DL.e_tup, DL.e_lst, DL.e_test, DL.e_testK, DL.e_tru, DL.e_truB, DL.e_truN, DL.e_truL, DL.e_and, DL.e_or, DL.e_not, DL.e_if, DL.e_andV, DL.e_andK, DL.e_orV, DL.e_orK, DL.e_notV, DL.e_notK, DL.e_add, DL.e_addS, DL.e_addT, DL.e_addL, DL.e_sub, DL.e_mul, DL.e_mulL, DL.e_mulT, DL.e_fdiv, DL.e_mod, DL.e_pow, DL.e_neg, DL.e_lt, DL.e_le, DL.e_gt, DL.e_ge, DL.e_eqI, DL.e_eqS, DL.e_neI, DL.e_neS, DL.e_isN, DL.e_isntN, DL.e_isB, DL.e_isntB, DL.e_atK, DL.e_ixT, DL.e_ixL, DL.e_ixK, DL.e_ixDT, DL.e_setK, DL.e_setDT, DL.e_setSome, DL.e_setL, DL.e_delK, DL.e_delT, DL.e_inT, DL.e_inK, DL.e_lenL, DL.e_lenT, DL.e_lenK, DL.e_lenDT, DL.e_lenS, DL.e_listL, DL.e_listO, DL.e_listT, DL.e_tupleL, DL.e_tupleT, DL.e_int, DL.e_lm0, DL.e_lm, DL.e_isL, DL.e_app, DL.e_pop, DL.e_popSome, DL.e_call, DL.e_newT, DL.e_newK, DL.e_disp, DL.e_prs0, DL.e_prsS, DL.f_for, DL.f_lc, DL.f_dc, DL.f_iseq, DL.f_seqT, DL.f_rng1, DL.f_rngK, DL.f_zip, DL.f_zipT, DL.f_yes, DL.f_par3, DL.f_par3K, DL.f_isi, DL.f_isiK, DL.f_fld, DL.f_mkE, DL.f_mk0, DL.f_slice, DL.f_nopart, DL.f_part, DL.f_partK, DL.f_slT, DL.f_lrg, DL.f_dispT, List.set_cons_zero, List.set_cons_succ, List.length_cons, List.length_nil, decide_eq_true_eq, Bool.not_eq_true, true_and, and_true, if_true, Bool.false_eq_true, if_false, Nat.reduceAdd, Nat.reduceLT, Nat.reduceLeDiff]
    refine ⟨by decide, fun pf hpf => ⟨by decide, fun pt hpt => hN _ _ ⟨pf, pt, rfl, ?_⟩⟩⟩
    have g1 : M pf = none := K1.fresh hM hpf (by rw [put_same]; simp)
    have na : a ≠ pf := ne_none put_same hpf
    have n1 : pf ≠ pt := ne_none put_same hpt
    have hpt2 := hpt
    rw [put_ne (Ne.symm n1)] at hpt2
    have g2 : M pt = none := K1.fresh hM hpt2 (by rw [put_same]; simp)
    have na2 : a ≠ pt := ne_none put_same hpt2
    exact ⟨n1, g1, g2, by rw [put_ne n1, put_same], put_same, by rw [put_ne na2, put_ne na, put_same], (K1.new g1).new g2⟩
  rintro ρ M1 ⟨pf, pt, rfl, nft, g1, g2, h1, h2, h3, K1⟩
  have na : a ≠ pf := ne_none hM g1
  have na2 : a ≠ pt := ne_none hM g2
  refine seq_cut (fun ρ M' => ∃ F Lf o1 o2, ρ = [some (.ref a), some (rowD c), some (.ref pf), some (.ref pt), o1, o2] ∧ M' pf = some (.lst (F.map rowD)) ∧ M' a = some (dtO Lf) ∧ Kp a M M' ∧ Fl L c F [] Lf fun _ _ => False) (fun N hN => ?_) ?_
  · refine ⟨fun n ρ M' => ∃ F T Lf o1 o2, ρ = [some (.ref a), some (rowD c), some (.ref pf), some (.ref pt), o1, o2] ∧ M' pf = some (.lst (F.map rowD)) ∧ M' pt = some (.lst (T.map rowD)) ∧ M' a = some (dtO Lf) ∧ Kp a M M' ∧ (Fl L c F T Lf fun _ _ => False) ∧ n = Lf.length + T.length,
      ⟨_, [], [c], _, none, none, rfl, h1, h2, h3, K1, .init hc, rfl⟩, fun k ρ M' W => ?_⟩
    obtain ⟨F, T, Lf, o1, o2, rfl, b1, b2, b3, K2, fl, rfl⟩ := W
    simp only [DL.e_next, DL.e_break, DL.e_cont, DL.e_drop, DL.e_ret, DL.e_retN, DL.e_ifS, DL.e_asg, DL.e_par, DL.e_par2, DL.e_del, DL.e_gname, DL.e_gsub, DL.e_gtup, DL.e_gcons, DL.e_gnil, DL.e_var0, DL.e_varS, DL.e_con, DL.e_top2, DL.e_top1, DL.e_cb, DL.e_nil, DL.e_cons, DL.e_tup, DL.e_lst, DL.e_test, DL.e_testK, DL.e_tru, DL.e_truB, DL.e_truN, DL.e_truL, DL.e_and, DL.e_or, DL.e_not, DL.e_if, DL.e_andV, DL.e_andK, DL.e_orV, DL.e_orK, DL.e_notV, DL.e_notK, DL.e_add, DL.e_addS, DL.e_addT, DL.e_addL, DL.e_sub, DL.e_mul, DL.e_mulL, DL.e_mulT, DL.e_fdiv, DL.e_mod, DL.e_pow, DL.e_neg, DL.e_lt, DL.e_le, DL.e_gt, DL.e_ge, DL.e_eqI, DL.e_eqS, DL.e_neI, DL.e_neS, DL.e_isN, DL.e_isntN, DL.e_isB, DL.e_isntB, DL.e_atK, DL.e_ixT, DL.e_ixL, DL.e_ixK, DL.e_ixDT, DL.e_setK, DL.e_setDT, DL.e_setSome, DL.e_setL, DL.e_delK, DL.e_delT, DL.e_inT, DL.e_inK, DL.e_lenL, DL.e_lenT, DL.e_lenK, DL.e_lenDT, DL.e_lenS, DL.e_listL, DL.e_listO, DL.e_listT, DL.e_tupleL, DL.e_tupleT, DL.e_int, DL.e_lm0, DL.e_lm, DL.e_isL, DL.e_app, DL.e_pop, DL.e_popSome, DL.e_call, DL.e_newT, DL.e_newK, DL.e_disp, DL.e_prs0, DL.e_prsS, DL.f_for, DL.f_lc, DL.f_dc, DL.f_iseq, DL.f_seqT, DL.f_rng1, DL.f_rngK, DL.f_zip, DL.f_zipT, DL.f_yes, DL.f_par3, DL.f_par3K, DL.f_isi, DL.f_isiK, DL.f_fld, DL.f_mkE, DL.f_mk0, DL.f_slice, DL.f_nopart, DL.f_part, DL.f_partK, DL.f_slT, DL.f_lrg, DL.f_dispT, List.set_cons_zero, List.set_cons_succ, List.length_cons, List.length_nil, decide_eq_true_eq, Bool.not_eq_true, true_and, and_true, if_true, Bool.false_eq_true, if_false, Nat.reduceAdd, Nat.reduceLT, Nat.reduceLeDiff, e_truL b2]
    rcases List.eq_nil_or_concat T with rfl | ⟨T0, o, eT⟩
    · exact hN _ _ ⟨F, Lf, o1, o2, rfl, b1, b3, K2, fl⟩
    rw [List.concat_eq_append] at eT
    subst eT
    rw [show (!((T0 ++ [o]).map rowD).isEmpty) = true by simp, if_pos rfl]
    have ho : o ∈ L := (fl.re o (by simp)).mem
    have lo := cL.len o ho
    refine seq_cut (fun ρ M' => ρ = [some (.ref a), some (rowD c), some (.ref pf), some (.ref pt), some (rowD o), o2] ∧ M' pf = some (.lst (F.map rowD)) ∧ M' pt = some (.lst (T0.map rowD)) ∧ M' a = some (dtO Lf) ∧ Kp a M M') (fun N2 hN2 => ?_) ?_
    · simp only [DL.e_next, DL.e_break, DL.e_cont, DL.e_drop, DL.e_ret, DL.e_retN, DL.e_ifS, DL.e_asg, DL.e_par, DL.e_par2, DL.e_del, DL.e_gname, DL.e_gsub, DL.e_gtup, DL.e_gcons, DL.e_gnil, DL.e_var0, DL.e_varS, DL.e_con, DL.e_top2, DL.e_top1, DL.e_cb, DL.e_nil, DL.e_cons, DL.e_tup, DL.e_lst, DL.e_test, DL.e_testK, DL.e_tru, DL.e_truB, DL.e_truN, DL.e_truL, DL.e_and, DL.e_or, DL.e_not, DL.e_if, DL.e_andV, DL.e_andK, DL.e_orV, DL.e_orK, DL.e_notV, DL.e_notK, DL.e_add, DL.e_addS, DL.e_addT, DL.e_addL, DL.e_sub, DL.e_mul, DL.e_mulL, DL.e_mulT, DL.e_fdiv, DL.e_mod, DL.e_pow, DL.e_neg, DL.e_lt, DL.e_le, DL.e_gt, DL.e_ge, DL.e_eqI, DL.e_eqS, DL.e_neI, DL.e_neS, DL.e_isN, DL.e_isntN, DL.e_isB, DL.e_isntB, DL.e_atK, DL.e_ixT, DL.e_ixL, DL.e_ixK, DL.e_ixDT, DL.e_setK, DL.e_setDT, DL.e_setSome, DL.e_setL, DL.e_delK, DL.e_delT, DL.e_inT, DL.e_inK, DL.e_lenL, DL.e_lenT, DL.e_lenK, DL.e_lenDT, DL.e_lenS, DL.e_listL, DL.e_listO, DL.e_listT, DL.e_tupleL, DL.e_tupleT, DL.e_int, DL.e_lm0, DL.e_lm, DL.e_isL, DL.e_app, DL.e_pop, DL.e_popSome, DL.e_call, DL.e_newT, DL.e_newK, DL.e_disp, DL.e_prs0, DL.e_prsS, DL.f_for, DL.f_lc, DL.f_dc, DL.f_iseq, DL.f_seqT, DL.f_rng1, DL.f_rngK, DL.f_zip, DL.f_zipT, DL.f_yes, DL.f_par3, DL.f_par3K, DL.f_isi, DL.f_isiK, DL.f_fld, DL.f_mkE, DL.f_mk0, DL.f_slice, DL.f_nopart, DL.f_part, DL.f_partK, DL.f_slT, DL.f_lrg, DL.f_dispT, List.set_cons_zero, List.set_cons_succ, List.length_cons, List.length_nil, decide_eq_true_eq, Bool.not_eq_true, true_and, and_true, if_true, Bool.false_eq_true, if_false, Nat.reduceAdd, Nat.reduceLT, Nat.reduceLeDiff, e_isL b2, e_pop b2]
      rw [snoc_last, e_popSome, snoc_drop]
      exact hN2 _ _ ⟨rfl, by rw [put_ne nft]; exact b1, put_same, by rw [put_ne na2]; exact b3, K2.new g2⟩
    rintro ρ M2 ⟨rfl, b1, b2, b3, K2⟩
    have small : F.length + 1 < sizeLine := by
      have nF := fl.nd
      have sub : ∀ x ∈ F ++ (T0 ++ [o]), x ∈ L := fun x hx => (fl.re x hx).mem
      have := len_le nF sub
      have sz := sizeLine_eq
      have sm := cL.small
      simp only [List.length_append, List.length_singleton] at this
      omega
    refine seq_cut (fun ρ M' => ρ = [some (.ref a), some (rowD c), some (.ref pf), some (.ref pt), some (rowD o), o2] ∧ M' pf = some (.lst ((F ++ [o]).map rowD)) ∧ M' pt = some (.lst (T0.map rowD)) ∧ M' a = some (dtO Lf) ∧ Kp a M M') (fun N2 hN2 => ?_) ?_
    · simp only [DL.e_next, DL.e_break, DL.e_cont, DL.e_drop, DL.e_ret, DL.e_retN, DL.e_ifS, DL.e_asg, DL.e_par, DL.e_par2, DL.e_del, DL.e_gname, DL.e_gsub, DL.e_gtup, DL.e_gcons, DL.e_gnil, DL.e_var0, DL.e_varS, DL.e_con, DL.e_top2, DL.e_top1, DL.e_cb, DL.e_nil, DL.e_cons, DL.e_tup, DL.e_lst, DL.e_test, DL.e_testK, DL.e_tru, DL.e_truB, DL.e_truN, DL.e_truL, DL.e_and, DL.e_or, DL.e_not, DL.e_if, DL.e_andV, DL.e_andK, DL.e_orV, DL.e_orK, DL.e_notV, DL.e_notK, DL.e_add, DL.e_addS, DL.e_addT, DL.e_addL, DL.e_sub, DL.e_mul, DL.e_mulL, DL.e_mulT, DL.e_fdiv, DL.e_mod, DL.e_pow, DL.e_neg, DL.e_lt, DL.e_le, DL.e_gt, DL.e_ge, DL.e_eqI, DL.e_eqS, DL.e_neI, DL.e_neS, DL.e_isN, DL.e_isntN, DL.e_isB, DL.e_isntB, DL.e_atK, DL.e_ixT, DL.e_ixL, DL.e_ixK, DL.e_ixDT, DL.e_setK, DL.e_setDT, DL.e_setSome, DL.e_setL, DL.e_delK, DL.e_delT, DL.e_inT, DL.e_inK, DL.e_lenL, DL.e_lenT, DL.e_lenK, DL.e_lenDT, DL.e_lenS, DL.e_listL, DL.e_listO, DL.e_listT, DL.e_tupleL, DL.e_tupleT, DL.e_int, DL.e_lm0, DL.e_lm, DL.e_isL, DL.e_app, DL.e_pop, DL.e_popSome, DL.e_call, DL.e_newT, DL.e_newK, DL.e_disp, DL.e_prs0, DL.e_prsS, DL.f_for, DL.f_lc, DL.f_dc, DL.f_iseq, DL.f_seqT, DL.f_rng1, DL.f_rngK, DL.f_zip, DL.f_zipT, DL.f_yes, DL.f_par3, DL.f_par3K, DL.f_isi, DL.f_isiK, DL.f_fld, DL.f_mkE, DL.f_mk0, DL.f_slice, DL.f_nopart, DL.f_part, DL.f_partK, DL.f_slT, DL.f_lrg, DL.f_dispT, List.set_cons_zero, List.set_cons_succ, List.length_cons, List.length_nil, decide_eq_true_eq, Bool.not_eq_true, true_and, and_true, if_true, Bool.false_eq_true, if_false, Nat.reduceAdd, Nat.reduceLT, Nat.reduceLeDiff, e_isL b1, e_app b1]
      refine ⟨by rw [List.length_map]; omega, hN2 _ _ ⟨rfl, by rw [put_same, List.map_append]; rfl, by rw [put_ne (Ne.symm nft)]; exact b2, by rw [put_ne na]; exact b3, K2.new g1⟩⟩
    rintro ρ M3 ⟨rfl, b1, b2, b3, K3⟩
    have fl2 := fl.pop
    simp only [DL.e_next, DL.e_break, DL.e_cont, DL.e_drop, DL.e_ret, DL.e_retN, DL.e_ifS, DL.e_asg, DL.e_par, DL.e_par2, DL.e_del, DL.e_gname, DL.e_gsub, DL.e_gtup, DL.e_gcons, DL.e_gnil, DL.e_var0, DL.e_varS, DL.e_con, DL.e_top2, DL.e_top1, DL.e_cb, DL.e_nil, DL.e_cons, DL.e_tup, DL.e_lst, DL.e_test, DL.e_testK, DL.e_tru, DL.e_truB, DL.e_truN, DL.e_truL, DL.e_and, DL.e_or, DL.e_not, DL.e_if, DL.e_andV, DL.e_andK, DL.e_orV, DL.e_orK, DL.e_notV, DL.e_notK, DL.e_add, DL.e_addS, DL.e_addT, DL.e_addL, DL.e_sub, DL.e_mul, DL.e_mulL, DL.e_mulT, DL.e_fdiv, DL.e_mod, DL.e_pow, DL.e_neg, DL.e_lt, DL.e_le, DL.e_gt, DL.e_ge, DL.e_eqI, DL.e_eqS, DL.e_neI, DL.e_neS, DL.e_isN, DL.e_isntN, DL.e_isB, DL.e_isntB, DL.e_atK, DL.e_ixT, DL.e_ixL, DL.e_ixK, DL.e_ixDT, DL.e_setK, DL.e_setDT, DL.e_setSome, DL.e_setL, DL.e_delK, DL.e_delT, DL.e_inT, DL.e_inK, DL.e_lenL, DL.e_lenT, DL.e_lenK, DL.e_lenDT, DL.e_lenS, DL.e_listL, DL.e_listO, DL.e_listT, DL.e_tupleL, DL.e_tupleT, DL.e_int, DL.e_lm0, DL.e_lm, DL.e_isL, DL.e_app, DL.e_pop, DL.e_popSome, DL.e_call, DL.e_newT, DL.e_newK, DL.e_disp, DL.e_prs0, DL.e_prsS, DL.f_for, DL.f_lc, DL.f_dc, DL.f_iseq, DL.f_seqT, DL.f_rng1, DL.f_rngK, DL.f_zip, DL.f_zipT, DL.f_yes, DL.f_par3, DL.f_par3K, DL.f_isi, DL.f_isiK, DL.f_fld, DL.f_mkE, DL.f_mk0, DL.f_slice, DL.f_nopart, DL.f_part, DL.f_partK, DL.f_slT, DL.f_lrg, DL.f_dispT, List.set_cons_zero, List.set_cons_succ, List.length_cons, List.length_nil, decide_eq_true_eq, Bool.not_eq_true, true_and, and_true, if_true, Bool.false_eq_true, if_false, Nat.reduceAdd, Nat.reduceLT, Nat.reduceLeDiff, f_for, f_iseq, e_call]
    refine ⟨o, rfl, by have := cL.two; omega, by have := cL.four; omega, ?_⟩
    show seqK (.tup _) _ _
    rw [f_seqT]
    refine for_inv (fun i ρ M' => ∃ T Lf2 o2, ρ = [some (.ref a), some (rowD c), some (.ref pf), some (.ref pt), some (rowD o), o2] ∧ M' pf = some (.lst ((F ++ [o]).map rowD)) ∧ M' pt = some (.lst (T.map rowD)) ∧ M' a = some (dtO Lf2) ∧ Kp a M M' ∧
      (Fl L c (F ++ [o]) T Lf2 fun x z => x = o ∧ z ∈ (nbrs o).drop i) ∧ Lf2.length + T.length = Lf.length + T0.length) ⟨T0, Lf, o2, rfl, b1, b2, b3, K3, by simpa using fl2, rfl⟩ (fun _ _ _ _ _ => trivial) (fun i x ρ M4 e W => ?_) (fun ρ M4 W => ?_)
    · obtain ⟨T, Lf2, o3, rfl, b1, b2, b3, K4, fl3, sm⟩ := W
      obtain ⟨y, rfl, ey, ed⟩ := map_get e
      have hy : y ∈ nbrs o := List.mem_of_getElem? ey
      rw [ed] at fl3
      have b30 : M4 a = some (.dT (Lf2.map kv)) := b3
      simp only [DL.e_next, DL.e_break, DL.e_cont, DL.e_drop, DL.e_ret, DL.e_retN, DL.e_ifS, DL.e_asg, DL.e_par, DL.e_par2, DL.e_del, DL.e_gname, DL.e_gsub, DL.e_gtup, DL.e_gcons, DL.e_gnil, DL.e_var0, DL.e_varS, DL.e_con, DL.e_top2, DL.e_top1, DL.e_cb, DL.e_nil, DL.e_cons, DL.e_tup, DL.e_lst, DL.e_test, DL.e_testK, DL.e_tru, DL.e_truB, DL.e_truN, DL.e_truL, DL.e_and, DL.e_or, DL.e_not, DL.e_if, DL.e_andV, DL.e_andK, DL.e_orV, DL.e_orK, DL.e_notV, DL.e_notK, DL.e_add, DL.e_addS, DL.e_addT, DL.e_addL, DL.e_sub, DL.e_mul, DL.e_mulL, DL.e_mulT, DL.e_fdiv, DL.e_mod, DL.e_pow, DL.e_neg, DL.e_lt, DL.e_le, DL.e_gt, DL.e_ge, DL.e_eqI, DL.e_eqS, DL.e_neI, DL.e_neS, DL.e_isN, DL.e_isntN, DL.e_isB, DL.e_isntB, DL.e_atK, DL.e_ixT, DL.e_ixL, DL.e_ixK, DL.e_ixDT, DL.e_setK, DL.e_setDT, DL.e_setSome, DL.e_setL, DL.e_delK, DL.e_delT, DL.e_inT, DL.e_inK, DL.e_lenL, DL.e_lenT, DL.e_lenK, DL.e_lenDT, DL.e_lenS, DL.e_listL, DL.e_listO, DL.e_listT, DL.e_tupleL, DL.e_tupleT, DL.e_int, DL.e_lm0, DL.e_lm, DL.e_isL, DL.e_app, DL.e_pop, DL.e_popSome, DL.e_call, DL.e_newT, DL.e_newK, DL.e_disp, DL.e_prs0, DL.e_prsS, DL.f_for, DL.f_lc, DL.f_dc, DL.f_iseq, DL.f_seqT, DL.f_rng1, DL.f_rngK, DL.f_zip, DL.f_zipT, DL.f_yes, DL.f_par3, DL.f_par3K, DL.f_isi, DL.f_isiK, DL.f_fld, DL.f_mkE, DL.f_mk0, DL.f_slice, DL.f_nopart, DL.f_part, DL.f_partK, DL.f_slT, DL.f_lrg, DL.f_dispT, List.set_cons_zero, List.set_cons_succ, List.length_cons, List.length_nil, decide_eq_true_eq, Bool.not_eq_true, true_and, and_true, if_true, Bool.false_eq_true, if_false, Nat.reduceAdd, Nat.reduceLT, Nat.reduceLeDiff, e_inT b30, look_some]
      refine ⟨key_row y, ?_⟩
      by_cases yl : y ∈ Lf2
      · rw [if_pos yl]
        have fl4 := fl3.take (by simp) hy yl
        simp only [DL.e_next, DL.e_break, DL.e_cont, DL.e_drop, DL.e_ret, DL.e_retN, DL.e_ifS, DL.e_asg, DL.e_par, DL.e_par2, DL.e_del, DL.e_gname, DL.e_gsub, DL.e_gtup, DL.e_gcons, DL.e_gnil, DL.e_var0, DL.e_varS, DL.e_con, DL.e_top2, DL.e_top1, DL.e_cb, DL.e_nil, DL.e_cons, DL.e_tup, DL.e_lst, DL.e_test, DL.e_testK, DL.e_tru, DL.e_truB, DL.e_truN, DL.e_truL, DL.e_and, DL.e_or, DL.e_not, DL.e_if, DL.e_andV, DL.e_andK, DL.e_orV, DL.e_orK, DL.e_notV, DL.e_notK, DL.e_add, DL.e_addS, DL.e_addT, DL.e_addL, DL.e_sub, DL.e_mul, DL.e_mulL, DL.e_mulT, DL.e_fdiv, DL.e_mod, DL.e_pow, DL.e_neg, DL.e_lt, DL.e_le, DL.e_gt, DL.e_ge, DL.e_eqI, DL.e_eqS, DL.e_neI, DL.e_neS, DL.e_isN, DL.e_isntN, DL.e_isB, DL.e_isntB, DL.e_atK, DL.e_ixT, DL.e_ixL, DL.e_ixK, DL.e_ixDT, DL.e_setK, DL.e_setDT, DL.e_setSome, DL.e_setL, DL.e_delK, DL.e_delT, DL.e_inT, DL.e_inK, DL.e_lenL, DL.e_lenT, DL.e_lenK, DL.e_lenDT, DL.e_lenS, DL.e_listL, DL.e_listO, DL.e_listT, DL.e_tupleL, DL.e_tupleT, DL.e_int, DL.e_lm0, DL.e_lm, DL.e_isL, DL.e_app, DL.e_pop, DL.e_popSome, DL.e_call, DL.e_newT, DL.e_newK, DL.e_disp, DL.e_prs0, DL.e_prsS, DL.f_for, DL.f_lc, DL.f_dc, DL.f_iseq, DL.f_seqT, DL.f_rng1, DL.f_rngK, DL.f_zip, DL.f_zipT, DL.f_yes, DL.f_par3, DL.f_par3K, DL.f_isi, DL.f_isiK, DL.f_fld, DL.f_mkE, DL.f_mk0, DL.f_slice, DL.f_nopart, DL.f_part, DL.f_partK, DL.f_slT, DL.f_lrg, DL.f_dispT, List.set_cons_zero, List.set_cons_succ, List.length_cons, List.length_nil, decide_eq_true_eq, Bool.not_eq_true, true_and, and_true, if_true, Bool.false_eq_true, if_false, Nat.reduceAdd, Nat.reduceLT, Nat.reduceLeDiff, e_seq, e_delT b30]
        refine ⟨key_row y, by rw [look_some]; simpa using yl, ?_⟩
        rw [ddel_kv]
        have b2' : put M4 a (.dT ((Lf2.filter fun x => decide (x ≠ y)).map kv)) pt = some (.lst (T.map rowD)) := by rw [put_ne (Ne.symm na2)]; exact b2
        simp only [DL.e_next, DL.e_break, DL.e_cont, DL.e_drop, DL.e_ret, DL.e_retN, DL.e_ifS, DL.e_asg, DL.e_par, DL.e_par2, DL.e_del, DL.e_gname, DL.e_gsub, DL.e_gtup, DL.e_gcons, DL.e_gnil, DL.e_var0, DL.e_varS, DL.e_con, DL.e_top2, DL.e_top1, DL.e_cb, DL.e_nil, DL.e_cons, DL.e_tup, DL.e_lst, DL.e_test, DL.e_testK, DL.e_tru, DL.e_truB, DL.e_truN, DL.e_truL, DL.e_and, DL.e_or, DL.e_not, DL.e_if, DL.e_andV, DL.e_andK, DL.e_orV, DL.e_orK, DL.e_notV, DL.e_notK, DL.e_add, DL.e_addS, DL.e_addT, DL.e_addL, DL.e_sub, DL.e_mul, DL.e_mulL, DL.e_mulT, DL.e_fdiv, DL.e_mod, DL.e_pow, DL.e_neg, DL.e_lt, DL.e_le, DL.e_gt, DL.e_ge, DL.e_eqI, DL.e_eqS, DL.e_neI, DL.e_neS, DL.e_isN, DL.e_isntN, DL.e_isB, DL.e_isntB, DL.e_atK, DL.e_ixT, DL.e_ixL, DL.e_ixK, DL.e_ixDT, DL.e_setK, DL.e_setDT, DL.e_setSome, DL.e_setL, DL.e_delK, DL.e_delT, DL.e_inT, DL.e_inK, DL.e_lenL, DL.e_lenT, DL.e_lenK, DL.e_lenDT, DL.e_lenS, DL.e_listL, DL.e_listO, DL.e_listT, DL.e_tupleL, DL.e_tupleT, DL.e_int, DL.e_lm0, DL.e_lm, DL.e_isL, DL.e_app, DL.e_pop, DL.e_popSome, DL.e_call, DL.e_newT, DL.e_newK, DL.e_disp, DL.e_prs0, DL.e_prsS, DL.f_for, DL.f_lc, DL.f_dc, DL.f_iseq, DL.f_seqT, DL.f_rng1, DL.f_rngK, DL.f_zip, DL.f_zipT, DL.f_yes, DL.f_par3, DL.f_par3K, DL.f_isi, DL.f_isiK, DL.f_fld, DL.f_mkE, DL.f_mk0, DL.f_slice, DL.f_nopart, DL.f_part, DL.f_partK, DL.f_slT, DL.f_lrg, DL.f_dispT, List.set_cons_zero, List.set_cons_succ, List.length_cons, List.length_nil, decide_eq_true_eq, Bool.not_eq_true, true_and, and_true, if_true, Bool.false_eq_true, if_false, Nat.reduceAdd, Nat.reduceLT, Nat.reduceLeDiff, e_isL b2', e_app b2']
        refine ⟨?_, T ++ [y], _, _, rfl, by rw [put_ne nft, put_ne (Ne.symm na)]; exact b1, by rw [put_same, List.map_append]; rfl, by rw [put_ne na2, put_same]; rfl, K4.own.new g2, fl4, ?_⟩
        · have sub : ∀ x ∈ (F ++ [o]) ++ T, x ∈ L := fun x hx => (fl3.re x hx).mem
          have := len_le fl3.nd sub
          have sz := sizeLine_eq
          have sm := cL.small
          simp only [List.length_append, List.length_singleton, List.length_map] at this ⊢
          omega
        · have nLf : Lf2.Nodup := by rw [fl3.lf]; exact nL.sublist List.filter_sublist
          have := drop_one nLf yl
          simp only [List.length_append, List.length_singleton]
          omega
      · rw [if_neg yl]
        exact ⟨T, Lf2, _, rfl, b1, b2, b3, K4, fl3.skip yl, sm⟩
    · obtain ⟨T, Lf2, o3, rfl, b1, b2, b3, K4, fl3, sm⟩ := W
      rw [List.length_map, List.drop_length] at fl3
      refine ⟨Lf2.length + T.length, ?_, F ++ [o], T, Lf2, _, _, rfl, b1, b2, b3, K4, fl3.done, rfl⟩
      simp only [List.length_append, List.length_singleton]
      omega
  rintro ρ M2 ⟨F, Lf, o1, o2, rfl, b1, b3, K2, fl⟩
  simp only [DL.e_next, DL.e_break, DL.e_cont, DL.e_drop, DL.e_ret, DL.e_retN, DL.e_ifS, DL.e_asg, DL.e_par, DL.e_par2, DL.e_del, DL.e_gname, DL.e_gsub, DL.e_gtup, DL.e_gcons, DL.e_gnil, DL.e_var0, DL.e_varS, DL.e_con, DL.e_top2, DL.e_top1, DL.e_cb, DL.e_nil, DL.e_cons, DL.e_tup, DL.e_lst, DL.e_test, DL.e_testK, DL.e_tru, DL.e_truB, DL.e_truN, DL.e_truL, DL.e_and, DL.e_or, DL.e_not, DL.e_if, DL.e_andV, DL.e_andK, DL.e_orV, DL.e_orK, DL.e_notV, DL.e_notK, DL.e_add, DL.e_addS, DL.e_addT, DL.e_addL, DL.e_sub, DL.e_mul, DL.e_mulL, DL.e_mulT, DL.e_fdiv, DL.e_mod, DL.e_pow, DL.e_neg, DL.e_lt, DL.e_le, DL.e_gt, DL.e_ge, DL.e_eqI, DL.e_eqS, DL.e_neI, DL.e_neS, DL.e_isN, DL.e_isntN, DL.e_isB, DL.e_isntB, DL.e_atK, DL.e_ixT, DL.e_ixL, DL.e_ixK, DL.e_ixDT, DL.e_setK, DL.e_setDT, DL.e_setSome, DL.e_setL, DL.e_delK, DL.e_delT, DL.e_inT, DL.e_inK, DL.e_lenL, DL.e_lenT, DL.e_lenK, DL.e_lenDT, DL.e_lenS, DL.e_listL, DL.e_listO, DL.e_listT, DL.e_tupleL, DL.e_tupleT, DL.e_int, DL.e_lm0, DL.e_lm, DL.e_isL, DL.e_app, DL.e_pop, DL.e_popSome, DL.e_call, DL.e_newT, DL.e_newK, DL.e_disp, DL.e_prs0, DL.e_prsS, DL.f_for, DL.f_lc, DL.f_dc, DL.f_iseq, DL.f_seqT, DL.f_rng1, DL.f_rngK, DL.f_zip, DL.f_zipT, DL.f_yes, DL.f_par3, DL.f_par3K, DL.f_isi, DL.f_isiK, DL.f_fld, DL.f_mkE, DL.f_mk0, DL.f_slice, DL.f_nopart, DL.f_part, DL.f_partK, DL.f_slT, DL.f_lrg, DL.f_dispT, List.set_cons_zero, List.set_cons_succ, List.length_cons, List.length_nil, decide_eq_true_eq, Bool.not_eq_true, true_and, and_true, if_true, Bool.false_eq_true, if_false, Nat.reduceAdd, Nat.reduceLT, Nat.reduceLeDiff]
  have sub : ∀ x ∈ F, x ∈ L := fun x hx => (fl.re x (by simpa using hx)).mem
  have lF := len_le (by simpa using fl.nd) sub
  refine ⟨F.map rowD, by simp only [rdI, b1], rows_ok ?_ fun r hr e => ?_, fun p hp => ?_⟩
  · have sz := sizeLine_eq
    have sm := cL.small
    omega
  · have := cL.len r (sub r hr)
    have t := cL.two
    rw [e] at this
    simp at this
    omega
  · show tupleR [.ref p] _ _
    rw [e_tupleL put_same, srt_rows, srtR_eq (fl.perm nL)]
    refine ⟨_, fun b u e => ?_, q⟩
    have z := K2.le b3 b u (by rw [fl.rest]; exact e)
    rw [put_ne (ne_none z hp)]
    exact z
/-- the parts of cells, as a tuple's items -/
noncomputable def partsD (L : List Cel) : List D := (parts L).map fun p => .tup (p.map rowD)
def spPartsIn : SpD := fun ds M Q _ => ∃ d xs n, ds = [d] ∧ rdS M d = some (xs.map rowD) ∧ Cells n xs ∧ Q (.tup (partsD (dedup xs))) M
theorem cells_dedup {n : Nat} {xs : List Cel} (h : Cells n xs) : Cells n (dedup xs) := ⟨h.two, h.four, fun r hr => h.len r (mem_dedup.mp hr), Nat.lt_of_le_of_lt (dedup_len xs) h.small⟩
theorem dedup_snoc {xs : List Cel} {y : Cel} : dedup (xs ++ [y]) = if y ∈ dedup xs then dedup xs else dedup xs ++ [y] := by
  unfold dedup
  rw [List.foldl_append]
  rfl
theorem ok_parts_in (Z : Free mg) (S : Stands K mg "parts_in" s_parts_in ["cells"]) (C_taken_part : FnD P w K mg base 3 "taken_part" ["left", "cell"] spTaken) : FnD P w K mg base 4 "parts_in" ["cells"] spPartsIn := by
  obtain ⟨f, fd, F, hm, hb⟩ := S
  refine FnD.of F sc_parts_in hm hb (fun ds M Q E h => ?_) fun cdv A outer s0 H0 E E0 hr tk hp => ?_
  · obtain ⟨d, xs, n, rfl, _⟩ := h; rfl
  have nd := sc_parts_in.nd
  refine ⟨_, (pssd_cons (sp2 2 3 rfl nd (pad_cons (ped_dc true (u1 hr) rfl nd (pid_seq (v 0)) (blkOk_by (own := [("cell", 1)]) rfl) (by decide) (fun _ _ _ _ _ => (gn 1 nd)) (fun _ _ _ _ _ => ptsd_nil) (fun _ _ _ _ _ => (v 1)) (fun _ _ _ _ _ => ped_bl)) (pad_cons (ped_lst pad_nil) pad_nil)))
  (pssd_cons (psd_for hp rfl (pid_seq (ped_callB (call_sortedAny rfl hr) rfl Z.sorted (by decide +kernel) (pad_cons (ped_callTy (call_listI rfl) rfl Z.list (by decide +kernel) (pad_cons (v 2) pad_nil)) pad_nil))) (gn 1 nd) (pssd_one (psd_if (ptd_cmp (op_inDD (u65 hr)) (v 1) (v 2) rfl) (pssd_one (psd_expr (ped_append (v 3) (pad_cons (ped_call C_taken_part (hr.mono (by decide)) rfl tk (pad_cons (v 2) (pad_cons (v 1) pad_nil))) pad_nil)))) pssd_nil)))
  (pssd_one (psd_ret (ped_callTy call_tupleD rfl Z.tuple (by decide +kernel) (pad_cons (v 3) pad_nil)))))), fun ds M Q h => ?_⟩
  obtain ⟨d, xs, n, rfl, hd, cL, q⟩ := h
  have cD := cells_dedup cL
  have nD := dedup_nodup xs
  generalize hL : dedup xs = L at *
  show tseq _ _ _ [some d, none, none, none] M
  refine seq_cut (fun ρ M' => ∃ a pf, ρ = [some d, none, some (.ref a), some (.ref pf)] ∧ M' a = some (dtO L) ∧ M' pf = some (.lst []) ∧ M a = none ∧ M pf = none ∧ a ≠ pf ∧ Kp a M M') (fun N hN => ?_) ?_
  · simp only [DL.e_next, DL.e_break, DL.e_cont, DL.e_drop, DL.e_ret, DL.e_retN, DL.e_ifS, DL.e_asg, DL.e_par, DL.e_par2, DL.e_del, DL.e_gname, DL.e_gsub, DL.e_gtup, DL.e_gcons, DL.e_gnil, DL.e_var0, DL.e_varS, DL.e_con, DL.e_top2, DL.e_top1, DL.e_cb, DL.e_nil, DL.e_cons, DL.e_tup, DL.e_lst, DL.e_test, DL.e_testK, DL.e_tru, DL.e_truB, DL.e_truN, DL.e_truL, DL.e_and, DL.e_or, DL.e_not, DL.e_if, DL.e_andV, DL.e_andK, DL.e_orV, DL.e_orK, DL.e_notV, DL.e_notK, DL.e_add, DL.e_addS, DL.e_addT, DL.e_addL, DL.e_sub, DL.e_mul, DL.e_mulL, DL.e_mulT, DL.e_fdiv, DL.e_mod, DL.e_pow, DL.e_neg, DL.e_lt, DL.e_le, DL.e_gt, DL.e_ge, DL.e_eqI, DL.e_eqS, DL.e_neI, DL.e_neS, DL.e_isN, DL.e_isntN, DL.e_isB, DL.e_isntB, DL.e_atK, DL.e_ixT, DL.e_ixL, DL.e_ixK, DL.e_ixDT, DL.e_setK, DL.e_setDT, DL.e_setSome, DL.e_setL, DL.e_delK, DL.e_delT, DL.e_inT, DL.e_inK, DL.e_lenL, DL.e_lenT, DL.e_lenK, DL.e_lenDT, DL.e_lenS, DL.e_listL, DL.e_listO, DL.e_listT, DL.e_tupleL, DL.e_tupleT, DL.e_int, DL.e_lm0, DL.e_lm, DL.e_isL, DL.e_app, DL.e_pop, DL.e_popSome, DL.e_call, DL.e_newT, DL.e_newK, DL.e_disp, DL.e_prs0, DL.e_prsS, DL.f_for, DL.f_lc, DL.f_dc, DL.f_iseq, DL.f_seqT, DL.f_rng1, DL.f_rngK, DL.f_zip, DL.f_zipT, DL.f_yes, DL.f_par3, DL.f_par3K, DL.f_isi, DL.f_isiK, DL.f_fld, DL.f_mkE, DL.f_mk0, DL.f_slice, DL.f_nopart, DL.f_part, DL.f_partK, DL.f_slT, DL.f_lrg, DL.f_dispT, List.set_cons_zero, List.set_cons_succ, List.length_cons, List.length_nil, decide_eq_true_eq, Bool.not_eq_true, true_and, and_true, if_true, Bool.false_eq_true, if_false, Nat.reduceAdd, Nat.reduceLT, Nat.reduceLeDiff, f_dc, f_iseq]
    rw [seqK_row hd]
    intro a ha
    refine ⟨fun i acc M' => acc = (dedup (xs.take i)).map kv ∧ M' a = some (dX true acc) ∧ Kp a M M', ⟨rfl, put_same, Kp.refl.own⟩, fun i acc M' hi W => ?_⟩
    obtain ⟨rfl, b1, K1⟩ := W
    have hok : rdS M' d = some (xs.map rowD) := rdS_Keep (fun b o e => K1 b o (ne_none e ha) e) hd
    refine ⟨seqOk hok, ?_⟩
    cases e : (xs.map rowD)[i]? with
    | none =>
      have hi2 : xs.length ≤ i := by
        have := List.getElem?_eq_none_iff.mp e
        simpa using this
      rw [List.take_of_length_le hi2, hL] at b1
      simp only [DL.e_next, DL.e_break, DL.e_cont, DL.e_drop, DL.e_ret, DL.e_retN, DL.e_ifS, DL.e_asg, DL.e_par, DL.e_par2, DL.e_del, DL.e_gname, DL.e_gsub, DL.e_gtup, DL.e_gcons, DL.e_gnil, DL.e_var0, DL.e_varS, DL.e_con, DL.e_top2, DL.e_top1, DL.e_cb, DL.e_nil, DL.e_cons, DL.e_tup, DL.e_lst, DL.e_test, DL.e_testK, DL.e_tru, DL.e_truB, DL.e_truN, DL.e_truL, DL.e_and, DL.e_or, DL.e_not, DL.e_if, DL.e_andV, DL.e_andK, DL.e_orV, DL.e_orK, DL.e_notV, DL.e_notK, DL.e_add, DL.e_addS, DL.e_addT, DL.e_addL, DL.e_sub, DL.e_mul, DL.e_mulL, DL.e_mulT, DL.e_fdiv, DL.e_mod, DL.e_pow, DL.e_neg, DL.e_lt, DL.e_le, DL.e_gt, DL.e_ge, DL.e_eqI, DL.e_eqS, DL.e_neI, DL.e_neS, DL.e_isN, DL.e_isntN, DL.e_isB, DL.e_isntB, DL.e_atK, DL.e_ixT, DL.e_ixL, DL.e_ixK, DL.e_ixDT, DL.e_setK, DL.e_setDT, DL.e_setSome, DL.e_setL, DL.e_delK, DL.e_delT, DL.e_inT, DL.e_inK, DL.e_lenL, DL.e_lenT, DL.e_lenK, DL.e_lenDT, DL.e_lenS, DL.e_listL, DL.e_listO, DL.e_listT, DL.e_tupleL, DL.e_tupleT, DL.e_int, DL.e_lm0, DL.e_lm, DL.e_isL, DL.e_app, DL.e_pop, DL.e_popSome, DL.e_call, DL.e_newT, DL.e_newK, DL.e_disp, DL.e_prs0, DL.e_prsS, DL.f_for, DL.f_lc, DL.f_dc, DL.f_iseq, DL.f_seqT, DL.f_rng1, DL.f_rngK, DL.f_zip, DL.f_zipT, DL.f_yes, DL.f_par3, DL.f_par3K, DL.f_isi, DL.f_isiK, DL.f_fld, DL.f_mkE, DL.f_mk0, DL.f_slice, DL.f_nopart, DL.f_part, DL.f_partK, DL.f_slT, DL.f_lrg, DL.f_dispT, List.set_cons_zero, List.set_cons_succ, List.length_cons, List.length_nil, decide_eq_true_eq, Bool.not_eq_true, true_and, and_true, if_true, Bool.false_eq_true, if_false, Nat.reduceAdd, Nat.reduceLT, Nat.reduceLeDiff]
      refine ⟨by decide, fun pf hpf => hN _ _ ⟨a, pf, rfl, ?_⟩⟩
      have na : a ≠ pf := ne_none b1 hpf
      have g : M pf = none := by
        cases e2 : M pf with
        | none => rfl
        | some o =>
          rw [K1 pf o (Ne.symm na) e2] at hpf
          cases hpf
      exact ⟨by rw [put_ne na]; exact b1, put_same, ha, g, na, K1.new g⟩
    | some x =>
      obtain ⟨y, rfl, ey, _⟩ := map_get e
      simp only [DL.e_next, DL.e_break, DL.e_cont, DL.e_drop, DL.e_ret, DL.e_retN, DL.e_ifS, DL.e_asg, DL.e_par, DL.e_par2, DL.e_del, DL.e_gname, DL.e_gsub, DL.e_gtup, DL.e_gcons, DL.e_gnil, DL.e_var0, DL.e_varS, DL.e_con, DL.e_top2, DL.e_top1, DL.e_cb, DL.e_nil, DL.e_cons, DL.e_tup, DL.e_lst, DL.e_test, DL.e_testK, DL.e_tru, DL.e_truB, DL.e_truN, DL.e_truL, DL.e_and, DL.e_or, DL.e_not, DL.e_if, DL.e_andV, DL.e_andK, DL.e_orV, DL.e_orK, DL.e_notV, DL.e_notK, DL.e_add, DL.e_addS, DL.e_addT, DL.e_addL, DL.e_sub, DL.e_mul, DL.e_mulL, DL.e_mulT, DL.e_fdiv, DL.e_mod, DL.e_pow, DL.e_neg, DL.e_lt, DL.e_le, DL.e_gt, DL.e_ge, DL.e_eqI, DL.e_eqS, DL.e_neI, DL.e_neS, DL.e_isN, DL.e_isntN, DL.e_isB, DL.e_isntB, DL.e_atK, DL.e_ixT, DL.e_ixL, DL.e_ixK, DL.e_ixDT, DL.e_setK, DL.e_setDT, DL.e_setSome, DL.e_setL, DL.e_delK, DL.e_delT, DL.e_inT, DL.e_inK, DL.e_lenL, DL.e_lenT, DL.e_lenK, DL.e_lenDT, DL.e_lenS, DL.e_listL, DL.e_listO, DL.e_listT, DL.e_tupleL, DL.e_tupleT, DL.e_int, DL.e_lm0, DL.e_lm, DL.e_isL, DL.e_app, DL.e_pop, DL.e_popSome, DL.e_call, DL.e_newT, DL.e_newK, DL.e_disp, DL.e_prs0, DL.e_prsS, DL.f_for, DL.f_lc, DL.f_dc, DL.f_iseq, DL.f_seqT, DL.f_rng1, DL.f_rngK, DL.f_zip, DL.f_zipT, DL.f_yes, DL.f_par3, DL.f_par3K, DL.f_isi, DL.f_isiK, DL.f_fld, DL.f_mkE, DL.f_mk0, DL.f_slice, DL.f_nopart, DL.f_part, DL.f_partK, DL.f_slT, DL.f_lrg, DL.f_dispT, List.set_cons_zero, List.set_cons_succ, List.length_cons, List.length_nil, decide_eq_true_eq, Bool.not_eq_true, true_and, and_true, if_true, Bool.false_eq_true, if_false, Nat.reduceAdd, Nat.reduceLT, Nat.reduceLeDiff, DL.wiped, List.map_cons, List.map_nil]
      have key := key_row y
      have tk1 : dedup (xs.take (i + 1)) = if y ∈ dedup (xs.take i) then dedup (xs.take i) else dedup (xs.take i) ++ [y] := by
        rw [take_succ_some ey, dedup_snoc]
      have sml : ((dedup (xs.take i)).map kv).length < sizeLine := by
        have h1 := dedup_len (xs.take i)
        have h2 := cL.small
        have h3 := sizeLine_eq
        rw [List.length_take] at h1
        rw [List.length_map]
        omega
      rw [dput_kv]
      exact ⟨b1, key, sml, by rw [tk1], put_same, K1.own⟩
  rintro ρ M1 ⟨a, pf, rfl, b1, b2, g1, g2, na, K1⟩
  have K1' : Keep M M1 := fun b o e => K1 b o (ne_none e g1) e
  refine seq_cut (fun ρ M' => ∃ x, ρ = [some d, x, some (.ref a), some (.ref pf)] ∧ M' pf = some (.lst (partsD L)) ∧ Keep M M') (fun N hN => ?_) ?_
  · have b10 : M1 a = some (.dT (L.map kv)) := b1
    have sz := sizeLine_eq
    have sm := cD.small
    have ne : ∀ r ∈ L, r ≠ [] := fun r hr e => by
      have := cD.len r hr
      have t := cD.two
      rw [e] at this
      simp at this
      omega
    simp only [DL.e_next, DL.e_break, DL.e_cont, DL.e_drop, DL.e_ret, DL.e_retN, DL.e_ifS, DL.e_asg, DL.e_par, DL.e_par2, DL.e_del, DL.e_gname, DL.e_gsub, DL.e_gtup, DL.e_gcons, DL.e_gnil, DL.e_var0, DL.e_varS, DL.e_con, DL.e_top2, DL.e_top1, DL.e_cb, DL.e_nil, DL.e_cons, DL.e_tup, DL.e_lst, DL.e_test, DL.e_testK, DL.e_tru, DL.e_truB, DL.e_truN, DL.e_truL, DL.e_and, DL.e_or, DL.e_not, DL.e_if, DL.e_andV, DL.e_andK, DL.e_orV, DL.e_orK, DL.e_notV, DL.e_notK, DL.e_add, DL.e_addS, DL.e_addT, DL.e_addL, DL.e_sub, DL.e_mul, DL.e_mulL, DL.e_mulT, DL.e_fdiv, DL.e_mod, DL.e_pow, DL.e_neg, DL.e_lt, DL.e_le, DL.e_gt, DL.e_ge, DL.e_eqI, DL.e_eqS, DL.e_neI, DL.e_neS, DL.e_isN, DL.e_isntN, DL.e_isB, DL.e_isntB, DL.e_atK, DL.e_ixT, DL.e_ixL, DL.e_ixK, DL.e_ixDT, DL.e_setK, DL.e_setDT, DL.e_setSome, DL.e_setL, DL.e_delK, DL.e_delT, DL.e_inT, DL.e_inK, DL.e_lenL, DL.e_lenT, DL.e_lenK, DL.e_lenDT, DL.e_lenS, DL.e_listL, DL.e_listO, DL.e_listT, DL.e_tupleL, DL.e_tupleT, DL.e_int, DL.e_lm0, DL.e_lm, DL.e_isL, DL.e_app, DL.e_pop, DL.e_popSome, DL.e_call, DL.e_newT, DL.e_newK, DL.e_disp, DL.e_prs0, DL.e_prsS, DL.f_for, DL.f_lc, DL.f_dc, DL.f_iseq, DL.f_seqT, DL.f_rng1, DL.f_rngK, DL.f_zip, DL.f_zipT, DL.f_yes, DL.f_par3, DL.f_par3K, DL.f_isi, DL.f_isiK, DL.f_fld, DL.f_mkE, DL.f_mk0, DL.f_slice, DL.f_nopart, DL.f_part, DL.f_partK, DL.f_slT, DL.f_lrg, DL.f_dispT, List.set_cons_zero, List.set_cons_succ, List.length_cons, List.length_nil, decide_eq_true_eq, Bool.not_eq_true, true_and, and_true, if_true, Bool.false_eq_true, if_false, Nat.reduceAdd, Nat.reduceLT, Nat.reduceLeDiff, f_for, f_iseq]
    refine ⟨L.map rowD, by simp only [rdI, b10, keys_kv], by rw [List.length_map]; omega, fun p hp => ?_⟩
    refine ⟨L.map rowD, by simp only [rdI, put_same], rows_ok (by omega) ne, fun p2 hp2 => ?_⟩
    rw [srt_rows]
    show seqK (.ref p2) _ _
    rw [f_seqL put_same]
    have m1 : M1 p2 = none := by rw [put_ne (Ne.symm (ne_none put_same hp2))] at hp2; exact hp2
    have na2 : a ≠ p2 := ne_none b1 m1
    have nf2 : pf ≠ p2 := ne_none b2 m1
    have na1 : a ≠ p := ne_none b1 hp
    have nf1 : pf ≠ p := ne_none b2 hp
    refine for_inv (fun i ρ M' => ∃ x S G, ρ = [some d, x, some (.ref a), some (.ref pf)] ∧ M' a = some (dtO (L.filter fun x => decide (x ∉ S))) ∧ M' pf = some (.lst (G.map fun p => .tup (p.map rowD))) ∧ Keep M M' ∧ M' p2 = some (.lst ((srtR L).map rowD)) ∧
      Shut L S ∧ (∀ x ∈ S, x ∈ L) ∧ G ++ partsBy srtR L ((srtR L).drop i) S = parts L ∧ G.length ≤ i) ⟨none, [], [], rfl, ?_, ?_, ?_, put_same, ?_, ?_, rfl, Nat.le_refl _⟩ (fun i ρ M' _ W => ?_) (fun i x ρ M' e W => ?_) (fun ρ M' W => ?_)
    · rw [put_ne na2, put_ne na1, b1]
      congr 2
      exact (List.filter_eq_self.mpr (by simp)).symm
    · rw [put_ne nf2, put_ne nf1]
      exact b2
    · exact (K1'.trans (Keep.new hp)).trans (Keep.new hp2)
    · intro x y hx
      cases hx
    · intro x hx
      cases hx
    · obtain ⟨x, S, G, rfl, c1, c2, KK, c3, sh, sub, eq, gl⟩ := W
      exact rdL_lst c3
    · obtain ⟨x0, S, G, rfl, c1, c2, KK, c3, sh, sub, eq, gl⟩ := W
      obtain ⟨y, rfl, ey, ed⟩ := map_get e
      have hi : i < (srtR L).length := (List.getElem?_eq_some_iff.mp ey).1
      rw [(srtR_perm L).length_eq] at hi
      have hy : y ∈ L := (srtR_perm L).subset (List.mem_of_getElem? ey)
      have c10 : M' a = some (.dT ((L.filter fun x => decide (x ∉ S)).map kv)) := c1
      simp only [DL.e_next, DL.e_break, DL.e_cont, DL.e_drop, DL.e_ret, DL.e_retN, DL.e_ifS, DL.e_asg, DL.e_par, DL.e_par2, DL.e_del, DL.e_gname, DL.e_gsub, DL.e_gtup, DL.e_gcons, DL.e_gnil, DL.e_var0, DL.e_varS, DL.e_con, DL.e_top2, DL.e_top1, DL.e_cb, DL.e_nil, DL.e_cons, DL.e_tup, DL.e_lst, DL.e_test, DL.e_testK, DL.e_tru, DL.e_truB, DL.e_truN, DL.e_truL, DL.e_and, DL.e_or, DL.e_not, DL.e_if, DL.e_andV, DL.e_andK, DL.e_orV, DL.e_orK, DL.e_notV, DL.e_notK, DL.e_add, DL.e_addS, DL.e_addT, DL.e_addL, DL.e_sub, DL.e_mul, DL.e_mulL, DL.e_mulT, DL.e_fdiv, DL.e_mod, DL.e_pow, DL.e_neg, DL.e_lt, DL.e_le, DL.e_gt, DL.e_ge, DL.e_eqI, DL.e_eqS, DL.e_neI, DL.e_neS, DL.e_isN, DL.e_isntN, DL.e_isB, DL.e_isntB, DL.e_atK, DL.e_ixT, DL.e_ixL, DL.e_ixK, DL.e_ixDT, DL.e_setK, DL.e_setDT, DL.e_setSome, DL.e_setL, DL.e_delK, DL.e_delT, DL.e_inT, DL.e_inK, DL.e_lenL, DL.e_lenT, DL.e_lenK, DL.e_lenDT, DL.e_lenS, DL.e_listL, DL.e_listO, DL.e_listT, DL.e_tupleL, DL.e_tupleT, DL.e_int, DL.e_lm0, DL.e_lm, DL.e_isL, DL.e_app, DL.e_pop, DL.e_popSome, DL.e_call, DL.e_newT, DL.e_newK, DL.e_disp, DL.e_prs0, DL.e_prsS, DL.f_for, DL.f_lc, DL.f_dc, DL.f_iseq, DL.f_seqT, DL.f_rng1, DL.f_rngK, DL.f_zip, DL.f_zipT, DL.f_yes, DL.f_par3, DL.f_par3K, DL.f_isi, DL.f_isiK, DL.f_fld, DL.f_mkE, DL.f_mk0, DL.f_slice, DL.f_nopart, DL.f_part, DL.f_partK, DL.f_slT, DL.f_lrg, DL.f_dispT, List.set_cons_zero, List.set_cons_succ, List.length_cons, List.length_nil, decide_eq_true_eq, Bool.not_eq_true, true_and, and_true, if_true, Bool.false_eq_true, if_false, Nat.reduceAdd, Nat.reduceLT, Nat.reduceLeDiff, e_inT c10, look_some]
      refine ⟨key_row y, ?_⟩
      rw [ed] at eq
      by_cases hS : y ∈ S
      · rw [if_neg (by simp [hS])]
        refine ⟨_, S, G, rfl, c1, c2, KK, c3, sh, sub, ?_, by omega⟩
        rw [← eq]
        conv => rhs; unfold partsBy
        rw [if_pos hS]
      · have yl : y ∈ L.filter fun x => decide (x ∉ S) := List.mem_filter.mpr ⟨hy, by simpa using hS⟩
        rw [if_pos yl]
        simp only [DL.e_next, DL.e_break, DL.e_cont, DL.e_drop, DL.e_ret, DL.e_retN, DL.e_ifS, DL.e_asg, DL.e_par, DL.e_par2, DL.e_del, DL.e_gname, DL.e_gsub, DL.e_gtup, DL.e_gcons, DL.e_gnil, DL.e_var0, DL.e_varS, DL.e_con, DL.e_top2, DL.e_top1, DL.e_cb, DL.e_nil, DL.e_cons, DL.e_tup, DL.e_lst, DL.e_test, DL.e_testK, DL.e_tru, DL.e_truB, DL.e_truN, DL.e_truL, DL.e_and, DL.e_or, DL.e_not, DL.e_if, DL.e_andV, DL.e_andK, DL.e_orV, DL.e_orK, DL.e_notV, DL.e_notK, DL.e_add, DL.e_addS, DL.e_addT, DL.e_addL, DL.e_sub, DL.e_mul, DL.e_mulL, DL.e_mulT, DL.e_fdiv, DL.e_mod, DL.e_pow, DL.e_neg, DL.e_lt, DL.e_le, DL.e_gt, DL.e_ge, DL.e_eqI, DL.e_eqS, DL.e_neI, DL.e_neS, DL.e_isN, DL.e_isntN, DL.e_isB, DL.e_isntB, DL.e_atK, DL.e_ixT, DL.e_ixL, DL.e_ixK, DL.e_ixDT, DL.e_setK, DL.e_setDT, DL.e_setSome, DL.e_setL, DL.e_delK, DL.e_delT, DL.e_inT, DL.e_inK, DL.e_lenL, DL.e_lenT, DL.e_lenK, DL.e_lenDT, DL.e_lenS, DL.e_listL, DL.e_listO, DL.e_listT, DL.e_tupleL, DL.e_tupleT, DL.e_int, DL.e_lm0, DL.e_lm, DL.e_isL, DL.e_app, DL.e_pop, DL.e_popSome, DL.e_call, DL.e_newT, DL.e_newK, DL.e_disp, DL.e_prs0, DL.e_prsS, DL.f_for, DL.f_lc, DL.f_dc, DL.f_iseq, DL.f_seqT, DL.f_rng1, DL.f_rngK, DL.f_zip, DL.f_zipT, DL.f_yes, DL.f_par3, DL.f_par3K, DL.f_isi, DL.f_isiK, DL.f_fld, DL.f_mkE, DL.f_mk0, DL.f_slice, DL.f_nopart, DL.f_part, DL.f_partK, DL.f_slT, DL.f_lrg, DL.f_dispT, List.set_cons_zero, List.set_cons_succ, List.length_cons, List.length_nil, decide_eq_true_eq, Bool.not_eq_true, true_and, and_true, if_true, Bool.false_eq_true, if_false, Nat.reduceAdd, Nat.reduceLT, Nat.reduceLeDiff, e_isL c2]
        refine ⟨a, _, y, n, rfl, c1, nD.sublist List.filter_sublist, ⟨cD.two, cD.four, fun r hr => cD.len r (List.mem_filter.mp hr).1, Nat.lt_of_le_of_lt (List.length_filter_le _ _) cD.small⟩, yl, ?_⟩
        rw [comp_rest sh hS, rest_rest]
        have c2' : put M' a (dtO (L.filter fun x => decide (x ∉ S ++ comp L y))) pf = some (.lst (G.map fun p => .tup (p.map rowD))) := by rw [put_ne (Ne.symm na)]; exact c2
        show appR (.ref pf) [_] _ _
        rw [e_app c2']
        refine ⟨by rw [List.length_map]; omega, _, S ++ comp L y, G ++ [srtR (comp L y)], rfl, by rw [put_ne na, put_same], by rw [put_same, List.map_append]; rfl, ?_, ?_, sh.more, ?_, ?_, ?_⟩
        · intro b o e2
          rw [put_ne (ne_none e2 g2), put_ne (ne_none e2 g1)]
          exact KK b o e2
        · rw [put_ne (Ne.symm nf2), put_ne (Ne.symm na2)]
          exact c3
        · intro x hx
          rcases List.mem_append.mp hx with hx | hx
          · exact sub x hx
          · exact (mem_comp.mp hx).mem
        · rw [← eq, List.append_assoc]
          conv => rhs; unfold partsBy
          rw [if_neg hS]
          rfl
        · simp only [List.length_append, List.length_singleton]
          omega
    · obtain ⟨x0, S, G, rfl, c1, c2, KK, c3, sh, sub, eq, gl⟩ := W
      rw [List.length_map, List.drop_length] at eq
      have eq : G ++ [] = parts L := eq
      rw [List.append_nil] at eq
      exact hN _ _ ⟨_, rfl, by rw [c2, eq]; rfl, KK⟩
  rintro ρ M2 ⟨x, rfl, c2, KK⟩
  simp only [DL.e_next, DL.e_break, DL.e_cont, DL.e_drop, DL.e_ret, DL.e_retN, DL.e_ifS, DL.e_asg, DL.e_par, DL.e_par2, DL.e_del, DL.e_gname, DL.e_gsub, DL.e_gtup, DL.e_gcons, DL.e_gnil, DL.e_var0, DL.e_varS, DL.e_con, DL.e_top2, DL.e_top1, DL.e_cb, DL.e_nil, DL.e_cons, DL.e_tup, DL.e_lst, DL.e_test, DL.e_testK, DL.e_tru, DL.e_truB, DL.e_truN, DL.e_truL, DL.e_and, DL.e_or, DL.e_not, DL.e_if, DL.e_andV, DL.e_andK, DL.e_orV, DL.e_orK, DL.e_notV, DL.e_notK, DL.e_add, DL.e_addS, DL.e_addT, DL.e_addL, DL.e_sub, DL.e_mul, DL.e_mulL, DL.e_mulT, DL.e_fdiv, DL.e_mod, DL.e_pow, DL.e_neg, DL.e_lt, DL.e_le, DL.e_gt, DL.e_ge, DL.e_eqI, DL.e_eqS, DL.e_neI, DL.e_neS, DL.e_isN, DL.e_isntN, DL.e_isB, DL.e_isntB, DL.e_atK, DL.e_ixT, DL.e_ixL, DL.e_ixK, DL.e_ixDT, DL.e_setK, DL.e_setDT, DL.e_setSome, DL.e_setL, DL.e_delK, DL.e_delT, DL.e_inT, DL.e_inK, DL.e_lenL, DL.e_lenT, DL.e_lenK, DL.e_lenDT, DL.e_lenS, DL.e_listL, DL.e_listO, DL.e_listT, DL.e_tupleL, DL.e_tupleT, DL.e_int, DL.e_lm0, DL.e_lm, DL.e_isL, DL.e_app, DL.e_pop, DL.e_popSome, DL.e_call, DL.e_newT, DL.e_newK, DL.e_disp, DL.e_prs0, DL.e_prsS, DL.f_for, DL.f_lc, DL.f_dc, DL.f_iseq, DL.f_seqT, DL.f_rng1, DL.f_rngK, DL.f_zip, DL.f_zipT, DL.f_yes, DL.f_par3, DL.f_par3K, DL.f_isi, DL.f_isiK, DL.f_fld, DL.f_mkE, DL.f_mk0, DL.f_slice, DL.f_nopart, DL.f_part, DL.f_partK, DL.f_slT, DL.f_lrg, DL.f_dispT, List.set_cons_zero, List.set_cons_succ, List.length_cons, List.length_nil, decide_eq_true_eq, Bool.not_eq_true, true_and, and_true, if_true, Bool.false_eq_true, if_false, Nat.reduceAdd, Nat.reduceLT, Nat.reduceLeDiff, e_tupleL c2]
  exact ⟨M, KK, q⟩
theorem rows_of : ∀ {xs : List D}, (∀ x ∈ xs, isAny x = true) → ∃ rows : List Cel, xs = rows.map rowD
  | [], _ => ⟨[], rfl⟩
  | x :: xs, h => by
    obtain ⟨r, rfl, _⟩ := isAny_row (h x List.mem_cons_self)
    obtain ⟨rs, rfl⟩ := rows_of fun y hy => h y (List.mem_cons_of_mem _ hy)
    exact ⟨r :: rs, rfl⟩
theorem good_cells {xs : List D} (h : badC xs = none) (hl : xs.length < 2 ^ 20) : ∃ n rows, xs = rows.map rowD ∧ Cells n rows := by
  unfold badC at h
  rw [List.find?_eq_none] at h
  have g : ∀ x ∈ xs, isAny x = true ∧ lenD x = lenD (xs.headD .non) := fun x hx => by
    have := h x hx
    simpa using this
  obtain ⟨rows, e⟩ := rows_of fun x hx => (g x hx).1
  cases rows with
  | nil => exact ⟨2, [], e, by decide, by decide, by simp, by decide⟩
  | cons r rs =>
    obtain ⟨r2, er, h0, h1⟩ := isAny_row (g (rowD r) (by rw [e]; simp)).1
    have er := rowD_inj er
    subst er
    refine ⟨r.length, r :: rs, e, h0, h1, fun s hs => ?_, by rw [e] at hl; simpa using hl⟩
    have := (g (rowD s) (by rw [e]; exact List.mem_map_of_mem hs)).2
    rw [e] at this
    simpa [lenD, rowD] using this
def spPartsOf (K : PySem.W.Frag) : SpD := fun ds M Q E => ∃ c xs, ds = [c] ∧ rdS M c = some xs ∧ (∀ x ∈ xs, Plain M x) ∧ xs.length < 2 ^ 20 ∧ (∀ rows : List Cel, badC xs = none → xs = rows.map rowD → Q (.tup (partsD (dedup rows))) M) ∧ (∀ x, badC xs = some x → E (He.ga K "BadCell") [("cell", x)] M)
theorem ok_parts_of (Z : Free mg) (S : Stands K mg "parts_of" s_parts_of ["cells"]) (C_check_cells : FnD P w K mg base 4 "check_cells" ["cells"] (spCheck K)) (C_parts_in : FnD P w K mg base 4 "parts_in" ["cells"] spPartsIn) : FnD P w K mg base 5 "parts_of" ["cells"] (spPartsOf K) := by
  obtain ⟨f, fd, F, hm, hb⟩ := S
  refine FnD.of F sc_parts_of hm hb (fun ds M Q E h => ?_) fun cdv A outer s0 H0 E E0 hr tk hp => ?_
  · obtain ⟨c, xs, rfl, _⟩ := h; rfl
  have nd := sc_parts_of.nd
  refine ⟨_, (pssd_cons (psd_expr (ped_call C_check_cells (hr.mono (by decide)) rfl tk (pad_cons (v 0) pad_nil)))
  (pssd_one (psd_ret (ped_call C_parts_in (hr.mono (by decide)) rfl tk (pad_cons (v 0) pad_nil))))), fun ds M Q h => ?_⟩
  obtain ⟨c, xs, rfl, hc, hP, hl, hy, hn⟩ := h
  show tseq _ _ _ [some c] M
  simp only [DL.e_next, DL.e_break, DL.e_cont, DL.e_drop, DL.e_ret, DL.e_retN, DL.e_ifS, DL.e_asg, DL.e_par, DL.e_par2, DL.e_del, DL.e_gname, DL.e_gsub, DL.e_gtup, DL.e_gcons, DL.e_gnil, DL.e_var0, DL.e_varS, DL.e_con, DL.e_top2, DL.e_top1, DL.e_cb, DL.e_nil, DL.e_cons, DL.e_tup, DL.e_lst, DL.e_test, DL.e_testK, DL.e_tru, DL.e_truB, DL.e_truN, DL.e_truL, DL.e_and, DL.e_or, DL.e_not, DL.e_if, DL.e_andV, DL.e_andK, DL.e_orV, DL.e_orK, DL.e_notV, DL.e_notK, DL.e_add, DL.e_addS, DL.e_addT, DL.e_addL, DL.e_sub, DL.e_mul, DL.e_mulL, DL.e_mulT, DL.e_fdiv, DL.e_mod, DL.e_pow, DL.e_neg, DL.e_lt, DL.e_le, DL.e_gt, DL.e_ge, DL.e_eqI, DL.e_eqS, DL.e_neI, DL.e_neS, DL.e_isN, DL.e_isntN, DL.e_isB, DL.e_isntB, DL.e_atK, DL.e_ixT, DL.e_ixL, DL.e_ixK, DL.e_ixDT, DL.e_setK, DL.e_setDT, DL.e_setSome, DL.e_setL, DL.e_delK, DL.e_delT, DL.e_inT, DL.e_inK, DL.e_lenL, DL.e_lenT, DL.e_lenK, DL.e_lenDT, DL.e_lenS, DL.e_listL, DL.e_listO, DL.e_listT, DL.e_tupleL, DL.e_tupleT, DL.e_int, DL.e_lm0, DL.e_lm, DL.e_isL, DL.e_app, DL.e_pop, DL.e_popSome, DL.e_call, DL.e_newT, DL.e_newK, DL.e_disp, DL.e_prs0, DL.e_prsS, DL.f_for, DL.f_lc, DL.f_dc, DL.f_iseq, DL.f_seqT, DL.f_rng1, DL.f_rngK, DL.f_zip, DL.f_zipT, DL.f_yes, DL.f_par3, DL.f_par3K, DL.f_isi, DL.f_isiK, DL.f_fld, DL.f_mkE, DL.f_mk0, DL.f_slice, DL.f_nopart, DL.f_part, DL.f_partK, DL.f_slT, DL.f_lrg, DL.f_dispT, List.set_cons_zero, List.set_cons_succ, List.length_cons, List.length_nil, decide_eq_true_eq, Bool.not_eq_true, true_and, and_true, if_true, Bool.false_eq_true, if_false, Nat.reduceAdd, Nat.reduceLT, Nat.reduceLeDiff, e_seq]
  refine ⟨c, xs, rfl, hc, hP, fun hg => ?_, fun x hx => ⟨M, Keep.refl, hn x hx⟩⟩
  obtain ⟨n, rows, e, cl⟩ := good_cells hg hl
  exact ⟨c, rows, n, rfl, by rw [← e]; exact hc, cl, M, Keep.refl, hy rows hg e⟩
def spHangs (K : PySem.W.Frag) : SpD := fun ds M Q E => ∃ c xs, ds = [c] ∧ rdS M c = some xs ∧ (∀ x ∈ xs, Plain M x) ∧ xs.length < 2 ^ 20 ∧ (∀ rows : List Cel, badC xs = none → xs = rows.map rowD → Q (.bl (decide ((parts (dedup rows)).length = 1))) M) ∧ (∀ x, badC xs = some x → E (He.ga K "BadCell") [("cell", x)] M)
theorem ok_hangs (Z : Free mg) (S : Stands K mg "hangs" s_hangs ["cells"]) (C_parts_of : FnD P w K mg base 5 "parts_of" ["cells"] (spPartsOf K)) : FnD P w K mg base 6 "hangs" ["cells"] (spHangs K) := by
  obtain ⟨f, fd, F, hm, hb⟩ := S
  refine FnD.of F sc_hangs hm hb (fun ds M Q E h => ?_) fun cdv A outer s0 H0 E E0 hr tk hp => ?_
  · obtain ⟨c, xs, rfl, _⟩ := h; rfl
  have nd := sc_hangs.nd
  refine ⟨_, (pssd_one (psd_ret (ped_cmp (op_eqDD (u64 hr)) (ped_callB call_lenD2 rfl Z.len PySem.boot_len (pad_cons (ped_call C_parts_of (hr.mono (by decide)) rfl tk (pad_cons (v 0) pad_nil)) pad_nil)) ped_int (nomark _)))), fun ds M Q h => ?_⟩
  obtain ⟨c, xs, rfl, hc, hP, hl, hy, hn⟩ := h
  show tret _ _ [some c] M
  simp only [DL.e_next, DL.e_break, DL.e_cont, DL.e_drop, DL.e_ret, DL.e_retN, DL.e_ifS, DL.e_asg, DL.e_par, DL.e_par2, DL.e_del, DL.e_gname, DL.e_gsub, DL.e_gtup, DL.e_gcons, DL.e_gnil, DL.e_var0, DL.e_varS, DL.e_con, DL.e_top2, DL.e_top1, DL.e_cb, DL.e_nil, DL.e_cons, DL.e_tup, DL.e_lst, DL.e_test, DL.e_testK, DL.e_tru, DL.e_truB, DL.e_truN, DL.e_truL, DL.e_and, DL.e_or, DL.e_not, DL.e_if, DL.e_andV, DL.e_andK, DL.e_orV, DL.e_orK, DL.e_notV, DL.e_notK, DL.e_add, DL.e_addS, DL.e_addT, DL.e_addL, DL.e_sub, DL.e_mul, DL.e_mulL, DL.e_mulT, DL.e_fdiv, DL.e_mod, DL.e_pow, DL.e_neg, DL.e_lt, DL.e_le, DL.e_gt, DL.e_ge, DL.e_eqI, DL.e_eqS, DL.e_neI, DL.e_neS, DL.e_isN, DL.e_isntN, DL.e_isB, DL.e_isntB, DL.e_atK, DL.e_ixT, DL.e_ixL, DL.e_ixK, DL.e_ixDT, DL.e_setK, DL.e_setDT, DL.e_setSome, DL.e_setL, DL.e_delK, DL.e_delT, DL.e_inT, DL.e_inK, DL.e_lenL, DL.e_lenT, DL.e_lenK, DL.e_lenDT, DL.e_lenS, DL.e_listL, DL.e_listO, DL.e_listT, DL.e_tupleL, DL.e_tupleT, DL.e_int, DL.e_lm0, DL.e_lm, DL.e_isL, DL.e_app, DL.e_pop, DL.e_popSome, DL.e_call, DL.e_newT, DL.e_newK, DL.e_disp, DL.e_prs0, DL.e_prsS, DL.f_for, DL.f_lc, DL.f_dc, DL.f_iseq, DL.f_seqT, DL.f_rng1, DL.f_rngK, DL.f_zip, DL.f_zipT, DL.f_yes, DL.f_par3, DL.f_par3K, DL.f_isi, DL.f_isiK, DL.f_fld, DL.f_mkE, DL.f_mk0, DL.f_slice, DL.f_nopart, DL.f_part, DL.f_partK, DL.f_slT, DL.f_lrg, DL.f_dispT, List.set_cons_zero, List.set_cons_succ, List.length_cons, List.length_nil, decide_eq_true_eq, Bool.not_eq_true, true_and, and_true, if_true, Bool.false_eq_true, if_false, Nat.reduceAdd, Nat.reduceLT, Nat.reduceLeDiff]
  refine ⟨c, xs, rfl, hc, hP, hl, fun rows hg e => ?_, fun x hx => ⟨M, Keep.refl, hn x hx⟩⟩
  show lenR [.tup _] _ _
  rw [e_lenT]
  show eqR (.int _) (.int 1) _ _
  rw [e_eqI]
  have z : decide (((partsD (dedup rows)).length : Int) = 1) = decide ((parts (dedup rows)).length = 1) := by
    rw [decide_eq_decide]
    simp only [partsD, List.length_map]
    omega
  rw [z]
  exact ⟨M, Keep.refl, hy rows hg e⟩
end
end Lw

end T_PARTS

section T_Pen
set_option Elab.async false
set_option linter.all false
set_option maxRecDepth 100000
set_option maxHeartbeats 4000000
namespace Lw
open PySem PySem.Spec L2 DL
open PyProof.Rows hiding St
/-! ### the pen -/
def penD (c : Addr) (at_ digits count fold : Int) : List (D × D) := [(.str "cells", .ref c), (.str "at", .int at_), (.str "digits", .int digits), (.str "count", .int count), (.str "fold", .int fold)]
section
variable {c : Addr} {a d n f x : Int}
theorem pen1 : look (penD c a d n f) (.str "cells") = some (.ref c) := rfl
theorem pen2 : look (penD c a d n f) (.str "at") = some (.int a) := rfl
theorem pen3 : look (penD c a d n f) (.str "digits") = some (.int d) := rfl
theorem pen4 : look (penD c a d n f) (.str "count") = some (.int n) := rfl
theorem pen5 : look (penD c a d n f) (.str "fold") = some (.int f) := rfl
theorem pun2 : dput (penD c a d n f) (.str "at") (.int x) = penD c x d n f := rfl
theorem pun3 : dput (penD c a d n f) (.str "digits") (.int x) = penD c a x n f := rfl
theorem pun4 : dput (penD c a d n f) (.str "count") (.int x) = penD c a d x f := rfl
theorem pun5 : dput (penD c a d n f) (.str "fold") (.int x) = penD c a d n x := rfl
theorem penk {s : Str} : isKey false (.str s) = true := rfl
theorem penl : (penD c a d n f).length < sizeLine := by show 5 < sizeLine; decide
end
structure Pen (M : Mem) (p c : Addr) (ns : List Int) (n : Nat) : Prop where
  ex : ∃ at_ digits count fold : Int, M p = some (.dK (penD c at_ digits count fold)) ∧ 0 ≤ at_ ∧ 0 ≤ digits ∧ 0 ≤ count ∧ count ≤ n ∧ 0 ≤ fold ∧ fold < 2147483648
  cl : M c = some (.lst (ns.map D.int))
def Chg (p : Addr) (M M' : Mem) : Prop := ∀ b, b ≠ p → M' b = M b
def spDraw : SpD := fun ds M Q _ => ∃ p c ns n many, ds = [.ref p, .int many] ∧ Pen M p c ns n ∧ n < 2 ^ 40 ∧ 0 < many ∧ many < 2 ^ 30 ∧ ∀ (r : Int) M', 0 ≤ r → r < many → Chg p M M' → Pen M' p c ns (n + 1) → Q (.int r) M'
section
variable {P : Program} {w : World} {K : PySem.W.Frag} {mg : Str → Option Value} {base : Heap}
theorem ok_draw (Z : Free mg) (S : Stands K mg "_law_draw" s_law_draw ["pen", "many"]) : FnD P w K mg base 1 "_law_draw" ["pen", "many"] spDraw := by
  obtain ⟨f, fd, F, hm, hb⟩ := S
  refine FnD.of F sc_law_draw hm hb (fun ds M Q E h => ?_) fun cdv A outer s0 H0 E E0 hr tk hp => ?_
  · obtain ⟨p, c, ns, n, many, rfl, _⟩ := h; rfl
  have nd := sc_law_draw.nd
  refine ⟨_, (pssd_cons (psd_asg (ped_op op_addD (ped_ix (u1 hr) (v 0) ped_str) ped_int) (pgd_sub (u1 hr) (v 0) ped_str))
  (pssd_cons (psd_if (PWd.pt (pwd_and (ptd_cmp (op_eqDD (u64 hr)) (ped_ix (u1 hr) (v 0) ped_str) ped_int (nomark _)) (pwd_and1 (ptd_cmp op_ltD (ped_ix (u1 hr) (v 0) ped_str) (ped_callB call_lenD2 rfl Z.len PySem.boot_len (pad_cons (ped_ix (u1 hr) (v 0) ped_str) pad_nil)) (nomark _))))) (pssd_cons (sv 2 nd (ped_ix (u1 hr) (ped_ix (u1 hr) (v 0) ped_str) (ped_ix (u1 hr) (v 0) ped_str)))
      (pssd_cons (psd_asg (ped_op op_addD (ped_ix (u1 hr) (v 0) ped_str) ped_int) (pgd_sub (u1 hr) (v 0) ped_str))
      (pssd_one (psd_if (ptd_cmp op_geD (v 2) (ped_op op_powD ped_int ped_int) (nomark _)) (pssd_one (psd_asg (ped_op op_subD (v 2) (ped_op op_powD ped_int ped_int)) (pgd_sub (u1 hr) (v 0) ped_str))) (pssd_one (psd_asg (ped_op op_modD (ped_callTy call_intD rfl Z.int (by decide +kernel) (pad_cons (ped_op op_addD (ped_op op_mulD (ped_ix (u1 hr) (v 0) ped_str) ped_int) (v 2)) pad_nil)) ped_int) (pgd_sub (u1 hr) (v 0) ped_str))))))) pssd_nil)
  (pssd_cons (psd_if (ptd_cmp op_gtD (ped_ix (u1 hr) (v 0) ped_str) ped_int (nomark _)) (pssd_cons (sv 3 nd (ped_op op_modD (ped_callTy call_intD rfl Z.int (by decide +kernel) (pad_cons (ped_ix (u1 hr) (v 0) ped_str) pad_nil)) (v 1)))
      (pssd_cons (psd_asg (ped_op op_fdivD (ped_ix (u1 hr) (v 0) ped_str) (v 1)) (pgd_sub (u1 hr) (v 0) ped_str))
      (pssd_one (psd_ret (v 3))))) pssd_nil)
  (pssd_cons (sv 4 nd (ped_op op_addD (ped_op op_addD (ped_ix (u1 hr) (v 0) ped_str) (ped_op op_mulD (ped_ix (u1 hr) (v 0) ped_str) ped_int)) ped_int))
  (pssd_one (psd_ret (ped_op op_modD (ped_op op_fdivD (ped_callTy call_intD rfl Z.int (by decide +kernel) (pad_cons (ped_op op_modD (ped_op op_powD (v 4) ped_int) ped_int) pad_nil)) ped_int) (v 1)))))))), fun ds M Q h => ?_⟩
  obtain ⟨p, c, ns, n, many, rfl, hpen, hn, h0, h1, k⟩ := h
  obtain ⟨⟨at_, digits, count, fold, hM, a0, d0, c0, cn, f0, f1⟩, hc⟩ := hpen
  have hpc : c ≠ p := fun e => by rw [e, hM] at hc; cases hc
  refine seq_cut (fun ρ M1 => ρ = [some (.ref p), some (.int many), none, none, none] ∧ Chg p M M1 ∧ M1 p = some (.dK (penD c at_ digits (count + 1) fold))) (fun N hN => ?_) ?_
  · show tasg _ _ _ [some (.ref p), some (.int many), none, none, none] M
    simp only [DL.e_next, DL.e_break, DL.e_cont, DL.e_drop, DL.e_ret, DL.e_retN, DL.e_ifS, DL.e_asg, DL.e_par, DL.e_par2, DL.e_del, DL.e_gname, DL.e_gsub, DL.e_gtup, DL.e_gcons, DL.e_gnil, DL.e_var0, DL.e_varS, DL.e_con, DL.e_top2, DL.e_top1, DL.e_cb, DL.e_nil, DL.e_cons, DL.e_tup, DL.e_lst, DL.e_test, DL.e_testK, DL.e_tru, DL.e_truB, DL.e_truN, DL.e_truL, DL.e_and, DL.e_or, DL.e_not, DL.e_if, DL.e_andV, DL.e_andK, DL.e_orV, DL.e_orK, DL.e_notV, DL.e_notK, DL.e_add, DL.e_addS, DL.e_addT, DL.e_addL, DL.e_sub, DL.e_mul, DL.e_mulL, DL.e_mulT, DL.e_fdiv, DL.e_mod, DL.e_pow, DL.e_neg, DL.e_lt, DL.e_le, DL.e_gt, DL.e_ge, DL.e_eqI, DL.e_eqS, DL.e_neI, DL.e_neS, DL.e_isN, DL.e_isntN, DL.e_isB, DL.e_isntB, DL.e_atK, DL.e_ixT, DL.e_ixL, DL.e_ixK, DL.e_ixDT, DL.e_setK, DL.e_setDT, DL.e_setSome, DL.e_setL, DL.e_delK, DL.e_delT, DL.e_inT, DL.e_inK, DL.e_lenL, DL.e_lenT, DL.e_lenK, DL.e_lenDT, DL.e_lenS, DL.e_listL, DL.e_listO, DL.e_listT, DL.e_tupleL, DL.e_tupleT, DL.e_int, DL.e_lm0, DL.e_lm, DL.e_isL, DL.e_app, DL.e_pop, DL.e_popSome, DL.e_call, DL.e_newT, DL.e_newK, DL.e_disp, DL.e_prs0, DL.e_prsS, DL.f_for, DL.f_lc, DL.f_dc, DL.f_iseq, DL.f_seqT, DL.f_rng1, DL.f_rngK, DL.f_zip, DL.f_zipT, DL.f_yes, DL.f_par3, DL.f_par3K, DL.f_isi, DL.f_isiK, DL.f_fld, DL.f_mkE, DL.f_mk0, DL.f_slice, DL.f_nopart, DL.f_part, DL.f_partK, DL.f_slT, DL.f_lrg, DL.f_dispT, List.set_cons_zero, List.set_cons_succ, List.length_cons, List.length_nil, decide_eq_true_eq, Bool.not_eq_true, true_and, and_true, if_true, Bool.false_eq_true, if_false, Nat.reduceAdd, Nat.reduceLT, Nat.reduceLeDiff, e_ixK hM, e_setK hM, pen4, pun4, penk, penl]
    exact hN _ _ ⟨rfl, fun b hb => put_ne hb, put_same⟩
  rintro ρ M1 ⟨rfl, C1, hM1⟩
  have hc1 : M1 c = some (.lst (ns.map D.int)) := by rw [C1 c hpc]; exact hc
  refine seq_cut (fun ρ M' => ∃ cl a d f, ρ = [some (.ref p), some (.int many), cl, none, none] ∧ Chg p M M' ∧ M' p = some (.dK (penD c a d (count + 1) f)) ∧ 0 ≤ a ∧ 0 ≤ d ∧ 0 ≤ f ∧ f < 2147483648) (fun N hN => ?_) ?_
  · simp only [DL.e_next, DL.e_break, DL.e_cont, DL.e_drop, DL.e_ret, DL.e_retN, DL.e_ifS, DL.e_asg, DL.e_par, DL.e_par2, DL.e_del, DL.e_gname, DL.e_gsub, DL.e_gtup, DL.e_gcons, DL.e_gnil, DL.e_var0, DL.e_varS, DL.e_con, DL.e_top2, DL.e_top1, DL.e_cb, DL.e_nil, DL.e_cons, DL.e_tup, DL.e_lst, DL.e_test, DL.e_testK, DL.e_tru, DL.e_truB, DL.e_truN, DL.e_truL, DL.e_and, DL.e_or, DL.e_not, DL.e_if, DL.e_andV, DL.e_andK, DL.e_orV, DL.e_orK, DL.e_notV, DL.e_notK, DL.e_add, DL.e_addS, DL.e_addT, DL.e_addL, DL.e_sub, DL.e_mul, DL.e_mulL, DL.e_mulT, DL.e_fdiv, DL.e_mod, DL.e_pow, DL.e_neg, DL.e_lt, DL.e_le, DL.e_gt, DL.e_ge, DL.e_eqI, DL.e_eqS, DL.e_neI, DL.e_neS, DL.e_isN, DL.e_isntN, DL.e_isB, DL.e_isntB, DL.e_atK, DL.e_ixT, DL.e_ixL, DL.e_ixK, DL.e_ixDT, DL.e_setK, DL.e_setDT, DL.e_setSome, DL.e_setL, DL.e_delK, DL.e_delT, DL.e_inT, DL.e_inK, DL.e_lenL, DL.e_lenT, DL.e_lenK, DL.e_lenDT, DL.e_lenS, DL.e_listL, DL.e_listO, DL.e_listT, DL.e_tupleL, DL.e_tupleT, DL.e_int, DL.e_lm0, DL.e_lm, DL.e_isL, DL.e_app, DL.e_pop, DL.e_popSome, DL.e_call, DL.e_newT, DL.e_newK, DL.e_disp, DL.e_prs0, DL.e_prsS, DL.f_for, DL.f_lc, DL.f_dc, DL.f_iseq, DL.f_seqT, DL.f_rng1, DL.f_rngK, DL.f_zip, DL.f_zipT, DL.f_yes, DL.f_par3, DL.f_par3K, DL.f_isi, DL.f_isiK, DL.f_fld, DL.f_mkE, DL.f_mk0, DL.f_slice, DL.f_nopart, DL.f_part, DL.f_partK, DL.f_slT, DL.f_lrg, DL.f_dispT, List.set_cons_zero, List.set_cons_succ, List.length_cons, List.length_nil, decide_eq_true_eq, Bool.not_eq_true, true_and, and_true, if_true, Bool.false_eq_true, if_false, Nat.reduceAdd, Nat.reduceLT, Nat.reduceLeDiff, e_ixK hM1, pen3, pen2, pen1, penk, penl, e_lenL hc1, List.length_map]
    refine ite2 (fun hd => ?_) (fun hd => ?_)
    · refine ite2 (fun ha => ?_) (fun ha => hN _ _ ⟨_, _, _, _, rfl, C1, hM1, a0, d0, f0, f1⟩)
      -- cell = pen['cells'][pen['at']]
      have ei : atI (ns.map D.int) at_ = some (.int (ns[at_.toNat]'(by omega))) := by
        unfold atI ixN
        rw [if_pos a0, if_pos (by rw [List.length_map]; omega)]
        simp [show at_.toNat < ns.length by omega]
      generalize ns[at_.toNat]'(by omega) = x at ei
      rw [e_seq]
      simp only [DL.e_next, DL.e_break, DL.e_cont, DL.e_drop, DL.e_ret, DL.e_retN, DL.e_ifS, DL.e_asg, DL.e_par, DL.e_par2, DL.e_del, DL.e_gname, DL.e_gsub, DL.e_gtup, DL.e_gcons, DL.e_gnil, DL.e_var0, DL.e_varS, DL.e_con, DL.e_top2, DL.e_top1, DL.e_cb, DL.e_nil, DL.e_cons, DL.e_tup, DL.e_lst, DL.e_test, DL.e_testK, DL.e_tru, DL.e_truB, DL.e_truN, DL.e_truL, DL.e_and, DL.e_or, DL.e_not, DL.e_if, DL.e_andV, DL.e_andK, DL.e_orV, DL.e_orK, DL.e_notV, DL.e_notK, DL.e_add, DL.e_addS, DL.e_addT, DL.e_addL, DL.e_sub, DL.e_mul, DL.e_mulL, DL.e_mulT, DL.e_fdiv, DL.e_mod, DL.e_pow, DL.e_neg, DL.e_lt, DL.e_le, DL.e_gt, DL.e_ge, DL.e_eqI, DL.e_eqS, DL.e_neI, DL.e_neS, DL.e_isN, DL.e_isntN, DL.e_isB, DL.e_isntB, DL.e_atK, DL.e_ixT, DL.e_ixL, DL.e_ixK, DL.e_ixDT, DL.e_setK, DL.e_setDT, DL.e_setSome, DL.e_setL, DL.e_delK, DL.e_delT, DL.e_inT, DL.e_inK, DL.e_lenL, DL.e_lenT, DL.e_lenK, DL.e_lenDT, DL.e_lenS, DL.e_listL, DL.e_listO, DL.e_listT, DL.e_tupleL, DL.e_tupleT, DL.e_int, DL.e_lm0, DL.e_lm, DL.e_isL, DL.e_app, DL.e_pop, DL.e_popSome, DL.e_call, DL.e_newT, DL.e_newK, DL.e_disp, DL.e_prs0, DL.e_prsS, DL.f_for, DL.f_lc, DL.f_dc, DL.f_iseq, DL.f_seqT, DL.f_rng1, DL.f_rngK, DL.f_zip, DL.f_zipT, DL.f_yes, DL.f_par3, DL.f_par3K, DL.f_isi, DL.f_isiK, DL.f_fld, DL.f_mkE, DL.f_mk0, DL.f_slice, DL.f_nopart, DL.f_part, DL.f_partK, DL.f_slT, DL.f_lrg, DL.f_dispT, List.set_cons_zero, List.set_cons_succ, List.length_cons, List.length_nil, decide_eq_true_eq, Bool.not_eq_true, true_and, and_true, if_true, Bool.false_eq_true, if_false, Nat.reduceAdd, Nat.reduceLT, Nat.reduceLeDiff, e_ixK hM1, pen3, pen2, pen1, penk, penl, e_ixL hc1, ei]
      rw [e_seq]
      simp only [DL.e_next, DL.e_break, DL.e_cont, DL.e_drop, DL.e_ret, DL.e_retN, DL.e_ifS, DL.e_asg, DL.e_par, DL.e_par2, DL.e_del, DL.e_gname, DL.e_gsub, DL.e_gtup, DL.e_gcons, DL.e_gnil, DL.e_var0, DL.e_varS, DL.e_con, DL.e_top2, DL.e_top1, DL.e_cb, DL.e_nil, DL.e_cons, DL.e_tup, DL.e_lst, DL.e_test, DL.e_testK, DL.e_tru, DL.e_truB, DL.e_truN, DL.e_truL, DL.e_and, DL.e_or, DL.e_not, DL.e_if, DL.e_andV, DL.e_andK, DL.e_orV, DL.e_orK, DL.e_notV, DL.e_notK, DL.e_add, DL.e_addS, DL.e_addT, DL.e_addL, DL.e_sub, DL.e_mul, DL.e_mulL, DL.e_mulT, DL.e_fdiv, DL.e_mod, DL.e_pow, DL.e_neg, DL.e_lt, DL.e_le, DL.e_gt, DL.e_ge, DL.e_eqI, DL.e_eqS, DL.e_neI, DL.e_neS, DL.e_isN, DL.e_isntN, DL.e_isB, DL.e_isntB, DL.e_atK, DL.e_ixT, DL.e_ixL, DL.e_ixK, DL.e_ixDT, DL.e_setK, DL.e_setDT, DL.e_setSome, DL.e_setL, DL.e_delK, DL.e_delT, DL.e_inT, DL.e_inK, DL.e_lenL, DL.e_lenT, DL.e_lenK, DL.e_lenDT, DL.e_lenS, DL.e_listL, DL.e_listO, DL.e_listT, DL.e_tupleL, DL.e_tupleT, DL.e_int, DL.e_lm0, DL.e_lm, DL.e_isL, DL.e_app, DL.e_pop, DL.e_popSome, DL.e_call, DL.e_newT, DL.e_newK, DL.e_disp, DL.e_prs0, DL.e_prsS, DL.f_for, DL.f_lc, DL.f_dc, DL.f_iseq, DL.f_seqT, DL.f_rng1, DL.f_rngK, DL.f_zip, DL.f_zipT, DL.f_yes, DL.f_par3, DL.f_par3K, DL.f_isi, DL.f_isiK, DL.f_fld, DL.f_mkE, DL.f_mk0, DL.f_slice, DL.f_nopart, DL.f_part, DL.f_partK, DL.f_slT, DL.f_lrg, DL.f_dispT, List.set_cons_zero, List.set_cons_succ, List.length_cons, List.length_nil, decide_eq_true_eq, Bool.not_eq_true, true_and, and_true, if_true, Bool.false_eq_true, if_false, Nat.reduceAdd, Nat.reduceLT, Nat.reduceLeDiff, e_ixK hM1, e_setK hM1, pen3, pen2, pen1, pun2, penk, penl]
      refine ⟨by decide, ite2 (fun hx => ?_) (fun hx => ?_)⟩
      · simp only [DL.e_next, DL.e_break, DL.e_cont, DL.e_drop, DL.e_ret, DL.e_retN, DL.e_ifS, DL.e_asg, DL.e_par, DL.e_par2, DL.e_del, DL.e_gname, DL.e_gsub, DL.e_gtup, DL.e_gcons, DL.e_gnil, DL.e_var0, DL.e_varS, DL.e_con, DL.e_top2, DL.e_top1, DL.e_cb, DL.e_nil, DL.e_cons, DL.e_tup, DL.e_lst, DL.e_test, DL.e_testK, DL.e_tru, DL.e_truB, DL.e_truN, DL.e_truL, DL.e_and, DL.e_or, DL.e_not, DL.e_if, DL.e_andV, DL.e_andK, DL.e_orV, DL.e_orK, DL.e_notV, DL.e_notK, DL.e_add, DL.e_addS, DL.e_addT, DL.e_addL, DL.e_sub, DL.e_mul, DL.e_mulL, DL.e_mulT, DL.e_fdiv, DL.e_mod, DL.e_pow, DL.e_neg, DL.e_lt, DL.e_le, DL.e_gt, DL.e_ge, DL.e_eqI, DL.e_eqS, DL.e_neI, DL.e_neS, DL.e_isN, DL.e_isntN, DL.e_isB, DL.e_isntB, DL.e_atK, DL.e_ixT, DL.e_ixL, DL.e_ixK, DL.e_ixDT, DL.e_setK, DL.e_setDT, DL.e_setSome, DL.e_setL, DL.e_delK, DL.e_delT, DL.e_inT, DL.e_inK, DL.e_lenL, DL.e_lenT, DL.e_lenK, DL.e_lenDT, DL.e_lenS, DL.e_listL, DL.e_listO, DL.e_listT, DL.e_tupleL, DL.e_tupleT, DL.e_int, DL.e_lm0, DL.e_lm, DL.e_isL, DL.e_app, DL.e_pop, DL.e_popSome, DL.e_call, DL.e_newT, DL.e_newK, DL.e_disp, DL.e_prs0, DL.e_prsS, DL.f_for, DL.f_lc, DL.f_dc, DL.f_iseq, DL.f_seqT, DL.f_rng1, DL.f_rngK, DL.f_zip, DL.f_zipT, DL.f_yes, DL.f_par3, DL.f_par3K, DL.f_isi, DL.f_isiK, DL.f_fld, DL.f_mkE, DL.f_mk0, DL.f_slice, DL.f_nopart, DL.f_part, DL.f_partK, DL.f_slT, DL.f_lrg, DL.f_dispT, List.set_cons_zero, List.set_cons_succ, List.length_cons, List.length_nil, decide_eq_true_eq, Bool.not_eq_true, true_and, and_true, if_true, Bool.false_eq_true, if_false, Nat.reduceAdd, Nat.reduceLT, Nat.reduceLeDiff, e_ixK put_same, e_setK put_same, pen3, pun3, penk, penl, put_put]
        refine ⟨by decide, hN _ _ ⟨_, at_ + 1, x - 10 ^ 18, fold, rfl, fun b hb => (put_ne hb).trans (C1 b hb), put_same, by omega, ?_, f0, f1⟩⟩
        have e : (10 : Int) ^ (18 : Int).toNat = 10 ^ 18 := rfl
        rw [e] at hx
        omega
      · simp only [DL.e_next, DL.e_break, DL.e_cont, DL.e_drop, DL.e_ret, DL.e_retN, DL.e_ifS, DL.e_asg, DL.e_par, DL.e_par2, DL.e_del, DL.e_gname, DL.e_gsub, DL.e_gtup, DL.e_gcons, DL.e_gnil, DL.e_var0, DL.e_varS, DL.e_con, DL.e_top2, DL.e_top1, DL.e_cb, DL.e_nil, DL.e_cons, DL.e_tup, DL.e_lst, DL.e_test, DL.e_testK, DL.e_tru, DL.e_truB, DL.e_truN, DL.e_truL, DL.e_and, DL.e_or, DL.e_not, DL.e_if, DL.e_andV, DL.e_andK, DL.e_orV, DL.e_orK, DL.e_notV, DL.e_notK, DL.e_add, DL.e_addS, DL.e_addT, DL.e_addL, DL.e_sub, DL.e_mul, DL.e_mulL, DL.e_mulT, DL.e_fdiv, DL.e_mod, DL.e_pow, DL.e_neg, DL.e_lt, DL.e_le, DL.e_gt, DL.e_ge, DL.e_eqI, DL.e_eqS, DL.e_neI, DL.e_neS, DL.e_isN, DL.e_isntN, DL.e_isB, DL.e_isntB, DL.e_atK, DL.e_ixT, DL.e_ixL, DL.e_ixK, DL.e_ixDT, DL.e_setK, DL.e_setDT, DL.e_setSome, DL.e_setL, DL.e_delK, DL.e_delT, DL.e_inT, DL.e_inK, DL.e_lenL, DL.e_lenT, DL.e_lenK, DL.e_lenDT, DL.e_lenS, DL.e_listL, DL.e_listO, DL.e_listT, DL.e_tupleL, DL.e_tupleT, DL.e_int, DL.e_lm0, DL.e_lm, DL.e_isL, DL.e_app, DL.e_pop, DL.e_popSome, DL.e_call, DL.e_newT, DL.e_newK, DL.e_disp, DL.e_prs0, DL.e_prsS, DL.f_for, DL.f_lc, DL.f_dc, DL.f_iseq, DL.f_seqT, DL.f_rng1, DL.f_rngK, DL.f_zip, DL.f_zipT, DL.f_yes, DL.f_par3, DL.f_par3K, DL.f_isi, DL.f_isiK, DL.f_fld, DL.f_mkE, DL.f_mk0, DL.f_slice, DL.f_nopart, DL.f_part, DL.f_partK, DL.f_slT, DL.f_lrg, DL.f_dispT, List.set_cons_zero, List.set_cons_succ, List.length_cons, List.length_nil, decide_eq_true_eq, Bool.not_eq_true, true_and, and_true, if_true, Bool.false_eq_true, if_false, Nat.reduceAdd, Nat.reduceLT, Nat.reduceLeDiff, e_ixK put_same, e_setK put_same, pen5, pun5, penk, penl, put_put]
        refine ⟨.inl ⟨by omega, by omega⟩, by decide, hN _ _ ⟨_, at_ + 1, digits, (fold * 71993 + x) % 2147483587, rfl, fun b hb => (put_ne hb).trans (C1 b hb), put_same, by omega, d0, Int.emod_nonneg _ (by decide), ?_⟩⟩
        have := Int.emod_lt_of_pos (fold * 71993 + x) (show (0 : Int) < 2147483587 by decide)
        omega
    · exact hN _ _ ⟨_, _, _, _, rfl, C1, hM1, a0, d0, f0, f1⟩
  rintro ρ M2 ⟨cl, a, d, f, rfl, C2, hM2, a2, d2, f2, g2⟩
  have hc2 : M2 c = some (.lst (ns.map D.int)) := by rw [C2 c hpc]; exact hc
  refine seq_cut (fun ρ M' => ρ = [some (.ref p), some (.int many), cl, none, none] ∧ M' = M2) (fun N hN => ?_) ?_
  · simp only [DL.e_next, DL.e_break, DL.e_cont, DL.e_drop, DL.e_ret, DL.e_retN, DL.e_ifS, DL.e_asg, DL.e_par, DL.e_par2, DL.e_del, DL.e_gname, DL.e_gsub, DL.e_gtup, DL.e_gcons, DL.e_gnil, DL.e_var0, DL.e_varS, DL.e_con, DL.e_top2, DL.e_top1, DL.e_cb, DL.e_nil, DL.e_cons, DL.e_tup, DL.e_lst, DL.e_test, DL.e_testK, DL.e_tru, DL.e_truB, DL.e_truN, DL.e_truL, DL.e_and, DL.e_or, DL.e_not, DL.e_if, DL.e_andV, DL.e_andK, DL.e_orV, DL.e_orK, DL.e_notV, DL.e_notK, DL.e_add, DL.e_addS, DL.e_addT, DL.e_addL, DL.e_sub, DL.e_mul, DL.e_mulL, DL.e_mulT, DL.e_fdiv, DL.e_mod, DL.e_pow, DL.e_neg, DL.e_lt, DL.e_le, DL.e_gt, DL.e_ge, DL.e_eqI, DL.e_eqS, DL.e_neI, DL.e_neS, DL.e_isN, DL.e_isntN, DL.e_isB, DL.e_isntB, DL.e_atK, DL.e_ixT, DL.e_ixL, DL.e_ixK, DL.e_ixDT, DL.e_setK, DL.e_setDT, DL.e_setSome, DL.e_setL, DL.e_delK, DL.e_delT, DL.e_inT, DL.e_inK, DL.e_lenL, DL.e_lenT, DL.e_lenK, DL.e_lenDT, DL.e_lenS, DL.e_listL, DL.e_listO, DL.e_listT, DL.e_tupleL, DL.e_tupleT, DL.e_int, DL.e_lm0, DL.e_lm, DL.e_isL, DL.e_app, DL.e_pop, DL.e_popSome, DL.e_call, DL.e_newT, DL.e_newK, DL.e_disp, DL.e_prs0, DL.e_prsS, DL.f_for, DL.f_lc, DL.f_dc, DL.f_iseq, DL.f_seqT, DL.f_rng1, DL.f_rngK, DL.f_zip, DL.f_zipT, DL.f_yes, DL.f_par3, DL.f_par3K, DL.f_isi, DL.f_isiK, DL.f_fld, DL.f_mkE, DL.f_mk0, DL.f_slice, DL.f_nopart, DL.f_part, DL.f_partK, DL.f_slT, DL.f_lrg, DL.f_dispT, List.set_cons_zero, List.set_cons_succ, List.length_cons, List.length_nil, decide_eq_true_eq, Bool.not_eq_true, true_and, and_true, if_true, Bool.false_eq_true, if_false, Nat.reduceAdd, Nat.reduceLT, Nat.reduceLeDiff, e_ixK hM2, pen3, penk, penl]
    refine ite2 (fun hd => ?_) (fun hd => hN _ _ ⟨rfl, rfl⟩)
    rw [e_seq]
    simp only [DL.e_next, DL.e_break, DL.e_cont, DL.e_drop, DL.e_ret, DL.e_retN, DL.e_ifS, DL.e_asg, DL.e_par, DL.e_par2, DL.e_del, DL.e_gname, DL.e_gsub, DL.e_gtup, DL.e_gcons, DL.e_gnil, DL.e_var0, DL.e_varS, DL.e_con, DL.e_top2, DL.e_top1, DL.e_cb, DL.e_nil, DL.e_cons, DL.e_tup, DL.e_lst, DL.e_test, DL.e_testK, DL.e_tru, DL.e_truB, DL.e_truN, DL.e_truL, DL.e_and, DL.e_or, DL.e_not, DL.e_if, DL.e_andV, DL.e_andK, DL.e_orV, DL.e_orK, DL.e_notV, DL.e_notK, DL.e_add, DL.e_addS, DL.e_addT, DL.e_addL, DL.e_sub, DL.e_mul, DL.e_mulL, DL.e_mulT, DL.e_fdiv, DL.e_mod, DL.e_pow, DL.e_neg, DL.e_lt, DL.e_le, DL.e_gt, DL.e_ge, DL.e_eqI, DL.e_eqS, DL.e_neI, DL.e_neS, DL.e_isN, DL.e_isntN, DL.e_isB, DL.e_isntB, DL.e_atK, DL.e_ixT, DL.e_ixL, DL.e_ixK, DL.e_ixDT, DL.e_setK, DL.e_setDT, DL.e_setSome, DL.e_setL, DL.e_delK, DL.e_delT, DL.e_inT, DL.e_inK, DL.e_lenL, DL.e_lenT, DL.e_lenK, DL.e_lenDT, DL.e_lenS, DL.e_listL, DL.e_listO, DL.e_listT, DL.e_tupleL, DL.e_tupleT, DL.e_int, DL.e_lm0, DL.e_lm, DL.e_isL, DL.e_app, DL.e_pop, DL.e_popSome, DL.e_call, DL.e_newT, DL.e_newK, DL.e_disp, DL.e_prs0, DL.e_prsS, DL.f_for, DL.f_lc, DL.f_dc, DL.f_iseq, DL.f_seqT, DL.f_rng1, DL.f_rngK, DL.f_zip, DL.f_zipT, DL.f_yes, DL.f_par3, DL.f_par3K, DL.f_isi, DL.f_isiK, DL.f_fld, DL.f_mkE, DL.f_mk0, DL.f_slice, DL.f_nopart, DL.f_part, DL.f_partK, DL.f_slT, DL.f_lrg, DL.f_dispT, List.set_cons_zero, List.set_cons_succ, List.length_cons, List.length_nil, decide_eq_true_eq, Bool.not_eq_true, true_and, and_true, if_true, Bool.false_eq_true, if_false, Nat.reduceAdd, Nat.reduceLT, Nat.reduceLeDiff, e_ixK hM2, pen3, penk, penl]
    refine ⟨h0, ?_⟩
    rw [e_seq]
    simp only [DL.e_next, DL.e_break, DL.e_cont, DL.e_drop, DL.e_ret, DL.e_retN, DL.e_ifS, DL.e_asg, DL.e_par, DL.e_par2, DL.e_del, DL.e_gname, DL.e_gsub, DL.e_gtup, DL.e_gcons, DL.e_gnil, DL.e_var0, DL.e_varS, DL.e_con, DL.e_top2, DL.e_top1, DL.e_cb, DL.e_nil, DL.e_cons, DL.e_tup, DL.e_lst, DL.e_test, DL.e_testK, DL.e_tru, DL.e_truB, DL.e_truN, DL.e_truL, DL.e_and, DL.e_or, DL.e_not, DL.e_if, DL.e_andV, DL.e_andK, DL.e_orV, DL.e_orK, DL.e_notV, DL.e_notK, DL.e_add, DL.e_addS, DL.e_addT, DL.e_addL, DL.e_sub, DL.e_mul, DL.e_mulL, DL.e_mulT, DL.e_fdiv, DL.e_mod, DL.e_pow, DL.e_neg, DL.e_lt, DL.e_le, DL.e_gt, DL.e_ge, DL.e_eqI, DL.e_eqS, DL.e_neI, DL.e_neS, DL.e_isN, DL.e_isntN, DL.e_isB, DL.e_isntB, DL.e_atK, DL.e_ixT, DL.e_ixL, DL.e_ixK, DL.e_ixDT, DL.e_setK, DL.e_setDT, DL.e_setSome, DL.e_setL, DL.e_delK, DL.e_delT, DL.e_inT, DL.e_inK, DL.e_lenL, DL.e_lenT, DL.e_lenK, DL.e_lenDT, DL.e_lenS, DL.e_listL, DL.e_listO, DL.e_listT, DL.e_tupleL, DL.e_tupleT, DL.e_int, DL.e_lm0, DL.e_lm, DL.e_isL, DL.e_app, DL.e_pop, DL.e_popSome, DL.e_call, DL.e_newT, DL.e_newK, DL.e_disp, DL.e_prs0, DL.e_prsS, DL.f_for, DL.f_lc, DL.f_dc, DL.f_iseq, DL.f_seqT, DL.f_rng1, DL.f_rngK, DL.f_zip, DL.f_zipT, DL.f_yes, DL.f_par3, DL.f_par3K, DL.f_isi, DL.f_isiK, DL.f_fld, DL.f_mkE, DL.f_mk0, DL.f_slice, DL.f_nopart, DL.f_part, DL.f_partK, DL.f_slT, DL.f_lrg, DL.f_dispT, List.set_cons_zero, List.set_cons_succ, List.length_cons, List.length_nil, decide_eq_true_eq, Bool.not_eq_true, true_and, and_true, if_true, Bool.false_eq_true, if_false, Nat.reduceAdd, Nat.reduceLT, Nat.reduceLeDiff, e_ixK hM2, e_setK hM2, pen3, pun3, penk, penl]
    refine ⟨⟨h0, by omega⟩, Down.of (k _ _ (Int.emod_nonneg _ (by omega)) (Int.emod_lt_of_pos _ h0) (fun b hb => (put_ne hb).trans (C2 b hb)) ⟨⟨a, d / many, count + 1, f, put_same, a2, Int.ediv_nonneg d2 (by omega), by omega, by omega, f2, g2⟩, ?_⟩)⟩
    rw [put_ne hpc]
    exact hc2
  rintro ρ M3 ⟨rfl, rfl⟩
  rw [e_seq]
  simp only [DL.e_next, DL.e_break, DL.e_cont, DL.e_drop, DL.e_ret, DL.e_retN, DL.e_ifS, DL.e_asg, DL.e_par, DL.e_par2, DL.e_del, DL.e_gname, DL.e_gsub, DL.e_gtup, DL.e_gcons, DL.e_gnil, DL.e_var0, DL.e_varS, DL.e_con, DL.e_top2, DL.e_top1, DL.e_cb, DL.e_nil, DL.e_cons, DL.e_tup, DL.e_lst, DL.e_test, DL.e_testK, DL.e_tru, DL.e_truB, DL.e_truN, DL.e_truL, DL.e_and, DL.e_or, DL.e_not, DL.e_if, DL.e_andV, DL.e_andK, DL.e_orV, DL.e_orK, DL.e_notV, DL.e_notK, DL.e_add, DL.e_addS, DL.e_addT, DL.e_addL, DL.e_sub, DL.e_mul, DL.e_mulL, DL.e_mulT, DL.e_fdiv, DL.e_mod, DL.e_pow, DL.e_neg, DL.e_lt, DL.e_le, DL.e_gt, DL.e_ge, DL.e_eqI, DL.e_eqS, DL.e_neI, DL.e_neS, DL.e_isN, DL.e_isntN, DL.e_isB, DL.e_isntB, DL.e_atK, DL.e_ixT, DL.e_ixL, DL.e_ixK, DL.e_ixDT, DL.e_setK, DL.e_setDT, DL.e_setSome, DL.e_setL, DL.e_delK, DL.e_delT, DL.e_inT, DL.e_inK, DL.e_lenL, DL.e_lenT, DL.e_lenK, DL.e_lenDT, DL.e_lenS, DL.e_listL, DL.e_listO, DL.e_listT, DL.e_tupleL, DL.e_tupleT, DL.e_int, DL.e_lm0, DL.e_lm, DL.e_isL, DL.e_app, DL.e_pop, DL.e_popSome, DL.e_call, DL.e_newT, DL.e_newK, DL.e_disp, DL.e_prs0, DL.e_prsS, DL.f_for, DL.f_lc, DL.f_dc, DL.f_iseq, DL.f_seqT, DL.f_rng1, DL.f_rngK, DL.f_zip, DL.f_zipT, DL.f_yes, DL.f_par3, DL.f_par3K, DL.f_isi, DL.f_isiK, DL.f_fld, DL.f_mkE, DL.f_mk0, DL.f_slice, DL.f_nopart, DL.f_part, DL.f_partK, DL.f_slT, DL.f_lrg, DL.f_dispT, List.set_cons_zero, List.set_cons_succ, List.length_cons, List.length_nil, decide_eq_true_eq, Bool.not_eq_true, true_and, and_true, if_true, Bool.false_eq_true, if_false, Nat.reduceAdd, Nat.reduceLT, Nat.reduceLeDiff, e_ixK hM2, pen4, pen5, penk, penl]
  refine ⟨.inl ⟨by omega, by omega⟩, ⟨by decide, by decide, ?_⟩, by decide, ⟨by decide, by decide⟩, h0, Down.of (k _ _ (Int.emod_nonneg _ (by omega)) (Int.emod_lt_of_pos _ h0) C2 ⟨⟨a, d, count + 1, f, hM2, a2, d2, by omega, by omega, f2, g2⟩, hc2⟩)⟩
  omega
/-- the script: locked, or an object of the module -/
def spPen : SpD := fun ds M Q _ => ∃ a ns, ds = [.ref a] ∧ M a = some (.ro (ns.map D.int)) ∧ ns.length < 2 ^ 20 ∧ ∀ p c M', M p = none → M c = none → (∀ b o, M b = some o → M' b = some o) → Pen M' p c ns 0 → Q (.ref p) M'
theorem ok_pen (Z : Free mg) (S : Stands K mg "_law_pen" s_law_pen ["script"]) : FnD P w K mg base 1 "_law_pen" ["script"] spPen := by
  obtain ⟨f, fd, F, hm, hb⟩ := S
  refine FnD.of F sc_law_pen hm hb (fun ds M Q E h => ?_) fun cdv A outer s0 H0 E E0 hr tk hp => ?_
  · obtain ⟨a, ns, rfl, _⟩ := h; rfl
  have nd := sc_law_pen.nd
  refine ⟨_, (pssd_cons (sv 1 nd ped_int)
  (pssd_cons (psd_for hp rfl (pid_seq (v 0)) (gn 2 nd) (pssd_one (sv 1 nd (ped_op op_modD (ped_callTy call_intD rfl Z.int (by decide +kernel) (pad_cons (ped_op op_addD (ped_op op_mulD (v 1) ped_int) (v 2)) pad_nil)) ped_int))))
  (pssd_one (psd_ret (ped_disp (PPsd.cons ped_str (ped_callTy call_listD rfl Z.list (by decide +kernel) (pad_cons (v 0) pad_nil)) (PPsd.cons ped_str ped_int (PPsd.cons ped_str ped_int (PPsd.cons ped_str ped_int (PPsd.cons ped_str (v 1) PPsd.nil))))) (by rfl) (by rfl) (fun z => by cases z) (by decide)))))), fun ds M Q h => ?_⟩
  obtain ⟨a, ns, rfl, ha, hn, k⟩ := h
  rw [e_seq]
  show tasg _ _ _ [some (.ref a), none, none] M
  simp only [DL.e_next, DL.e_break, DL.e_cont, DL.e_drop, DL.e_ret, DL.e_retN, DL.e_ifS, DL.e_asg, DL.e_par, DL.e_par2, DL.e_del, DL.e_gname, DL.e_gsub, DL.e_gtup, DL.e_gcons, DL.e_gnil, DL.e_var0, DL.e_varS, DL.e_con, DL.e_top2, DL.e_top1, DL.e_cb, DL.e_nil, DL.e_cons, DL.e_tup, DL.e_lst, DL.e_test, DL.e_testK, DL.e_tru, DL.e_truB, DL.e_truN, DL.e_truL, DL.e_and, DL.e_or, DL.e_not, DL.e_if, DL.e_andV, DL.e_andK, DL.e_orV, DL.e_orK, DL.e_notV, DL.e_notK, DL.e_add, DL.e_addS, DL.e_addT, DL.e_addL, DL.e_sub, DL.e_mul, DL.e_mulL, DL.e_mulT, DL.e_fdiv, DL.e_mod, DL.e_pow, DL.e_neg, DL.e_lt, DL.e_le, DL.e_gt, DL.e_ge, DL.e_eqI, DL.e_eqS, DL.e_neI, DL.e_neS, DL.e_isN, DL.e_isntN, DL.e_isB, DL.e_isntB, DL.e_atK, DL.e_ixT, DL.e_ixL, DL.e_ixK, DL.e_ixDT, DL.e_setK, DL.e_setDT, DL.e_setSome, DL.e_setL, DL.e_delK, DL.e_delT, DL.e_inT, DL.e_inK, DL.e_lenL, DL.e_lenT, DL.e_lenK, DL.e_lenDT, DL.e_lenS, DL.e_listL, DL.e_listO, DL.e_listT, DL.e_tupleL, DL.e_tupleT, DL.e_int, DL.e_lm0, DL.e_lm, DL.e_isL, DL.e_app, DL.e_pop, DL.e_popSome, DL.e_call, DL.e_newT, DL.e_newK, DL.e_disp, DL.e_prs0, DL.e_prsS, DL.f_for, DL.f_lc, DL.f_dc, DL.f_iseq, DL.f_seqT, DL.f_rng1, DL.f_rngK, DL.f_zip, DL.f_zipT, DL.f_yes, DL.f_par3, DL.f_par3K, DL.f_isi, DL.f_isiK, DL.f_fld, DL.f_mkE, DL.f_mk0, DL.f_slice, DL.f_nopart, DL.f_part, DL.f_partK, DL.f_slT, DL.f_lrg, DL.f_dispT, List.set_cons_zero, List.set_cons_succ, List.length_cons, List.length_nil, decide_eq_true_eq, Bool.not_eq_true, true_and, and_true, if_true, Bool.false_eq_true, if_false, Nat.reduceAdd, Nat.reduceLT, Nat.reduceLeDiff]
  refine seq_cut (fun ρ M' => M' = M ∧ ∃ (f : Int) (cl : Option D), ρ = [some (.ref a), some (.int f), cl] ∧ 0 ≤ f ∧ f < 1000000007) (fun N hN => ?_) ?_
  · simp only [DL.e_next, DL.e_break, DL.e_cont, DL.e_drop, DL.e_ret, DL.e_retN, DL.e_ifS, DL.e_asg, DL.e_par, DL.e_par2, DL.e_del, DL.e_gname, DL.e_gsub, DL.e_gtup, DL.e_gcons, DL.e_gnil, DL.e_var0, DL.e_varS, DL.e_con, DL.e_top2, DL.e_top1, DL.e_cb, DL.e_nil, DL.e_cons, DL.e_tup, DL.e_lst, DL.e_test, DL.e_testK, DL.e_tru, DL.e_truB, DL.e_truN, DL.e_truL, DL.e_and, DL.e_or, DL.e_not, DL.e_if, DL.e_andV, DL.e_andK, DL.e_orV, DL.e_orK, DL.e_notV, DL.e_notK, DL.e_add, DL.e_addS, DL.e_addT, DL.e_addL, DL.e_sub, DL.e_mul, DL.e_mulL, DL.e_mulT, DL.e_fdiv, DL.e_mod, DL.e_pow, DL.e_neg, DL.e_lt, DL.e_le, DL.e_gt, DL.e_ge, DL.e_eqI, DL.e_eqS, DL.e_neI, DL.e_neS, DL.e_isN, DL.e_isntN, DL.e_isB, DL.e_isntB, DL.e_atK, DL.e_ixT, DL.e_ixL, DL.e_ixK, DL.e_ixDT, DL.e_setK, DL.e_setDT, DL.e_setSome, DL.e_setL, DL.e_delK, DL.e_delT, DL.e_inT, DL.e_inK, DL.e_lenL, DL.e_lenT, DL.e_lenK, DL.e_lenDT, DL.e_lenS, DL.e_listL, DL.e_listO, DL.e_listT, DL.e_tupleL, DL.e_tupleT, DL.e_int, DL.e_lm0, DL.e_lm, DL.e_isL, DL.e_app, DL.e_pop, DL.e_popSome, DL.e_call, DL.e_newT, DL.e_newK, DL.e_disp, DL.e_prs0, DL.e_prsS, DL.f_for, DL.f_lc, DL.f_dc, DL.f_iseq, DL.f_seqT, DL.f_rng1, DL.f_rngK, DL.f_zip, DL.f_zipT, DL.f_yes, DL.f_par3, DL.f_par3K, DL.f_isi, DL.f_isiK, DL.f_fld, DL.f_mkE, DL.f_mk0, DL.f_slice, DL.f_nopart, DL.f_part, DL.f_partK, DL.f_slT, DL.f_lrg, DL.f_dispT, List.set_cons_zero, List.set_cons_succ, List.length_cons, List.length_nil, decide_eq_true_eq, Bool.not_eq_true, true_and, and_true, if_true, Bool.false_eq_true, if_false, Nat.reduceAdd, Nat.reduceLT, Nat.reduceLeDiff, f_for, f_iseq, f_seqO ha]
    refine for_inv (fun _ ρ M' => M' = M ∧ ∃ (f : Int) (cl : Option D), ρ = [some (.ref a), some (.int f), cl] ∧ 0 ≤ f ∧ f < 1000000007) ⟨rfl, 0, none, rfl, by decide, by decide⟩ (fun i ρ M' _ w => ?_) (fun i x ρ M' e w => ?_) (fun ρ M' w => hN _ _ w)
    · rw [w.1]; exact rdL_ro ha
    · obtain ⟨rfl, f, cl, rfl, f0, f1⟩ := w
      rw [List.getElem?_map] at e
      obtain ⟨n, _, rfl⟩ := Option.map_eq_some_iff.mp e
      simp only [DL.e_next, DL.e_break, DL.e_cont, DL.e_drop, DL.e_ret, DL.e_retN, DL.e_ifS, DL.e_asg, DL.e_par, DL.e_par2, DL.e_del, DL.e_gname, DL.e_gsub, DL.e_gtup, DL.e_gcons, DL.e_gnil, DL.e_var0, DL.e_varS, DL.e_con, DL.e_top2, DL.e_top1, DL.e_cb, DL.e_nil, DL.e_cons, DL.e_tup, DL.e_lst, DL.e_test, DL.e_testK, DL.e_tru, DL.e_truB, DL.e_truN, DL.e_truL, DL.e_and, DL.e_or, DL.e_not, DL.e_if, DL.e_andV, DL.e_andK, DL.e_orV, DL.e_orK, DL.e_notV, DL.e_notK, DL.e_add, DL.e_addS, DL.e_addT, DL.e_addL, DL.e_sub, DL.e_mul, DL.e_mulL, DL.e_mulT, DL.e_fdiv, DL.e_mod, DL.e_pow, DL.e_neg, DL.e_lt, DL.e_le, DL.e_gt, DL.e_ge, DL.e_eqI, DL.e_eqS, DL.e_neI, DL.e_neS, DL.e_isN, DL.e_isntN, DL.e_isB, DL.e_isntB, DL.e_atK, DL.e_ixT, DL.e_ixL, DL.e_ixK, DL.e_ixDT, DL.e_setK, DL.e_setDT, DL.e_setSome, DL.e_setL, DL.e_delK, DL.e_delT, DL.e_inT, DL.e_inK, DL.e_lenL, DL.e_lenT, DL.e_lenK, DL.e_lenDT, DL.e_lenS, DL.e_listL, DL.e_listO, DL.e_listT, DL.e_tupleL, DL.e_tupleT, DL.e_int, DL.e_lm0, DL.e_lm, DL.e_isL, DL.e_app, DL.e_pop, DL.e_popSome, DL.e_call, DL.e_newT, DL.e_newK, DL.e_disp, DL.e_prs0, DL.e_prsS, DL.f_for, DL.f_lc, DL.f_dc, DL.f_iseq, DL.f_seqT, DL.f_rng1, DL.f_rngK, DL.f_zip, DL.f_zipT, DL.f_yes, DL.f_par3, DL.f_par3K, DL.f_isi, DL.f_isiK, DL.f_fld, DL.f_mkE, DL.f_mk0, DL.f_slice, DL.f_nopart, DL.f_part, DL.f_partK, DL.f_slT, DL.f_lrg, DL.f_dispT, List.set_cons_zero, List.set_cons_succ, List.length_cons, List.length_nil, decide_eq_true_eq, Bool.not_eq_true, true_and, and_true, if_true, Bool.false_eq_true, if_false, Nat.reduceAdd, Nat.reduceLT, Nat.reduceLeDiff]
      exact ⟨.inl ⟨by omega, by omega⟩, by decide, _, _, rfl, Int.emod_nonneg _ (by decide), Int.emod_lt_of_pos _ (by decide)⟩
  rintro ρ M1 ⟨rfl, f, cl, rfl, f0, f1⟩
  simp only [DL.e_next, DL.e_break, DL.e_cont, DL.e_drop, DL.e_ret, DL.e_retN, DL.e_ifS, DL.e_asg, DL.e_par, DL.e_par2, DL.e_del, DL.e_gname, DL.e_gsub, DL.e_gtup, DL.e_gcons, DL.e_gnil, DL.e_var0, DL.e_varS, DL.e_con, DL.e_top2, DL.e_top1, DL.e_cb, DL.e_nil, DL.e_cons, DL.e_tup, DL.e_lst, DL.e_test, DL.e_testK, DL.e_tru, DL.e_truB, DL.e_truN, DL.e_truL, DL.e_and, DL.e_or, DL.e_not, DL.e_if, DL.e_andV, DL.e_andK, DL.e_orV, DL.e_orK, DL.e_notV, DL.e_notK, DL.e_add, DL.e_addS, DL.e_addT, DL.e_addL, DL.e_sub, DL.e_mul, DL.e_mulL, DL.e_mulT, DL.e_fdiv, DL.e_mod, DL.e_pow, DL.e_neg, DL.e_lt, DL.e_le, DL.e_gt, DL.e_ge, DL.e_eqI, DL.e_eqS, DL.e_neI, DL.e_neS, DL.e_isN, DL.e_isntN, DL.e_isB, DL.e_isntB, DL.e_atK, DL.e_ixT, DL.e_ixL, DL.e_ixK, DL.e_ixDT, DL.e_setK, DL.e_setDT, DL.e_setSome, DL.e_setL, DL.e_delK, DL.e_delT, DL.e_inT, DL.e_inK, DL.e_lenL, DL.e_lenT, DL.e_lenK, DL.e_lenDT, DL.e_lenS, DL.e_listL, DL.e_listO, DL.e_listT, DL.e_tupleL, DL.e_tupleT, DL.e_int, DL.e_lm0, DL.e_lm, DL.e_isL, DL.e_app, DL.e_pop, DL.e_popSome, DL.e_call, DL.e_newT, DL.e_newK, DL.e_disp, DL.e_prs0, DL.e_prsS, DL.f_for, DL.f_lc, DL.f_dc, DL.f_iseq, DL.f_seqT, DL.f_rng1, DL.f_rngK, DL.f_zip, DL.f_zipT, DL.f_yes, DL.f_par3, DL.f_par3K, DL.f_isi, DL.f_isiK, DL.f_fld, DL.f_mkE, DL.f_mk0, DL.f_slice, DL.f_nopart, DL.f_part, DL.f_partK, DL.f_slT, DL.f_lrg, DL.f_dispT, List.set_cons_zero, List.set_cons_succ, List.length_cons, List.length_nil, decide_eq_true_eq, Bool.not_eq_true, true_and, and_true, if_true, Bool.false_eq_true, if_false, Nat.reduceAdd, Nat.reduceLT, Nat.reduceLeDiff, e_disp, e_prsS, e_prs0]
  intro p hp1
  have ha1 : put M1 p (.dK []) a = some (.ro (ns.map D.int)) := by rw [put_ne (ne_none ha hp1)]; exact ha
  simp only [DL.e_next, DL.e_break, DL.e_cont, DL.e_drop, DL.e_ret, DL.e_retN, DL.e_ifS, DL.e_asg, DL.e_par, DL.e_par2, DL.e_del, DL.e_gname, DL.e_gsub, DL.e_gtup, DL.e_gcons, DL.e_gnil, DL.e_var0, DL.e_varS, DL.e_con, DL.e_top2, DL.e_top1, DL.e_cb, DL.e_nil, DL.e_cons, DL.e_tup, DL.e_lst, DL.e_test, DL.e_testK, DL.e_tru, DL.e_truB, DL.e_truN, DL.e_truL, DL.e_and, DL.e_or, DL.e_not, DL.e_if, DL.e_andV, DL.e_andK, DL.e_orV, DL.e_orK, DL.e_notV, DL.e_notK, DL.e_add, DL.e_addS, DL.e_addT, DL.e_addL, DL.e_sub, DL.e_mul, DL.e_mulL, DL.e_mulT, DL.e_fdiv, DL.e_mod, DL.e_pow, DL.e_neg, DL.e_lt, DL.e_le, DL.e_gt, DL.e_ge, DL.e_eqI, DL.e_eqS, DL.e_neI, DL.e_neS, DL.e_isN, DL.e_isntN, DL.e_isB, DL.e_isntB, DL.e_atK, DL.e_ixT, DL.e_ixL, DL.e_ixK, DL.e_ixDT, DL.e_setK, DL.e_setDT, DL.e_setSome, DL.e_setL, DL.e_delK, DL.e_delT, DL.e_inT, DL.e_inK, DL.e_lenL, DL.e_lenT, DL.e_lenK, DL.e_lenDT, DL.e_lenS, DL.e_listL, DL.e_listO, DL.e_listT, DL.e_tupleL, DL.e_tupleT, DL.e_int, DL.e_lm0, DL.e_lm, DL.e_isL, DL.e_app, DL.e_pop, DL.e_popSome, DL.e_call, DL.e_newT, DL.e_newK, DL.e_disp, DL.e_prs0, DL.e_prsS, DL.f_for, DL.f_lc, DL.f_dc, DL.f_iseq, DL.f_seqT, DL.f_rng1, DL.f_rngK, DL.f_zip, DL.f_zipT, DL.f_yes, DL.f_par3, DL.f_par3K, DL.f_isi, DL.f_isiK, DL.f_fld, DL.f_mkE, DL.f_mk0, DL.f_slice, DL.f_nopart, DL.f_part, DL.f_partK, DL.f_slT, DL.f_lrg, DL.f_dispT, List.set_cons_zero, List.set_cons_succ, List.length_cons, List.length_nil, decide_eq_true_eq, Bool.not_eq_true, true_and, and_true, if_true, Bool.false_eq_true, if_false, Nat.reduceAdd, Nat.reduceLT, Nat.reduceLeDiff, e_listO ha1]
  intro c hc
  have ne : p ≠ c := ne_none put_same hc
  have hc1 : M1 c = none := by rw [put_ne (Ne.symm ne)] at hc; exact hc
  refine ⟨by rw [put_ne ne, put_same], rfl, Down.of (k p c _ hp1 hc1 (fun b o e => ?_) ⟨⟨0, 0, 0, f, put_same, by decide, by decide, by decide, by decide, f0, by omega⟩, ?_⟩)⟩
  · rw [put_ne (ne_none e hp1), put_ne (ne_none e hc1), put_ne (ne_none e hp1)]
    exact e
  · rw [put_ne (Ne.symm ne), put_same]
def spPick : SpD := fun ds M Q _ => ∃ p c ns n some xs, ds = [.ref p, some] ∧ Pen M p c ns n ∧ n < 2 ^ 40 ∧ rdS M some = Option.some xs ∧ xs ≠ [] ∧ xs.length < 2 ^ 30 ∧ some ≠ .ref p ∧ ∀ x M', x ∈ xs → Chg p M M' → Pen M' p c ns (n + 1) → Q x M'
theorem ok_pick (Z : Free mg) (S : Stands K mg "_law_pick" s_law_pick ["pen", "some"]) (C_law_draw : FnD P w K mg base 1 "_law_draw" ["pen", "many"] spDraw) : FnD P w K mg base 2 "_law_pick" ["pen", "some"] spPick := by
  obtain ⟨f, fd, F, hm, hb⟩ := S
  refine FnD.of F sc_law_pick hm hb (fun ds M Q E h => ?_) fun cdv A outer s0 H0 E E0 hr tk hp => ?_
  · obtain ⟨p, c, ns, n, some, xs, rfl, _⟩ := h; rfl
  have nd := sc_law_pick.nd
  refine ⟨_, (pssd_one (psd_ret (ped_ix (u1 hr) (v 1) (ped_call C_law_draw (hr.mono (by decide)) rfl tk (pad_cons (v 0) (pad_cons (ped_callB call_lenD2 rfl Z.len PySem.boot_len (pad_cons (v 1) pad_nil)) pad_nil)))))), fun ds M Q h => ?_⟩
  obtain ⟨p, c, ns, n, some, xs, rfl, hpen, hn, hs, hx, hl, hne, k⟩ := h
  show tret _ _ [Option.some (.ref p), Option.some some] M
  simp only [DL.e_next, DL.e_break, DL.e_cont, DL.e_drop, DL.e_ret, DL.e_retN, DL.e_ifS, DL.e_asg, DL.e_par, DL.e_par2, DL.e_del, DL.e_gname, DL.e_gsub, DL.e_gtup, DL.e_gcons, DL.e_gnil, DL.e_var0, DL.e_varS, DL.e_con, DL.e_top2, DL.e_top1, DL.e_cb, DL.e_nil, DL.e_cons, DL.e_tup, DL.e_lst, DL.e_test, DL.e_testK, DL.e_tru, DL.e_truB, DL.e_truN, DL.e_truL, DL.e_and, DL.e_or, DL.e_not, DL.e_if, DL.e_andV, DL.e_andK, DL.e_orV, DL.e_orK, DL.e_notV, DL.e_notK, DL.e_add, DL.e_addS, DL.e_addT, DL.e_addL, DL.e_sub, DL.e_mul, DL.e_mulL, DL.e_mulT, DL.e_fdiv, DL.e_mod, DL.e_pow, DL.e_neg, DL.e_lt, DL.e_le, DL.e_gt, DL.e_ge, DL.e_eqI, DL.e_eqS, DL.e_neI, DL.e_neS, DL.e_isN, DL.e_isntN, DL.e_isB, DL.e_isntB, DL.e_atK, DL.e_ixT, DL.e_ixL, DL.e_ixK, DL.e_ixDT, DL.e_setK, DL.e_setDT, DL.e_setSome, DL.e_setL, DL.e_delK, DL.e_delT, DL.e_inT, DL.e_inK, DL.e_lenL, DL.e_lenT, DL.e_lenK, DL.e_lenDT, DL.e_lenS, DL.e_listL, DL.e_listO, DL.e_listT, DL.e_tupleL, DL.e_tupleT, DL.e_int, DL.e_lm0, DL.e_lm, DL.e_isL, DL.e_app, DL.e_pop, DL.e_popSome, DL.e_call, DL.e_newT, DL.e_newK, DL.e_disp, DL.e_prs0, DL.e_prsS, DL.f_for, DL.f_lc, DL.f_dc, DL.f_iseq, DL.f_seqT, DL.f_rng1, DL.f_rngK, DL.f_zip, DL.f_zipT, DL.f_yes, DL.f_par3, DL.f_par3K, DL.f_isi, DL.f_isiK, DL.f_fld, DL.f_mkE, DL.f_mk0, DL.f_slice, DL.f_nopart, DL.f_part, DL.f_partK, DL.f_slT, DL.f_lrg, DL.f_dispT, List.set_cons_zero, List.set_cons_succ, List.length_cons, List.length_nil, decide_eq_true_eq, Bool.not_eq_true, true_and, and_true, if_true, Bool.false_eq_true, if_false, Nat.reduceAdd, Nat.reduceLT, Nat.reduceLeDiff, g_len hs, e_call]
  have hx1 : 0 < xs.length := List.length_pos_iff.mpr hx
  refine ⟨p, c, ns, n, _, rfl, hpen, hn, by omega, by omega, fun r M' r0 r1 C P' => ?_⟩
  obtain ⟨x, xm, ex⟩ := atI_mem r0 r1
  have hs' : rdS M' some = Option.some xs := by
    rw [rdS_keep (fun b hb => C b (fun z => hne (by rw [hb, z])))]
    exact hs
  rw [g_ix hs' ex]
  exact Down.of (k x M' xm C P')
end
end Lw

end T_Pen

section T_LWA
set_option Elab.async false
set_option linter.all false
set_option maxRecDepth 100000
set_option maxHeartbeats 4000000
namespace Lw
open PySem PySem.Spec L2 DL
open PyProof.Rows hiding St
theorem cut_take {l : List D} {j : Nat} : DL.cutD l none (some (j : Int)) = l.take j := by
  unfold DL.cutD
  rw [HT.sIx_nat, HT.sIx_none, List.drop_zero, Nat.sub_zero]
  by_cases h : j ≤ l.length
  · rw [Nat.min_eq_left h]
  · rw [Nat.min_eq_right (by omega), List.take_of_length_le (Nat.le_refl _), List.take_of_length_le (by omega)]
theorem cut_drop {l : List D} {j : Nat} : DL.cutD l (some (j : Int)) none = l.drop j := by
  unfold DL.cutD
  rw [HT.sIx_nat, HT.sIx_none, List.take_of_length_le (by rw [List.length_drop]; exact Nat.le_refl _)]
  by_cases h : j ≤ l.length
  · rw [Nat.min_eq_left h]
  · rw [Nat.min_eq_right (by omega), List.drop_of_length_le (Nat.le_refl _), List.drop_of_length_le (by omega)]
theorem cut_init {l : List D} : DL.cutD l none (some (-1)) = l.dropLast := by
  unfold DL.cutD
  rw [HT.sIx_none, List.drop_zero, Nat.sub_zero, List.dropLast_eq_take]
  congr 1
  show (if (-1 : Int) < 0 then ((-1 : Int) + (l.length : Int)).toNat else min (-1 : Int).toNat l.length) = l.length - 1
  rw [if_pos (by decide)]
  omega
def keysK (x : D) (M1 : Mem) (R : List D → (Mem → Prop) → Mem → Prop) : Prop := match x with
  | .ref a => (match M1 a with
    | some (.fK o hv kvs) => R (kvs.map (·.1)) (fun M => M a = some (.fK o hv kvs)) M1
    | some (.fT o hv kvs) => R (kvs.map (·.1)) (fun M => M a = some (.fT o hv kvs)) M1
    | _ => False)
  | _ => False
theorem f_ikeys {te : TEd} {ρ : Envd} {M : Mem} {R : List D → (Mem → Prop) → Mem → Prop} : ikeys te ρ M R = te ρ M fun x M1 => keysK x M1 R := rfl
theorem f_keysT {M : Mem} {a : Addr} {o : Obj} {hv : List (List Key × V)} {kvs : List (D × D)} {R : List D → (Mem → Prop) → Mem → Prop} (h : M a = some (.fT o hv kvs)) : keysK (.ref a) M R = R (kvs.map (·.1)) (fun M => M a = some (.fT o hv kvs)) M := by
  simp only [keysK, h]
theorem isF_T {kvs : List (D × D)} {f : DO} (h : isF true kvs f) : ∃ o hv, f = .fT o hv kvs := by
  cases f with
  | fT o hv l => exact ⟨o, hv, by rw [h.2]⟩
  | fK o hv l => exact absurd h.1 (by decide)
  | _ => exact h.elim
theorem eqRR {a b : Addr} {M : Mem} {Q : VKd} : eqR (.ref a) (.ref b) M Q = eqD (.ref a) (.ref b) M fun c M1 => Q (.bl c) M1 := rfl
theorem neRR {a b : Addr} {M : Mem} {Q : VKd} : neR (.ref a) (.ref b) M Q = eqD (.ref a) (.ref b) M fun c M1 => Q (.bl (!c)) M1 := rfl
section
variable {P : Program} {w : World} {K : PySem.W.Frag} {mg : Str → Option Value} {base : Heap}
def spLPlus : SpD := fun ds M Q _ => ∃ xs ys, ds = [rowD xs, rowD ys] ∧ xs.length < sizeLine ∧ Q (rowD (plus xs ys)) M
theorem ok_law_plus (Z : Free mg) (S : Stands K mg "_law_plus" s_law_plus ["one", "two"]) : FnD P w K mg base 1 "_law_plus" ["one", "two"] spLPlus := by
  obtain ⟨f, fd, F, hm, hb⟩ := S
  refine FnD.of F sc_law_plus hm hb (fun ds M Q E h => ?_) fun cdv A outer s0 H0 E E0 hr tk hp => ?_
  · obtain ⟨xs, ys, rfl, _⟩ := h; rfl
  have nd := sc_law_plus.nd
  refine ⟨_, (pssd_one (psd_ret (ped_callTy call_tupleD rfl Z.tuple (by decide +kernel) (pad_cons (ped_lc rfl nd (pid_zip rfl Z.zip (pad_cons (v 0) (pad_cons (v 1) pad_nil))) (blkOk_by (own := [("a", 2), ("b", 3)]) rfl) (by decide) (fun _ _ _ _ _ => (pgd_tup (n := 2) rfl (pgsd_cons (gn 2 nd) (pgsd_cons (gn 3 nd) pgsd_nil)))) (fun _ _ _ _ _ => ptsd_nil) (fun _ _ _ _ _ => (ped_op op_addD (v 2) (v 3)))) pad_nil)))), fun ds M Q h => ?_⟩
  obtain ⟨xs, ys, rfl, hl, q⟩ := h
  show tret _ _ [some (rowD xs), some (rowD ys), none, none] M
  simp only [DL.e_next, DL.e_break, DL.e_cont, DL.e_drop, DL.e_ret, DL.e_retN, DL.e_ifS, DL.e_asg, DL.e_par, DL.e_par2, DL.e_del, DL.e_gname, DL.e_gsub, DL.e_gtup, DL.e_gcons, DL.e_gnil, DL.e_var0, DL.e_varS, DL.e_con, DL.e_top2, DL.e_top1, DL.e_cb, DL.e_nil, DL.e_cons, DL.e_tup, DL.e_lst, DL.e_test, DL.e_testK, DL.e_tru, DL.e_truB, DL.e_truN, DL.e_truL, DL.e_and, DL.e_or, DL.e_not, DL.e_if, DL.e_andV, DL.e_andK, DL.e_orV, DL.e_orK, DL.e_notV, DL.e_notK, DL.e_add, DL.e_addS, DL.e_addT, DL.e_addL, DL.e_sub, DL.e_mul, DL.e_mulL, DL.e_mulT, DL.e_fdiv, DL.e_mod, DL.e_pow, DL.e_neg, DL.e_lt, DL.e_le, DL.e_gt, DL.e_ge, DL.e_eqI, DL.e_eqS, DL.e_neI, DL.e_neS, DL.e_isN, DL.e_isntN, DL.e_isB, DL.e_isntB, DL.e_atK, DL.e_ixT, DL.e_ixL, DL.e_ixK, DL.e_ixDT, DL.e_setK, DL.e_setDT, DL.e_setSome, DL.e_setL, DL.e_delK, DL.e_delT, DL.e_inT, DL.e_inK, DL.e_lenL, DL.e_lenT, DL.e_lenK, DL.e_lenDT, DL.e_lenS, DL.e_listL, DL.e_listO, DL.e_listT, DL.e_tupleL, DL.e_tupleT, DL.e_int, DL.e_lm0, DL.e_lm, DL.e_isL, DL.e_app, DL.e_pop, DL.e_popSome, DL.e_call, DL.e_newT, DL.e_newK, DL.e_disp, DL.e_prs0, DL.e_prsS, DL.f_for, DL.f_lc, DL.f_dc, DL.f_iseq, DL.f_seqT, DL.f_rng1, DL.f_rngK, DL.f_zip, DL.f_zipT, DL.f_yes, DL.f_par3, DL.f_par3K, DL.f_isi, DL.f_isiK, DL.f_fld, DL.f_mkE, DL.f_mk0, DL.f_slice, DL.f_nopart, DL.f_part, DL.f_partK, DL.f_slT, DL.f_lrg, DL.f_dispT, List.set_cons_zero, List.set_cons_succ, List.length_cons, List.length_nil, decide_eq_true_eq, Bool.not_eq_true, true_and, and_true, if_true, Bool.false_eq_true, if_false, Nat.reduceAdd, Nat.reduceLT, Nat.reduceLeDiff, f_zip]
  show zipK [.tup (xs.map .int), .tup (ys.map .int)] M _
  rw [f_zipT]
  intro p hp
  refine lc_pure sumD hp ?_ (fun _ _ => trivial) (fun d hd M' acc k hM Ky Kn ky kn => ?_) fun M' k hM => ?_
  · rw [pairs_length, List.length_map]
    omega
  · obtain ⟨a, b, rfl⟩ := pairs_ints hd
    show gtup 2 _ (D.tup [.int a, .int b]) [some (rowD xs), some (rowD ys), none, none] M' _
    simp only [DL.e_next, DL.e_break, DL.e_cont, DL.e_drop, DL.e_ret, DL.e_retN, DL.e_ifS, DL.e_asg, DL.e_par, DL.e_par2, DL.e_del, DL.e_gname, DL.e_gsub, DL.e_gtup, DL.e_gcons, DL.e_gnil, DL.e_var0, DL.e_varS, DL.e_con, DL.e_top2, DL.e_top1, DL.e_cb, DL.e_nil, DL.e_cons, DL.e_tup, DL.e_lst, DL.e_test, DL.e_testK, DL.e_tru, DL.e_truB, DL.e_truN, DL.e_truL, DL.e_and, DL.e_or, DL.e_not, DL.e_if, DL.e_andV, DL.e_andK, DL.e_orV, DL.e_orK, DL.e_notV, DL.e_notK, DL.e_add, DL.e_addS, DL.e_addT, DL.e_addL, DL.e_sub, DL.e_mul, DL.e_mulL, DL.e_mulT, DL.e_fdiv, DL.e_mod, DL.e_pow, DL.e_neg, DL.e_lt, DL.e_le, DL.e_gt, DL.e_ge, DL.e_eqI, DL.e_eqS, DL.e_neI, DL.e_neS, DL.e_isN, DL.e_isntN, DL.e_isB, DL.e_isntB, DL.e_atK, DL.e_ixT, DL.e_ixL, DL.e_ixK, DL.e_ixDT, DL.e_setK, DL.e_setDT, DL.e_setSome, DL.e_setL, DL.e_delK, DL.e_delT, DL.e_inT, DL.e_inK, DL.e_lenL, DL.e_lenT, DL.e_lenK, DL.e_lenDT, DL.e_lenS, DL.e_listL, DL.e_listO, DL.e_listT, DL.e_tupleL, DL.e_tupleT, DL.e_int, DL.e_lm0, DL.e_lm, DL.e_isL, DL.e_app, DL.e_pop, DL.e_popSome, DL.e_call, DL.e_newT, DL.e_newK, DL.e_disp, DL.e_prs0, DL.e_prsS, DL.f_for, DL.f_lc, DL.f_dc, DL.f_iseq, DL.f_seqT, DL.f_rng1, DL.f_rngK, DL.f_zip, DL.f_zipT, DL.f_yes, DL.f_par3, DL.f_par3K, DL.f_isi, DL.f_isiK, DL.f_fld, DL.f_mkE, DL.f_mk0, DL.f_slice, DL.f_nopart, DL.f_part, DL.f_partK, DL.f_slT, DL.f_lrg, DL.f_dispT, List.set_cons_zero, List.set_cons_succ, List.length_cons, List.length_nil, decide_eq_true_eq, Bool.not_eq_true, true_and, and_true, if_true, Bool.false_eq_true, if_false, Nat.reduceAdd, Nat.reduceLT, Nat.reduceLeDiff]
    exact ky M' _ rfl .refl
  · rw [sumD_pairs] at hM
    show tupleR [.ref p] M' _
    simp only [tupleR, rdS, rdL_lst hM]
    exact ⟨M, k, q⟩
def spLAround : SpD := fun ds M Q _ => ∃ xs, ds = [rowD xs] ∧ 2 ≤ xs.length ∧ xs.length ≤ 4 ∧ ∀ p M', Keep M M' → M p = none → M' p = some (.lst ((nbrs xs).map rowD)) → Q (.ref p) M'
theorem bump_eq {xs : Cel} {i : Nat} {d : Int} (hi : i < xs.length) : D.tup ((xs.map D.int).take i ++ [D.int (xs[i] + d)] ++ (xs.map D.int).drop (i + 1)) = rowD (bmp xs i d) := by
  have e : xs.getD i 0 = xs[i] := by
    rw [List.getD_eq_getElem?_getD, List.getElem?_eq_getElem hi]
    rfl
  simp only [rowD, bmp, e, List.map_append, List.map_take, List.map_cons, List.map_drop, List.append_assoc, List.singleton_append]
theorem fresh_of {M M' : Mem} {p : Addr} (k : Keep M M') (h : M' p = none) : M p = none := by
  cases e : M p with
  | none => rfl
  | some o => rw [k p o e] at h; cases h
def bumpF (xs : Cel) (i : Nat) : D → Option D
  | .int d => some (rowD (bmp xs i d))
  | _ => none
theorem ok_law_around (Z : Free mg) (S : Stands K mg "_law_around" s_law_around ["cell"]) : FnD P w K mg base 2 "_law_around" ["cell"] spLAround := by
  obtain ⟨f, fd, F, hm, hb⟩ := S
  refine FnD.of F sc_law_around hm hb (fun ds M Q E h => ?_) fun cdv A outer s0 H0 E E0 hr tk hp => ?_
  · obtain ⟨xs, rfl, _⟩ := h; rfl
  have nd := sc_law_around.nd
  refine ⟨_, (pssd_cons (sv 1 nd (ped_lst pad_nil))
  (pssd_cons (psd_for hp rfl (pid_range1 rfl Z.range (pad_cons (ped_callB call_lenD2 rfl Z.len PySem.boot_len (pad_cons (v 0) pad_nil)) pad_nil)) (gn 2 nd) (pssd_one (sv 1 nd (ped_op op_addD (v 1) (ped_lc rfl nd (pid_seq (ped_lst (pad_cons (ped_un un_negD ped_int) (pad_cons ped_int pad_nil)))) (blkOk_by (own := [("by", 3)]) rfl) (by decide) (fun _ _ _ _ _ => (gn 3 nd)) (fun _ _ _ _ _ => ptsd_nil) (fun _ _ _ _ _ => (ped_op op_addD (ped_op op_addD (ped_slice (v 0) pod_none (pod_some (v 2))) (ped_tup (pad_cons (ped_op op_addD (ped_ix (u1 hr) (v 0) (v 2)) (v 3)) pad_nil))) (ped_slice (v 0) (pod_some (ped_op op_addD (v 2) ped_int)) pod_none))))))))
  (pssd_one (psd_ret (ped_callB (call_sortedAny rfl hr) rfl Z.sorted (by decide +kernel) (pad_cons (v 1) pad_nil)))))), fun ds M Q h => ?_⟩
  obtain ⟨xs, rfl, h0, h1, q⟩ := h
  show tseq _ _ _ [some (rowD xs), none, none, none] M
  refine seq_cut (fun ρ M' => ∃ pf, ρ = [some (rowD xs), some (.ref pf), none, none] ∧ Keep M M' ∧ M' pf = some (.lst [])) (fun N hN => ?_) ?_
  · simp only [DL.e_next, DL.e_break, DL.e_cont, DL.e_drop, DL.e_ret, DL.e_retN, DL.e_ifS, DL.e_asg, DL.e_par, DL.e_par2, DL.e_del, DL.e_gname, DL.e_gsub, DL.e_gtup, DL.e_gcons, DL.e_gnil, DL.e_var0, DL.e_varS, DL.e_con, DL.e_top2, DL.e_top1, DL.e_cb, DL.e_nil, DL.e_cons, DL.e_tup, DL.e_lst, DL.e_test, DL.e_testK, DL.e_tru, DL.e_truB, DL.e_truN, DL.e_truL, DL.e_and, DL.e_or, DL.e_not, DL.e_if, DL.e_andV, DL.e_andK, DL.e_orV, DL.e_orK, DL.e_notV, DL.e_notK, DL.e_add, DL.e_addS, DL.e_addT, DL.e_addL, DL.e_sub, DL.e_mul, DL.e_mulL, DL.e_mulT, DL.e_fdiv, DL.e_mod, DL.e_pow, DL.e_neg, DL.e_lt, DL.e_le, DL.e_gt, DL.e_ge, DL.e_eqI, DL.e_eqS, DL.e_neI, DL.e_neS, DL.e_isN, DL.e_isntN, DL.e_isB, DL.e_isntB, DL.e_atK, DL.e_ixT, DL.e_ixL, DL.e_ixK, DL.e_ixDT, DL.e_setK, DL.e_setDT, DL.e_setSome, DL.e_setL, DL.e_delK, DL.e_delT, DL.e_inT, DL.e_inK, DL.e_lenL, DL.e_lenT, DL.e_lenK, DL.e_lenDT, DL.e_lenS, DL.e_listL, DL.e_listO, DL.e_listT, DL.e_tupleL, DL.e_tupleT, DL.e_int, DL.e_lm0, DL.e_lm, DL.e_isL, DL.e_app, DL.e_pop, DL.e_popSome, DL.e_call, DL.e_newT, DL.e_newK, DL.e_disp, DL.e_prs0, DL.e_prsS, DL.f_for, DL.f_lc, DL.f_dc, DL.f_iseq, DL.f_seqT, DL.f_rng1, DL.f_rngK, DL.f_zip, DL.f_zipT, DL.f_yes, DL.f_par3, DL.f_par3K, DL.f_isi, DL.f_isiK, DL.f_fld, DL.f_mkE, DL.f_mk0, DL.f_slice, DL.f_nopart, DL.f_part, DL.f_partK, DL.f_slT, DL.f_lrg, DL.f_dispT, List.set_cons_zero, List.set_cons_succ, List.length_cons, List.length_nil, decide_eq_true_eq, Bool.not_eq_true, true_and, and_true, if_true, Bool.false_eq_true, if_false, Nat.reduceAdd, Nat.reduceLT, Nat.reduceLeDiff]
    exact ⟨by decide, fun p hp => hN _ _ ⟨p, rfl, Keep.new hp, put_same⟩⟩
  rintro ρ M1 ⟨pf, rfl, K1, b1⟩
  refine seq_cut (fun ρ M' => ∃ pf o1 o2, ρ = [some (rowD xs), some (.ref pf), o1, o2] ∧ Keep M M' ∧ M' pf = some (.lst ((bumps xs xs.length).map rowD))) (fun N hN => ?_) ?_
  · simp only [DL.e_next, DL.e_break, DL.e_cont, DL.e_drop, DL.e_ret, DL.e_retN, DL.e_ifS, DL.e_asg, DL.e_par, DL.e_par2, DL.e_del, DL.e_gname, DL.e_gsub, DL.e_gtup, DL.e_gcons, DL.e_gnil, DL.e_var0, DL.e_varS, DL.e_con, DL.e_top2, DL.e_top1, DL.e_cb, DL.e_nil, DL.e_cons, DL.e_tup, DL.e_lst, DL.e_test, DL.e_testK, DL.e_tru, DL.e_truB, DL.e_truN, DL.e_truL, DL.e_and, DL.e_or, DL.e_not, DL.e_if, DL.e_andV, DL.e_andK, DL.e_orV, DL.e_orK, DL.e_notV, DL.e_notK, DL.e_add, DL.e_addS, DL.e_addT, DL.e_addL, DL.e_sub, DL.e_mul, DL.e_mulL, DL.e_mulT, DL.e_fdiv, DL.e_mod, DL.e_pow, DL.e_neg, DL.e_lt, DL.e_le, DL.e_gt, DL.e_ge, DL.e_eqI, DL.e_eqS, DL.e_neI, DL.e_neS, DL.e_isN, DL.e_isntN, DL.e_isB, DL.e_isntB, DL.e_atK, DL.e_ixT, DL.e_ixL, DL.e_ixK, DL.e_ixDT, DL.e_setK, DL.e_setDT, DL.e_setSome, DL.e_setL, DL.e_delK, DL.e_delT, DL.e_inT, DL.e_inK, DL.e_lenL, DL.e_lenT, DL.e_lenK, DL.e_lenDT, DL.e_lenS, DL.e_listL, DL.e_listO, DL.e_listT, DL.e_tupleL, DL.e_tupleT, DL.e_int, DL.e_lm0, DL.e_lm, DL.e_isL, DL.e_app, DL.e_pop, DL.e_popSome, DL.e_call, DL.e_newT, DL.e_newK, DL.e_disp, DL.e_prs0, DL.e_prsS, DL.f_for, DL.f_lc, DL.f_dc, DL.f_iseq, DL.f_seqT, DL.f_rng1, DL.f_rngK, DL.f_zip, DL.f_zipT, DL.f_yes, DL.f_par3, DL.f_par3K, DL.f_isi, DL.f_isiK, DL.f_fld, DL.f_mkE, DL.f_mk0, DL.f_slice, DL.f_nopart, DL.f_part, DL.f_partK, DL.f_slT, DL.f_lrg, DL.f_dispT, List.set_cons_zero, List.set_cons_succ, List.length_cons, List.length_nil, decide_eq_true_eq, Bool.not_eq_true, true_and, and_true, if_true, Bool.false_eq_true, if_false, Nat.reduceAdd, Nat.reduceLT, Nat.reduceLeDiff, f_for, f_rng1]
    rw [len_row, List.length_map]
    rw [f_rngK]
    refine ⟨⟨by omega, by omega⟩, ?_⟩
    rw [Int.toNat_natCast]
    refine for_inv (fun i ρ M' => ∃ pf o1 o2, ρ = [some (rowD xs), some (.ref pf), o1, o2] ∧ Keep M M' ∧ M' pf = some (.lst ((bumps xs i).map rowD))) ⟨pf, _, _, rfl, K1, b1⟩ (fun _ _ _ _ _ => trivial) (fun i x ρ M' e W => ?_) (fun ρ M' W => ?_)
    · obtain ⟨pf, o1, o2, rfl, K2, b2⟩ := W
      have hi : i < xs.length := by
        have := (List.getElem?_eq_some_iff.mp e).1
        rwa [intsD_length] at this
      rw [intsD_get hi] at e
      cases e
      simp only [DL.e_next, DL.e_break, DL.e_cont, DL.e_drop, DL.e_ret, DL.e_retN, DL.e_ifS, DL.e_asg, DL.e_par, DL.e_par2, DL.e_del, DL.e_gname, DL.e_gsub, DL.e_gtup, DL.e_gcons, DL.e_gnil, DL.e_var0, DL.e_varS, DL.e_con, DL.e_top2, DL.e_top1, DL.e_cb, DL.e_nil, DL.e_cons, DL.e_tup, DL.e_lst, DL.e_test, DL.e_testK, DL.e_tru, DL.e_truB, DL.e_truN, DL.e_truL, DL.e_and, DL.e_or, DL.e_not, DL.e_if, DL.e_andV, DL.e_andK, DL.e_orV, DL.e_orK, DL.e_notV, DL.e_notK, DL.e_add, DL.e_addS, DL.e_addT, DL.e_addL, DL.e_sub, DL.e_mul, DL.e_mulL, DL.e_mulT, DL.e_fdiv, DL.e_mod, DL.e_pow, DL.e_neg, DL.e_lt, DL.e_le, DL.e_gt, DL.e_ge, DL.e_eqI, DL.e_eqS, DL.e_neI, DL.e_neS, DL.e_isN, DL.e_isntN, DL.e_isB, DL.e_isntB, DL.e_atK, DL.e_ixT, DL.e_ixL, DL.e_ixK, DL.e_ixDT, DL.e_setK, DL.e_setDT, DL.e_setSome, DL.e_setL, DL.e_delK, DL.e_delT, DL.e_inT, DL.e_inK, DL.e_lenL, DL.e_lenT, DL.e_lenK, DL.e_lenDT, DL.e_lenS, DL.e_listL, DL.e_listO, DL.e_listT, DL.e_tupleL, DL.e_tupleT, DL.e_int, DL.e_lm0, DL.e_lm, DL.e_isL, DL.e_app, DL.e_pop, DL.e_popSome, DL.e_call, DL.e_newT, DL.e_newK, DL.e_disp, DL.e_prs0, DL.e_prsS, DL.f_for, DL.f_lc, DL.f_dc, DL.f_iseq, DL.f_seqT, DL.f_rng1, DL.f_rngK, DL.f_zip, DL.f_zipT, DL.f_yes, DL.f_par3, DL.f_par3K, DL.f_isi, DL.f_isiK, DL.f_fld, DL.f_mkE, DL.f_mk0, DL.f_slice, DL.f_nopart, DL.f_part, DL.f_partK, DL.f_slT, DL.f_lrg, DL.f_dispT, List.set_cons_zero, List.set_cons_succ, List.length_cons, List.length_nil, decide_eq_true_eq, Bool.not_eq_true, true_and, and_true, if_true, Bool.false_eq_true, if_false, Nat.reduceAdd, Nat.reduceLT, Nat.reduceLeDiff, f_lc, f_iseq]
      refine ⟨by decide, fun pl hpl => ?_⟩
      show seqK (.ref pl) _ _
      rw [f_seqL put_same]
      intro pc hpc
      have n1 : pf ≠ pl := ne_none b2 hpl
      refine lc_pure (bumpF xs i) hpc (by decide) (fun M3 k3 => rdL_lst (k3 _ _ put_same)) (fun x hx M3 acc k3 h3 Ky Kn ky kn => ?_) fun M3 k3 h3 => ?_
      · have ey : ∃ d : Int, x = .int d := by
          simp only [List.mem_cons, List.not_mem_nil, or_false] at hx
          rcases hx with rfl | rfl
          · exact ⟨_, rfl⟩
          · exact ⟨_, rfl⟩
        obtain ⟨d, rfl⟩ := ey
        simp only [DL.e_next, DL.e_break, DL.e_cont, DL.e_drop, DL.e_ret, DL.e_retN, DL.e_ifS, DL.e_asg, DL.e_par, DL.e_par2, DL.e_del, DL.e_gname, DL.e_gsub, DL.e_gtup, DL.e_gcons, DL.e_gnil, DL.e_var0, DL.e_varS, DL.e_con, DL.e_top2, DL.e_top1, DL.e_cb, DL.e_nil, DL.e_cons, DL.e_tup, DL.e_lst, DL.e_test, DL.e_testK, DL.e_tru, DL.e_truB, DL.e_truN, DL.e_truL, DL.e_and, DL.e_or, DL.e_not, DL.e_if, DL.e_andV, DL.e_andK, DL.e_orV, DL.e_orK, DL.e_notV, DL.e_notK, DL.e_add, DL.e_addS, DL.e_addT, DL.e_addL, DL.e_sub, DL.e_mul, DL.e_mulL, DL.e_mulT, DL.e_fdiv, DL.e_mod, DL.e_pow, DL.e_neg, DL.e_lt, DL.e_le, DL.e_gt, DL.e_ge, DL.e_eqI, DL.e_eqS, DL.e_neI, DL.e_neS, DL.e_isN, DL.e_isntN, DL.e_isB, DL.e_isntB, DL.e_atK, DL.e_ixT, DL.e_ixL, DL.e_ixK, DL.e_ixDT, DL.e_setK, DL.e_setDT, DL.e_setSome, DL.e_setL, DL.e_delK, DL.e_delT, DL.e_inT, DL.e_inK, DL.e_lenL, DL.e_lenT, DL.e_lenK, DL.e_lenDT, DL.e_lenS, DL.e_listL, DL.e_listO, DL.e_listT, DL.e_tupleL, DL.e_tupleT, DL.e_int, DL.e_lm0, DL.e_lm, DL.e_isL, DL.e_app, DL.e_pop, DL.e_popSome, DL.e_call, DL.e_newT, DL.e_newK, DL.e_disp, DL.e_prs0, DL.e_prsS, DL.f_for, DL.f_lc, DL.f_dc, DL.f_iseq, DL.f_seqT, DL.f_rng1, DL.f_rngK, DL.f_zip, DL.f_zipT, DL.f_yes, DL.f_par3, DL.f_par3K, DL.f_isi, DL.f_isiK, DL.f_fld, DL.f_mkE, DL.f_mk0, DL.f_slice, DL.f_nopart, DL.f_part, DL.f_partK, DL.f_slT, DL.f_lrg, DL.f_dispT, List.set_cons_zero, List.set_cons_succ, List.length_cons, List.length_nil, decide_eq_true_eq, Bool.not_eq_true, true_and, and_true, if_true, Bool.false_eq_true, if_false, Nat.reduceAdd, Nat.reduceLT, Nat.reduceLeDiff, DL.wiped, List.map_cons, List.map_nil]
        have ei : atI (xs.map D.int) (0 + (i : Int)) = some (.int xs[i]) := by
          unfold atI ixN
          rw [Int.zero_add, if_pos (by omega), if_pos (by rw [List.length_map]; omega)]
          simp [hi]
        show slR (.tup (xs.map D.int)) none (some (0 + (i : Int))) M3 _
        rw [f_slT, Int.zero_add, cut_take]
        have ei2 : atI (xs.map D.int) (i : Int) = some (.int xs[i]) := by rw [← Int.zero_add (i : Int)]; exact ei
        show ixR (.tup (xs.map D.int)) (.int (i : Int)) M3 _
        rw [e_ixT, ei2, e_atK, e_add]
        refine ⟨by decide, ?_⟩
        rw [e_addT]
        refine ⟨by rw [List.length_take, List.length_map]; have := sizeLine_eq; simp; omega, ?_⟩
        show slR (.tup (xs.map D.int)) (some ((i : Int) + 1)) none M3 _
        rw [f_slT, show ((i : Int) + 1) = ((i + 1 : Nat) : Int) by omega, cut_drop, e_addT, bump_eq hi]
        refine ⟨by simp only [List.length_append, List.length_take, List.length_drop, List.length_map, List.length_singleton]; have := sizeLine_eq; omega, ?_⟩
        exact ky M3 _ rfl .refl
      · have e3 : [D.int (-1), D.int 1].filterMap (bumpF xs i) = [rowD (bmp xs i (-1)), rowD (bmp xs i 1)] := rfl
        rw [e3] at h3
        show addR (.ref pf) (.ref pc) M3 _
        have b3 : M3 pf = some (.lst ((bumps xs i).map rowD)) := k3 _ _ (by rw [put_ne n1]; exact b2)
        rw [e_addL b3 h3]
        have bl : (bumps xs i).length = 2 * i := by
          unfold bumps
          rw [List.length_flatMap]
          simp [List.map_const']
          omega
        refine ⟨by rw [List.length_map, bl]; have := sizeLine_eq; simp; omega, fun p3 hp3 => ⟨p3, _, _, rfl, (K2.trans ((Keep.new hpl).trans k3)).trans (Keep.new hp3), ?_⟩⟩
        rw [put_same]
        congr 2
        unfold bumps
        rw [List.range_succ, List.flatMap_append, List.map_append]
        rfl
    · rw [intsD_length] at W
      exact hN _ _ W
  rintro ρ M2 ⟨pf, o1, o2, rfl, K2, b2⟩
  simp only [DL.e_next, DL.e_break, DL.e_cont, DL.e_drop, DL.e_ret, DL.e_retN, DL.e_ifS, DL.e_asg, DL.e_par, DL.e_par2, DL.e_del, DL.e_gname, DL.e_gsub, DL.e_gtup, DL.e_gcons, DL.e_gnil, DL.e_var0, DL.e_varS, DL.e_con, DL.e_top2, DL.e_top1, DL.e_cb, DL.e_nil, DL.e_cons, DL.e_tup, DL.e_lst, DL.e_test, DL.e_testK, DL.e_tru, DL.e_truB, DL.e_truN, DL.e_truL, DL.e_and, DL.e_or, DL.e_not, DL.e_if, DL.e_andV, DL.e_andK, DL.e_orV, DL.e_orK, DL.e_notV, DL.e_notK, DL.e_add, DL.e_addS, DL.e_addT, DL.e_addL, DL.e_sub, DL.e_mul, DL.e_mulL, DL.e_mulT, DL.e_fdiv, DL.e_mod, DL.e_pow, DL.e_neg, DL.e_lt, DL.e_le, DL.e_gt, DL.e_ge, DL.e_eqI, DL.e_eqS, DL.e_neI, DL.e_neS, DL.e_isN, DL.e_isntN, DL.e_isB, DL.e_isntB, DL.e_atK, DL.e_ixT, DL.e_ixL, DL.e_ixK, DL.e_ixDT, DL.e_setK, DL.e_setDT, DL.e_setSome, DL.e_setL, DL.e_delK, DL.e_delT, DL.e_inT, DL.e_inK, DL.e_lenL, DL.e_lenT, DL.e_lenK, DL.e_lenDT, DL.e_lenS, DL.e_listL, DL.e_listO, DL.e_listT, DL.e_tupleL, DL.e_tupleT, DL.e_int, DL.e_lm0, DL.e_lm, DL.e_isL, DL.e_app, DL.e_pop, DL.e_popSome, DL.e_call, DL.e_newT, DL.e_newK, DL.e_disp, DL.e_prs0, DL.e_prsS, DL.f_for, DL.f_lc, DL.f_dc, DL.f_iseq, DL.f_seqT, DL.f_rng1, DL.f_rngK, DL.f_zip, DL.f_zipT, DL.f_yes, DL.f_par3, DL.f_par3K, DL.f_isi, DL.f_isiK, DL.f_fld, DL.f_mkE, DL.f_mk0, DL.f_slice, DL.f_nopart, DL.f_part, DL.f_partK, DL.f_slT, DL.f_lrg, DL.f_dispT, List.set_cons_zero, List.set_cons_succ, List.length_cons, List.length_nil, decide_eq_true_eq, Bool.not_eq_true, true_and, and_true, if_true, Bool.false_eq_true, if_false, Nat.reduceAdd, Nat.reduceLT, Nat.reduceLeDiff]
  have bl := (bumps_perm h0 h1).length_eq
  have nl : (nbrs xs).length ≤ 8 := by
    unfold nbrs stepsL
    rw [List.length_map]
    split <;> simp
  have sz := sizeLine_eq
  refine ⟨(bumps xs xs.length).map rowD, by simp only [rdI, b2], rows_ok (by omega) fun r hr e => ?_, fun p hp => ?_⟩
  · have := nbrs_len ((bumps_perm h0 h1).subset hr)
    rw [e] at this
    simp at this
    omega
  · rw [bumps_srt h0 h1]
    exact Down.of (q p _ (K2.trans (Keep.new hp)) (fresh_of K2 hp) put_same)
def spSpread : SpD := fun ds M Q _ => ∃ k L f n, ds = [.ref k, rowD f] ∧ M k = some (dtO L) ∧ L.Nodup ∧ Cells n L ∧ f ∈ L ∧ ∀ s S M', Keep M M' → M s = none → M' s = some (dtO S) → S.Nodup → (∀ x, x ∈ S ↔ Reach L f x) → Q (.ref s) M'
theorem ok_law_spread (Z : Free mg) (S : Stands K mg "_law_spread" s_law_spread ["cells", "first"]) (C_law_around : FnD P w K mg base 2 "_law_around" ["cell"] spLAround) : FnD P w K mg base 3 "_law_spread" ["cells", "first"] spSpread := by
  obtain ⟨f, fd, F, hm, hb⟩ := S
  refine FnD.of F sc_law_spread hm hb (fun ds M Q E h => ?_) fun cdv A outer s0 H0 E E0 hr tk hp => ?_
  · obtain ⟨k, L, f, n, rfl, _⟩ := h; rfl
  have nd := sc_law_spread.nd
  refine ⟨_, (pssd_cons (sp2 2 3 rfl nd (pad_cons (ped_dispT (u1 hr) (PPsd.cons (v 1) ped_bl PPsd.nil) (by rfl) (by rfl) (fun z => by cases z) (by decide)) (pad_cons (ped_lst (pad_cons (v 1) pad_nil)) pad_nil)))
  (pssd_cons (psd_for hp rfl (pid_range1 rfl Z.range (pad_cons (ped_op op_addD (ped_callB call_lenD2 rfl Z.len PySem.boot_len (pad_cons (v 0) pad_nil)) ped_int) pad_nil)) (gn 4 nd) (pssd_cons (psd_if (ptd_cmp (op_eqDD (u64 hr)) (v 3) (ped_lst pad_nil) (nomark _)) (pssd_one psd_break) pssd_nil)
      (pssd_one (psd_for hp rfl (pid_seq (ped_call C_law_around (hr.mono (by decide)) rfl tk (pad_cons (ped_pop (v 3)) pad_nil))) (gn 5 nd) (pssd_one (psd_if (PWd.pt (pwd_and (ptd_cmp (op_inDD (u65 hr)) (v 5) (v 0) rfl) (pwd_and1 (ptd_cmp (op_notInDD (u65 hr)) (v 5) (v 2) rfl)))) (pssd_cons (psd_asg ped_bl (pgd_sub (u1 hr) (v 2) (v 5)))
              (pssd_one (psd_expr (ped_append (v 3) (pad_cons (v 5) pad_nil))))) pssd_nil))))))
  (pssd_one (psd_ret (v 2))))), fun ds M Q h => ?_⟩
  obtain ⟨k, L, c, n, rfl, hM, nL, cL, hc, q⟩ := h
  show tseq _ _ _ [some (.ref k), some (rowD c), none, none, none, none] M
  refine seq_cut (fun ρ M' => ∃ ps pl, ρ = [some (.ref k), some (rowD c), some (.ref ps), some (.ref pl), none, none] ∧ M ps = none ∧ M pl = none ∧ ps ≠ pl ∧ Keep M M' ∧ M' ps = some (dtO [c]) ∧ M' pl = some (.lst [rowD c])) (fun N hN => ?_) ?_
  · simp only [DL.e_next, DL.e_break, DL.e_cont, DL.e_drop, DL.e_ret, DL.e_retN, DL.e_ifS, DL.e_asg, DL.e_par, DL.e_par2, DL.e_del, DL.e_gname, DL.e_gsub, DL.e_gtup, DL.e_gcons, DL.e_gnil, DL.e_var0, DL.e_varS, DL.e_con, DL.e_top2, DL.e_top1, DL.e_cb, DL.e_nil, DL.e_cons, DL.e_tup, DL.e_lst, DL.e_test, DL.e_testK, DL.e_tru, DL.e_truB, DL.e_truN, DL.e_truL, DL.e_and, DL.e_or, DL.e_not, DL.e_if, DL.e_andV, DL.e_andK, DL.e_orV, DL.e_orK, DL.e_notV, DL.e_notK, DL.e_add, DL.e_addS, DL.e_addT, DL.e_addL, DL.e_sub, DL.e_mul, DL.e_mulL, DL.e_mulT, DL.e_fdiv, DL.e_mod, DL.e_pow, DL.e_neg, DL.e_lt, DL.e_le, DL.e_gt, DL.e_ge, DL.e_eqI, DL.e_eqS, DL.e_neI, DL.e_neS, DL.e_isN, DL.e_isntN, DL.e_isB, DL.e_isntB, DL.e_atK, DL.e_ixT, DL.e_ixL, DL.e_ixK, DL.e_ixDT, DL.e_setK, DL.e_setDT, DL.e_setSome, DL.e_setL, DL.e_delK, DL.e_delT, DL.e_inT, DL.e_inK, DL.e_lenL, DL.e_lenT, DL.e_lenK, DL.e_lenDT, DL.e_lenS, DL.e_listL, DL.e_listO, DL.e_listT, DL.e_tupleL, DL.e_tupleT, DL.e_int, DL.e_lm0, DL.e_lm, DL.e_isL, DL.e_app, DL.e_pop, DL.e_popSome, DL.e_call, DL.e_newT, DL.e_newK, DL.e_disp, DL.e_prs0, DL.e_prsS, DL.f_for, DL.f_lc, DL.f_dc, DL.f_iseq, DL.f_seqT, DL.f_rng1, DL.f_rngK, DL.f_zip, DL.f_zipT, DL.f_yes, DL.f_par3, DL.f_par3K, DL.f_isi, DL.f_isiK, DL.f_fld, DL.f_mkE, DL.f_mk0, DL.f_slice, DL.f_nopart, DL.f_part, DL.f_partK, DL.f_slT, DL.f_lrg, DL.f_dispT, List.set_cons_zero, List.set_cons_succ, List.length_cons, List.length_nil, decide_eq_true_eq, Bool.not_eq_true, true_and, and_true, if_true, Bool.false_eq_true, if_false, Nat.reduceAdd, Nat.reduceLT, Nat.reduceLeDiff, e_prsS, e_prs0]
    intro ps hps
    refine ⟨put_same, by simp [key_row], by decide, fun pl hpl => ?_⟩
    rw [put_put] at hpl
    rw [put_put]
    have n1 : ps ≠ pl := ne_none put_same hpl
    have h2 := hpl
    rw [put_ne (Ne.symm n1)] at h2
    exact hN _ _ ⟨ps, pl, rfl, hps, h2, n1, (Keep.new hps).trans (Keep.new hpl), by rw [put_ne n1, put_same]; rfl, put_same⟩
  rintro ρ M1 ⟨ps, pl, rfl, g1, g2, nsl, K1, b1, b2⟩
  have hk1 := K1 _ _ hM
  have nks : k ≠ ps := ne_none hM g1
  have nkl : k ≠ pl := ne_none hM g2
  have sz := sizeLine_eq
  have sm := cL.small
  refine seq_cut (fun ρ M' => ∃ x y S, ρ = [some (.ref k), some (rowD c), some (.ref ps), some (.ref pl), x, y] ∧ Keep M M' ∧ M' ps = some (dtO S) ∧ S.Nodup ∧ ∀ x, x ∈ S ↔ Reach L c x) (fun N hN => ?_) ?_
  · have hk10 : M1 k = some (.dT (L.map kv)) := hk1
    simp only [DL.e_next, DL.e_break, DL.e_cont, DL.e_drop, DL.e_ret, DL.e_retN, DL.e_ifS, DL.e_asg, DL.e_par, DL.e_par2, DL.e_del, DL.e_gname, DL.e_gsub, DL.e_gtup, DL.e_gcons, DL.e_gnil, DL.e_var0, DL.e_varS, DL.e_con, DL.e_top2, DL.e_top1, DL.e_cb, DL.e_nil, DL.e_cons, DL.e_tup, DL.e_lst, DL.e_test, DL.e_testK, DL.e_tru, DL.e_truB, DL.e_truN, DL.e_truL, DL.e_and, DL.e_or, DL.e_not, DL.e_if, DL.e_andV, DL.e_andK, DL.e_orV, DL.e_orK, DL.e_notV, DL.e_notK, DL.e_add, DL.e_addS, DL.e_addT, DL.e_addL, DL.e_sub, DL.e_mul, DL.e_mulL, DL.e_mulT, DL.e_fdiv, DL.e_mod, DL.e_pow, DL.e_neg, DL.e_lt, DL.e_le, DL.e_gt, DL.e_ge, DL.e_eqI, DL.e_eqS, DL.e_neI, DL.e_neS, DL.e_isN, DL.e_isntN, DL.e_isB, DL.e_isntB, DL.e_atK, DL.e_ixT, DL.e_ixL, DL.e_ixK, DL.e_ixDT, DL.e_setK, DL.e_setDT, DL.e_setSome, DL.e_setL, DL.e_delK, DL.e_delT, DL.e_inT, DL.e_inK, DL.e_lenL, DL.e_lenT, DL.e_lenK, DL.e_lenDT, DL.e_lenS, DL.e_listL, DL.e_listO, DL.e_listT, DL.e_tupleL, DL.e_tupleT, DL.e_int, DL.e_lm0, DL.e_lm, DL.e_isL, DL.e_app, DL.e_pop, DL.e_popSome, DL.e_call, DL.e_newT, DL.e_newK, DL.e_disp, DL.e_prs0, DL.e_prsS, DL.f_for, DL.f_lc, DL.f_dc, DL.f_iseq, DL.f_seqT, DL.f_rng1, DL.f_rngK, DL.f_zip, DL.f_zipT, DL.f_yes, DL.f_par3, DL.f_par3K, DL.f_isi, DL.f_isiK, DL.f_fld, DL.f_mkE, DL.f_mk0, DL.f_slice, DL.f_nopart, DL.f_part, DL.f_partK, DL.f_slT, DL.f_lrg, DL.f_dispT, List.set_cons_zero, List.set_cons_succ, List.length_cons, List.length_nil, decide_eq_true_eq, Bool.not_eq_true, true_and, and_true, if_true, Bool.false_eq_true, if_false, Nat.reduceAdd, Nat.reduceLT, Nat.reduceLeDiff, f_for, f_rng1, e_lenDT hk10, List.length_map]
    refine ⟨⟨by omega, by omega⟩, ?_⟩
    refine for_inv (fun i ρ M' => ∃ x y S G T Lf, ρ = [some (.ref k), some (rowD c), some (.ref ps), some (.ref pl), x, y] ∧ Keep M M' ∧ M' ps = some (dtO S) ∧ S.Nodup ∧ M' pl = some (.lst (T.map rowD)) ∧ (Fl L c G T Lf fun _ _ => False) ∧ (∀ x, x ∈ S ↔ x ∈ G ++ T) ∧ G.length = i)
      ⟨none, none, [c], [], [c], _, rfl, K1, b1, by simp, b2, .init hc, by simp, rfl⟩ (fun _ _ _ _ _ => trivial) (fun i x ρ M' e W => ?_) (fun ρ M' W => ?_)
    · obtain ⟨x1, y1, S, G, T, Lf, rfl, K2, c1, nS, c2, fl, mem, gl⟩ := W
      obtain ⟨x, rfl⟩ : ∃ j : Int, x = .int j := by
        have hi : i < (((L.length : Nat) : Int) + 1).toNat := by
          have := (List.getElem?_eq_some_iff.mp e).1
          rwa [intsD_length] at this
        rw [intsD_get hi] at e
        cases e
        exact ⟨_, rfl⟩
      rw [e_gname]
      show tseq _ _ _ [some (.ref k), some (rowD c), some (.ref ps), some (.ref pl), some (.int x), y1] M'
      rw [e_seq]
      simp only [DL.e_next, DL.e_break, DL.e_cont, DL.e_drop, DL.e_ret, DL.e_retN, DL.e_ifS, DL.e_asg, DL.e_par, DL.e_par2, DL.e_del, DL.e_gname, DL.e_gsub, DL.e_gtup, DL.e_gcons, DL.e_gnil, DL.e_var0, DL.e_varS, DL.e_con, DL.e_top2, DL.e_top1, DL.e_cb, DL.e_nil, DL.e_cons, DL.e_tup, DL.e_lst, DL.e_test, DL.e_testK, DL.e_tru, DL.e_truB, DL.e_truN, DL.e_truL, DL.e_and, DL.e_or, DL.e_not, DL.e_if, DL.e_andV, DL.e_andK, DL.e_orV, DL.e_orK, DL.e_notV, DL.e_notK, DL.e_add, DL.e_addS, DL.e_addT, DL.e_addL, DL.e_sub, DL.e_mul, DL.e_mulL, DL.e_mulT, DL.e_fdiv, DL.e_mod, DL.e_pow, DL.e_neg, DL.e_lt, DL.e_le, DL.e_gt, DL.e_ge, DL.e_eqI, DL.e_eqS, DL.e_neI, DL.e_neS, DL.e_isN, DL.e_isntN, DL.e_isB, DL.e_isntB, DL.e_atK, DL.e_ixT, DL.e_ixL, DL.e_ixK, DL.e_ixDT, DL.e_setK, DL.e_setDT, DL.e_setSome, DL.e_setL, DL.e_delK, DL.e_delT, DL.e_inT, DL.e_inK, DL.e_lenL, DL.e_lenT, DL.e_lenK, DL.e_lenDT, DL.e_lenS, DL.e_listL, DL.e_listO, DL.e_listT, DL.e_tupleL, DL.e_tupleT, DL.e_int, DL.e_lm0, DL.e_lm, DL.e_isL, DL.e_app, DL.e_pop, DL.e_popSome, DL.e_call, DL.e_newT, DL.e_newK, DL.e_disp, DL.e_prs0, DL.e_prsS, DL.f_for, DL.f_lc, DL.f_dc, DL.f_iseq, DL.f_seqT, DL.f_rng1, DL.f_rngK, DL.f_zip, DL.f_zipT, DL.f_yes, DL.f_par3, DL.f_par3K, DL.f_isi, DL.f_isiK, DL.f_fld, DL.f_mkE, DL.f_mk0, DL.f_slice, DL.f_nopart, DL.f_part, DL.f_partK, DL.f_slT, DL.f_lrg, DL.f_dispT, List.set_cons_zero, List.set_cons_succ, List.length_cons, List.length_nil, decide_eq_true_eq, Bool.not_eq_true, true_and, and_true, if_true, Bool.false_eq_true, if_false, Nat.reduceAdd, Nat.reduceLT, Nat.reduceLeDiff]
      refine ⟨by decide, fun pe hpe => ?_⟩
      show eqR (.ref pl) (.ref pe) _ _
      have npe : pl ≠ pe := ne_none c2 hpe
      rw [eqRR]
      refine rows_nil (L := T) (by rw [put_ne npe]; exact c2) put_same ?_
      rw [e_testK]
      have c1' : put M' pe (.lst []) ps = some (dtO S) := by rw [put_ne (ne_none c1 hpe)]; exact c1
      have c2' : put M' pe (.lst []) pl = some (.lst (T.map rowD)) := by rw [put_ne npe]; exact c2
      have K2' : Keep M (put M' pe (.lst [])) := K2.trans (Keep.new hpe)
      generalize put M' pe (.lst []) = M2 at c1' c2' K2'
      rcases List.eq_nil_or_concat T with rfl | ⟨T0, o, eT⟩
      · rw [if_pos (show (([] : List Cel).isEmpty = true) from rfl)]
        refine hN _ _ ⟨_, _, S, rfl, K2', c1', nS, fun x => ?_⟩
        rw [mem, List.append_nil]
        exact fl.all x
      rw [List.concat_eq_append] at eT
      subst eT
      rw [if_neg (by simp)]
      have ho : o ∈ L := (fl.re o (by simp)).mem
      have lo := cL.len o ho
      have fl2 := fl.pop
      rw [e_isL c2', e_pop c2', snoc_last, e_popSome, snoc_drop]
      refine ⟨trivial, o, rfl, by have := cL.two; omega, by have := cL.four; omega, fun pa M3 K3 hpa c3 => ?_⟩
      show seqK (.ref pa) _ _
      rw [f_seqL c3]
      have d1 : M3 ps = some (dtO S) := K3 _ _ (by rw [put_ne nsl]; exact c1')
      have d2 : M3 pl = some (.lst (T0.map rowD)) := K3 _ _ put_same
      have na1 : ps ≠ pa := ne_none (by rw [put_ne nsl]; exact c1') hpa
      have na2 : pl ≠ pa := ne_none put_same hpa
      have K4 : Keep M M3 := fun b o e => K3 b o (by rw [put_ne (ne_none e g2)]; exact K2' b o e)
      have mem2 : ∀ x, x ∈ S ↔ x ∈ (G ++ [o]) ++ T0 := fun x => by
        rw [mem]
        simp only [List.mem_append, List.mem_singleton]
        grind
      refine for_inv (fun j ρ M' => ∃ y S T Lf, ρ = [some (.ref k), some (rowD c), some (.ref ps), some (.ref pl), some (.int x), y] ∧ Keep M M' ∧ M' pa = some (.lst ((nbrs o).map rowD)) ∧ M' ps = some (dtO S) ∧ S.Nodup ∧ M' pl = some (.lst (T.map rowD)) ∧
        (Fl L c (G ++ [o]) T Lf fun x z => x = o ∧ z ∈ (nbrs o).drop j) ∧ ∀ x, x ∈ S ↔ x ∈ (G ++ [o]) ++ T) ⟨y1, S, T0, Lf, rfl, K4, c3, d1, nS, d2, by simpa using fl2, mem2⟩ (fun j ρ M' _ W => ?_) (fun j z ρ M5 e W => ?_) (fun ρ M5 W => ?_)
      · obtain ⟨_, _, _, _, _, _, h, _⟩ := W
        exact rdL_lst h
      · obtain ⟨y2, S2, T2, Lf2, rfl, K5, a0, a1, nS2, a2, fl3, mem3⟩ := W
        obtain ⟨y, rfl, ey, ed⟩ := map_get e
        have hy : y ∈ nbrs o := List.mem_of_getElem? ey
        rw [ed] at fl3
        have hkk : M5 k = some (.dT (L.map kv)) := K5 _ _ hM
        have a10 : M5 ps = some (.dT (S2.map kv)) := a1
        simp only [DL.e_next, DL.e_break, DL.e_cont, DL.e_drop, DL.e_ret, DL.e_retN, DL.e_ifS, DL.e_asg, DL.e_par, DL.e_par2, DL.e_del, DL.e_gname, DL.e_gsub, DL.e_gtup, DL.e_gcons, DL.e_gnil, DL.e_var0, DL.e_varS, DL.e_con, DL.e_top2, DL.e_top1, DL.e_cb, DL.e_nil, DL.e_cons, DL.e_tup, DL.e_lst, DL.e_test, DL.e_testK, DL.e_tru, DL.e_truB, DL.e_truN, DL.e_truL, DL.e_and, DL.e_or, DL.e_not, DL.e_if, DL.e_andV, DL.e_andK, DL.e_orV, DL.e_orK, DL.e_notV, DL.e_notK, DL.e_add, DL.e_addS, DL.e_addT, DL.e_addL, DL.e_sub, DL.e_mul, DL.e_mulL, DL.e_mulT, DL.e_fdiv, DL.e_mod, DL.e_pow, DL.e_neg, DL.e_lt, DL.e_le, DL.e_gt, DL.e_ge, DL.e_eqI, DL.e_eqS, DL.e_neI, DL.e_neS, DL.e_isN, DL.e_isntN, DL.e_isB, DL.e_isntB, DL.e_atK, DL.e_ixT, DL.e_ixL, DL.e_ixK, DL.e_ixDT, DL.e_setK, DL.e_setDT, DL.e_setSome, DL.e_setL, DL.e_delK, DL.e_delT, DL.e_inT, DL.e_inK, DL.e_lenL, DL.e_lenT, DL.e_lenK, DL.e_lenDT, DL.e_lenS, DL.e_listL, DL.e_listO, DL.e_listT, DL.e_tupleL, DL.e_tupleT, DL.e_int, DL.e_lm0, DL.e_lm, DL.e_isL, DL.e_app, DL.e_pop, DL.e_popSome, DL.e_call, DL.e_newT, DL.e_newK, DL.e_disp, DL.e_prs0, DL.e_prsS, DL.f_for, DL.f_lc, DL.f_dc, DL.f_iseq, DL.f_seqT, DL.f_rng1, DL.f_rngK, DL.f_zip, DL.f_zipT, DL.f_yes, DL.f_par3, DL.f_par3K, DL.f_isi, DL.f_isiK, DL.f_fld, DL.f_mkE, DL.f_mk0, DL.f_slice, DL.f_nopart, DL.f_part, DL.f_partK, DL.f_slT, DL.f_lrg, DL.f_dispT, List.set_cons_zero, List.set_cons_succ, List.length_cons, List.length_nil, decide_eq_true_eq, Bool.not_eq_true, true_and, and_true, if_true, Bool.false_eq_true, if_false, Nat.reduceAdd, Nat.reduceLT, Nat.reduceLeDiff, e_inT hkk, look_some]
        refine ⟨key_row y, ?_⟩
        have stay : y ∉ Lf2 → ∃ y_1 S T Lf, [some (D.ref k), some (rowD c), some (D.ref ps), some (D.ref pl), some (D.int x), some (rowD y)] = [some (.ref k), some (rowD c), some (.ref ps), some (.ref pl), some (.int x), y_1] ∧ Keep M M5 ∧ M5 pa = some (.lst ((nbrs o).map rowD)) ∧ M5 ps = some (dtO S) ∧ S.Nodup ∧ M5 pl = some (.lst (T.map rowD)) ∧
            (Fl L c (G ++ [o]) T Lf fun x z => x = o ∧ z ∈ (nbrs o).drop (j + 1)) ∧ ∀ x, x ∈ S ↔ x ∈ (G ++ [o]) ++ T := fun h => ⟨_, S2, T2, Lf2, rfl, K5, a0, a1, nS2, a2, fl3.skip h, mem3⟩
        by_cases yL : y ∈ L
        · rw [if_pos yL]
          rw [e_inT a10, look_some]
          refine ⟨key_row y, ?_⟩
          simp only [DL.e_next, DL.e_break, DL.e_cont, DL.e_drop, DL.e_ret, DL.e_retN, DL.e_ifS, DL.e_asg, DL.e_par, DL.e_par2, DL.e_del, DL.e_gname, DL.e_gsub, DL.e_gtup, DL.e_gcons, DL.e_gnil, DL.e_var0, DL.e_varS, DL.e_con, DL.e_top2, DL.e_top1, DL.e_cb, DL.e_nil, DL.e_cons, DL.e_tup, DL.e_lst, DL.e_test, DL.e_testK, DL.e_tru, DL.e_truB, DL.e_truN, DL.e_truL, DL.e_and, DL.e_or, DL.e_not, DL.e_if, DL.e_andV, DL.e_andK, DL.e_orV, DL.e_orK, DL.e_notV, DL.e_notK, DL.e_add, DL.e_addS, DL.e_addT, DL.e_addL, DL.e_sub, DL.e_mul, DL.e_mulL, DL.e_mulT, DL.e_fdiv, DL.e_mod, DL.e_pow, DL.e_neg, DL.e_lt, DL.e_le, DL.e_gt, DL.e_ge, DL.e_eqI, DL.e_eqS, DL.e_neI, DL.e_neS, DL.e_isN, DL.e_isntN, DL.e_isB, DL.e_isntB, DL.e_atK, DL.e_ixT, DL.e_ixL, DL.e_ixK, DL.e_ixDT, DL.e_setK, DL.e_setDT, DL.e_setSome, DL.e_setL, DL.e_delK, DL.e_delT, DL.e_inT, DL.e_inK, DL.e_lenL, DL.e_lenT, DL.e_lenK, DL.e_lenDT, DL.e_lenS, DL.e_listL, DL.e_listO, DL.e_listT, DL.e_tupleL, DL.e_tupleT, DL.e_int, DL.e_lm0, DL.e_lm, DL.e_isL, DL.e_app, DL.e_pop, DL.e_popSome, DL.e_call, DL.e_newT, DL.e_newK, DL.e_disp, DL.e_prs0, DL.e_prsS, DL.f_for, DL.f_lc, DL.f_dc, DL.f_iseq, DL.f_seqT, DL.f_rng1, DL.f_rngK, DL.f_zip, DL.f_zipT, DL.f_yes, DL.f_par3, DL.f_par3K, DL.f_isi, DL.f_isiK, DL.f_fld, DL.f_mkE, DL.f_mk0, DL.f_slice, DL.f_nopart, DL.f_part, DL.f_partK, DL.f_slT, DL.f_lrg, DL.f_dispT, List.set_cons_zero, List.set_cons_succ, List.length_cons, List.length_nil, decide_eq_true_eq, Bool.not_eq_true, true_and, and_true, if_true, Bool.false_eq_true, if_false, Nat.reduceAdd, Nat.reduceLT, Nat.reduceLeDiff]
          by_cases yS : y ∈ S2
          · rw [if_neg (by simp [yS])]
            exact stay fun h => ((Fl.mem (o := o) fl3).mp h).2 ((mem3 y).mp yS)
          · rw [if_pos (by simp [yS])]
            have yl : y ∈ Lf2 := (Fl.mem (o := o) fl3).mpr ⟨yL, fun h => yS ((mem3 y).mpr h)⟩
            have fl4 := fl3.take (by simp) hy yl
            have lS : S2.length ≤ L.length := len_le nS2 fun x hx => (fl3.re x ((mem3 x).mp hx)).mem
            have lT : T2.length ≤ L.length := len_le (List.nodup_append.mp fl3.nd).2.1 fun x hx => (fl3.re x (List.mem_append_right _ hx)).mem
            rw [e_seq]
            simp only [DL.e_next, DL.e_break, DL.e_cont, DL.e_drop, DL.e_ret, DL.e_retN, DL.e_ifS, DL.e_asg, DL.e_par, DL.e_par2, DL.e_del, DL.e_gname, DL.e_gsub, DL.e_gtup, DL.e_gcons, DL.e_gnil, DL.e_var0, DL.e_varS, DL.e_con, DL.e_top2, DL.e_top1, DL.e_cb, DL.e_nil, DL.e_cons, DL.e_tup, DL.e_lst, DL.e_test, DL.e_testK, DL.e_tru, DL.e_truB, DL.e_truN, DL.e_truL, DL.e_and, DL.e_or, DL.e_not, DL.e_if, DL.e_andV, DL.e_andK, DL.e_orV, DL.e_orK, DL.e_notV, DL.e_notK, DL.e_add, DL.e_addS, DL.e_addT, DL.e_addL, DL.e_sub, DL.e_mul, DL.e_mulL, DL.e_mulT, DL.e_fdiv, DL.e_mod, DL.e_pow, DL.e_neg, DL.e_lt, DL.e_le, DL.e_gt, DL.e_ge, DL.e_eqI, DL.e_eqS, DL.e_neI, DL.e_neS, DL.e_isN, DL.e_isntN, DL.e_isB, DL.e_isntB, DL.e_atK, DL.e_ixT, DL.e_ixL, DL.e_ixK, DL.e_ixDT, DL.e_setK, DL.e_setDT, DL.e_setSome, DL.e_setL, DL.e_delK, DL.e_delT, DL.e_inT, DL.e_inK, DL.e_lenL, DL.e_lenT, DL.e_lenK, DL.e_lenDT, DL.e_lenS, DL.e_listL, DL.e_listO, DL.e_listT, DL.e_tupleL, DL.e_tupleT, DL.e_int, DL.e_lm0, DL.e_lm, DL.e_isL, DL.e_app, DL.e_pop, DL.e_popSome, DL.e_call, DL.e_newT, DL.e_newK, DL.e_disp, DL.e_prs0, DL.e_prsS, DL.f_for, DL.f_lc, DL.f_dc, DL.f_iseq, DL.f_seqT, DL.f_rng1, DL.f_rngK, DL.f_zip, DL.f_zipT, DL.f_yes, DL.f_par3, DL.f_par3K, DL.f_isi, DL.f_isiK, DL.f_fld, DL.f_mkE, DL.f_mk0, DL.f_slice, DL.f_nopart, DL.f_part, DL.f_partK, DL.f_slT, DL.f_lrg, DL.f_dispT, List.set_cons_zero, List.set_cons_succ, List.length_cons, List.length_nil, decide_eq_true_eq, Bool.not_eq_true, true_and, and_true, if_true, Bool.false_eq_true, if_false, Nat.reduceAdd, Nat.reduceLT, Nat.reduceLeDiff, e_setDT a10]
            refine ⟨key_row y, by rw [List.length_map]; omega, ?_⟩
            rw [dput_kv, if_neg yS]
            have a2' : put M5 ps (.dT ((S2 ++ [y]).map kv)) pl = some (.lst (T2.map rowD)) := by rw [put_ne (Ne.symm nsl)]; exact a2
            rw [e_isL a2', e_app a2']
            refine ⟨trivial, by rw [List.length_map]; omega, _, S2 ++ [y], T2 ++ [y], _, rfl, fun b o e => ?_, ?_, ?_, ?_, ?_, fl4, fun x => ?_⟩
            · rw [put_ne (ne_none e g2), put_ne (ne_none e g1)]
              exact K5 b o e
            · rw [put_ne (Ne.symm na2), put_ne (Ne.symm na1)]
              exact a0
            · rw [put_ne nsl, put_same]
              rfl
            · exact List.nodup_append.mpr ⟨nS2, by simp, fun a ha b hb q => by
                rw [List.mem_singleton] at hb
                exact yS (hb ▸ q ▸ ha)⟩
            · rw [put_same, List.map_append]
              rfl
            · rw [List.mem_append, mem3 x, ← List.append_assoc, List.mem_append (s := G ++ [o] ++ T2)]
        · rw [if_neg yL]
          exact stay fun h => yL ((Fl.mem (o := o) fl3).mp h).1
      · obtain ⟨y2, S2, T2, Lf2, rfl, K5, a0, a1, nS2, a2, fl3, mem3⟩ := W
        rw [List.length_map, List.drop_length] at fl3
        exact ⟨_, _, S2, G ++ [o], T2, Lf2, rfl, K5, a1, nS2, a2, fl3.done, mem3, by rw [List.length_append, gl]; rfl⟩
    · obtain ⟨x1, y1, S, G, T, Lf, rfl, K2, c1, nS, c2, fl, mem, gl⟩ := W
      exfalso
      rw [intsD_length] at gl
      have := len_le fl.nd fun x hx => (fl.re x hx).mem
      rw [List.length_append] at this
      omega
  rintro ρ M2 ⟨x, y, S, rfl, K2, c1, nS, mem⟩
  simp only [DL.e_next, DL.e_break, DL.e_cont, DL.e_drop, DL.e_ret, DL.e_retN, DL.e_ifS, DL.e_asg, DL.e_par, DL.e_par2, DL.e_del, DL.e_gname, DL.e_gsub, DL.e_gtup, DL.e_gcons, DL.e_gnil, DL.e_var0, DL.e_varS, DL.e_con, DL.e_top2, DL.e_top1, DL.e_cb, DL.e_nil, DL.e_cons, DL.e_tup, DL.e_lst, DL.e_test, DL.e_testK, DL.e_tru, DL.e_truB, DL.e_truN, DL.e_truL, DL.e_and, DL.e_or, DL.e_not, DL.e_if, DL.e_andV, DL.e_andK, DL.e_orV, DL.e_orK, DL.e_notV, DL.e_notK, DL.e_add, DL.e_addS, DL.e_addT, DL.e_addL, DL.e_sub, DL.e_mul, DL.e_mulL, DL.e_mulT, DL.e_fdiv, DL.e_mod, DL.e_pow, DL.e_neg, DL.e_lt, DL.e_le, DL.e_gt, DL.e_ge, DL.e_eqI, DL.e_eqS, DL.e_neI, DL.e_neS, DL.e_isN, DL.e_isntN, DL.e_isB, DL.e_isntB, DL.e_atK, DL.e_ixT, DL.e_ixL, DL.e_ixK, DL.e_ixDT, DL.e_setK, DL.e_setDT, DL.e_setSome, DL.e_setL, DL.e_delK, DL.e_delT, DL.e_inT, DL.e_inK, DL.e_lenL, DL.e_lenT, DL.e_lenK, DL.e_lenDT, DL.e_lenS, DL.e_listL, DL.e_listO, DL.e_listT, DL.e_tupleL, DL.e_tupleT, DL.e_int, DL.e_lm0, DL.e_lm, DL.e_isL, DL.e_app, DL.e_pop, DL.e_popSome, DL.e_call, DL.e_newT, DL.e_newK, DL.e_disp, DL.e_prs0, DL.e_prsS, DL.f_for, DL.f_lc, DL.f_dc, DL.f_iseq, DL.f_seqT, DL.f_rng1, DL.f_rngK, DL.f_zip, DL.f_zipT, DL.f_yes, DL.f_par3, DL.f_par3K, DL.f_isi, DL.f_isiK, DL.f_fld, DL.f_mkE, DL.f_mk0, DL.f_slice, DL.f_nopart, DL.f_part, DL.f_partK, DL.f_slT, DL.f_lrg, DL.f_dispT, List.set_cons_zero, List.set_cons_succ, List.length_cons, List.length_nil, decide_eq_true_eq, Bool.not_eq_true, true_and, and_true, if_true, Bool.false_eq_true, if_false, Nat.reduceAdd, Nat.reduceLT, Nat.reduceLeDiff]
  exact Down.of (q ps S M2 K2 g1 c1 nS mem)
def spLDict : SpD := fun ds M Q _ => ∃ d xs, ds = [d] ∧ rdS M d = some (xs.map rowD) ∧ xs.length < 2 ^ 20 ∧ ∀ p M', Keep M M' → M p = none → M' p = some (dtO (dedup xs)) → Q (.ref p) M'
theorem prs_kv : ∀ L : List Cel, prsOf (L.map fun r => D.tup [rowD r, .bl true]) = some (L.map kv)
  | [] => rfl
  | r :: L => by
    rw [List.map_cons]
    unfold prsOf
    rw [prs_kv L]
    rfl
theorem merge_dedup (xs : List Cel) : mergeD [] (xs.map kv) = (dedup xs).map kv := merge_kv xs []
def kvF : D → Option D
  | d => some (.tup [d, .bl true])
theorem fm_kv : ∀ xs : List Cel, (xs.map rowD).filterMap kvF = xs.map fun r => D.tup [rowD r, .bl true]
  | [] => rfl
  | x :: xs => by
    rw [List.map_cons, List.filterMap_cons, fm_kv xs]
    rfl
theorem ok_law_dict (Z : Free mg) (S : Stands K mg "_law_dict" s_law_dict ["cells"]) : FnD P w K mg base 1 "_law_dict" ["cells"] spLDict := by
  obtain ⟨f, fd, F, hm, hb⟩ := S
  refine FnD.of F sc_law_dict hm hb (fun ds M Q E h => ?_) fun cdv A outer s0 H0 E E0 hr tk hp => ?_
  · obtain ⟨d, xs, rfl, _⟩ := h; rfl
  have nd := sc_law_dict.nd
  refine ⟨_, (pssd_one (psd_ret (ped_callTy (call_dictB true rfl hr) rfl Z.dict (by decide +kernel) (pad_cons (ped_lc rfl nd (pid_seq (v 0)) (blkOk_by (own := [("cell", 1)]) rfl) (by decide) (fun _ _ _ _ _ => (gn 1 nd)) (fun _ _ _ _ _ => ptsd_nil) (fun _ _ _ _ _ => (ped_tup (pad_cons (v 1) (pad_cons ped_bl pad_nil))))) pad_nil)))), fun ds M Q h => ?_⟩
  obtain ⟨d, xs, rfl, hd, hl, q⟩ := h
  have sz := sizeLine_eq
  show tret _ _ [some d, none] M
  simp only [DL.e_next, DL.e_break, DL.e_cont, DL.e_drop, DL.e_ret, DL.e_retN, DL.e_ifS, DL.e_asg, DL.e_par, DL.e_par2, DL.e_del, DL.e_gname, DL.e_gsub, DL.e_gtup, DL.e_gcons, DL.e_gnil, DL.e_var0, DL.e_varS, DL.e_con, DL.e_top2, DL.e_top1, DL.e_cb, DL.e_nil, DL.e_cons, DL.e_tup, DL.e_lst, DL.e_test, DL.e_testK, DL.e_tru, DL.e_truB, DL.e_truN, DL.e_truL, DL.e_and, DL.e_or, DL.e_not, DL.e_if, DL.e_andV, DL.e_andK, DL.e_orV, DL.e_orK, DL.e_notV, DL.e_notK, DL.e_add, DL.e_addS, DL.e_addT, DL.e_addL, DL.e_sub, DL.e_mul, DL.e_mulL, DL.e_mulT, DL.e_fdiv, DL.e_mod, DL.e_pow, DL.e_neg, DL.e_lt, DL.e_le, DL.e_gt, DL.e_ge, DL.e_eqI, DL.e_eqS, DL.e_neI, DL.e_neS, DL.e_isN, DL.e_isntN, DL.e_isB, DL.e_isntB, DL.e_atK, DL.e_ixT, DL.e_ixL, DL.e_ixK, DL.e_ixDT, DL.e_setK, DL.e_setDT, DL.e_setSome, DL.e_setL, DL.e_delK, DL.e_delT, DL.e_inT, DL.e_inK, DL.e_lenL, DL.e_lenT, DL.e_lenK, DL.e_lenDT, DL.e_lenS, DL.e_listL, DL.e_listO, DL.e_listT, DL.e_tupleL, DL.e_tupleT, DL.e_int, DL.e_lm0, DL.e_lm, DL.e_isL, DL.e_app, DL.e_pop, DL.e_popSome, DL.e_call, DL.e_newT, DL.e_newK, DL.e_disp, DL.e_prs0, DL.e_prsS, DL.f_for, DL.f_lc, DL.f_dc, DL.f_iseq, DL.f_seqT, DL.f_rng1, DL.f_rngK, DL.f_zip, DL.f_zipT, DL.f_yes, DL.f_par3, DL.f_par3K, DL.f_isi, DL.f_isiK, DL.f_fld, DL.f_mkE, DL.f_mk0, DL.f_slice, DL.f_nopart, DL.f_part, DL.f_partK, DL.f_slT, DL.f_lrg, DL.f_dispT, List.set_cons_zero, List.set_cons_succ, List.length_cons, List.length_nil, decide_eq_true_eq, Bool.not_eq_true, true_and, and_true, if_true, Bool.false_eq_true, if_false, Nat.reduceAdd, Nat.reduceLT, Nat.reduceLeDiff, f_iseq]
  rw [seqK_row hd]
  intro p hp
  refine lc_pure kvF hp (by rw [List.length_map]; omega) (fun M' k => seqOk (rdS_Keep k hd)) (fun x hx M' acc k hM Ky Kn ky kn => ?_) fun M' k hM => ?_
  · simp only [DL.e_next, DL.e_break, DL.e_cont, DL.e_drop, DL.e_ret, DL.e_retN, DL.e_ifS, DL.e_asg, DL.e_par, DL.e_par2, DL.e_del, DL.e_gname, DL.e_gsub, DL.e_gtup, DL.e_gcons, DL.e_gnil, DL.e_var0, DL.e_varS, DL.e_con, DL.e_top2, DL.e_top1, DL.e_cb, DL.e_nil, DL.e_cons, DL.e_tup, DL.e_lst, DL.e_test, DL.e_testK, DL.e_tru, DL.e_truB, DL.e_truN, DL.e_truL, DL.e_and, DL.e_or, DL.e_not, DL.e_if, DL.e_andV, DL.e_andK, DL.e_orV, DL.e_orK, DL.e_notV, DL.e_notK, DL.e_add, DL.e_addS, DL.e_addT, DL.e_addL, DL.e_sub, DL.e_mul, DL.e_mulL, DL.e_mulT, DL.e_fdiv, DL.e_mod, DL.e_pow, DL.e_neg, DL.e_lt, DL.e_le, DL.e_gt, DL.e_ge, DL.e_eqI, DL.e_eqS, DL.e_neI, DL.e_neS, DL.e_isN, DL.e_isntN, DL.e_isB, DL.e_isntB, DL.e_atK, DL.e_ixT, DL.e_ixL, DL.e_ixK, DL.e_ixDT, DL.e_setK, DL.e_setDT, DL.e_setSome, DL.e_setL, DL.e_delK, DL.e_delT, DL.e_inT, DL.e_inK, DL.e_lenL, DL.e_lenT, DL.e_lenK, DL.e_lenDT, DL.e_lenS, DL.e_listL, DL.e_listO, DL.e_listT, DL.e_tupleL, DL.e_tupleT, DL.e_int, DL.e_lm0, DL.e_lm, DL.e_isL, DL.e_app, DL.e_pop, DL.e_popSome, DL.e_call, DL.e_newT, DL.e_newK, DL.e_disp, DL.e_prs0, DL.e_prsS, DL.f_for, DL.f_lc, DL.f_dc, DL.f_iseq, DL.f_seqT, DL.f_rng1, DL.f_rngK, DL.f_zip, DL.f_zipT, DL.f_yes, DL.f_par3, DL.f_par3K, DL.f_isi, DL.f_isiK, DL.f_fld, DL.f_mkE, DL.f_mk0, DL.f_slice, DL.f_nopart, DL.f_part, DL.f_partK, DL.f_slT, DL.f_lrg, DL.f_dispT, List.set_cons_zero, List.set_cons_succ, List.length_cons, List.length_nil, decide_eq_true_eq, Bool.not_eq_true, true_and, and_true, if_true, Bool.false_eq_true, if_false, Nat.reduceAdd, Nat.reduceLT, Nat.reduceLeDiff, DL.wiped, List.map_cons, List.map_nil]
    exact ⟨by decide, ky M' _ rfl .refl⟩
  · rw [fm_kv] at hM
    refine ⟨_, _, rdL_lst hM, prs_kv xs, fun q hq => ?_, by rw [List.length_map]; omega, fun p2 hp2 => ?_⟩
    · obtain ⟨r, _, rfl⟩ := List.mem_map.mp hq
      exact key_row r
    · rw [merge_dedup]
      exact Down.of (q p2 _ (k.trans (Keep.new hp2)) (fresh_of k hp2) put_same)
def spLParts : SpD := fun ds M Q _ => ∃ d xs n, ds = [d] ∧ rdS M d = some (xs.map rowD) ∧ Cells n xs ∧ ∀ p M', Keep M M' → M p = none → M' p = some (.lst (partsD (dedup xs))) → Q (.ref p) M'
theorem shut_sub {L S : List Cel} {c : Cel} (h : ∀ x ∈ S, x ∈ L) : ∀ x ∈ S ++ comp L c, x ∈ L := fun x hx => by
  rcases List.mem_append.mp hx with hx | hx
  · exact h x hx
  · exact (mem_comp.mp hx).mem
theorem ok_law_parts (Z : Free mg) (S : Stands K mg "_law_parts" s_law_parts ["cells"]) (C_law_dict : FnD P w K mg base 1 "_law_dict" ["cells"] spLDict) (C_law_spread : FnD P w K mg base 3 "_law_spread" ["cells", "first"] spSpread) : FnD P w K mg base 4 "_law_parts" ["cells"] spLParts := by
  obtain ⟨f, fd, F, hm, hb⟩ := S
  refine FnD.of F sc_law_parts hm hb (fun ds M Q E h => ?_) fun cdv A outer s0 H0 E E0 hr tk hp => ?_
  · obtain ⟨d, xs, n, rfl, _⟩ := h; rfl
  have nd := sc_law_parts.nd
  refine ⟨_, (pssd_cons (sp3 1 2 3 rfl nd (pad_cons (ped_call C_law_dict (hr.mono (by decide)) rfl tk (pad_cons (v 0) pad_nil)) (pad_cons ped_dnewT (pad_cons (ped_lst pad_nil) pad_nil))))
  (pssd_cons (psd_for hp rfl (pid_seq (ped_callB (call_sortedAny rfl hr) rfl Z.sorted (by decide +kernel) (pad_cons (v 1) pad_nil))) (gn 4 nd) (pssd_one (psd_if (ptd_cmp (op_notInDD (u65 hr)) (v 4) (v 2) rfl) (pssd_cons (sv 5 nd (ped_call C_law_spread (hr.mono (by decide)) rfl tk (pad_cons (v 1) (pad_cons (v 4) pad_nil))))
          (pssd_cons (psd_lock (psd_for hp rfl (pid_keys (v 5)) (gn 6 nd) (pssd_one (psd_asg ped_bl (pgd_sub (u1 hr) (v 2) (v 6))))))
          (pssd_one (psd_expr (ped_append (v 3) (pad_cons (ped_callTy call_tupleD rfl Z.tuple (by decide +kernel) (pad_cons (ped_callB (call_sortedAny rfl hr) rfl Z.sorted (by decide +kernel) (pad_cons (v 5) pad_nil)) pad_nil)) pad_nil)))))) pssd_nil)))
  (pssd_one (psd_ret (v 3))))), fun ds M Q h => ?_⟩
  obtain ⟨d, xs, n, rfl, hd, cL, q⟩ := h
  have cD := cells_dedup cL
  have nD := dedup_nodup xs
  have sz := sizeLine_eq
  show tseq _ _ _ [some d, none, none, none, none, none, none] M
  refine seq_cut (fun ρ M' => ∃ k s f, ρ = [some d, some (.ref k), some (.ref s), some (.ref f), none, none, none] ∧ M k = none ∧ M s = none ∧ M f = none ∧ k ≠ s ∧ k ≠ f ∧ s ≠ f ∧ Keep M M' ∧ M' k = some (dtO (dedup xs)) ∧ M' s = some (dtO []) ∧ M' f = some (.lst [])) (fun N hN => ?_) ?_
  · simp only [DL.e_next, DL.e_break, DL.e_cont, DL.e_drop, DL.e_ret, DL.e_retN, DL.e_ifS, DL.e_asg, DL.e_par, DL.e_par2, DL.e_del, DL.e_gname, DL.e_gsub, DL.e_gtup, DL.e_gcons, DL.e_gnil, DL.e_var0, DL.e_varS, DL.e_con, DL.e_top2, DL.e_top1, DL.e_cb, DL.e_nil, DL.e_cons, DL.e_tup, DL.e_lst, DL.e_test, DL.e_testK, DL.e_tru, DL.e_truB, DL.e_truN, DL.e_truL, DL.e_and, DL.e_or, DL.e_not, DL.e_if, DL.e_andV, DL.e_andK, DL.e_orV, DL.e_orK, DL.e_notV, DL.e_notK, DL.e_add, DL.e_addS, DL.e_addT, DL.e_addL, DL.e_sub, DL.e_mul, DL.e_mulL, DL.e_mulT, DL.e_fdiv, DL.e_mod, DL.e_pow, DL.e_neg, DL.e_lt, DL.e_le, DL.e_gt, DL.e_ge, DL.e_eqI, DL.e_eqS, DL.e_neI, DL.e_neS, DL.e_isN, DL.e_isntN, DL.e_isB, DL.e_isntB, DL.e_atK, DL.e_ixT, DL.e_ixL, DL.e_ixK, DL.e_ixDT, DL.e_setK, DL.e_setDT, DL.e_setSome, DL.e_setL, DL.e_delK, DL.e_delT, DL.e_inT, DL.e_inK, DL.e_lenL, DL.e_lenT, DL.e_lenK, DL.e_lenDT, DL.e_lenS, DL.e_listL, DL.e_listO, DL.e_listT, DL.e_tupleL, DL.e_tupleT, DL.e_int, DL.e_lm0, DL.e_lm, DL.e_isL, DL.e_app, DL.e_pop, DL.e_popSome, DL.e_call, DL.e_newT, DL.e_newK, DL.e_disp, DL.e_prs0, DL.e_prsS, DL.f_for, DL.f_lc, DL.f_dc, DL.f_iseq, DL.f_seqT, DL.f_rng1, DL.f_rngK, DL.f_zip, DL.f_zipT, DL.f_yes, DL.f_par3, DL.f_par3K, DL.f_isi, DL.f_isiK, DL.f_fld, DL.f_mkE, DL.f_mk0, DL.f_slice, DL.f_nopart, DL.f_part, DL.f_partK, DL.f_slT, DL.f_lrg, DL.f_dispT, List.set_cons_zero, List.set_cons_succ, List.length_cons, List.length_nil, decide_eq_true_eq, Bool.not_eq_true, true_and, and_true, if_true, Bool.false_eq_true, if_false, Nat.reduceAdd, Nat.reduceLT, Nat.reduceLeDiff, f_par3, f_par3K]
    refine ⟨d, xs, rfl, hd, cL.small, fun k M1 K1 hk c1 => fun s hs => ⟨by decide, fun f hf => ?_⟩⟩
    have g1 := fresh_of K1 hs
    have K2 := K1.trans (Keep.new (o := .dT []) hs)
    have g2 := fresh_of K2 hf
    have n1 : k ≠ s := ne_none c1 hs
    have c2 := (Keep.new (o := .dT []) hs) _ _ c1
    exact hN _ _ ⟨k, s, f, rfl, hk, g1, g2, n1, ne_none c2 hf, ne_none put_same hf, K2.trans (Keep.new hf), (Keep.new hf) _ _ c2, (Keep.new hf) _ _ put_same, put_same⟩
  rintro ρ M1 ⟨k, s, f, rfl, gk, gs, gf, nks, nkf, nsf, K1, b1, b2, b3⟩
  generalize dedup xs = L at *
  refine seq_cut (fun ρ M' => ∃ x y z, ρ = [some d, some (.ref k), some (.ref s), some (.ref f), x, y, z] ∧ M' f = some (.lst (partsD L)) ∧ Keep M M') (fun N hN => ?_) ?_
  · have b10 : M1 k = some (.dT (L.map kv)) := b1
    have sm := cD.small
    have ne : ∀ r ∈ L, r ≠ [] := fun r hr e => by
      have := cD.len r hr
      have t := cD.two
      rw [e] at this
      simp at this
      omega
    simp only [DL.e_next, DL.e_break, DL.e_cont, DL.e_drop, DL.e_ret, DL.e_retN, DL.e_ifS, DL.e_asg, DL.e_par, DL.e_par2, DL.e_del, DL.e_gname, DL.e_gsub, DL.e_gtup, DL.e_gcons, DL.e_gnil, DL.e_var0, DL.e_varS, DL.e_con, DL.e_top2, DL.e_top1, DL.e_cb, DL.e_nil, DL.e_cons, DL.e_tup, DL.e_lst, DL.e_test, DL.e_testK, DL.e_tru, DL.e_truB, DL.e_truN, DL.e_truL, DL.e_and, DL.e_or, DL.e_not, DL.e_if, DL.e_andV, DL.e_andK, DL.e_orV, DL.e_orK, DL.e_notV, DL.e_notK, DL.e_add, DL.e_addS, DL.e_addT, DL.e_addL, DL.e_sub, DL.e_mul, DL.e_mulL, DL.e_mulT, DL.e_fdiv, DL.e_mod, DL.e_pow, DL.e_neg, DL.e_lt, DL.e_le, DL.e_gt, DL.e_ge, DL.e_eqI, DL.e_eqS, DL.e_neI, DL.e_neS, DL.e_isN, DL.e_isntN, DL.e_isB, DL.e_isntB, DL.e_atK, DL.e_ixT, DL.e_ixL, DL.e_ixK, DL.e_ixDT, DL.e_setK, DL.e_setDT, DL.e_setSome, DL.e_setL, DL.e_delK, DL.e_delT, DL.e_inT, DL.e_inK, DL.e_lenL, DL.e_lenT, DL.e_lenK, DL.e_lenDT, DL.e_lenS, DL.e_listL, DL.e_listO, DL.e_listT, DL.e_tupleL, DL.e_tupleT, DL.e_int, DL.e_lm0, DL.e_lm, DL.e_isL, DL.e_app, DL.e_pop, DL.e_popSome, DL.e_call, DL.e_newT, DL.e_newK, DL.e_disp, DL.e_prs0, DL.e_prsS, DL.f_for, DL.f_lc, DL.f_dc, DL.f_iseq, DL.f_seqT, DL.f_rng1, DL.f_rngK, DL.f_zip, DL.f_zipT, DL.f_yes, DL.f_par3, DL.f_par3K, DL.f_isi, DL.f_isiK, DL.f_fld, DL.f_mkE, DL.f_mk0, DL.f_slice, DL.f_nopart, DL.f_part, DL.f_partK, DL.f_slT, DL.f_lrg, DL.f_dispT, List.set_cons_zero, List.set_cons_succ, List.length_cons, List.length_nil, decide_eq_true_eq, Bool.not_eq_true, true_and, and_true, if_true, Bool.false_eq_true, if_false, Nat.reduceAdd, Nat.reduceLT, Nat.reduceLeDiff, f_for, f_iseq]
    refine ⟨L.map rowD, by simp only [rdI, b10, keys_kv], rows_ok (by omega) ne, fun p2 hp2 => ?_⟩
    rw [srt_rows]
    show seqK (.ref p2) _ _
    rw [f_seqL put_same]
    have na2 : k ≠ p2 := ne_none b1 hp2
    have ns2 : s ≠ p2 := ne_none b2 hp2
    have nf2 : f ≠ p2 := ne_none b3 hp2
    refine for_inv (fun i ρ M' => ∃ x y z S G, ρ = [some d, some (.ref k), some (.ref s), some (.ref f), x, y, z] ∧ M' k = some (dtO L) ∧ (∃ S2, M' s = some (dtO S2) ∧ S2.Nodup ∧ ∀ x, x ∈ S2 ↔ x ∈ S) ∧ M' f = some (.lst (G.map fun p => .tup (p.map rowD))) ∧ Keep M M' ∧ M' p2 = some (.lst ((srtR L).map rowD)) ∧
      Shut L S ∧ (∀ x ∈ S, x ∈ L) ∧ G ++ partsBy srtR L ((srtR L).drop i) S = parts L ∧ G.length ≤ i) ⟨none, none, none, [], [], rfl, ?_, ⟨[], ?_, by simp, by simp⟩, ?_, ?_, put_same, ?_, ?_, rfl, Nat.le_refl _⟩ (fun i ρ M' _ W => ?_) (fun i x ρ M' e W => ?_) (fun ρ M' W => ?_)
    · rw [put_ne na2]
      exact b1
    · rw [put_ne ns2]
      exact b2
    · rw [put_ne nf2]
      exact b3
    · exact K1.trans (Keep.new hp2)
    · intro x y hx
      cases hx
    · intro x hx
      cases hx
    · obtain ⟨_, _, _, _, _, rfl, _, _, _, _, c3, _⟩ := W
      exact rdL_lst c3
    · obtain ⟨x1, x2, x3, S, G, rfl, c1, ⟨S2, cs, nS2, mS⟩, c2, KK, c3, sh, sub, eq, gl⟩ := W
      obtain ⟨y, rfl, ey, ed⟩ := map_get e
      have hi : i < (srtR L).length := (List.getElem?_eq_some_iff.mp ey).1
      rw [(srtR_perm L).length_eq] at hi
      have hy : y ∈ L := (srtR_perm L).subset (List.mem_of_getElem? ey)
      have cs0 : M' s = some (.dT (S2.map kv)) := cs
      simp only [DL.e_next, DL.e_break, DL.e_cont, DL.e_drop, DL.e_ret, DL.e_retN, DL.e_ifS, DL.e_asg, DL.e_par, DL.e_par2, DL.e_del, DL.e_gname, DL.e_gsub, DL.e_gtup, DL.e_gcons, DL.e_gnil, DL.e_var0, DL.e_varS, DL.e_con, DL.e_top2, DL.e_top1, DL.e_cb, DL.e_nil, DL.e_cons, DL.e_tup, DL.e_lst, DL.e_test, DL.e_testK, DL.e_tru, DL.e_truB, DL.e_truN, DL.e_truL, DL.e_and, DL.e_or, DL.e_not, DL.e_if, DL.e_andV, DL.e_andK, DL.e_orV, DL.e_orK, DL.e_notV, DL.e_notK, DL.e_add, DL.e_addS, DL.e_addT, DL.e_addL, DL.e_sub, DL.e_mul, DL.e_mulL, DL.e_mulT, DL.e_fdiv, DL.e_mod, DL.e_pow, DL.e_neg, DL.e_lt, DL.e_le, DL.e_gt, DL.e_ge, DL.e_eqI, DL.e_eqS, DL.e_neI, DL.e_neS, DL.e_isN, DL.e_isntN, DL.e_isB, DL.e_isntB, DL.e_atK, DL.e_ixT, DL.e_ixL, DL.e_ixK, DL.e_ixDT, DL.e_setK, DL.e_setDT, DL.e_setSome, DL.e_setL, DL.e_delK, DL.e_delT, DL.e_inT, DL.e_inK, DL.e_lenL, DL.e_lenT, DL.e_lenK, DL.e_lenDT, DL.e_lenS, DL.e_listL, DL.e_listO, DL.e_listT, DL.e_tupleL, DL.e_tupleT, DL.e_int, DL.e_lm0, DL.e_lm, DL.e_isL, DL.e_app, DL.e_pop, DL.e_popSome, DL.e_call, DL.e_newT, DL.e_newK, DL.e_disp, DL.e_prs0, DL.e_prsS, DL.f_for, DL.f_lc, DL.f_dc, DL.f_iseq, DL.f_seqT, DL.f_rng1, DL.f_rngK, DL.f_zip, DL.f_zipT, DL.f_yes, DL.f_par3, DL.f_par3K, DL.f_isi, DL.f_isiK, DL.f_fld, DL.f_mkE, DL.f_mk0, DL.f_slice, DL.f_nopart, DL.f_part, DL.f_partK, DL.f_slT, DL.f_lrg, DL.f_dispT, List.set_cons_zero, List.set_cons_succ, List.length_cons, List.length_nil, decide_eq_true_eq, Bool.not_eq_true, true_and, and_true, if_true, Bool.false_eq_true, if_false, Nat.reduceAdd, Nat.reduceLT, Nat.reduceLeDiff, e_inT cs0, look_some]
      refine ⟨key_row y, ?_⟩
      rw [ed] at eq
      by_cases hS : y ∈ S
      · have hS2 := (mS y).mpr hS
        rw [if_neg (by simp [hS2])]
        refine ⟨_, _, _, S, G, rfl, c1, ⟨S2, cs, nS2, mS⟩, c2, KK, c3, sh, sub, ?_, by omega⟩
        rw [← eq]
        conv => rhs; unfold partsBy
        rw [if_pos hS]
      · have hS2 : y ∉ S2 := fun z => hS ((mS y).mp z)
        rw [if_pos (by simp [hS2])]
        rw [e_seq]
        simp only [DL.e_next, DL.e_break, DL.e_cont, DL.e_drop, DL.e_ret, DL.e_retN, DL.e_ifS, DL.e_asg, DL.e_par, DL.e_par2, DL.e_del, DL.e_gname, DL.e_gsub, DL.e_gtup, DL.e_gcons, DL.e_gnil, DL.e_var0, DL.e_varS, DL.e_con, DL.e_top2, DL.e_top1, DL.e_cb, DL.e_nil, DL.e_cons, DL.e_tup, DL.e_lst, DL.e_test, DL.e_testK, DL.e_tru, DL.e_truB, DL.e_truN, DL.e_truL, DL.e_and, DL.e_or, DL.e_not, DL.e_if, DL.e_andV, DL.e_andK, DL.e_orV, DL.e_orK, DL.e_notV, DL.e_notK, DL.e_add, DL.e_addS, DL.e_addT, DL.e_addL, DL.e_sub, DL.e_mul, DL.e_mulL, DL.e_mulT, DL.e_fdiv, DL.e_mod, DL.e_pow, DL.e_neg, DL.e_lt, DL.e_le, DL.e_gt, DL.e_ge, DL.e_eqI, DL.e_eqS, DL.e_neI, DL.e_neS, DL.e_isN, DL.e_isntN, DL.e_isB, DL.e_isntB, DL.e_atK, DL.e_ixT, DL.e_ixL, DL.e_ixK, DL.e_ixDT, DL.e_setK, DL.e_setDT, DL.e_setSome, DL.e_setL, DL.e_delK, DL.e_delT, DL.e_inT, DL.e_inK, DL.e_lenL, DL.e_lenT, DL.e_lenK, DL.e_lenDT, DL.e_lenS, DL.e_listL, DL.e_listO, DL.e_listT, DL.e_tupleL, DL.e_tupleT, DL.e_int, DL.e_lm0, DL.e_lm, DL.e_isL, DL.e_app, DL.e_pop, DL.e_popSome, DL.e_call, DL.e_newT, DL.e_newK, DL.e_disp, DL.e_prs0, DL.e_prsS, DL.f_for, DL.f_lc, DL.f_dc, DL.f_iseq, DL.f_seqT, DL.f_rng1, DL.f_rngK, DL.f_zip, DL.f_zipT, DL.f_yes, DL.f_par3, DL.f_par3K, DL.f_isi, DL.f_isiK, DL.f_fld, DL.f_mkE, DL.f_mk0, DL.f_slice, DL.f_nopart, DL.f_part, DL.f_partK, DL.f_slT, DL.f_lrg, DL.f_dispT, List.set_cons_zero, List.set_cons_succ, List.length_cons, List.length_nil, decide_eq_true_eq, Bool.not_eq_true, true_and, and_true, if_true, Bool.false_eq_true, if_false, Nat.reduceAdd, Nat.reduceLT, Nat.reduceLeDiff]
        refine ⟨k, L, y, n, rfl, c1, nD, cD, hy, fun pp SS M3 K3 hpp d1 nSS mSS => ?_⟩
        have npk : k ≠ pp := ne_none c1 hpp
        have nps : s ≠ pp := ne_none cs hpp
        have npf : f ≠ pp := ne_none c2 hpp
        have np2 : p2 ≠ pp := ne_none c3 hpp
        have nys : s ≠ k := Ne.symm nks
        show tseq _ _ _ [some d, some (.ref k), some (.ref s), some (.ref f), some (rowD y), some (.ref pp), x3] M3
        refine seq_cut (fun ρ M' => ∃ o S3, ρ = [some d, some (.ref k), some (.ref s), some (.ref f), some (rowD y), some (.ref pp), o] ∧ M' s = some (dtO S3) ∧ S3.Nodup ∧ (∀ x, x ∈ S3 ↔ x ∈ S ++ comp L y) ∧ M' pp = some (dtO SS) ∧ Kp s M3 M') (fun N3 hN3 => ?_) ?_
        · refine ⟨pp, true, SS.map kv, d1, fun fr hfr => ?_⟩
          obtain ⟨o, hv, rfl⟩ := isF_T hfr
          simp only [DL.e_next, DL.e_break, DL.e_cont, DL.e_drop, DL.e_ret, DL.e_retN, DL.e_ifS, DL.e_asg, DL.e_par, DL.e_par2, DL.e_del, DL.e_gname, DL.e_gsub, DL.e_gtup, DL.e_gcons, DL.e_gnil, DL.e_var0, DL.e_varS, DL.e_con, DL.e_top2, DL.e_top1, DL.e_cb, DL.e_nil, DL.e_cons, DL.e_tup, DL.e_lst, DL.e_test, DL.e_testK, DL.e_tru, DL.e_truB, DL.e_truN, DL.e_truL, DL.e_and, DL.e_or, DL.e_not, DL.e_if, DL.e_andV, DL.e_andK, DL.e_orV, DL.e_orK, DL.e_notV, DL.e_notK, DL.e_add, DL.e_addS, DL.e_addT, DL.e_addL, DL.e_sub, DL.e_mul, DL.e_mulL, DL.e_mulT, DL.e_fdiv, DL.e_mod, DL.e_pow, DL.e_neg, DL.e_lt, DL.e_le, DL.e_gt, DL.e_ge, DL.e_eqI, DL.e_eqS, DL.e_neI, DL.e_neS, DL.e_isN, DL.e_isntN, DL.e_isB, DL.e_isntB, DL.e_atK, DL.e_ixT, DL.e_ixL, DL.e_ixK, DL.e_ixDT, DL.e_setK, DL.e_setDT, DL.e_setSome, DL.e_setL, DL.e_delK, DL.e_delT, DL.e_inT, DL.e_inK, DL.e_lenL, DL.e_lenT, DL.e_lenK, DL.e_lenDT, DL.e_lenS, DL.e_listL, DL.e_listO, DL.e_listT, DL.e_tupleL, DL.e_tupleT, DL.e_int, DL.e_lm0, DL.e_lm, DL.e_isL, DL.e_app, DL.e_pop, DL.e_popSome, DL.e_call, DL.e_newT, DL.e_newK, DL.e_disp, DL.e_prs0, DL.e_prsS, DL.f_for, DL.f_lc, DL.f_dc, DL.f_iseq, DL.f_seqT, DL.f_rng1, DL.f_rngK, DL.f_zip, DL.f_zipT, DL.f_yes, DL.f_par3, DL.f_par3K, DL.f_isi, DL.f_isiK, DL.f_fld, DL.f_mkE, DL.f_mk0, DL.f_slice, DL.f_nopart, DL.f_part, DL.f_partK, DL.f_slT, DL.f_lrg, DL.f_dispT, List.set_cons_zero, List.set_cons_succ, List.length_cons, List.length_nil, decide_eq_true_eq, Bool.not_eq_true, true_and, and_true, if_true, Bool.false_eq_true, if_false, Nat.reduceAdd, Nat.reduceLT, Nat.reduceLeDiff, f_for, f_ikeys]
          rw [f_keysT put_same, keys_kv]
          refine for_inv (fun i ρ M' => ∃ o2 S3, ρ = [some d, some (.ref k), some (.ref s), some (.ref f), some (rowD y), some (.ref pp), o2] ∧ M' pp = some (.fT o hv (SS.map kv)) ∧ M' s = some (dtO S3) ∧ S3.Nodup ∧ (∀ x, x ∈ S3 ↔ x ∈ S2 ∨ x ∈ SS.take i) ∧ Kp s (put M3 pp (.fT o hv (SS.map kv))) M')
            ⟨x3, S2, rfl, put_same, by rw [put_ne nps]; exact K3 _ _ cs, nS2, by simp, Kp.refl⟩ (fun i ρ M' _ W => ?_) (fun j z ρ M5 e2 W => ?_) (fun ρ M5 W => ?_)
          · obtain ⟨_, _, _, h, _⟩ := W
            exact h
          · obtain ⟨o2, S3, rfl, h1, h2, h3, h4, h5⟩ := W
            obtain ⟨u, rfl, eu, _⟩ := map_get e2
            have h20 : M5 s = some (.dT (S3.map kv)) := h2
            simp only [DL.e_next, DL.e_break, DL.e_cont, DL.e_drop, DL.e_ret, DL.e_retN, DL.e_ifS, DL.e_asg, DL.e_par, DL.e_par2, DL.e_del, DL.e_gname, DL.e_gsub, DL.e_gtup, DL.e_gcons, DL.e_gnil, DL.e_var0, DL.e_varS, DL.e_con, DL.e_top2, DL.e_top1, DL.e_cb, DL.e_nil, DL.e_cons, DL.e_tup, DL.e_lst, DL.e_test, DL.e_testK, DL.e_tru, DL.e_truB, DL.e_truN, DL.e_truL, DL.e_and, DL.e_or, DL.e_not, DL.e_if, DL.e_andV, DL.e_andK, DL.e_orV, DL.e_orK, DL.e_notV, DL.e_notK, DL.e_add, DL.e_addS, DL.e_addT, DL.e_addL, DL.e_sub, DL.e_mul, DL.e_mulL, DL.e_mulT, DL.e_fdiv, DL.e_mod, DL.e_pow, DL.e_neg, DL.e_lt, DL.e_le, DL.e_gt, DL.e_ge, DL.e_eqI, DL.e_eqS, DL.e_neI, DL.e_neS, DL.e_isN, DL.e_isntN, DL.e_isB, DL.e_isntB, DL.e_atK, DL.e_ixT, DL.e_ixL, DL.e_ixK, DL.e_ixDT, DL.e_setK, DL.e_setDT, DL.e_setSome, DL.e_setL, DL.e_delK, DL.e_delT, DL.e_inT, DL.e_inK, DL.e_lenL, DL.e_lenT, DL.e_lenK, DL.e_lenDT, DL.e_lenS, DL.e_listL, DL.e_listO, DL.e_listT, DL.e_tupleL, DL.e_tupleT, DL.e_int, DL.e_lm0, DL.e_lm, DL.e_isL, DL.e_app, DL.e_pop, DL.e_popSome, DL.e_call, DL.e_newT, DL.e_newK, DL.e_disp, DL.e_prs0, DL.e_prsS, DL.f_for, DL.f_lc, DL.f_dc, DL.f_iseq, DL.f_seqT, DL.f_rng1, DL.f_rngK, DL.f_zip, DL.f_zipT, DL.f_yes, DL.f_par3, DL.f_par3K, DL.f_isi, DL.f_isiK, DL.f_fld, DL.f_mkE, DL.f_mk0, DL.f_slice, DL.f_nopart, DL.f_part, DL.f_partK, DL.f_slT, DL.f_lrg, DL.f_dispT, List.set_cons_zero, List.set_cons_succ, List.length_cons, List.length_nil, decide_eq_true_eq, Bool.not_eq_true, true_and, and_true, if_true, Bool.false_eq_true, if_false, Nat.reduceAdd, Nat.reduceLT, Nat.reduceLeDiff, e_setDT h20]
            have uL : u ∈ SS := List.mem_of_getElem? eu
            have l3 : S3.length ≤ L.length := len_le h3 fun x hx => by
              rcases (h4 x).mp hx with q | q
              · exact sub x ((mS x).mp q)
              · exact ((mSS x).mp (List.mem_of_mem_take q)).mem
            refine ⟨key_row u, by rw [List.length_map]; omega, _, if u ∈ S3 then S3 else S3 ++ [u], rfl, by rw [put_ne (Ne.symm nps)]; exact h1, by rw [put_same, dput_kv]; rfl, ?_, fun x => ?_, h5.own⟩
            · split
              · exact h3
              · rename_i nu
                exact List.nodup_append.mpr ⟨h3, by simp, fun a ha b hb q => by
                  rw [List.mem_singleton] at hb
                  exact nu (hb ▸ q ▸ ha)⟩
            · rw [take_succ_some eu, List.mem_append, List.mem_singleton]
              have := h4 x
              split
              · rename_i nu
                have := h4 u
                grind
              · rw [List.mem_append, List.mem_singleton]
                grind
          · obtain ⟨o2, S3, rfl, h1, h2, h3, h4, h5⟩ := W
            rw [List.length_map, List.take_length] at h4
            refine ⟨h1, hN3 _ _ ⟨o2, S3, rfl, by rw [put_ne nps]; exact h2, h3, fun x => ?_, put_same, fun b o e ne => ?_⟩⟩
            · rw [h4, mS, mSS, List.mem_append, mem_comp]
            · by_cases hb : b = pp
              · subst hb
                rw [d1] at ne
                cases ne
                rw [put_same]
                rfl
              · rw [put_ne hb]
                exact h5 b o e (by rw [put_ne hb]; exact ne)
        rintro ρ M4 ⟨o, S3, rfl, h2, h3, h4, h5, K5⟩
        have e1 := K5 _ _ nys.symm (K3 _ _ c1)
        have e3 := K5 _ _ (Ne.symm nsf) (K3 _ _ c2)
        have e4 := K5 _ _ (Ne.symm ns2) (K3 _ _ c3)
        have KM : Keep M M4 := fun b o e => K5 b o (ne_none e gs) (K3 b o (KK b o e))
        have h50 : M4 pp = some (.dT (SS.map kv)) := h5
        simp only [DL.e_next, DL.e_break, DL.e_cont, DL.e_drop, DL.e_ret, DL.e_retN, DL.e_ifS, DL.e_asg, DL.e_par, DL.e_par2, DL.e_del, DL.e_gname, DL.e_gsub, DL.e_gtup, DL.e_gcons, DL.e_gnil, DL.e_var0, DL.e_varS, DL.e_con, DL.e_top2, DL.e_top1, DL.e_cb, DL.e_nil, DL.e_cons, DL.e_tup, DL.e_lst, DL.e_test, DL.e_testK, DL.e_tru, DL.e_truB, DL.e_truN, DL.e_truL, DL.e_and, DL.e_or, DL.e_not, DL.e_if, DL.e_andV, DL.e_andK, DL.e_orV, DL.e_orK, DL.e_notV, DL.e_notK, DL.e_add, DL.e_addS, DL.e_addT, DL.e_addL, DL.e_sub, DL.e_mul, DL.e_mulL, DL.e_mulT, DL.e_fdiv, DL.e_mod, DL.e_pow, DL.e_neg, DL.e_lt, DL.e_le, DL.e_gt, DL.e_ge, DL.e_eqI, DL.e_eqS, DL.e_neI, DL.e_neS, DL.e_isN, DL.e_isntN, DL.e_isB, DL.e_isntB, DL.e_atK, DL.e_ixT, DL.e_ixL, DL.e_ixK, DL.e_ixDT, DL.e_setK, DL.e_setDT, DL.e_setSome, DL.e_setL, DL.e_delK, DL.e_delT, DL.e_inT, DL.e_inK, DL.e_lenL, DL.e_lenT, DL.e_lenK, DL.e_lenDT, DL.e_lenS, DL.e_listL, DL.e_listO, DL.e_listT, DL.e_tupleL, DL.e_tupleT, DL.e_int, DL.e_lm0, DL.e_lm, DL.e_isL, DL.e_app, DL.e_pop, DL.e_popSome, DL.e_call, DL.e_newT, DL.e_newK, DL.e_disp, DL.e_prs0, DL.e_prsS, DL.f_for, DL.f_lc, DL.f_dc, DL.f_iseq, DL.f_seqT, DL.f_rng1, DL.f_rngK, DL.f_zip, DL.f_zipT, DL.f_yes, DL.f_par3, DL.f_par3K, DL.f_isi, DL.f_isiK, DL.f_fld, DL.f_mkE, DL.f_mk0, DL.f_slice, DL.f_nopart, DL.f_part, DL.f_partK, DL.f_slT, DL.f_lrg, DL.f_dispT, List.set_cons_zero, List.set_cons_succ, List.length_cons, List.length_nil, decide_eq_true_eq, Bool.not_eq_true, true_and, and_true, if_true, Bool.false_eq_true, if_false, Nat.reduceAdd, Nat.reduceLT, Nat.reduceLeDiff, e_isL e3]
        have lS : SS.length ≤ L.length := len_le nSS fun x hx => ((mSS x).mp hx).mem
        have pS : SS.Perm (comp L y) := perm_of nSS (nD.sublist List.filter_sublist) fun x => by rw [mSS, mem_comp]
        refine ⟨SS.map rowD, by simp only [rdI, h50, keys_kv], rows_ok (by omega) (fun r hr => ne r ((mSS r).mp hr).mem), fun p3 hp3 => ?_⟩
        show tupleR [.ref p3] _ _
        rw [e_tupleL put_same, srt_rows, srtR_eq pS]
        have nf3 : f ≠ p3 := ne_none e3 hp3
        have e3' : put M4 p3 (.lst ((srtR (comp L y)).map rowD)) f = some (.lst (G.map fun p => .tup (p.map rowD))) := by rw [put_ne nf3]; exact e3
        show appR (.ref f) [_] _ _
        rw [e_app e3']
        refine ⟨by rw [List.length_map]; omega, _, _, _, S ++ comp L y, G ++ [srtR (comp L y)], rfl, ?_, ⟨S3, ?_, h3, h4⟩, by rw [put_same, List.map_append]; rfl, ?_, ?_, sh.more, shut_sub sub, ?_, ?_⟩
        · rw [put_ne nkf, put_ne (ne_none e1 hp3)]
          exact e1
        · rw [put_ne nsf, put_ne (ne_none h2 hp3)]
          exact h2
        · intro b o e
          rw [put_ne (ne_none e gf), put_ne (ne_none (KM b o e) hp3)]
          exact KM b o e
        · rw [put_ne (Ne.symm nf2), put_ne (ne_none e4 hp3)]
          exact e4
        · rw [← eq, List.append_assoc]
          conv => rhs; unfold partsBy
          rw [if_neg hS]
          rfl
        · simp only [List.length_append, List.length_singleton]
          omega
    · obtain ⟨x1, x2, x3, S, G, rfl, c1, _, c2, KK, c3, sh, sub, eq, gl⟩ := W
      rw [List.length_map, List.drop_length] at eq
      have eq : G ++ [] = parts L := eq
      rw [List.append_nil] at eq
      exact hN _ _ ⟨_, _, _, rfl, by rw [c2, eq]; rfl, KK⟩
  rintro ρ M2 ⟨x, y, z, rfl, c2, KK⟩
  simp only [DL.e_next, DL.e_break, DL.e_cont, DL.e_drop, DL.e_ret, DL.e_retN, DL.e_ifS, DL.e_asg, DL.e_par, DL.e_par2, DL.e_del, DL.e_gname, DL.e_gsub, DL.e_gtup, DL.e_gcons, DL.e_gnil, DL.e_var0, DL.e_varS, DL.e_con, DL.e_top2, DL.e_top1, DL.e_cb, DL.e_nil, DL.e_cons, DL.e_tup, DL.e_lst, DL.e_test, DL.e_testK, DL.e_tru, DL.e_truB, DL.e_truN, DL.e_truL, DL.e_and, DL.e_or, DL.e_not, DL.e_if, DL.e_andV, DL.e_andK, DL.e_orV, DL.e_orK, DL.e_notV, DL.e_notK, DL.e_add, DL.e_addS, DL.e_addT, DL.e_addL, DL.e_sub, DL.e_mul, DL.e_mulL, DL.e_mulT, DL.e_fdiv, DL.e_mod, DL.e_pow, DL.e_neg, DL.e_lt, DL.e_le, DL.e_gt, DL.e_ge, DL.e_eqI, DL.e_eqS, DL.e_neI, DL.e_neS, DL.e_isN, DL.e_isntN, DL.e_isB, DL.e_isntB, DL.e_atK, DL.e_ixT, DL.e_ixL, DL.e_ixK, DL.e_ixDT, DL.e_setK, DL.e_setDT, DL.e_setSome, DL.e_setL, DL.e_delK, DL.e_delT, DL.e_inT, DL.e_inK, DL.e_lenL, DL.e_lenT, DL.e_lenK, DL.e_lenDT, DL.e_lenS, DL.e_listL, DL.e_listO, DL.e_listT, DL.e_tupleL, DL.e_tupleT, DL.e_int, DL.e_lm0, DL.e_lm, DL.e_isL, DL.e_app, DL.e_pop, DL.e_popSome, DL.e_call, DL.e_newT, DL.e_newK, DL.e_disp, DL.e_prs0, DL.e_prsS, DL.f_for, DL.f_lc, DL.f_dc, DL.f_iseq, DL.f_seqT, DL.f_rng1, DL.f_rngK, DL.f_zip, DL.f_zipT, DL.f_yes, DL.f_par3, DL.f_par3K, DL.f_isi, DL.f_isiK, DL.f_fld, DL.f_mkE, DL.f_mk0, DL.f_slice, DL.f_nopart, DL.f_part, DL.f_partK, DL.f_slT, DL.f_lrg, DL.f_dispT, List.set_cons_zero, List.set_cons_succ, List.length_cons, List.length_nil, decide_eq_true_eq, Bool.not_eq_true, true_and, and_true, if_true, Bool.false_eq_true, if_false, Nat.reduceAdd, Nat.reduceLT, Nat.reduceLeDiff]
  exact Down.of (q f M2 KK gf c2)
end
end Lw

end T_LWA

section T_LWB
set_option Elab.async false
set_option linter.all false
set_option maxRecDepth 100000
set_option maxHeartbeats 4000000
namespace Lw
open PySem PySem.Spec L2 DL
open PyProof.Rows hiding St
theorem pen_keep {M M' : Mem} {p c : Addr} {ns : List Int} {n : Nat} (h : Pen M p c ns n) (k : Keep M M') : Pen M' p c ns n := by
  obtain ⟨⟨x1, x2, x3, x4, hM, r⟩, hc⟩ := h
  exact ⟨⟨x1, x2, x3, x4, k _ _ hM, r⟩, k _ _ hc⟩
theorem pen_ne {M : Mem} {p c m : Addr} {ns : List Int} {n : Nat} {l : List D} (h : Pen M p c ns n) (hm : M m = some (.lst l)) : m ≠ p := by
  obtain ⟨⟨x1, x2, x3, x4, hM, _⟩, _⟩ := h
  intro z
  rw [z, hM] at hm
  cases hm
theorem pen_up {M : Mem} {p c : Addr} {ns : List Int} {n m : Nat} (h : Pen M p c ns n) (k : n ≤ m) : Pen M p c ns m := by
  obtain ⟨⟨x1, x2, x3, x4, hM, a, b, c', d, r⟩, hc⟩ := h
  exact ⟨⟨x1, x2, x3, x4, hM, a, b, c', by omega, r⟩, hc⟩
theorem pen_some {M : Mem} {p c : Addr} {ns : List Int} {n : Nat} (h : Pen M p c ns n) : M p ≠ none := by
  obtain ⟨⟨x1, x2, x3, x4, hM, _⟩, _⟩ := h
  rw [hM]
  simp
/-- a list that is neither the pen nor its numbers is changed -/
theorem pen_put {M : Mem} {p c m : Addr} {ns : List Int} {n : Nat} {o : DO} (h : Pen M p c ns n) (h1 : m ≠ p) (h2 : m ≠ c) : Pen (put M m o) p c ns n := by
  obtain ⟨⟨x1, x2, x3, x4, hM, r⟩, hc⟩ := h
  exact ⟨⟨x1, x2, x3, x4, by rw [put_ne (Ne.symm h1)]; exact hM, r⟩, by rw [put_ne (Ne.symm h2)]; exact hc⟩
theorem pen_cell {M : Mem} {p c : Addr} {ns : List Int} {n : Nat} (h : Pen M p c ns n) : M c ≠ none := by
  rw [h.cl]
  simp
theorem Chg.kp {p : Addr} {M M' : Mem} (h : Chg p M M') : Kp p M M' := fun b o n e => by rw [h b n]; exact e
theorem kp_fresh {M M' : Mem} {p q c : Addr} {ns : List Int} {n : Nat} (h : Kp p M M') (hp : Pen M' p c ns n) (hq : M' q = none) : M q = none := by
  cases e : M q with
  | none => rfl
  | some u =>
    by_cases z : q = p
    · subst z; exact absurd hq (pen_some hp)
    · rw [h q u z e] at hq; cases hq
theorem pick_at {p c q : Addr} {ns : List Int} {n : Nat} {M : Mem} {l : List D} {Q : VKd} {E : XKd} (hP : Pen M p c ns n) (hn : n < 2 ^ 40) (hq : M q = some (.lst l)) (hl : l ≠ []) (hs : l.length < 2 ^ 30) (k : ∀ x M', x ∈ l → Chg p M M' → Pen M' p c ns (n + 1) → Q x M') :
    spPick [.ref p, .ref q] M Q E := ⟨p, c, ns, n, .ref q, l, rfl, hP, hn, rdL_lst hq, hl, hs, fun z => pen_ne hP hq (by cases z; rfl), k⟩
theorem pick_rows {p c q : Addr} {ns : List Int} {n : Nat} {M : Mem} {G : List Cel} {Q : VKd} {E : XKd} (hP : Pen M p c ns n) (hn : n < 2 ^ 40) (hq : M q = some (.lst (G.map rowD))) (hl : G ≠ []) (hs : G.length < 2 ^ 30) (k : ∀ r M', r ∈ G → Chg p M M' → Pen M' p c ns (n + 1) → Q (rowD r) M') :
    spPick [.ref p, .ref q] M Q E := pick_at hP hn hq (by simpa using hl) (by simpa using hs) fun x M' hx C P' => by
  obtain ⟨r, hr, rfl⟩ := List.mem_map.mp hx
  exact k r M' hr C P'
def freeF (G : List Cel) (x : D) : Option D := if x ∈ G.map rowD then none else some x
theorem mem_rowD {G : List Cel} {r : Cel} : rowD r ∈ G.map rowD ↔ r ∈ G := by
  rw [List.mem_map]
  constructor
  · rintro ⟨s, hs, e⟩
    rw [← rowD_inj e]
    exact hs
  · exact fun h => ⟨r, h, rfl⟩
theorem free_rows (G : List Cel) : ∀ L : List Cel, (L.map rowD).filterMap (freeF G) = (L.filter fun r => decide (r ∉ G)).map rowD
  | [] => rfl
  | r :: L => by
    have e : freeF G (rowD r) = if r ∈ G then none else some (rowD r) := by
      unfold freeF
      simp only [mem_rowD]
    rw [List.map_cons, List.filterMap_cons, free_rows G L, e]
    by_cases h : r ∈ G
    · rw [if_pos h, List.filter_cons_of_neg (by simp [h])]
    · rw [if_neg h, List.filter_cons_of_pos (by simp [h])]
      rfl
theorem zeros (d : Nat) : (List.replicate d [D.int 0]).flatten = (List.replicate d (0 : Int)).map D.int := by
  induction d with
  | zero => rfl
  | succ d ih =>
    rw [List.replicate_succ, List.flatten_cons, ih, List.replicate_succ]
    rfl
/-- the cells of a drawn lot: of dimension d, numbers up to b -/
def Lot (d : Nat) (b : Int) (G : List Cel) : Prop := ∀ r ∈ G, r.length = d ∧ Bd b r
theorem popAt_go {M : Mem} {a : Addr} {xs : List D} {i : Int} {Q : VKd} (h : M a = some (.lst xs)) (h0 : 0 ≤ i) (h1 : i < xs.length) (hs : xs.length < 2 ^ 62) (q : ∀ y ∈ xs, Q y (put M a (.lst (xs.eraseIdx i.toNat)))) : popAtR (.ref a) [.int i] M Q := by
  simp only [popAtR, h]
  refine ⟨⟨by omega, by omega⟩, ?_⟩
  have e : seqIndex? i xs.length = some i.toNat := by
    unfold seqIndex?
    simp only [show ¬ i < 0 by omega, if_false]
    simp; omega
  have hl : i.toNat < xs.length := by omega
  rw [e]
  simp only [List.getElem?_eq_getElem hl]
  exact q _ (List.getElem_mem hl)
theorem er_map {α β : Type} {f : α → β} {A : List α} {k : Nat} : (A.map f).eraseIdx k = (A.eraseIdx k).map f := by
  rw [List.eraseIdx_eq_take_drop_succ, List.eraseIdx_eq_take_drop_succ, List.map_append, List.map_take, List.map_drop]
/-- each item gives a datum that P, by a draw -/
theorem lc_draws {items : List D} {ok : Mem → Prop} {g : TGd} {te : TEd} {vs : List Nat} {pl : Addr} {ρ : Envd} {M1 : Mem} {Q : VKd} {p c : Addr} {ns : List Int} {n : Nat} (P : D → Prop) (hP : Pen M1 p c ns n) (hpl : M1 pl = none) (hl : items.length < 2 ^ 20)
    (hok : ∀ M, Kp p M1 M → ok M)
    (step : ∀ x ∈ items, ∀ (M : Mem) (m : Nat), Kp p M1 M → Pen M p c ns m → m < n + items.length → ∀ Ky : D → Mem → Prop, (∀ M' y, P y → Kp p M M' → Pen M' p c ns (m + 1) → Ky y M') → g x (wiped ρ vs) M fun ρ2 M2 => te ρ2 M2 Ky)
    (fin : ∀ M acc, Kp p M1 M → M pl = some (.lst acc) → acc.length = items.length → (∀ y ∈ acc, P y) → Pen M p c ns (n + items.length) → Q (.ref pl) M) : lcK items ok g tyes te vs pl ρ M1 Q := by
  have nlp : pl ≠ p := fun z => pen_some hP (z ▸ hpl)
  have nlc : pl ≠ c := fun z => pen_cell hP (z ▸ hpl)
  refine lc_inv (fun i acc M => Kp p M1 M ∧ M pl = some (.lst acc) ∧ acc.length = i ∧ (∀ y ∈ acc, P y) ∧ Pen M p c ns (n + i)) ⟨Kp.keep (Keep.new hpl), put_same, rfl, by simp, pen_keep hP (Keep.new hpl)⟩ (fun i acc M _ w => hok M w.1) (fun i x acc M e w => ?_) fun acc M w => ?_
  · obtain ⟨k, hM, la, ha, hp⟩ := w
    have hi : i < items.length := (List.getElem?_eq_some_iff.mp e).1
    refine step x (List.mem_of_getElem? e) M (n + i) k hp (by omega) _ fun M' y hy kM hp' => ⟨kM pl _ nlp hM, by have := sizeLine_eq; omega, (k.trans kM).new hpl, put_same, by simp [la], fun z hz => ?_, pen_put hp' nlp nlc⟩
    rcases List.mem_append.mp hz with hz | hz
    · exact ha z hz
    · rw [List.mem_singleton] at hz
      subst hz
      exact hy
  · obtain ⟨k, hM, la, ha, hp⟩ := w
    exact fin M acc k hM la ha hp
/-- ints that P -/
theorem ints_of {P : Int → Prop} : ∀ {l : List D}, (∀ y ∈ l, ∃ i : Int, y = .int i ∧ P i) → ∃ A : List Int, l = A.map D.int ∧ ∀ a ∈ A, P a
  | [], _ => ⟨[], rfl, by simp⟩
  | y :: l, h => by
    obtain ⟨i, rfl, hi⟩ := h y List.mem_cons_self
    obtain ⟨A, rfl, hA⟩ := ints_of fun z hz => h z (List.mem_cons_of_mem _ hz)
    refine ⟨i :: A, rfl, fun a ha => ?_⟩
    rcases List.mem_cons.mp ha with rfl | ha
    · exact hi
    · exact hA a ha
theorem getD_mem {A : List Int} {i : Nat} (h : i < A.length) : A.getD i 0 ∈ A := by
  rw [List.getD_eq_getElem?_getD, List.getElem?_eq_getElem h]
  exact List.getElem_mem h
theorem at_int {A : List Int} {j : Int} (h0 : 0 ≤ j) (h1 : j < A.length) : atI (A.map D.int) j = some (.int (A.getD j.toNat 0)) := by
  have hl : j.toNat < A.length := by omega
  unfold atI ixN
  rw [if_pos h0, if_pos (by rw [List.length_map]; omega)]
  simp [hl]
def turnV (sg od by_ : List Int) (r : Cel) (k : Nat) : Int := sg.getD k 0 * r.getD (od.getD k 0).toNat 0 + by_.getD k 0
def turnF (sg od by_ : List Int) (r : Cel) : D → Option D
  | .int k => some (.int (turnV sg od by_ r k.toNat))
  | _ => none
theorem turn_row {sg od by_ : List Int} {r : Cel} {d : Nat} : (intsD 0 d).filterMap (turnF sg od by_ r) = ((List.range d).map (turnV sg od by_ r)).map D.int := by
  unfold intsD
  rw [List.filterMap_map, List.map_map]
  have : ∀ l : List Nat, l.filterMap (turnF sg od by_ r ∘ fun i : Nat => D.int (0 + (i : Int))) = l.map (D.int ∘ turnV sg od by_ r) := fun l => by
    induction l with
    | nil => rfl
    | cons x l ih =>
      have e : (turnF sg od by_ r ∘ fun i : Nat => D.int (0 + (i : Int))) x = some (D.int (turnV sg od by_ r x)) := by
        show some (D.int (turnV sg od by_ r (0 + (x : Int)).toNat)) = _
        rw [Int.zero_add, Int.toNat_natCast]
      rw [List.filterMap_cons, e, ih]
      rfl
  exact this _
section
variable {P : Program} {w : World} {K : PySem.W.Frag} {mg : Str → Option Value} {base : Heap}
def spGrown : SpD := fun ds M Q _ => ∃ p c ns n d m, ds = [.ref p, .int (d : Nat), .int (m : Nat)] ∧ Pen M p c ns n ∧ n < 2 ^ 39 ∧ 2 ≤ d ∧ d ≤ 4 ∧ 1 ≤ m ∧ m ≤ 1000 ∧
  ∀ q G M', Kp p M M' → M q = none → M' q = some (.lst (G.map rowD)) → Pen M' p c ns (n + 2 * m) → Lot d m G → G ≠ [] → G.length ≤ m → Q (.ref q) M'
theorem ok_law_grown (Z : Free mg) (S : Stands K mg "_law_grown" s_law_grown ["pen", "dimension", "many"]) (C_law_pick : FnD P w K mg base 2 "_law_pick" ["pen", "some"] spPick) (C_law_around : FnD P w K mg base 2 "_law_around" ["cell"] spLAround) :
    FnD P w K mg base 3 "_law_grown" ["pen", "dimension", "many"] spGrown := by
  obtain ⟨f, fd, F, hm, hb⟩ := S
  refine FnD.of F sc_law_grown hm hb (fun ds M Q E h => ?_) fun cdv A outer s0 H0 E E0 hr tk hp => ?_
  · obtain ⟨p, c, ns, n, d, m, rfl, _⟩ := h; rfl
  have nd := sc_law_grown.nd
  refine ⟨_, (pssd_cons (sv 3 nd (ped_lst (pad_cons (ped_op op_mulD (ped_tup (pad_cons ped_int pad_nil)) (v 1)) pad_nil)))
  (pssd_cons (psd_for hp rfl (pid_range1 rfl Z.range (pad_cons (ped_op op_subD (v 2) ped_int) pad_nil)) (gn 4 nd) (pssd_cons (svL 5 nd (pid_seq (ped_call C_law_around (hr.mono (by decide)) rfl tk (pad_cons (ped_call C_law_pick (hr.mono (by decide)) rfl tk (pad_cons (v 0) (pad_cons (v 3) pad_nil))) pad_nil))) (blkOk_by (own := [("cell", 6)]) rfl) (by decide) (fun _ _ _ _ _ => (gn 6 nd)) (fun _ _ _ _ _ => (ptsd_one (ptd_cmp (op_notInDD (u65 hr)) (v 6) (v 3) rfl))) (fun _ _ _ _ _ => (v 6)))
      (pssd_one (sv 3 nd (ped_op op_addD (v 3) (ped_if (ptd_cmp (op_neDD (u64 hr)) (v 5) (ped_lst pad_nil) (nomark _)) (ped_lst (pad_cons (ped_call C_law_pick (hr.mono (by decide)) rfl tk (pad_cons (v 0) (pad_cons (v 5) pad_nil))) pad_nil)) (ped_lst pad_nil)))))))
  (pssd_one (psd_ret (v 3))))), fun ds M Q h => ?_⟩
  obtain ⟨p, c, ns, n, d, m, rfl, hP, hn, hd0, hd1, hm0, hm1, q⟩ := h
  have sz := sizeLine_eq
  show tseq _ _ _ [some (.ref p), some (.int (d : Nat)), some (.int (m : Nat)), none, none, none, none] M
  refine seq_cut (fun ρ M' => ∃ q, ρ = [some (.ref p), some (.int (d : Nat)), some (.int (m : Nat)), some (.ref q), none, none, none] ∧ M q = none ∧ Keep M M' ∧ M' q = some (.lst ([List.replicate d 0].map rowD))) (fun N hN => ?_) ?_
  · simp only [DL.e_next, DL.e_break, DL.e_cont, DL.e_drop, DL.e_ret, DL.e_retN, DL.e_ifS, DL.e_asg, DL.e_par, DL.e_par2, DL.e_del, DL.e_gname, DL.e_gsub, DL.e_gtup, DL.e_gcons, DL.e_gnil, DL.e_var0, DL.e_varS, DL.e_con, DL.e_top2, DL.e_top1, DL.e_cb, DL.e_nil, DL.e_cons, DL.e_tup, DL.e_lst, DL.e_test, DL.e_testK, DL.e_tru, DL.e_truB, DL.e_truN, DL.e_truL, DL.e_and, DL.e_or, DL.e_not, DL.e_if, DL.e_andV, DL.e_andK, DL.e_orV, DL.e_orK, DL.e_notV, DL.e_notK, DL.e_add, DL.e_addS, DL.e_addT, DL.e_addL, DL.e_sub, DL.e_mul, DL.e_mulL, DL.e_mulT, DL.e_fdiv, DL.e_mod, DL.e_pow, DL.e_neg, DL.e_lt, DL.e_le, DL.e_gt, DL.e_ge, DL.e_eqI, DL.e_eqS, DL.e_neI, DL.e_neS, DL.e_isN, DL.e_isntN, DL.e_isB, DL.e_isntB, DL.e_atK, DL.e_ixT, DL.e_ixL, DL.e_ixK, DL.e_ixDT, DL.e_setK, DL.e_setDT, DL.e_setSome, DL.e_setL, DL.e_delK, DL.e_delT, DL.e_inT, DL.e_inK, DL.e_lenL, DL.e_lenT, DL.e_lenK, DL.e_lenDT, DL.e_lenS, DL.e_listL, DL.e_listO, DL.e_listT, DL.e_tupleL, DL.e_tupleT, DL.e_int, DL.e_lm0, DL.e_lm, DL.e_isL, DL.e_app, DL.e_pop, DL.e_popSome, DL.e_call, DL.e_newT, DL.e_newK, DL.e_disp, DL.e_prs0, DL.e_prsS, DL.f_for, DL.f_lc, DL.f_dc, DL.f_iseq, DL.f_seqT, DL.f_rng1, DL.f_rngK, DL.f_zip, DL.f_zipT, DL.f_yes, DL.f_par3, DL.f_par3K, DL.f_isi, DL.f_isiK, DL.f_fld, DL.f_mkE, DL.f_mk0, DL.f_slice, DL.f_nopart, DL.f_part, DL.f_partK, DL.f_slT, DL.f_lrg, DL.f_dispT, List.set_cons_zero, List.set_cons_succ, List.length_cons, List.length_nil, decide_eq_true_eq, Bool.not_eq_true, true_and, and_true, if_true, Bool.false_eq_true, if_false, Nat.reduceAdd, Nat.reduceLT, Nat.reduceLeDiff, e_mulT]
    refine ⟨by decide, ⟨by simp, by omega, by omega⟩, by decide, fun q hq => hN _ _ ⟨q, rfl, hq, Keep.new hq, ?_⟩⟩
    rw [put_same, Int.toNat_natCast, zeros]
    rfl
  rintro ρ M1 ⟨q0, rfl, g0, K1, b1⟩
  refine seq_cut (fun ρ M' => ∃ q G o1 o2 o3, ρ = [some (.ref p), some (.int (d : Nat)), some (.int (m : Nat)), some (.ref q), o1, o2, o3] ∧ Kp p M M' ∧ M q = none ∧ M' q = some (.lst (G.map rowD)) ∧ Pen M' p c ns (n + 2 * m) ∧ Lot d m G ∧ G ≠ [] ∧ G.length ≤ m) (fun N hN => ?_) ?_
  · simp only [DL.e_next, DL.e_break, DL.e_cont, DL.e_drop, DL.e_ret, DL.e_retN, DL.e_ifS, DL.e_asg, DL.e_par, DL.e_par2, DL.e_del, DL.e_gname, DL.e_gsub, DL.e_gtup, DL.e_gcons, DL.e_gnil, DL.e_var0, DL.e_varS, DL.e_con, DL.e_top2, DL.e_top1, DL.e_cb, DL.e_nil, DL.e_cons, DL.e_tup, DL.e_lst, DL.e_test, DL.e_testK, DL.e_tru, DL.e_truB, DL.e_truN, DL.e_truL, DL.e_and, DL.e_or, DL.e_not, DL.e_if, DL.e_andV, DL.e_andK, DL.e_orV, DL.e_orK, DL.e_notV, DL.e_notK, DL.e_add, DL.e_addS, DL.e_addT, DL.e_addL, DL.e_sub, DL.e_mul, DL.e_mulL, DL.e_mulT, DL.e_fdiv, DL.e_mod, DL.e_pow, DL.e_neg, DL.e_lt, DL.e_le, DL.e_gt, DL.e_ge, DL.e_eqI, DL.e_eqS, DL.e_neI, DL.e_neS, DL.e_isN, DL.e_isntN, DL.e_isB, DL.e_isntB, DL.e_atK, DL.e_ixT, DL.e_ixL, DL.e_ixK, DL.e_ixDT, DL.e_setK, DL.e_setDT, DL.e_setSome, DL.e_setL, DL.e_delK, DL.e_delT, DL.e_inT, DL.e_inK, DL.e_lenL, DL.e_lenT, DL.e_lenK, DL.e_lenDT, DL.e_lenS, DL.e_listL, DL.e_listO, DL.e_listT, DL.e_tupleL, DL.e_tupleT, DL.e_int, DL.e_lm0, DL.e_lm, DL.e_isL, DL.e_app, DL.e_pop, DL.e_popSome, DL.e_call, DL.e_newT, DL.e_newK, DL.e_disp, DL.e_prs0, DL.e_prsS, DL.f_for, DL.f_lc, DL.f_dc, DL.f_iseq, DL.f_seqT, DL.f_rng1, DL.f_rngK, DL.f_zip, DL.f_zipT, DL.f_yes, DL.f_par3, DL.f_par3K, DL.f_isi, DL.f_isiK, DL.f_fld, DL.f_mkE, DL.f_mk0, DL.f_slice, DL.f_nopart, DL.f_part, DL.f_partK, DL.f_slT, DL.f_lrg, DL.f_dispT, List.set_cons_zero, List.set_cons_succ, List.length_cons, List.length_nil, decide_eq_true_eq, Bool.not_eq_true, true_and, and_true, if_true, Bool.false_eq_true, if_false, Nat.reduceAdd, Nat.reduceLT, Nat.reduceLeDiff, f_for, f_rng1]
    rw [show ((m : Int) - 1) = ((m - 1 : Nat) : Int) by omega, Int.toNat_natCast]
    refine ⟨⟨by omega, by omega⟩, ?_⟩
    refine for_inv (fun i ρ M' => ∃ q G o1 o2 o3, ρ = [some (.ref p), some (.int (d : Nat)), some (.int (m : Nat)), some (.ref q), o1, o2, o3] ∧ Kp p M M' ∧ M q = none ∧ M' q = some (.lst (G.map rowD)) ∧ Pen M' p c ns (n + 2 * i) ∧ Lot d (i + 1 : Nat) G ∧ G ≠ [] ∧ G.length ≤ i + 1)
      ⟨q0, _, none, none, none, rfl, Kp.keep K1, g0, b1, pen_keep hP K1, ?_, by simp, by simp⟩ (fun _ _ _ _ _ => trivial) (fun i x ρ M' e W => ?_) (fun ρ M' W => ?_)
    · intro r hr
      rw [List.mem_singleton] at hr
      subst hr
      refine ⟨by simp, fun x hx => ?_⟩
      have := List.eq_of_mem_replicate hx
      omega
    · obtain ⟨q1, G, o1, o2, o3, rfl, K2, g1, b2, P2, lot, ne, lG⟩ := W
      have hi : i < m - 1 := by
        have := (List.getElem?_eq_some_iff.mp e).1
        rwa [intsD_length] at this
      rw [e_gname]
      show tseq _ _ _ [some (.ref p), some (.int (d : Nat)), some (.int (m : Nat)), some (.ref q1), some x, o2, o3] M'
      refine seq_cut (fun ρ M3 => ∃ qf r, ρ = [some (.ref p), some (.int (d : Nat)), some (.int (m : Nat)), some (.ref q1), some x, some (.ref qf), o3] ∧ r ∈ G ∧ Kp p M M3 ∧ M3 q1 = some (.lst (G.map rowD)) ∧ M3 qf = some (.lst (((nbrs r).filter fun s => decide (s ∉ G)).map rowD)) ∧ Pen M3 p c ns (n + 2 * i + 1)) (fun N2 hN2 => ?_) ?_
      · simp only [DL.e_next, DL.e_break, DL.e_cont, DL.e_drop, DL.e_ret, DL.e_retN, DL.e_ifS, DL.e_asg, DL.e_par, DL.e_par2, DL.e_del, DL.e_gname, DL.e_gsub, DL.e_gtup, DL.e_gcons, DL.e_gnil, DL.e_var0, DL.e_varS, DL.e_con, DL.e_top2, DL.e_top1, DL.e_cb, DL.e_nil, DL.e_cons, DL.e_tup, DL.e_lst, DL.e_test, DL.e_testK, DL.e_tru, DL.e_truB, DL.e_truN, DL.e_truL, DL.e_and, DL.e_or, DL.e_not, DL.e_if, DL.e_andV, DL.e_andK, DL.e_orV, DL.e_orK, DL.e_notV, DL.e_notK, DL.e_add, DL.e_addS, DL.e_addT, DL.e_addL, DL.e_sub, DL.e_mul, DL.e_mulL, DL.e_mulT, DL.e_fdiv, DL.e_mod, DL.e_pow, DL.e_neg, DL.e_lt, DL.e_le, DL.e_gt, DL.e_ge, DL.e_eqI, DL.e_eqS, DL.e_neI, DL.e_neS, DL.e_isN, DL.e_isntN, DL.e_isB, DL.e_isntB, DL.e_atK, DL.e_ixT, DL.e_ixL, DL.e_ixK, DL.e_ixDT, DL.e_setK, DL.e_setDT, DL.e_setSome, DL.e_setL, DL.e_delK, DL.e_delT, DL.e_inT, DL.e_inK, DL.e_lenL, DL.e_lenT, DL.e_lenK, DL.e_lenDT, DL.e_lenS, DL.e_listL, DL.e_listO, DL.e_listT, DL.e_tupleL, DL.e_tupleT, DL.e_int, DL.e_lm0, DL.e_lm, DL.e_isL, DL.e_app, DL.e_pop, DL.e_popSome, DL.e_call, DL.e_newT, DL.e_newK, DL.e_disp, DL.e_prs0, DL.e_prsS, DL.f_for, DL.f_lc, DL.f_dc, DL.f_iseq, DL.f_seqT, DL.f_rng1, DL.f_rngK, DL.f_zip, DL.f_zipT, DL.f_yes, DL.f_par3, DL.f_par3K, DL.f_isi, DL.f_isiK, DL.f_fld, DL.f_mkE, DL.f_mk0, DL.f_slice, DL.f_nopart, DL.f_part, DL.f_partK, DL.f_slT, DL.f_lrg, DL.f_dispT, List.set_cons_zero, List.set_cons_succ, List.length_cons, List.length_nil, decide_eq_true_eq, Bool.not_eq_true, true_and, and_true, if_true, Bool.false_eq_true, if_false, Nat.reduceAdd, Nat.reduceLT, Nat.reduceLeDiff, f_lc, f_iseq]
        refine pick_rows P2 (by omega) b2 ne (by omega) fun r M4 hr C4 P4 => ?_
        have lr := (lot r hr).1
        refine ⟨r, rfl, by omega, by omega, fun pa M5 K5 hpa a5 => ?_⟩
        show seqK (.ref pa) _ _
        rw [f_seqL a5]
        intro pf hpf
        have b4 : M4 q1 = some (.lst (G.map rowD)) := by rw [C4 q1 (pen_ne P2 b2)]; exact b2
        refine lc_pure (freeF G) hpf (by rw [List.length_map]; unfold nbrs stepsL; rw [List.length_map]; split <;> (simp; omega)) (fun M6 k6 => rdL_lst (k6 _ _ a5)) (fun z hz M6 acc k6 h6 Ky Kn ky kn => ?_) fun M6 k6 h6 => ?_
        · obtain ⟨s, hs, rfl⟩ := List.mem_map.mp hz
          have b6 := k6 _ _ (K5 _ _ b4)
          simp only [DL.e_next, DL.e_break, DL.e_cont, DL.e_drop, DL.e_ret, DL.e_retN, DL.e_ifS, DL.e_asg, DL.e_par, DL.e_par2, DL.e_del, DL.e_gname, DL.e_gsub, DL.e_gtup, DL.e_gcons, DL.e_gnil, DL.e_var0, DL.e_varS, DL.e_con, DL.e_top2, DL.e_top1, DL.e_cb, DL.e_nil, DL.e_cons, DL.e_tup, DL.e_lst, DL.e_test, DL.e_testK, DL.e_tru, DL.e_truB, DL.e_truN, DL.e_truL, DL.e_and, DL.e_or, DL.e_not, DL.e_if, DL.e_andV, DL.e_andK, DL.e_orV, DL.e_orK, DL.e_notV, DL.e_notK, DL.e_add, DL.e_addS, DL.e_addT, DL.e_addL, DL.e_sub, DL.e_mul, DL.e_mulL, DL.e_mulT, DL.e_fdiv, DL.e_mod, DL.e_pow, DL.e_neg, DL.e_lt, DL.e_le, DL.e_gt, DL.e_ge, DL.e_eqI, DL.e_eqS, DL.e_neI, DL.e_neS, DL.e_isN, DL.e_isntN, DL.e_isB, DL.e_isntB, DL.e_atK, DL.e_ixT, DL.e_ixL, DL.e_ixK, DL.e_ixDT, DL.e_setK, DL.e_setDT, DL.e_setSome, DL.e_setL, DL.e_delK, DL.e_delT, DL.e_inT, DL.e_inK, DL.e_lenL, DL.e_lenT, DL.e_lenK, DL.e_lenDT, DL.e_lenS, DL.e_listL, DL.e_listO, DL.e_listT, DL.e_tupleL, DL.e_tupleT, DL.e_int, DL.e_lm0, DL.e_lm, DL.e_isL, DL.e_app, DL.e_pop, DL.e_popSome, DL.e_call, DL.e_newT, DL.e_newK, DL.e_disp, DL.e_prs0, DL.e_prsS, DL.f_for, DL.f_lc, DL.f_dc, DL.f_iseq, DL.f_seqT, DL.f_rng1, DL.f_rngK, DL.f_zip, DL.f_zipT, DL.f_yes, DL.f_par3, DL.f_par3K, DL.f_isi, DL.f_isiK, DL.f_fld, DL.f_mkE, DL.f_mk0, DL.f_slice, DL.f_nopart, DL.f_part, DL.f_partK, DL.f_slT, DL.f_lrg, DL.f_dispT, List.set_cons_zero, List.set_cons_succ, List.length_cons, List.length_nil, decide_eq_true_eq, Bool.not_eq_true, true_and, and_true, if_true, Bool.false_eq_true, if_false, Nat.reduceAdd, Nat.reduceLT, Nat.reduceLeDiff, DL.wiped, List.map_cons, List.map_nil]
          refine in_rows b6 ?_
          simp only [DL.e_next, DL.e_break, DL.e_cont, DL.e_drop, DL.e_ret, DL.e_retN, DL.e_ifS, DL.e_asg, DL.e_par, DL.e_par2, DL.e_del, DL.e_gname, DL.e_gsub, DL.e_gtup, DL.e_gcons, DL.e_gnil, DL.e_var0, DL.e_varS, DL.e_con, DL.e_top2, DL.e_top1, DL.e_cb, DL.e_nil, DL.e_cons, DL.e_tup, DL.e_lst, DL.e_test, DL.e_testK, DL.e_tru, DL.e_truB, DL.e_truN, DL.e_truL, DL.e_and, DL.e_or, DL.e_not, DL.e_if, DL.e_andV, DL.e_andK, DL.e_orV, DL.e_orK, DL.e_notV, DL.e_notK, DL.e_add, DL.e_addS, DL.e_addT, DL.e_addL, DL.e_sub, DL.e_mul, DL.e_mulL, DL.e_mulT, DL.e_fdiv, DL.e_mod, DL.e_pow, DL.e_neg, DL.e_lt, DL.e_le, DL.e_gt, DL.e_ge, DL.e_eqI, DL.e_eqS, DL.e_neI, DL.e_neS, DL.e_isN, DL.e_isntN, DL.e_isB, DL.e_isntB, DL.e_atK, DL.e_ixT, DL.e_ixL, DL.e_ixK, DL.e_ixDT, DL.e_setK, DL.e_setDT, DL.e_setSome, DL.e_setL, DL.e_delK, DL.e_delT, DL.e_inT, DL.e_inK, DL.e_lenL, DL.e_lenT, DL.e_lenK, DL.e_lenDT, DL.e_lenS, DL.e_listL, DL.e_listO, DL.e_listT, DL.e_tupleL, DL.e_tupleT, DL.e_int, DL.e_lm0, DL.e_lm, DL.e_isL, DL.e_app, DL.e_pop, DL.e_popSome, DL.e_call, DL.e_newT, DL.e_newK, DL.e_disp, DL.e_prs0, DL.e_prsS, DL.f_for, DL.f_lc, DL.f_dc, DL.f_iseq, DL.f_seqT, DL.f_rng1, DL.f_rngK, DL.f_zip, DL.f_zipT, DL.f_yes, DL.f_par3, DL.f_par3K, DL.f_isi, DL.f_isiK, DL.f_fld, DL.f_mkE, DL.f_mk0, DL.f_slice, DL.f_nopart, DL.f_part, DL.f_partK, DL.f_slT, DL.f_lrg, DL.f_dispT, List.set_cons_zero, List.set_cons_succ, List.length_cons, List.length_nil, decide_eq_true_eq, Bool.not_eq_true, true_and, and_true, if_true, Bool.false_eq_true, if_false, Nat.reduceAdd, Nat.reduceLT, Nat.reduceLeDiff]
          by_cases hG : s ∈ G
          · rw [if_neg (by simp [hG])]
            exact kn M6 (by unfold freeF; rw [if_pos (mem_rowD.mpr hG)]) .refl
          · rw [if_pos (by simp [hG])]
            exact ky M6 _ (by unfold freeF; rw [if_neg (fun z => hG (mem_rowD.mp z))]) .refl
        · rw [free_rows] at h6
          have KK : Keep M4 M6 := K5.trans k6
          exact hN2 _ _ ⟨pf, r, rfl, hr, (K2.trans C4.kp).trans (Kp.keep KK), KK _ _ b4, h6, pen_keep P4 KK⟩
      rintro ρ M3 ⟨qf, r, rfl, hr, K3, b3, f3, P3⟩
      have Lf : Lot d (i + 1 + 1 : Nat) ((nbrs r).filter fun s => decide (s ∉ G)) := fun s hs => by
        have hs := (List.mem_filter.mp hs).1
        refine ⟨(nbrs_len hs).trans (lot r hr).1, ?_⟩
        have := (lot r hr).2.nbrs hs
        exact this
      have lf8 : ((nbrs r).filter fun s => decide (s ∉ G)).length ≤ 8 := by
        refine Nat.le_trans (List.length_filter_le _ _) ?_
        unfold nbrs stepsL
        rw [List.length_map]
        split <;> simp
      generalize (nbrs r).filter (fun s => decide (s ∉ G)) = L3 at *
      have lot2 : Lot d (i + 1 + 1 : Nat) G := fun s hs => ⟨(lot s hs).1, (lot s hs).2.mono (by omega)⟩
      simp only [DL.e_next, DL.e_break, DL.e_cont, DL.e_drop, DL.e_ret, DL.e_retN, DL.e_ifS, DL.e_asg, DL.e_par, DL.e_par2, DL.e_del, DL.e_gname, DL.e_gsub, DL.e_gtup, DL.e_gcons, DL.e_gnil, DL.e_var0, DL.e_varS, DL.e_con, DL.e_top2, DL.e_top1, DL.e_cb, DL.e_nil, DL.e_cons, DL.e_tup, DL.e_lst, DL.e_test, DL.e_testK, DL.e_tru, DL.e_truB, DL.e_truN, DL.e_truL, DL.e_and, DL.e_or, DL.e_not, DL.e_if, DL.e_andV, DL.e_andK, DL.e_orV, DL.e_orK, DL.e_notV, DL.e_notK, DL.e_add, DL.e_addS, DL.e_addT, DL.e_addL, DL.e_sub, DL.e_mul, DL.e_mulL, DL.e_mulT, DL.e_fdiv, DL.e_mod, DL.e_pow, DL.e_neg, DL.e_lt, DL.e_le, DL.e_gt, DL.e_ge, DL.e_eqI, DL.e_eqS, DL.e_neI, DL.e_neS, DL.e_isN, DL.e_isntN, DL.e_isB, DL.e_isntB, DL.e_atK, DL.e_ixT, DL.e_ixL, DL.e_ixK, DL.e_ixDT, DL.e_setK, DL.e_setDT, DL.e_setSome, DL.e_setL, DL.e_delK, DL.e_delT, DL.e_inT, DL.e_inK, DL.e_lenL, DL.e_lenT, DL.e_lenK, DL.e_lenDT, DL.e_lenS, DL.e_listL, DL.e_listO, DL.e_listT, DL.e_tupleL, DL.e_tupleT, DL.e_int, DL.e_lm0, DL.e_lm, DL.e_isL, DL.e_app, DL.e_pop, DL.e_popSome, DL.e_call, DL.e_newT, DL.e_newK, DL.e_disp, DL.e_prs0, DL.e_prsS, DL.f_for, DL.f_lc, DL.f_dc, DL.f_iseq, DL.f_seqT, DL.f_rng1, DL.f_rngK, DL.f_zip, DL.f_zipT, DL.f_yes, DL.f_par3, DL.f_par3K, DL.f_isi, DL.f_isiK, DL.f_fld, DL.f_mkE, DL.f_mk0, DL.f_slice, DL.f_nopart, DL.f_part, DL.f_partK, DL.f_slT, DL.f_lrg, DL.f_dispT, List.set_cons_zero, List.set_cons_succ, List.length_cons, List.length_nil, decide_eq_true_eq, Bool.not_eq_true, true_and, and_true, if_true, Bool.false_eq_true, if_false, Nat.reduceAdd, Nat.reduceLT, Nat.reduceLeDiff]
      refine ⟨by decide, fun pe hpe => ?_⟩
      have npe : qf ≠ pe := ne_none f3 hpe
      show neR (.ref qf) (.ref pe) _ _
      rw [neRR]
      refine rows_nil (L := L3) ((Keep.new hpe) _ _ f3) put_same ?_
      rw [e_testK]
      have f3' := (Keep.new (o := .lst []) hpe) _ _ f3
      have b3' := (Keep.new (o := .lst []) hpe) _ _ b3
      have P3' := pen_keep P3 (Keep.new (o := .lst []) hpe)
      have K3' : Kp p M (put M3 pe (.lst [])) := K3.trans (Kp.keep (Keep.new hpe))
      generalize put M3 pe (.lst []) = M4 at f3' b3' P3' K3'
      cases L3 with
      | nil =>
        rw [if_neg (by simp)]
        refine ⟨by decide, fun pn hpn => ?_⟩
        show addR (.ref q1) (.ref pn) _ _
        rw [e_addL ((Keep.new hpn) _ _ b3') put_same]
        refine ⟨by rw [List.length_map, List.length_nil]; omega, fun p5 hp5 => ?_⟩
        have KK : Keep M4 (put (put M4 pn (.lst [])) p5 (.lst (G.map rowD ++ []))) := (Keep.new hpn).trans (Keep.new hp5)
        refine ⟨p5, G, _, _, _, rfl, K3'.trans (Kp.keep KK), ?_, by rw [put_same, List.append_nil], pen_up (pen_keep P3' KK) (by omega), lot2, ne, by omega⟩
        exact kp_fresh (K3'.trans (Kp.keep (Keep.new hpn))) (pen_keep P3' (Keep.new hpn)) hp5
      | cons s0 L4 =>
        rw [if_pos (by simp)]
        refine pick_rows P3' (by omega) f3' (by simp) (by omega) fun s M5 hs C5 P5 => ?_
        refine ⟨by decide, fun pn hpn => ?_⟩
        have b5 : M5 q1 = some (.lst (G.map rowD)) := by rw [C5 q1 (pen_ne P3' b3')]; exact b3'
        show addR (.ref q1) (.ref pn) _ _
        rw [e_addL ((Keep.new hpn) _ _ b5) put_same]
        refine ⟨by rw [List.length_map]; simp; omega, fun p5 hp5 => ?_⟩
        have KK : Keep M5 (put (put M5 pn (.lst [rowD s])) p5 (.lst (G.map rowD ++ [rowD s]))) := (Keep.new hpn).trans (Keep.new hp5)
        refine ⟨p5, G ++ [s], _, _, _, rfl, (K3'.trans C5.kp).trans (Kp.keep KK), ?_, by rw [put_same, List.map_append]; rfl, pen_up (pen_keep P5 KK) (by omega), fun t ht => ?_, by simp, by simp; omega⟩
        · exact kp_fresh ((K3'.trans C5.kp).trans (Kp.keep (Keep.new hpn))) (pen_keep P5 (Keep.new hpn)) hp5
        · rcases List.mem_append.mp ht with ht | ht
          · exact lot2 t ht
          · rw [List.mem_singleton] at ht
            subst ht
            exact Lf t hs
    · obtain ⟨q1, G, o1, o2, o3, rfl, K2, g1, b2, P2, lot, ne, lG⟩ := W
      rw [intsD_length] at P2 lot lG
      refine hN _ _ ⟨q1, G, _, _, _, rfl, K2, g1, b2, pen_up P2 (by omega), fun s hs => ⟨(lot s hs).1, (lot s hs).2.mono (by omega)⟩, ne, by omega⟩
  rintro ρ M2 ⟨q1, G, o1, o2, o3, rfl, K2, g1, b2, P2, lot, ne, lG⟩
  simp only [DL.e_next, DL.e_break, DL.e_cont, DL.e_drop, DL.e_ret, DL.e_retN, DL.e_ifS, DL.e_asg, DL.e_par, DL.e_par2, DL.e_del, DL.e_gname, DL.e_gsub, DL.e_gtup, DL.e_gcons, DL.e_gnil, DL.e_var0, DL.e_varS, DL.e_con, DL.e_top2, DL.e_top1, DL.e_cb, DL.e_nil, DL.e_cons, DL.e_tup, DL.e_lst, DL.e_test, DL.e_testK, DL.e_tru, DL.e_truB, DL.e_truN, DL.e_truL, DL.e_and, DL.e_or, DL.e_not, DL.e_if, DL.e_andV, DL.e_andK, DL.e_orV, DL.e_orK, DL.e_notV, DL.e_notK, DL.e_add, DL.e_addS, DL.e_addT, DL.e_addL, DL.e_sub, DL.e_mul, DL.e_mulL, DL.e_mulT, DL.e_fdiv, DL.e_mod, DL.e_pow, DL.e_neg, DL.e_lt, DL.e_le, DL.e_gt, DL.e_ge, DL.e_eqI, DL.e_eqS, DL.e_neI, DL.e_neS, DL.e_isN, DL.e_isntN, DL.e_isB, DL.e_isntB, DL.e_atK, DL.e_ixT, DL.e_ixL, DL.e_ixK, DL.e_ixDT, DL.e_setK, DL.e_setDT, DL.e_setSome, DL.e_setL, DL.e_delK, DL.e_delT, DL.e_inT, DL.e_inK, DL.e_lenL, DL.e_lenT, DL.e_lenK, DL.e_lenDT, DL.e_lenS, DL.e_listL, DL.e_listO, DL.e_listT, DL.e_tupleL, DL.e_tupleT, DL.e_int, DL.e_lm0, DL.e_lm, DL.e_isL, DL.e_app, DL.e_pop, DL.e_popSome, DL.e_call, DL.e_newT, DL.e_newK, DL.e_disp, DL.e_prs0, DL.e_prsS, DL.f_for, DL.f_lc, DL.f_dc, DL.f_iseq, DL.f_seqT, DL.f_rng1, DL.f_rngK, DL.f_zip, DL.f_zipT, DL.f_yes, DL.f_par3, DL.f_par3K, DL.f_isi, DL.f_isiK, DL.f_fld, DL.f_mkE, DL.f_mk0, DL.f_slice, DL.f_nopart, DL.f_part, DL.f_partK, DL.f_slT, DL.f_lrg, DL.f_dispT, List.set_cons_zero, List.set_cons_succ, List.length_cons, List.length_nil, decide_eq_true_eq, Bool.not_eq_true, true_and, and_true, if_true, Bool.false_eq_true, if_false, Nat.reduceAdd, Nat.reduceLT, Nat.reduceLeDiff]
  exact Down.of (q q1 G M2 K2 g1 b2 P2 lot ne lG)
def spTurned : SpD := fun ds M Q _ => ∃ p c ns n q L d b, ds = [.ref p, .ref q] ∧ Pen M p c ns n ∧ n < 2 ^ 39 ∧ M q = some (.lst (L.map rowD)) ∧ L ≠ [] ∧ L.length < 2 ^ 20 ∧ Lot d b L ∧ 2 ≤ d ∧ d ≤ 4 ∧ 0 ≤ b ∧
  ∀ q' G M', Kp p M M' → M q' = none → M' q' = some (.lst (G.map rowD)) → Pen M' p c ns (n + 3 * d) → Lot d (b + 45000) G → G.length = L.length → Q (.ref q') M'
theorem ok_law_turned (Z : Free mg) (S : Stands K mg "_law_turned" s_law_turned ["pen", "cells"]) (C_law_draw : FnD P w K mg base 1 "_law_draw" ["pen", "many"] spDraw) (C_law_pick : FnD P w K mg base 2 "_law_pick" ["pen", "some"] spPick) :
    FnD P w K mg base 3 "_law_turned" ["pen", "cells"] spTurned := by
  obtain ⟨f, fd, F, hm, hb⟩ := S
  refine FnD.of F sc_law_turned hm hb (fun ds M Q E h => ?_) fun cdv A outer s0 H0 E E0 hr tk hp => ?_
  · obtain ⟨p, c, ns, n, q, L, d, b, rfl, _⟩ := h; rfl
  have nd := sc_law_turned.nd
  refine ⟨_, (pssd_cons (sv 2 nd (ped_callB call_lenD2 rfl Z.len PySem.boot_len (pad_cons (ped_ix (u1 hr) (v 1) ped_int) pad_nil)))
  (pssd_cons (psd_asg (ped_tup (pad_cons (ped_listRg1 rfl rfl Z.list rfl Z.range (v 2)) (pad_cons (ped_lst pad_nil) pad_nil))) (pgd_tup (n := 2) rfl (pgsd_cons (gn 3 nd) (pgsd_cons (gn 4 nd) pgsd_nil))))
  (pssd_cons (psd_for hp rfl (pid_range1 rfl Z.range (pad_cons (v 2) pad_nil)) (gn 5 nd) (pssd_one (psd_expr (ped_append (v 4) (pad_cons (ped_popAt (v 3) (pad_cons (ped_call C_law_draw (hr.mono (by decide)) rfl tk (pad_cons (v 0) (pad_cons (ped_callB call_lenD2 rfl Z.len PySem.boot_len (pad_cons (v 3) pad_nil)) pad_nil))) pad_nil)) pad_nil)))))
  (pssd_cons (sv 6 nd (ped_lc rfl nd (pid_seq (v 4)) (blkOk_by (own := [("axis", 10)]) rfl) (by decide) (fun _ _ _ _ _ => (gn 10 nd)) (fun _ _ _ _ _ => ptsd_nil) (fun _ _ _ _ _ => (ped_call C_law_pick (hr.mono (by decide)) rfl takesD0 (pad_cons (v 0) (pad_cons (ped_lst (pad_cons ped_int (pad_cons (ped_un un_negD ped_int) pad_nil))) pad_nil))))))
  (pssd_cons (sv 7 nd (ped_lc rfl nd (pid_seq (v 4)) (blkOk_by (own := [("axis", 10)]) rfl) (by decide) (fun _ _ _ _ _ => (gn 10 nd)) (fun _ _ _ _ _ => ptsd_nil) (fun _ _ _ _ _ => (ped_call C_law_pick (hr.mono (by decide)) rfl takesD0 (pad_cons (v 0) (pad_cons (ped_lst (pad_cons ped_int (pad_cons ped_int (pad_cons ped_int (pad_cons (ped_un un_negD ped_int) (pad_cons ped_int pad_nil)))))) pad_nil))))))
  (pssd_cons (sv 8 nd (ped_lst pad_nil))
  (pssd_cons (psd_for hp rfl (pid_seq (v 1)) (gn 9 nd) (pssd_one (psd_expr (ped_append (v 8) (pad_cons (ped_callTy call_tupleD rfl Z.tuple (by decide +kernel) (pad_cons (ped_lc rfl nd (pid_range1 rfl Z.range (pad_cons (v 2) pad_nil)) (blkOk_by (own := [("k", 11)]) rfl) (by decide) (fun _ _ _ _ _ => (gn 11 nd)) (fun _ _ _ _ _ => ptsd_nil) (fun _ _ _ _ _ => (ped_op op_addD (ped_op op_mulD (ped_ix (u1 hr) (v 6) (v 11)) (ped_ix (u1 hr) (v 9) (ped_ix (u1 hr) (v 4) (v 11)))) (ped_ix (u1 hr) (v 7) (v 11))))) pad_nil)) pad_nil)))))
  (pssd_one (psd_ret (v 8)))))))))), fun ds M Q h => ?_⟩
  obtain ⟨p, c, ns, n, q, L, d, b, rfl, hP, hn, hq, nL, lL, lot, hd0, hd1, hb0, k⟩ := h
  have sz := sizeLine_eq
  have nqp : q ≠ p := pen_ne hP hq
  show tseq _ _ _ [some (.ref p), some (.ref q), none, none, none, none, none, none, none, none, none, none] M
  refine seq_cut (fun ρ M' => ρ = [some (.ref p), some (.ref q), some (.int (d : Nat)), none, none, none, none, none, none, none, none, none] ∧ M' = M) (fun N hN => ?_) ?_
  · have e0 : ∃ r, atI (L.map rowD) 0 = some (rowD r) ∧ r ∈ L := by
      cases L with
      | nil => exact absurd rfl nL
      | cons r L => exact ⟨r, by simp [atI, ixN], List.mem_cons_self⟩
    obtain ⟨r, e0, hr0⟩ := e0
    simp only [DL.e_next, DL.e_break, DL.e_cont, DL.e_drop, DL.e_ret, DL.e_retN, DL.e_ifS, DL.e_asg, DL.e_par, DL.e_par2, DL.e_del, DL.e_gname, DL.e_gsub, DL.e_gtup, DL.e_gcons, DL.e_gnil, DL.e_var0, DL.e_varS, DL.e_con, DL.e_top2, DL.e_top1, DL.e_cb, DL.e_nil, DL.e_cons, DL.e_tup, DL.e_lst, DL.e_test, DL.e_testK, DL.e_tru, DL.e_truB, DL.e_truN, DL.e_truL, DL.e_and, DL.e_or, DL.e_not, DL.e_if, DL.e_andV, DL.e_andK, DL.e_orV, DL.e_orK, DL.e_notV, DL.e_notK, DL.e_add, DL.e_addS, DL.e_addT, DL.e_addL, DL.e_sub, DL.e_mul, DL.e_mulL, DL.e_mulT, DL.e_fdiv, DL.e_mod, DL.e_pow, DL.e_neg, DL.e_lt, DL.e_le, DL.e_gt, DL.e_ge, DL.e_eqI, DL.e_eqS, DL.e_neI, DL.e_neS, DL.e_isN, DL.e_isntN, DL.e_isB, DL.e_isntB, DL.e_atK, DL.e_ixT, DL.e_ixL, DL.e_ixK, DL.e_ixDT, DL.e_setK, DL.e_setDT, DL.e_setSome, DL.e_setL, DL.e_delK, DL.e_delT, DL.e_inT, DL.e_inK, DL.e_lenL, DL.e_lenT, DL.e_lenK, DL.e_lenDT, DL.e_lenS, DL.e_listL, DL.e_listO, DL.e_listT, DL.e_tupleL, DL.e_tupleT, DL.e_int, DL.e_lm0, DL.e_lm, DL.e_isL, DL.e_app, DL.e_pop, DL.e_popSome, DL.e_call, DL.e_newT, DL.e_newK, DL.e_disp, DL.e_prs0, DL.e_prsS, DL.f_for, DL.f_lc, DL.f_dc, DL.f_iseq, DL.f_seqT, DL.f_rng1, DL.f_rngK, DL.f_zip, DL.f_zipT, DL.f_yes, DL.f_par3, DL.f_par3K, DL.f_isi, DL.f_isiK, DL.f_fld, DL.f_mkE, DL.f_mk0, DL.f_slice, DL.f_nopart, DL.f_part, DL.f_partK, DL.f_slT, DL.f_lrg, DL.f_dispT, List.set_cons_zero, List.set_cons_succ, List.length_cons, List.length_nil, decide_eq_true_eq, Bool.not_eq_true, true_and, and_true, if_true, Bool.false_eq_true, if_false, Nat.reduceAdd, Nat.reduceLT, Nat.reduceLeDiff, e_ixL hq, e0]
    rw [len_row, List.length_map, (lot r hr0).1]
    exact hN _ _ ⟨rfl, rfl⟩
  rintro ρ M1 ⟨rfl, rfl⟩
  refine seq_cut (fun ρ M' => ∃ xa xo, ρ = [some (.ref p), some (.ref q), some (.int (d : Nat)), some (.ref xa), some (.ref xo), none, none, none, none, none, none, none] ∧ xa ≠ xo ∧ M1 xa = none ∧ M1 xo = none ∧ Keep M1 M' ∧ M' xa = some (.lst (intsD 0 d)) ∧ M' xo = some (.lst [])) (fun N hN => ?_) ?_
  · simp only [DL.e_next, DL.e_break, DL.e_cont, DL.e_drop, DL.e_ret, DL.e_retN, DL.e_ifS, DL.e_asg, DL.e_par, DL.e_par2, DL.e_del, DL.e_gname, DL.e_gsub, DL.e_gtup, DL.e_gcons, DL.e_gnil, DL.e_var0, DL.e_varS, DL.e_con, DL.e_top2, DL.e_top1, DL.e_cb, DL.e_nil, DL.e_cons, DL.e_tup, DL.e_lst, DL.e_test, DL.e_testK, DL.e_tru, DL.e_truB, DL.e_truN, DL.e_truL, DL.e_and, DL.e_or, DL.e_not, DL.e_if, DL.e_andV, DL.e_andK, DL.e_orV, DL.e_orK, DL.e_notV, DL.e_notK, DL.e_add, DL.e_addS, DL.e_addT, DL.e_addL, DL.e_sub, DL.e_mul, DL.e_mulL, DL.e_mulT, DL.e_fdiv, DL.e_mod, DL.e_pow, DL.e_neg, DL.e_lt, DL.e_le, DL.e_gt, DL.e_ge, DL.e_eqI, DL.e_eqS, DL.e_neI, DL.e_neS, DL.e_isN, DL.e_isntN, DL.e_isB, DL.e_isntB, DL.e_atK, DL.e_ixT, DL.e_ixL, DL.e_ixK, DL.e_ixDT, DL.e_setK, DL.e_setDT, DL.e_setSome, DL.e_setL, DL.e_delK, DL.e_delT, DL.e_inT, DL.e_inK, DL.e_lenL, DL.e_lenT, DL.e_lenK, DL.e_lenDT, DL.e_lenS, DL.e_listL, DL.e_listO, DL.e_listT, DL.e_tupleL, DL.e_tupleT, DL.e_int, DL.e_lm0, DL.e_lm, DL.e_isL, DL.e_app, DL.e_pop, DL.e_popSome, DL.e_call, DL.e_newT, DL.e_newK, DL.e_disp, DL.e_prs0, DL.e_prsS, DL.f_for, DL.f_lc, DL.f_dc, DL.f_iseq, DL.f_seqT, DL.f_rng1, DL.f_rngK, DL.f_zip, DL.f_zipT, DL.f_yes, DL.f_par3, DL.f_par3K, DL.f_isi, DL.f_isiK, DL.f_fld, DL.f_mkE, DL.f_mk0, DL.f_slice, DL.f_nopart, DL.f_part, DL.f_partK, DL.f_slT, DL.f_lrg, DL.f_dispT, List.set_cons_zero, List.set_cons_succ, List.length_cons, List.length_nil, decide_eq_true_eq, Bool.not_eq_true, true_and, and_true, if_true, Bool.false_eq_true, if_false, Nat.reduceAdd, Nat.reduceLT, Nat.reduceLeDiff, f_lrg]
    refine ⟨d, rfl, by omega, by omega, fun xa hxa => ?_⟩
    refine ⟨by decide, fun xo hxo => ?_⟩
    have n1 : xa ≠ xo := ne_none put_same hxo
    have g2 := hxo
    rw [put_ne (Ne.symm n1)] at g2
    exact ⟨by decide, hN _ _ ⟨xa, xo, rfl, n1, hxa, g2, (Keep.new hxa).trans (Keep.new hxo), by rw [put_ne n1, put_same, Int.toNat_natCast], put_same⟩⟩
  rintro ρ M2 ⟨xa, xo, rfl, nao, ga, go, KK2, ha2, ho2⟩
  have K2 : Kp p M1 M2 := Kp.keep KK2
  have nap : xa ≠ p := fun z => pen_some hP (z ▸ ga)
  have nop : xo ≠ p := fun z => pen_some hP (z ▸ go)
  have nac : xa ≠ c := fun z => pen_cell hP (z ▸ ga)
  have noc : xo ≠ c := fun z => pen_cell hP (z ▸ go)
  have P2 : Pen M2 p c ns n := pen_keep hP KK2
  refine seq_cut (fun ρ M' => ∃ (o5 : Option D) (O : List Int), ρ = [some (.ref p), some (.ref q), some (.int (d : Nat)), some (.ref xa), some (.ref xo), o5, none, none, none, none, none, none] ∧ Kp p M1 M' ∧ M' xo = some (.lst (O.map D.int)) ∧ O.length = d ∧ (∀ j ∈ O, 0 ≤ j ∧ j < (d : Int)) ∧ Pen M' p c ns (n + d)) (fun N hN => ?_) ?_
  · simp only [DL.e_next, DL.e_break, DL.e_cont, DL.e_drop, DL.e_ret, DL.e_retN, DL.e_ifS, DL.e_asg, DL.e_par, DL.e_par2, DL.e_del, DL.e_gname, DL.e_gsub, DL.e_gtup, DL.e_gcons, DL.e_gnil, DL.e_var0, DL.e_varS, DL.e_con, DL.e_top2, DL.e_top1, DL.e_cb, DL.e_nil, DL.e_cons, DL.e_tup, DL.e_lst, DL.e_test, DL.e_testK, DL.e_tru, DL.e_truB, DL.e_truN, DL.e_truL, DL.e_and, DL.e_or, DL.e_not, DL.e_if, DL.e_andV, DL.e_andK, DL.e_orV, DL.e_orK, DL.e_notV, DL.e_notK, DL.e_add, DL.e_addS, DL.e_addT, DL.e_addL, DL.e_sub, DL.e_mul, DL.e_mulL, DL.e_mulT, DL.e_fdiv, DL.e_mod, DL.e_pow, DL.e_neg, DL.e_lt, DL.e_le, DL.e_gt, DL.e_ge, DL.e_eqI, DL.e_eqS, DL.e_neI, DL.e_neS, DL.e_isN, DL.e_isntN, DL.e_isB, DL.e_isntB, DL.e_atK, DL.e_ixT, DL.e_ixL, DL.e_ixK, DL.e_ixDT, DL.e_setK, DL.e_setDT, DL.e_setSome, DL.e_setL, DL.e_delK, DL.e_delT, DL.e_inT, DL.e_inK, DL.e_lenL, DL.e_lenT, DL.e_lenK, DL.e_lenDT, DL.e_lenS, DL.e_listL, DL.e_listO, DL.e_listT, DL.e_tupleL, DL.e_tupleT, DL.e_int, DL.e_lm0, DL.e_lm, DL.e_isL, DL.e_app, DL.e_pop, DL.e_popSome, DL.e_call, DL.e_newT, DL.e_newK, DL.e_disp, DL.e_prs0, DL.e_prsS, DL.f_for, DL.f_lc, DL.f_dc, DL.f_iseq, DL.f_seqT, DL.f_rng1, DL.f_rngK, DL.f_zip, DL.f_zipT, DL.f_yes, DL.f_par3, DL.f_par3K, DL.f_isi, DL.f_isiK, DL.f_fld, DL.f_mkE, DL.f_mk0, DL.f_slice, DL.f_nopart, DL.f_part, DL.f_partK, DL.f_slT, DL.f_lrg, DL.f_dispT, List.set_cons_zero, List.set_cons_succ, List.length_cons, List.length_nil, decide_eq_true_eq, Bool.not_eq_true, true_and, and_true, if_true, Bool.false_eq_true, if_false, Nat.reduceAdd, Nat.reduceLT, Nat.reduceLeDiff, f_for, f_rng1]
    rw [Int.toNat_natCast]
    refine ⟨⟨by omega, by omega⟩, ?_⟩
    refine for_inv (fun i ρ M' => ∃ (o5 : Option D) (A O : List Int), ρ = [some (.ref p), some (.ref q), some (.int (d : Nat)), some (.ref xa), some (.ref xo), o5, none, none, none, none, none, none] ∧ Kp p M1 M' ∧ M' xa = some (.lst (A.map D.int)) ∧ A.length + i = d ∧ (∀ j ∈ A, 0 ≤ j ∧ j < (d : Int)) ∧
      M' xo = some (.lst (O.map D.int)) ∧ O.length = i ∧ (∀ j ∈ O, 0 ≤ j ∧ j < (d : Int)) ∧ Pen M' p c ns (n + i)) ⟨none, (List.range d).map fun i : Nat => (0 : Int) + (i : Int), [], rfl, K2, ?_, by simp, ?_, ho2, rfl, by simp, P2⟩ (fun _ _ _ _ _ => trivial) (fun i x ρ M' e W => ?_) (fun ρ M' W => ?_)
    · rw [ha2, List.map_map]
      rfl
    · intro j hj
      obtain ⟨i, hi, rfl⟩ := List.mem_map.mp hj
      rw [List.mem_range] at hi
      omega
    · obtain ⟨o5, A, O, rfl, K3, hA, lA, bA, hO, lO, bO, P3⟩ := W
      have hi : i < d := by
        have := (List.getElem?_eq_some_iff.mp e).1
        rwa [intsD_length] at this
      simp only [DL.e_next, DL.e_break, DL.e_cont, DL.e_drop, DL.e_ret, DL.e_retN, DL.e_ifS, DL.e_asg, DL.e_par, DL.e_par2, DL.e_del, DL.e_gname, DL.e_gsub, DL.e_gtup, DL.e_gcons, DL.e_gnil, DL.e_var0, DL.e_varS, DL.e_con, DL.e_top2, DL.e_top1, DL.e_cb, DL.e_nil, DL.e_cons, DL.e_tup, DL.e_lst, DL.e_test, DL.e_testK, DL.e_tru, DL.e_truB, DL.e_truN, DL.e_truL, DL.e_and, DL.e_or, DL.e_not, DL.e_if, DL.e_andV, DL.e_andK, DL.e_orV, DL.e_orK, DL.e_notV, DL.e_notK, DL.e_add, DL.e_addS, DL.e_addT, DL.e_addL, DL.e_sub, DL.e_mul, DL.e_mulL, DL.e_mulT, DL.e_fdiv, DL.e_mod, DL.e_pow, DL.e_neg, DL.e_lt, DL.e_le, DL.e_gt, DL.e_ge, DL.e_eqI, DL.e_eqS, DL.e_neI, DL.e_neS, DL.e_isN, DL.e_isntN, DL.e_isB, DL.e_isntB, DL.e_atK, DL.e_ixT, DL.e_ixL, DL.e_ixK, DL.e_ixDT, DL.e_setK, DL.e_setDT, DL.e_setSome, DL.e_setL, DL.e_delK, DL.e_delT, DL.e_inT, DL.e_inK, DL.e_lenL, DL.e_lenT, DL.e_lenK, DL.e_lenDT, DL.e_lenS, DL.e_listL, DL.e_listO, DL.e_listT, DL.e_tupleL, DL.e_tupleT, DL.e_int, DL.e_lm0, DL.e_lm, DL.e_isL, DL.e_app, DL.e_pop, DL.e_popSome, DL.e_call, DL.e_newT, DL.e_newK, DL.e_disp, DL.e_prs0, DL.e_prsS, DL.f_for, DL.f_lc, DL.f_dc, DL.f_iseq, DL.f_seqT, DL.f_rng1, DL.f_rngK, DL.f_zip, DL.f_zipT, DL.f_yes, DL.f_par3, DL.f_par3K, DL.f_isi, DL.f_isiK, DL.f_fld, DL.f_mkE, DL.f_mk0, DL.f_slice, DL.f_nopart, DL.f_part, DL.f_partK, DL.f_slT, DL.f_lrg, DL.f_dispT, List.set_cons_zero, List.set_cons_succ, List.length_cons, List.length_nil, decide_eq_true_eq, Bool.not_eq_true, true_and, and_true, if_true, Bool.false_eq_true, if_false, Nat.reduceAdd, Nat.reduceLT, Nat.reduceLeDiff, e_isL hO, e_isL hA, e_lenL hA, List.length_map]
      refine ⟨p, c, ns, n + i, _, rfl, P3, by omega, by omega, by omega, fun r M4 r0 r1 C4 P4 => ?_⟩
      have hA4 : M4 xa = some (.lst (A.map D.int)) := by rw [C4 xa nap]; exact hA
      have hO4 : M4 xo = some (.lst (O.map D.int)) := by rw [C4 xo nop]; exact hO
      refine popAt_go hA4 r0 (by rw [List.length_map]; exact r1) (by rw [List.length_map]; omega) fun y hy => ?_
      obtain ⟨j, hj, rfl⟩ := List.mem_map.mp hy
      have hO5 : put M4 xa (.lst ((A.map D.int).eraseIdx r.toNat)) xo = some (.lst (O.map D.int)) := by rw [put_ne (Ne.symm nao)]; exact hO4
      show appR (.ref xo) [.int j] _ _
      rw [e_app hO5]
      refine ⟨by rw [List.length_map]; omega, _, A.eraseIdx r.toNat, O ++ [j], rfl, ((K3.trans C4.kp).new ga).new go, ?_, ?_, fun z hz => bA z (List.mem_of_mem_eraseIdx hz), ?_, by simp [lO], fun z hz => ?_, pen_put (pen_put P4 nap nac) nop noc⟩
      · rw [put_ne nao, put_same, er_map]
      · rw [List.length_eraseIdx, if_pos (by omega)]
        omega
      · rw [put_same, List.map_append]
        rfl
      · rcases List.mem_append.mp hz with hz | hz
        · exact bO z hz
        · rw [List.mem_singleton] at hz
          subst hz
          exact bA z hj
    · obtain ⟨o5, A, O, rfl, K3, hA, lA, bA, hO, lO, bO, P3⟩ := W
      rw [intsD_length] at lO P3
      exact hN _ _ ⟨o5, O, rfl, K3, hO, lO, bO, P3⟩
  rintro ρ M3 ⟨o5, O, rfl, K3, hO, lO, bO, P3⟩
  refine seq_cut (fun ρ M' => ∃ (xs : Addr) (S : List Int), ρ = [some (.ref p), some (.ref q), some (.int (d : Nat)), some (.ref xa), some (.ref xo), o5, some (.ref xs), none, none, none, none, none] ∧ Kp p M3 M' ∧ M' xs = some (.lst (S.map D.int)) ∧ S.length = d ∧ (∀ j ∈ S, -1 ≤ j ∧ j ≤ 1) ∧ Pen M' p c ns (n + 2 * d)) (fun N hN => ?_) ?_
  · simp only [DL.e_next, DL.e_break, DL.e_cont, DL.e_drop, DL.e_ret, DL.e_retN, DL.e_ifS, DL.e_asg, DL.e_par, DL.e_par2, DL.e_del, DL.e_gname, DL.e_gsub, DL.e_gtup, DL.e_gcons, DL.e_gnil, DL.e_var0, DL.e_varS, DL.e_con, DL.e_top2, DL.e_top1, DL.e_cb, DL.e_nil, DL.e_cons, DL.e_tup, DL.e_lst, DL.e_test, DL.e_testK, DL.e_tru, DL.e_truB, DL.e_truN, DL.e_truL, DL.e_and, DL.e_or, DL.e_not, DL.e_if, DL.e_andV, DL.e_andK, DL.e_orV, DL.e_orK, DL.e_notV, DL.e_notK, DL.e_add, DL.e_addS, DL.e_addT, DL.e_addL, DL.e_sub, DL.e_mul, DL.e_mulL, DL.e_mulT, DL.e_fdiv, DL.e_mod, DL.e_pow, DL.e_neg, DL.e_lt, DL.e_le, DL.e_gt, DL.e_ge, DL.e_eqI, DL.e_eqS, DL.e_neI, DL.e_neS, DL.e_isN, DL.e_isntN, DL.e_isB, DL.e_isntB, DL.e_atK, DL.e_ixT, DL.e_ixL, DL.e_ixK, DL.e_ixDT, DL.e_setK, DL.e_setDT, DL.e_setSome, DL.e_setL, DL.e_delK, DL.e_delT, DL.e_inT, DL.e_inK, DL.e_lenL, DL.e_lenT, DL.e_lenK, DL.e_lenDT, DL.e_lenS, DL.e_listL, DL.e_listO, DL.e_listT, DL.e_tupleL, DL.e_tupleT, DL.e_int, DL.e_lm0, DL.e_lm, DL.e_isL, DL.e_app, DL.e_pop, DL.e_popSome, DL.e_call, DL.e_newT, DL.e_newK, DL.e_disp, DL.e_prs0, DL.e_prsS, DL.f_for, DL.f_lc, DL.f_dc, DL.f_iseq, DL.f_seqT, DL.f_rng1, DL.f_rngK, DL.f_zip, DL.f_zipT, DL.f_yes, DL.f_par3, DL.f_par3K, DL.f_isi, DL.f_isiK, DL.f_fld, DL.f_mkE, DL.f_mk0, DL.f_slice, DL.f_nopart, DL.f_part, DL.f_partK, DL.f_slT, DL.f_lrg, DL.f_dispT, List.set_cons_zero, List.set_cons_succ, List.length_cons, List.length_nil, decide_eq_true_eq, Bool.not_eq_true, true_and, and_true, if_true, Bool.false_eq_true, if_false, Nat.reduceAdd, Nat.reduceLT, Nat.reduceLeDiff, f_lc, f_iseq]
    rw [f_seqL hO]
    intro xs hxs
    refine lc_draws (n := n + d) (fun y => ∃ i : Int, y = .int i ∧ -1 ≤ i ∧ i ≤ 1) P3 hxs (by rw [List.length_map]; omega) (fun M k => rdL_lst (k _ _ nop hO)) (fun x hx M m kM hP' hm Ky ky => ?_) fun M acc kM hM la ha hP' => ?_
    · rw [List.length_map] at hm
      simp only [DL.e_next, DL.e_break, DL.e_cont, DL.e_drop, DL.e_ret, DL.e_retN, DL.e_ifS, DL.e_asg, DL.e_par, DL.e_par2, DL.e_del, DL.e_gname, DL.e_gsub, DL.e_gtup, DL.e_gcons, DL.e_gnil, DL.e_var0, DL.e_varS, DL.e_con, DL.e_top2, DL.e_top1, DL.e_cb, DL.e_nil, DL.e_cons, DL.e_tup, DL.e_lst, DL.e_test, DL.e_testK, DL.e_tru, DL.e_truB, DL.e_truN, DL.e_truL, DL.e_and, DL.e_or, DL.e_not, DL.e_if, DL.e_andV, DL.e_andK, DL.e_orV, DL.e_orK, DL.e_notV, DL.e_notK, DL.e_add, DL.e_addS, DL.e_addT, DL.e_addL, DL.e_sub, DL.e_mul, DL.e_mulL, DL.e_mulT, DL.e_fdiv, DL.e_mod, DL.e_pow, DL.e_neg, DL.e_lt, DL.e_le, DL.e_gt, DL.e_ge, DL.e_eqI, DL.e_eqS, DL.e_neI, DL.e_neS, DL.e_isN, DL.e_isntN, DL.e_isB, DL.e_isntB, DL.e_atK, DL.e_ixT, DL.e_ixL, DL.e_ixK, DL.e_ixDT, DL.e_setK, DL.e_setDT, DL.e_setSome, DL.e_setL, DL.e_delK, DL.e_delT, DL.e_inT, DL.e_inK, DL.e_lenL, DL.e_lenT, DL.e_lenK, DL.e_lenDT, DL.e_lenS, DL.e_listL, DL.e_listO, DL.e_listT, DL.e_tupleL, DL.e_tupleT, DL.e_int, DL.e_lm0, DL.e_lm, DL.e_isL, DL.e_app, DL.e_pop, DL.e_popSome, DL.e_call, DL.e_newT, DL.e_newK, DL.e_disp, DL.e_prs0, DL.e_prsS, DL.f_for, DL.f_lc, DL.f_dc, DL.f_iseq, DL.f_seqT, DL.f_rng1, DL.f_rngK, DL.f_zip, DL.f_zipT, DL.f_yes, DL.f_par3, DL.f_par3K, DL.f_isi, DL.f_isiK, DL.f_fld, DL.f_mkE, DL.f_mk0, DL.f_slice, DL.f_nopart, DL.f_part, DL.f_partK, DL.f_slT, DL.f_lrg, DL.f_dispT, List.set_cons_zero, List.set_cons_succ, List.length_cons, List.length_nil, decide_eq_true_eq, Bool.not_eq_true, true_and, and_true, if_true, Bool.false_eq_true, if_false, Nat.reduceAdd, Nat.reduceLT, Nat.reduceLeDiff, DL.wiped, List.map_cons, List.map_nil]
      refine ⟨by decide, fun pl hpl => ?_⟩
      refine pick_at (pen_keep hP' (Keep.new hpl)) (by omega) put_same (by simp) (by decide) fun x M' hx C P' => ky M' x ?_ ((Kp.keep (Keep.new hpl)).trans C.kp) P'
      simp only [List.mem_cons, List.not_mem_nil, or_false] at hx
      rcases hx with rfl | rfl
      · exact ⟨_, rfl, by decide, by decide⟩
      · exact ⟨_, rfl, by decide, by decide⟩
    · obtain ⟨S, rfl, hS⟩ := ints_of ha
      rw [List.length_map, List.length_map] at la
      rw [List.length_map] at hP'
      exact hN _ _ ⟨xs, S, rfl, kM, hM, by omega, hS, pen_up hP' (by omega)⟩
  rintro ρ M4 ⟨xs, S, rfl, K4, hS4, lS, bS, P4⟩
  have hO4 := K4 _ _ nop hO
  have nsp : xs ≠ p := pen_ne P4 hS4
  refine seq_cut (fun ρ M' => ∃ (xb : Addr) (B : List Int), ρ = [some (.ref p), some (.ref q), some (.int (d : Nat)), some (.ref xa), some (.ref xo), o5, some (.ref xs), some (.ref xb), none, none, none, none] ∧ Kp p M4 M' ∧ M' xb = some (.lst (B.map D.int)) ∧ B.length = d ∧ (∀ j ∈ B, -7 ≤ j ∧ j ≤ 45000) ∧ Pen M' p c ns (n + 3 * d)) (fun N hN => ?_) ?_
  · simp only [DL.e_next, DL.e_break, DL.e_cont, DL.e_drop, DL.e_ret, DL.e_retN, DL.e_ifS, DL.e_asg, DL.e_par, DL.e_par2, DL.e_del, DL.e_gname, DL.e_gsub, DL.e_gtup, DL.e_gcons, DL.e_gnil, DL.e_var0, DL.e_varS, DL.e_con, DL.e_top2, DL.e_top1, DL.e_cb, DL.e_nil, DL.e_cons, DL.e_tup, DL.e_lst, DL.e_test, DL.e_testK, DL.e_tru, DL.e_truB, DL.e_truN, DL.e_truL, DL.e_and, DL.e_or, DL.e_not, DL.e_if, DL.e_andV, DL.e_andK, DL.e_orV, DL.e_orK, DL.e_notV, DL.e_notK, DL.e_add, DL.e_addS, DL.e_addT, DL.e_addL, DL.e_sub, DL.e_mul, DL.e_mulL, DL.e_mulT, DL.e_fdiv, DL.e_mod, DL.e_pow, DL.e_neg, DL.e_lt, DL.e_le, DL.e_gt, DL.e_ge, DL.e_eqI, DL.e_eqS, DL.e_neI, DL.e_neS, DL.e_isN, DL.e_isntN, DL.e_isB, DL.e_isntB, DL.e_atK, DL.e_ixT, DL.e_ixL, DL.e_ixK, DL.e_ixDT, DL.e_setK, DL.e_setDT, DL.e_setSome, DL.e_setL, DL.e_delK, DL.e_delT, DL.e_inT, DL.e_inK, DL.e_lenL, DL.e_lenT, DL.e_lenK, DL.e_lenDT, DL.e_lenS, DL.e_listL, DL.e_listO, DL.e_listT, DL.e_tupleL, DL.e_tupleT, DL.e_int, DL.e_lm0, DL.e_lm, DL.e_isL, DL.e_app, DL.e_pop, DL.e_popSome, DL.e_call, DL.e_newT, DL.e_newK, DL.e_disp, DL.e_prs0, DL.e_prsS, DL.f_for, DL.f_lc, DL.f_dc, DL.f_iseq, DL.f_seqT, DL.f_rng1, DL.f_rngK, DL.f_zip, DL.f_zipT, DL.f_yes, DL.f_par3, DL.f_par3K, DL.f_isi, DL.f_isiK, DL.f_fld, DL.f_mkE, DL.f_mk0, DL.f_slice, DL.f_nopart, DL.f_part, DL.f_partK, DL.f_slT, DL.f_lrg, DL.f_dispT, List.set_cons_zero, List.set_cons_succ, List.length_cons, List.length_nil, decide_eq_true_eq, Bool.not_eq_true, true_and, and_true, if_true, Bool.false_eq_true, if_false, Nat.reduceAdd, Nat.reduceLT, Nat.reduceLeDiff, f_lc, f_iseq]
    rw [f_seqL hO4]
    intro xb hxb
    refine lc_draws (n := n + 2 * d) (fun y => ∃ i : Int, y = .int i ∧ -7 ≤ i ∧ i ≤ 45000) P4 hxb (by rw [List.length_map]; omega) (fun M k => rdL_lst (k _ _ nop hO4)) (fun x hx M m kM hP' hm Ky ky => ?_) fun M acc kM hM la ha hP' => ?_
    · rw [List.length_map] at hm
      simp only [DL.e_next, DL.e_break, DL.e_cont, DL.e_drop, DL.e_ret, DL.e_retN, DL.e_ifS, DL.e_asg, DL.e_par, DL.e_par2, DL.e_del, DL.e_gname, DL.e_gsub, DL.e_gtup, DL.e_gcons, DL.e_gnil, DL.e_var0, DL.e_varS, DL.e_con, DL.e_top2, DL.e_top1, DL.e_cb, DL.e_nil, DL.e_cons, DL.e_tup, DL.e_lst, DL.e_test, DL.e_testK, DL.e_tru, DL.e_truB, DL.e_truN, DL.e_truL, DL.e_and, DL.e_or, DL.e_not, DL.e_if, DL.e_andV, DL.e_andK, DL.e_orV, DL.e_orK, DL.e_notV, DL.e_notK, DL.e_add, DL.e_addS, DL.e_addT, DL.e_addL, DL.e_sub, DL.e_mul, DL.e_mulL, DL.e_mulT, DL.e_fdiv, DL.e_mod, DL.e_pow, DL.e_neg, DL.e_lt, DL.e_le, DL.e_gt, DL.e_ge, DL.e_eqI, DL.e_eqS, DL.e_neI, DL.e_neS, DL.e_isN, DL.e_isntN, DL.e_isB, DL.e_isntB, DL.e_atK, DL.e_ixT, DL.e_ixL, DL.e_ixK, DL.e_ixDT, DL.e_setK, DL.e_setDT, DL.e_setSome, DL.e_setL, DL.e_delK, DL.e_delT, DL.e_inT, DL.e_inK, DL.e_lenL, DL.e_lenT, DL.e_lenK, DL.e_lenDT, DL.e_lenS, DL.e_listL, DL.e_listO, DL.e_listT, DL.e_tupleL, DL.e_tupleT, DL.e_int, DL.e_lm0, DL.e_lm, DL.e_isL, DL.e_app, DL.e_pop, DL.e_popSome, DL.e_call, DL.e_newT, DL.e_newK, DL.e_disp, DL.e_prs0, DL.e_prsS, DL.f_for, DL.f_lc, DL.f_dc, DL.f_iseq, DL.f_seqT, DL.f_rng1, DL.f_rngK, DL.f_zip, DL.f_zipT, DL.f_yes, DL.f_par3, DL.f_par3K, DL.f_isi, DL.f_isiK, DL.f_fld, DL.f_mkE, DL.f_mk0, DL.f_slice, DL.f_nopart, DL.f_part, DL.f_partK, DL.f_slT, DL.f_lrg, DL.f_dispT, List.set_cons_zero, List.set_cons_succ, List.length_cons, List.length_nil, decide_eq_true_eq, Bool.not_eq_true, true_and, and_true, if_true, Bool.false_eq_true, if_false, Nat.reduceAdd, Nat.reduceLT, Nat.reduceLeDiff, DL.wiped, List.map_cons, List.map_nil]
      refine ⟨by decide, fun pl hpl => ?_⟩
      refine pick_at (pen_keep hP' (Keep.new hpl)) (by omega) put_same (by simp) (by decide) fun x M' hx C P' => ky M' x ?_ ((Kp.keep (Keep.new hpl)).trans C.kp) P'
      simp only [List.mem_cons, List.not_mem_nil, or_false] at hx
      rcases hx with rfl | rfl | rfl | rfl | rfl
      · exact ⟨_, rfl, by decide, by decide⟩
      · exact ⟨_, rfl, by decide, by decide⟩
      · exact ⟨_, rfl, by decide, by decide⟩
      · exact ⟨_, rfl, by decide, by decide⟩
      · exact ⟨_, rfl, by decide, by decide⟩
    · obtain ⟨B, rfl, hB⟩ := ints_of ha
      rw [List.length_map, List.length_map] at la
      rw [List.length_map] at hP'
      exact hN _ _ ⟨xb, B, rfl, kM, hM, by omega, hB, pen_up hP' (by omega)⟩
  rintro ρ M5 ⟨xb, B, rfl, K5, hB5, lB, bB, P5⟩
  have hO5 := K5 _ _ nop hO4
  have hS5 := K5 _ _ nsp hS4
  have hq5 := K5 _ _ nqp (K4 _ _ nqp (K3 _ _ nqp hq))
  have K15 : Kp p M1 M5 := (K3.trans K4).trans K5
  refine seq_cut (fun ρ M' => ∃ pf, ρ = [some (.ref p), some (.ref q), some (.int (d : Nat)), some (.ref xa), some (.ref xo), o5, some (.ref xs), some (.ref xb), some (.ref pf), none, none, none] ∧ M5 pf = none ∧ Keep M5 M' ∧ M' pf = some (.lst [])) (fun N hN => ?_) ?_
  · simp only [DL.e_next, DL.e_break, DL.e_cont, DL.e_drop, DL.e_ret, DL.e_retN, DL.e_ifS, DL.e_asg, DL.e_par, DL.e_par2, DL.e_del, DL.e_gname, DL.e_gsub, DL.e_gtup, DL.e_gcons, DL.e_gnil, DL.e_var0, DL.e_varS, DL.e_con, DL.e_top2, DL.e_top1, DL.e_cb, DL.e_nil, DL.e_cons, DL.e_tup, DL.e_lst, DL.e_test, DL.e_testK, DL.e_tru, DL.e_truB, DL.e_truN, DL.e_truL, DL.e_and, DL.e_or, DL.e_not, DL.e_if, DL.e_andV, DL.e_andK, DL.e_orV, DL.e_orK, DL.e_notV, DL.e_notK, DL.e_add, DL.e_addS, DL.e_addT, DL.e_addL, DL.e_sub, DL.e_mul, DL.e_mulL, DL.e_mulT, DL.e_fdiv, DL.e_mod, DL.e_pow, DL.e_neg, DL.e_lt, DL.e_le, DL.e_gt, DL.e_ge, DL.e_eqI, DL.e_eqS, DL.e_neI, DL.e_neS, DL.e_isN, DL.e_isntN, DL.e_isB, DL.e_isntB, DL.e_atK, DL.e_ixT, DL.e_ixL, DL.e_ixK, DL.e_ixDT, DL.e_setK, DL.e_setDT, DL.e_setSome, DL.e_setL, DL.e_delK, DL.e_delT, DL.e_inT, DL.e_inK, DL.e_lenL, DL.e_lenT, DL.e_lenK, DL.e_lenDT, DL.e_lenS, DL.e_listL, DL.e_listO, DL.e_listT, DL.e_tupleL, DL.e_tupleT, DL.e_int, DL.e_lm0, DL.e_lm, DL.e_isL, DL.e_app, DL.e_pop, DL.e_popSome, DL.e_call, DL.e_newT, DL.e_newK, DL.e_disp, DL.e_prs0, DL.e_prsS, DL.f_for, DL.f_lc, DL.f_dc, DL.f_iseq, DL.f_seqT, DL.f_rng1, DL.f_rngK, DL.f_zip, DL.f_zipT, DL.f_yes, DL.f_par3, DL.f_par3K, DL.f_isi, DL.f_isiK, DL.f_fld, DL.f_mkE, DL.f_mk0, DL.f_slice, DL.f_nopart, DL.f_part, DL.f_partK, DL.f_slT, DL.f_lrg, DL.f_dispT, List.set_cons_zero, List.set_cons_succ, List.length_cons, List.length_nil, decide_eq_true_eq, Bool.not_eq_true, true_and, and_true, if_true, Bool.false_eq_true, if_false, Nat.reduceAdd, Nat.reduceLT, Nat.reduceLeDiff]
    exact ⟨by decide, fun pf hpf => hN _ _ ⟨pf, rfl, hpf, Keep.new hpf, put_same⟩⟩
  rintro ρ M6 ⟨pf, rfl, gf, K6, hf6⟩
  refine seq_cut (fun ρ M' => ∃ (o9 : Option D) (G : List Cel), ρ = [some (.ref p), some (.ref q), some (.int (d : Nat)), some (.ref xa), some (.ref xo), o5, some (.ref xs), some (.ref xb), some (.ref pf), o9, none, none] ∧ Keep M5 M' ∧ M' pf = some (.lst (G.map rowD)) ∧ Lot d (b + 45000) G ∧ G.length = L.length) (fun N hN => ?_) ?_
  · simp only [DL.e_next, DL.e_break, DL.e_cont, DL.e_drop, DL.e_ret, DL.e_retN, DL.e_ifS, DL.e_asg, DL.e_par, DL.e_par2, DL.e_del, DL.e_gname, DL.e_gsub, DL.e_gtup, DL.e_gcons, DL.e_gnil, DL.e_var0, DL.e_varS, DL.e_con, DL.e_top2, DL.e_top1, DL.e_cb, DL.e_nil, DL.e_cons, DL.e_tup, DL.e_lst, DL.e_test, DL.e_testK, DL.e_tru, DL.e_truB, DL.e_truN, DL.e_truL, DL.e_and, DL.e_or, DL.e_not, DL.e_if, DL.e_andV, DL.e_andK, DL.e_orV, DL.e_orK, DL.e_notV, DL.e_notK, DL.e_add, DL.e_addS, DL.e_addT, DL.e_addL, DL.e_sub, DL.e_mul, DL.e_mulL, DL.e_mulT, DL.e_fdiv, DL.e_mod, DL.e_pow, DL.e_neg, DL.e_lt, DL.e_le, DL.e_gt, DL.e_ge, DL.e_eqI, DL.e_eqS, DL.e_neI, DL.e_neS, DL.e_isN, DL.e_isntN, DL.e_isB, DL.e_isntB, DL.e_atK, DL.e_ixT, DL.e_ixL, DL.e_ixK, DL.e_ixDT, DL.e_setK, DL.e_setDT, DL.e_setSome, DL.e_setL, DL.e_delK, DL.e_delT, DL.e_inT, DL.e_inK, DL.e_lenL, DL.e_lenT, DL.e_lenK, DL.e_lenDT, DL.e_lenS, DL.e_listL, DL.e_listO, DL.e_listT, DL.e_tupleL, DL.e_tupleT, DL.e_int, DL.e_lm0, DL.e_lm, DL.e_isL, DL.e_app, DL.e_pop, DL.e_popSome, DL.e_call, DL.e_newT, DL.e_newK, DL.e_disp, DL.e_prs0, DL.e_prsS, DL.f_for, DL.f_lc, DL.f_dc, DL.f_iseq, DL.f_seqT, DL.f_rng1, DL.f_rngK, DL.f_zip, DL.f_zipT, DL.f_yes, DL.f_par3, DL.f_par3K, DL.f_isi, DL.f_isiK, DL.f_fld, DL.f_mkE, DL.f_mk0, DL.f_slice, DL.f_nopart, DL.f_part, DL.f_partK, DL.f_slT, DL.f_lrg, DL.f_dispT, List.set_cons_zero, List.set_cons_succ, List.length_cons, List.length_nil, decide_eq_true_eq, Bool.not_eq_true, true_and, and_true, if_true, Bool.false_eq_true, if_false, Nat.reduceAdd, Nat.reduceLT, Nat.reduceLeDiff, f_for, f_iseq]
    rw [f_seqL (K6 _ _ hq5)]
    refine for_inv (fun i ρ M' => ∃ (o9 : Option D) (G : List Cel), ρ = [some (.ref p), some (.ref q), some (.int (d : Nat)), some (.ref xa), some (.ref xo), o5, some (.ref xs), some (.ref xb), some (.ref pf), o9, none, none] ∧ Keep M5 M' ∧ M' pf = some (.lst (G.map rowD)) ∧ Lot d (b + 45000) G ∧ G.length = i)
      ⟨none, [], rfl, K6, hf6, (by intro r hr; cases hr), rfl⟩ (fun i ρ M' _ W => ?_) (fun i x ρ M' e W => ?_) (fun ρ M' W => ?_)
    · obtain ⟨_, _, _, h, _⟩ := W
      exact rdL_lst (h _ _ hq5)
    · obtain ⟨o9, G, rfl, K7, hf7, lotG, lG⟩ := W
      obtain ⟨r, rfl, er, _⟩ := map_get e
      have hr : r ∈ L := List.mem_of_getElem? er
      have hi : i < L.length := (List.getElem?_eq_some_iff.mp er).1
      simp only [DL.e_next, DL.e_break, DL.e_cont, DL.e_drop, DL.e_ret, DL.e_retN, DL.e_ifS, DL.e_asg, DL.e_par, DL.e_par2, DL.e_del, DL.e_gname, DL.e_gsub, DL.e_gtup, DL.e_gcons, DL.e_gnil, DL.e_var0, DL.e_varS, DL.e_con, DL.e_top2, DL.e_top1, DL.e_cb, DL.e_nil, DL.e_cons, DL.e_tup, DL.e_lst, DL.e_test, DL.e_testK, DL.e_tru, DL.e_truB, DL.e_truN, DL.e_truL, DL.e_and, DL.e_or, DL.e_not, DL.e_if, DL.e_andV, DL.e_andK, DL.e_orV, DL.e_orK, DL.e_notV, DL.e_notK, DL.e_add, DL.e_addS, DL.e_addT, DL.e_addL, DL.e_sub, DL.e_mul, DL.e_mulL, DL.e_mulT, DL.e_fdiv, DL.e_mod, DL.e_pow, DL.e_neg, DL.e_lt, DL.e_le, DL.e_gt, DL.e_ge, DL.e_eqI, DL.e_eqS, DL.e_neI, DL.e_neS, DL.e_isN, DL.e_isntN, DL.e_isB, DL.e_isntB, DL.e_atK, DL.e_ixT, DL.e_ixL, DL.e_ixK, DL.e_ixDT, DL.e_setK, DL.e_setDT, DL.e_setSome, DL.e_setL, DL.e_delK, DL.e_delT, DL.e_inT, DL.e_inK, DL.e_lenL, DL.e_lenT, DL.e_lenK, DL.e_lenDT, DL.e_lenS, DL.e_listL, DL.e_listO, DL.e_listT, DL.e_tupleL, DL.e_tupleT, DL.e_int, DL.e_lm0, DL.e_lm, DL.e_isL, DL.e_app, DL.e_pop, DL.e_popSome, DL.e_call, DL.e_newT, DL.e_newK, DL.e_disp, DL.e_prs0, DL.e_prsS, DL.f_for, DL.f_lc, DL.f_dc, DL.f_iseq, DL.f_seqT, DL.f_rng1, DL.f_rngK, DL.f_zip, DL.f_zipT, DL.f_yes, DL.f_par3, DL.f_par3K, DL.f_isi, DL.f_isiK, DL.f_fld, DL.f_mkE, DL.f_mk0, DL.f_slice, DL.f_nopart, DL.f_part, DL.f_partK, DL.f_slT, DL.f_lrg, DL.f_dispT, List.set_cons_zero, List.set_cons_succ, List.length_cons, List.length_nil, decide_eq_true_eq, Bool.not_eq_true, true_and, and_true, if_true, Bool.false_eq_true, if_false, Nat.reduceAdd, Nat.reduceLT, Nat.reduceLeDiff, e_isL hf7, f_lc, f_rng1]
      rw [Int.toNat_natCast]
      refine ⟨⟨by omega, by omega⟩, fun pl hpl => ?_⟩
      refine lc_pure (turnF S O B r) hpl (by rw [intsD_length]; omega) (fun _ _ => trivial) (fun z hz M8 acc k8 h8 Ky Kn ky kn => ?_) fun M8 k8 h8 => ?_
      · obtain ⟨j, hj, rfl⟩ := List.mem_map.mp hz
        rw [List.mem_range] at hj
        have oS := bS _ (getD_mem (A := S) (i := j) (by omega))
        have oO := bO _ (getD_mem (A := O) (i := j) (by omega))
        have lr := (lot r hr).1
        have at1 : ∀ {A : List Int}, A.length = d → atI (A.map D.int) (0 + (j : Int)) = some (.int (A.getD j 0)) := fun {A} lA => by
          rw [at_int (by omega) (by omega), Int.zero_add, Int.toNat_natCast]
        have k58 : Keep M5 M8 := K7.trans k8
        simp only [DL.e_next, DL.e_break, DL.e_cont, DL.e_drop, DL.e_ret, DL.e_retN, DL.e_ifS, DL.e_asg, DL.e_par, DL.e_par2, DL.e_del, DL.e_gname, DL.e_gsub, DL.e_gtup, DL.e_gcons, DL.e_gnil, DL.e_var0, DL.e_varS, DL.e_con, DL.e_top2, DL.e_top1, DL.e_cb, DL.e_nil, DL.e_cons, DL.e_tup, DL.e_lst, DL.e_test, DL.e_testK, DL.e_tru, DL.e_truB, DL.e_truN, DL.e_truL, DL.e_and, DL.e_or, DL.e_not, DL.e_if, DL.e_andV, DL.e_andK, DL.e_orV, DL.e_orK, DL.e_notV, DL.e_notK, DL.e_add, DL.e_addS, DL.e_addT, DL.e_addL, DL.e_sub, DL.e_mul, DL.e_mulL, DL.e_mulT, DL.e_fdiv, DL.e_mod, DL.e_pow, DL.e_neg, DL.e_lt, DL.e_le, DL.e_gt, DL.e_ge, DL.e_eqI, DL.e_eqS, DL.e_neI, DL.e_neS, DL.e_isN, DL.e_isntN, DL.e_isB, DL.e_isntB, DL.e_atK, DL.e_ixT, DL.e_ixL, DL.e_ixK, DL.e_ixDT, DL.e_setK, DL.e_setDT, DL.e_setSome, DL.e_setL, DL.e_delK, DL.e_delT, DL.e_inT, DL.e_inK, DL.e_lenL, DL.e_lenT, DL.e_lenK, DL.e_lenDT, DL.e_lenS, DL.e_listL, DL.e_listO, DL.e_listT, DL.e_tupleL, DL.e_tupleT, DL.e_int, DL.e_lm0, DL.e_lm, DL.e_isL, DL.e_app, DL.e_pop, DL.e_popSome, DL.e_call, DL.e_newT, DL.e_newK, DL.e_disp, DL.e_prs0, DL.e_prsS, DL.f_for, DL.f_lc, DL.f_dc, DL.f_iseq, DL.f_seqT, DL.f_rng1, DL.f_rngK, DL.f_zip, DL.f_zipT, DL.f_yes, DL.f_par3, DL.f_par3K, DL.f_isi, DL.f_isiK, DL.f_fld, DL.f_mkE, DL.f_mk0, DL.f_slice, DL.f_nopart, DL.f_part, DL.f_partK, DL.f_slT, DL.f_lrg, DL.f_dispT, List.set_cons_zero, List.set_cons_succ, List.length_cons, List.length_nil, decide_eq_true_eq, Bool.not_eq_true, true_and, and_true, if_true, Bool.false_eq_true, if_false, Nat.reduceAdd, Nat.reduceLT, Nat.reduceLeDiff, DL.wiped, List.map_cons, List.map_nil, e_ixL (k58 _ _ hS5), e_ixL (k58 _ _ hO5), e_ixL (k58 _ _ hB5), at1 lS, at1 lO, at1 lB]
        show ixR (.tup (r.map D.int)) (.int (O.getD j 0)) M8 _
        rw [e_ixT, at_int oO.1 (by omega), e_atK]
        show mulR (.int _) (.int _) M8 _
        rw [e_mul]
        refine ⟨.inl ⟨by omega, by omega⟩, ?_⟩
        show ixR (.ref xb) (.int (0 + (j : Int))) M8 _
        rw [e_ixL (k58 _ _ hB5), at1 lB, e_atK]
        exact ky M8 _ (by simp only [turnF, Int.zero_add, Int.toNat_natCast]; rfl) .refl
      · rw [turn_row] at h8
        have k58 : Keep M5 M8 := K7.trans k8
        have hf8 := k8 _ _ hf7
        show tupleR [.ref pl] M8 _
        rw [e_tupleL h8]
        show appR (.ref pf) [_] M8 _
        rw [e_app hf8]
        refine ⟨by rw [List.length_map]; omega, _, G ++ [(List.range d).map (turnV S O B r)], rfl, fun b o e => by rw [put_ne (ne_none e gf)]; exact k58 b o e, by rw [put_same, List.map_append]; rfl, fun s hs => ?_, by simp [lG]⟩
        rcases List.mem_append.mp hs with hs | hs
        · exact lotG s hs
        · rw [List.mem_singleton] at hs
          subst hs
          refine ⟨by simp, fun x hx => ?_⟩
          obtain ⟨j, hj, rfl⟩ := List.mem_map.mp hx
          rw [List.mem_range] at hj
          have oS := bS _ (getD_mem (A := S) (i := j) (by omega))
          have oO := bO _ (getD_mem (A := O) (i := j) (by omega))
          have oB := bB _ (getD_mem (A := B) (i := j) (by omega))
          have lr := (lot r hr).1
          have oR := (lot r hr).2 _ (getD_mem (A := r) (i := (O.getD j 0).toNat) (by omega))
          unfold turnV
          generalize S.getD j 0 = s1 at *
          generalize r.getD (O.getD j 0).toNat 0 = r1 at *
          generalize B.getD j 0 = b1 at *
          have s3 : s1 = -1 ∨ s1 = 0 ∨ s1 = 1 := by omega
          rcases s3 with rfl | rfl | rfl <;> omega
    · obtain ⟨o9, G, rfl, K7, hf7, lotG, lG⟩ := W
      rw [List.length_map] at lG
      exact hN _ _ ⟨o9, G, rfl, K7, hf7, lotG, lG⟩
  rintro ρ M7 ⟨o9, G, rfl, K7, hf7, lotG, lG⟩
  simp only [DL.e_next, DL.e_break, DL.e_cont, DL.e_drop, DL.e_ret, DL.e_retN, DL.e_ifS, DL.e_asg, DL.e_par, DL.e_par2, DL.e_del, DL.e_gname, DL.e_gsub, DL.e_gtup, DL.e_gcons, DL.e_gnil, DL.e_var0, DL.e_varS, DL.e_con, DL.e_top2, DL.e_top1, DL.e_cb, DL.e_nil, DL.e_cons, DL.e_tup, DL.e_lst, DL.e_test, DL.e_testK, DL.e_tru, DL.e_truB, DL.e_truN, DL.e_truL, DL.e_and, DL.e_or, DL.e_not, DL.e_if, DL.e_andV, DL.e_andK, DL.e_orV, DL.e_orK, DL.e_notV, DL.e_notK, DL.e_add, DL.e_addS, DL.e_addT, DL.e_addL, DL.e_sub, DL.e_mul, DL.e_mulL, DL.e_mulT, DL.e_fdiv, DL.e_mod, DL.e_pow, DL.e_neg, DL.e_lt, DL.e_le, DL.e_gt, DL.e_ge, DL.e_eqI, DL.e_eqS, DL.e_neI, DL.e_neS, DL.e_isN, DL.e_isntN, DL.e_isB, DL.e_isntB, DL.e_atK, DL.e_ixT, DL.e_ixL, DL.e_ixK, DL.e_ixDT, DL.e_setK, DL.e_setDT, DL.e_setSome, DL.e_setL, DL.e_delK, DL.e_delT, DL.e_inT, DL.e_inK, DL.e_lenL, DL.e_lenT, DL.e_lenK, DL.e_lenDT, DL.e_lenS, DL.e_listL, DL.e_listO, DL.e_listT, DL.e_tupleL, DL.e_tupleT, DL.e_int, DL.e_lm0, DL.e_lm, DL.e_isL, DL.e_app, DL.e_pop, DL.e_popSome, DL.e_call, DL.e_newT, DL.e_newK, DL.e_disp, DL.e_prs0, DL.e_prsS, DL.f_for, DL.f_lc, DL.f_dc, DL.f_iseq, DL.f_seqT, DL.f_rng1, DL.f_rngK, DL.f_zip, DL.f_zipT, DL.f_yes, DL.f_par3, DL.f_par3K, DL.f_isi, DL.f_isiK, DL.f_fld, DL.f_mkE, DL.f_mk0, DL.f_slice, DL.f_nopart, DL.f_part, DL.f_partK, DL.f_slT, DL.f_lrg, DL.f_dispT, List.set_cons_zero, List.set_cons_succ, List.length_cons, List.length_nil, decide_eq_true_eq, Bool.not_eq_true, true_and, and_true, if_true, Bool.false_eq_true, if_false, Nat.reduceAdd, Nat.reduceLT, Nat.reduceLeDiff]
  exact Down.of (k pf G M7 (K15.trans (Kp.keep K7)) (kp_fresh K15 P5 gf) hf7 (pen_keep P5 K7) lotG lG)
end
end Lw

end T_LWB

section T_LWC
set_option Elab.async false
set_option linter.all false
set_option maxRecDepth 100000
set_option maxHeartbeats 4000000
namespace Lw
open PySem PySem.Spec L2 DL
open PyProof.Rows hiding St
/-- data without references that can be compared -/
structure Easy (x : D) : Prop where
  pure : x.pure = true
  dp : x.py.depth ≤ 3
  lay : x.py.canLay0 = true
theorem Easy.la {x : D} (h : Easy x) {M : Mem} : La M x x.py 3 := ⟨PyR.of_pure h.pure, h.dp, h.lay⟩
theorem Easy.kind {x : D} (h : Easy x) {M : Mem} : (kindD M x).isSome = true := by
  cases x with
  | ref a => exact absurd h.pure (by simp [D.pure])
  | ty n => exact absurd h.pure (by simp [D.pure])
  | _ => rfl
theorem easy_int (i : Int) : Easy (.int i) := ⟨rfl, Nat.zero_le _, rfl⟩
theorem easy_row (r : Cel) : Easy (rowD r) := ⟨pure_row r, by rw [py_row, PyData.depth, depth_ints]; decide, by rw [py_row]; exact lay_ints r⟩
theorem easy_py {M : Mem} : ∀ {l : List D}, (∀ x ∈ l, Easy x) → PyRL M l (l.map D.py) ∧ PyData.canLayAll0 (l.map D.py) = true ∧ PyData.depthAll (l.map D.py) ≤ 3
  | [], _ => ⟨.nil, rfl, Nat.zero_le _⟩
  | x :: l, h => by
    obtain ⟨a, b, c⟩ := easy_py (M := M) fun y hy => h y (List.mem_cons_of_mem _ hy)
    have e := h x List.mem_cons_self
    refine ⟨.cons (PyR.of_pure e.pure) a, ?_, ?_⟩
    · rw [List.map_cons, PyData.canLayAll0, b, e.lay]; rfl
    · rw [List.map_cons, PyData.depthAll]
      have := e.dp
      omega
theorem easy_nil {M : Mem} {a c : Addr} {l : List D} {Q : Bool → Mem → Prop} (ha : M a = some (.lst l)) (hl : ∀ x ∈ l, Easy x) (hc : M c = some (.lst [])) (q : Q l.isEmpty M) : eqD (.ref a) (.ref c) M Q := by
  obtain ⟨x, y, z⟩ := easy_py (M := M) hl
  refine La.eq (p := .list (l.map D.py)) (k := 4) ⟨.lst (rdL_lst ha) x, by rw [PyData.depth]; omega, y⟩ (La.nil (rdL_lst hc)) (by decide) (by decide) ?_
  cases l with
  | nil => exact q
  | cons x xs => exact q
theorem in_ints {M : Mem} {a : Addr} {A : List Int} {i : Int} {neg : Bool} {Q : VKd} (hM : M a = some (.lst (A.map D.int))) (q : Q (.bl (if neg then !decide (i ∈ A) else decide (i ∈ A))) M) : inR neg (.int i) (.ref a) M Q := by
  have e : (A.map PyData.int).any (fun q => PyData.eqv q (.int i)) = decide (i ∈ A) := by
    rw [List.any_map, Bool.eq_iff_iff, List.any_eq_true, decide_eq_true_iff]
    constructor
    · rintro ⟨x, hx, z⟩
      have z : (x == i) = true := z
      rw [← (beq_iff_eq.mp z)]
      exact hx
    · intro hm
      exact ⟨i, hm, by simp [PyData.eqv]⟩
  have py : PyRL M (A.map D.int) (A.map PyData.int) := by
    have h := PyRL.of_pure (M := M) (pure_ints A)
    rw [py_ints] at h
    exact h
  show (match rdD M a with
    | some (t, kvs) => isKey t (.int i) = true ∧ Q (.bl (if neg then !(look kvs (.int i)).isSome else (look kvs (.int i)).isSome)) M
    | none => (match rdL M a with
      | some ys => ∃ p qs, PyR M (.int i) p ∧ PyRL M ys qs ∧ SeqAt.shaped p = true ∧ SeqAt.shaped (.list qs) = true ∧ Q (.bl (if neg then !qs.any (fun q => PyData.eqv q p) else qs.any (fun q => PyData.eqv q p))) M
      | none => False))
  have e1 : rdD M a = none := by simp only [rdD, hM]
  rw [e1, rdL_lst hM]
  refine ⟨_, _, .int i, py, rfl, ?_, ?_⟩
  · unfold SeqAt.shaped
    have := depth_ints A
    have := lay_ints A
    simp only [PyData.canLay0, PyData.depth, *]
    decide
  · rw [e]
    exact q
def oddF (x : D) : Option D := if isI x then none else some x
theorem oddF_empty : ∀ xs : List D, (xs.filterMap oddF).isEmpty = xs.all isI
  | [] => rfl
  | x :: xs => by
    have ih := oddF_empty xs
    have e : oddF x = if isI x then none else some x := rfl
    rw [List.filterMap_cons, List.all_cons, e]
    cases h : isI x with
    | true => simpa using ih
    | false => simp
section
variable {P : Program} {w : World} {K : PySem.W.Frag} {mg : Str → Option Value} {base : Heap}
def spLAny : SpD := fun ds M Q _ => ∃ d, ds = [d] ∧ Plain M d ∧ (∀ xs, d = .tup xs → ∀ x ∈ xs, Easy x) ∧ Q (.bl (isAny d)) M
theorem ok_law_any (Z : Free mg) (S : Stands K mg "_law_any" s_law_any ["value"]) : FnD P w K mg base 1 "_law_any" ["value"] spLAny := by
  obtain ⟨f, fd, F, hm, hb⟩ := S
  refine FnD.of F sc_law_any hm hb (fun ds M Q E h => ?_) fun cdv A outer s0 H0 E E0 hr tk hp => ?_
  · obtain ⟨d, rfl, _⟩ := h; rfl
  have nd := sc_law_any.nd
  refine ⟨_, (pssd_cons (psd_if (PWd.pt (pwd_or (ptd_not (ptd_truth (ped_callB call_isiD rfl Z.isinstance (by decide +kernel) (pad_cons (v 0) (pad_cons (ped_ty (n := "tuple") rfl Z.tuple (by decide +kernel)) pad_nil))))) (pwd_or1 (ptd_cmp (op_notInDD (u65 hr)) (ped_callB call_lenD2 rfl Z.len PySem.boot_len (pad_cons (v 0) pad_nil)) (ped_lst (pad_cons ped_int (pad_cons ped_int (pad_cons ped_int pad_nil)))) rfl)))) (pssd_one (psd_ret ped_bl)) pssd_nil)
  (pssd_one (psd_ret (ped_cmp (op_eqDD (u64 hr)) (ped_lc rfl nd (pid_seq (v 0)) (blkOk_by (own := [("item", 1)]) rfl) (by decide) (fun _ _ _ _ _ => (gn 1 nd)) (fun _ _ _ _ _ => (ptsd_one (PWd.pt (pwd_or (ptd_truth (ped_callB call_isiD rfl Z.isinstance (by decide +kernel) (pad_cons (v 1) (pad_cons (ped_ty (n := "bool") rfl Z.bool (by decide +kernel)) pad_nil)))) (pwd_or1 (ptd_not (ptd_truth (ped_callB call_isiD rfl Z.isinstance (by decide +kernel) (pad_cons (v 1) (pad_cons (ped_ty (n := "int") rfl Z.int (by decide +kernel)) pad_nil)))))))))) (fun _ _ _ _ _ => (v 1))) (ped_lst pad_nil) (nomark _))))), fun ds M Q h => ?_⟩
  obtain ⟨d, rfl, ⟨hk, hi⟩, he, q⟩ := h
  show tseq _ _ _ [some d, none] M
  by_cases ht : ∃ xs, d = .tup xs
  · obtain ⟨xs, rfl⟩ := ht
    obtain ⟨hl, hx⟩ := hi xs rfl
    have he := he xs rfl
    have e1 : kitB "tuple" "tuple" = some true := by decide +kernel
    rw [e_seq]
    simp only [DL.e_next, DL.e_break, DL.e_cont, DL.e_drop, DL.e_ret, DL.e_retN, DL.e_ifS, DL.e_asg, DL.e_par, DL.e_par2, DL.e_del, DL.e_gname, DL.e_gsub, DL.e_gtup, DL.e_gcons, DL.e_gnil, DL.e_var0, DL.e_varS, DL.e_con, DL.e_top2, DL.e_top1, DL.e_cb, DL.e_nil, DL.e_cons, DL.e_tup, DL.e_lst, DL.e_test, DL.e_testK, DL.e_tru, DL.e_truB, DL.e_truN, DL.e_truL, DL.e_and, DL.e_or, DL.e_not, DL.e_if, DL.e_andV, DL.e_andK, DL.e_orV, DL.e_orK, DL.e_notV, DL.e_notK, DL.e_add, DL.e_addS, DL.e_addT, DL.e_addL, DL.e_sub, DL.e_mul, DL.e_mulL, DL.e_mulT, DL.e_fdiv, DL.e_mod, DL.e_pow, DL.e_neg, DL.e_lt, DL.e_le, DL.e_gt, DL.e_ge, DL.e_eqI, DL.e_eqS, DL.e_neI, DL.e_neS, DL.e_isN, DL.e_isntN, DL.e_isB, DL.e_isntB, DL.e_atK, DL.e_ixT, DL.e_ixL, DL.e_ixK, DL.e_ixDT, DL.e_setK, DL.e_setDT, DL.e_setSome, DL.e_setL, DL.e_delK, DL.e_delT, DL.e_inT, DL.e_inK, DL.e_lenL, DL.e_lenT, DL.e_lenK, DL.e_lenDT, DL.e_lenS, DL.e_listL, DL.e_listO, DL.e_listT, DL.e_tupleL, DL.e_tupleT, DL.e_int, DL.e_lm0, DL.e_lm, DL.e_isL, DL.e_app, DL.e_pop, DL.e_popSome, DL.e_call, DL.e_newT, DL.e_newK, DL.e_disp, DL.e_prs0, DL.e_prsS, DL.f_for, DL.f_lc, DL.f_dc, DL.f_iseq, DL.f_seqT, DL.f_rng1, DL.f_rngK, DL.f_zip, DL.f_zipT, DL.f_yes, DL.f_par3, DL.f_par3K, DL.f_isi, DL.f_isiK, DL.f_fld, DL.f_mkE, DL.f_mk0, DL.f_slice, DL.f_nopart, DL.f_part, DL.f_partK, DL.f_slT, DL.f_lrg, DL.f_dispT, List.set_cons_zero, List.set_cons_succ, List.length_cons, List.length_nil, decide_eq_true_eq, Bool.not_eq_true, true_and, and_true, if_true, Bool.false_eq_true, if_false, Nat.reduceAdd, Nat.reduceLT, Nat.reduceLeDiff, f_isi, kindD, Option.bind_some, e1, f_isiK, Bool.not_true]
    refine ⟨by decide, fun p1 h1 => ?_⟩
    refine in_ints (A := [2, 3, 4]) put_same ?_
    simp only [DL.e_next, DL.e_break, DL.e_cont, DL.e_drop, DL.e_ret, DL.e_retN, DL.e_ifS, DL.e_asg, DL.e_par, DL.e_par2, DL.e_del, DL.e_gname, DL.e_gsub, DL.e_gtup, DL.e_gcons, DL.e_gnil, DL.e_var0, DL.e_varS, DL.e_con, DL.e_top2, DL.e_top1, DL.e_cb, DL.e_nil, DL.e_cons, DL.e_tup, DL.e_lst, DL.e_test, DL.e_testK, DL.e_tru, DL.e_truB, DL.e_truN, DL.e_truL, DL.e_and, DL.e_or, DL.e_not, DL.e_if, DL.e_andV, DL.e_andK, DL.e_orV, DL.e_orK, DL.e_notV, DL.e_notK, DL.e_add, DL.e_addS, DL.e_addT, DL.e_addL, DL.e_sub, DL.e_mul, DL.e_mulL, DL.e_mulT, DL.e_fdiv, DL.e_mod, DL.e_pow, DL.e_neg, DL.e_lt, DL.e_le, DL.e_gt, DL.e_ge, DL.e_eqI, DL.e_eqS, DL.e_neI, DL.e_neS, DL.e_isN, DL.e_isntN, DL.e_isB, DL.e_isntB, DL.e_atK, DL.e_ixT, DL.e_ixL, DL.e_ixK, DL.e_ixDT, DL.e_setK, DL.e_setDT, DL.e_setSome, DL.e_setL, DL.e_delK, DL.e_delT, DL.e_inT, DL.e_inK, DL.e_lenL, DL.e_lenT, DL.e_lenK, DL.e_lenDT, DL.e_lenS, DL.e_listL, DL.e_listO, DL.e_listT, DL.e_tupleL, DL.e_tupleT, DL.e_int, DL.e_lm0, DL.e_lm, DL.e_isL, DL.e_app, DL.e_pop, DL.e_popSome, DL.e_call, DL.e_newT, DL.e_newK, DL.e_disp, DL.e_prs0, DL.e_prsS, DL.f_for, DL.f_lc, DL.f_dc, DL.f_iseq, DL.f_seqT, DL.f_rng1, DL.f_rngK, DL.f_zip, DL.f_zipT, DL.f_yes, DL.f_par3, DL.f_par3K, DL.f_isi, DL.f_isiK, DL.f_fld, DL.f_mkE, DL.f_mk0, DL.f_slice, DL.f_nopart, DL.f_part, DL.f_partK, DL.f_slT, DL.f_lrg, DL.f_dispT, List.set_cons_zero, List.set_cons_succ, List.length_cons, List.length_nil, decide_eq_true_eq, Bool.not_eq_true, true_and, and_true, if_true, Bool.false_eq_true, if_false, Nat.reduceAdd, Nat.reduceLT, Nat.reduceLeDiff]
    have K1 : Keep M (put M p1 (.lst [D.int 2, D.int 3, D.int 4])) := Keep.new h1
    generalize put M p1 (.lst [D.int 2, D.int 3, D.int 4]) = M1 at K1
    have lenD' : isAny (.tup xs) = (decide (((xs.length : Nat) : Int) ∈ [2, 3, 4]) && xs.all isI) := by
      unfold isAny isOf
      by_cases h2 : (xs.length : Int) = 2
      · simp [h2]
      · by_cases h3 : (xs.length : Int) = 3
        · simp [h3]
        · by_cases h4 : (xs.length : Int) = 4
          · simp [h4]
          · simp [h2, h3, h4]
    by_cases hin : ((xs.length : Nat) : Int) ∈ [2, 3, 4]
    · rw [if_neg (show ¬ ((!decide (((xs.length : Nat) : Int) ∈ [2, 3, 4])) = true) by rw [decide_eq_true hin]; simp)]
      intro p2 hp2
      refine lc_pure oddF hp2 hl (fun _ _ => trivial) (fun x hxm M' acc k hM Ky Kn ky kn => ?_) fun M' k hM => ?_
      · obtain ⟨t, e, k1, k2⟩ := kit_int (M := M') (he x hxm).kind
        simp only [DL.e_next, DL.e_break, DL.e_cont, DL.e_drop, DL.e_ret, DL.e_retN, DL.e_ifS, DL.e_asg, DL.e_par, DL.e_par2, DL.e_del, DL.e_gname, DL.e_gsub, DL.e_gtup, DL.e_gcons, DL.e_gnil, DL.e_var0, DL.e_varS, DL.e_con, DL.e_top2, DL.e_top1, DL.e_cb, DL.e_nil, DL.e_cons, DL.e_tup, DL.e_lst, DL.e_test, DL.e_testK, DL.e_tru, DL.e_truB, DL.e_truN, DL.e_truL, DL.e_and, DL.e_or, DL.e_not, DL.e_if, DL.e_andV, DL.e_andK, DL.e_orV, DL.e_orK, DL.e_notV, DL.e_notK, DL.e_add, DL.e_addS, DL.e_addT, DL.e_addL, DL.e_sub, DL.e_mul, DL.e_mulL, DL.e_mulT, DL.e_fdiv, DL.e_mod, DL.e_pow, DL.e_neg, DL.e_lt, DL.e_le, DL.e_gt, DL.e_ge, DL.e_eqI, DL.e_eqS, DL.e_neI, DL.e_neS, DL.e_isN, DL.e_isntN, DL.e_isB, DL.e_isntB, DL.e_atK, DL.e_ixT, DL.e_ixL, DL.e_ixK, DL.e_ixDT, DL.e_setK, DL.e_setDT, DL.e_setSome, DL.e_setL, DL.e_delK, DL.e_delT, DL.e_inT, DL.e_inK, DL.e_lenL, DL.e_lenT, DL.e_lenK, DL.e_lenDT, DL.e_lenS, DL.e_listL, DL.e_listO, DL.e_listT, DL.e_tupleL, DL.e_tupleT, DL.e_int, DL.e_lm0, DL.e_lm, DL.e_isL, DL.e_app, DL.e_pop, DL.e_popSome, DL.e_call, DL.e_newT, DL.e_newK, DL.e_disp, DL.e_prs0, DL.e_prsS, DL.f_for, DL.f_lc, DL.f_dc, DL.f_iseq, DL.f_seqT, DL.f_rng1, DL.f_rngK, DL.f_zip, DL.f_zipT, DL.f_yes, DL.f_par3, DL.f_par3K, DL.f_isi, DL.f_isiK, DL.f_fld, DL.f_mkE, DL.f_mk0, DL.f_slice, DL.f_nopart, DL.f_part, DL.f_partK, DL.f_slT, DL.f_lrg, DL.f_dispT, List.set_cons_zero, List.set_cons_succ, List.length_cons, List.length_nil, decide_eq_true_eq, Bool.not_eq_true, true_and, and_true, if_true, Bool.false_eq_true, if_false, Nat.reduceAdd, Nat.reduceLT, Nat.reduceLeDiff, DL.wiped, List.map_cons, List.map_nil, f_isi, e, Option.bind_some, k1, k2, f_isiK]
        cases x with
        | int i => exact kn M' rfl .refl
        | bl b => exact ky M' _ rfl .refl
        | _ => exact ky M' _ rfl .refl
      · refine ⟨by decide, fun p3 hp3 => ?_⟩
        show eqR (.ref p2) (.ref p3) _ _
        rw [eqRR]
        refine easy_nil ((Keep.new hp3) _ _ hM) (fun x hx => ?_) put_same ?_
        · obtain ⟨y, hy, e⟩ := List.mem_filterMap.mp hx
          unfold oddF at e
          split at e
          · cases e
          · cases e; exact he _ hy
        · rw [oddF_empty]
          have z : xs.all isI = isAny (.tup xs) := by rw [lenD', decide_eq_true hin]; rfl
          rw [z]
          exact ⟨M, (K1.trans k).trans (Keep.new hp3), q⟩
    · rw [if_pos (show (!decide (((xs.length : Nat) : Int) ∈ [2, 3, 4])) = true by rw [decide_eq_false hin]; rfl)]
      have z : isAny (.tup xs) = false := by rw [lenD', decide_eq_false hin]; rfl
      rw [z] at q
      exact ⟨M, K1, q⟩
  · obtain ⟨t, e, e1⟩ := kit_tup hk (fun xs z => ht ⟨xs, z⟩)
    rw [e_seq]
    simp only [DL.e_next, DL.e_break, DL.e_cont, DL.e_drop, DL.e_ret, DL.e_retN, DL.e_ifS, DL.e_asg, DL.e_par, DL.e_par2, DL.e_del, DL.e_gname, DL.e_gsub, DL.e_gtup, DL.e_gcons, DL.e_gnil, DL.e_var0, DL.e_varS, DL.e_con, DL.e_top2, DL.e_top1, DL.e_cb, DL.e_nil, DL.e_cons, DL.e_tup, DL.e_lst, DL.e_test, DL.e_testK, DL.e_tru, DL.e_truB, DL.e_truN, DL.e_truL, DL.e_and, DL.e_or, DL.e_not, DL.e_if, DL.e_andV, DL.e_andK, DL.e_orV, DL.e_orK, DL.e_notV, DL.e_notK, DL.e_add, DL.e_addS, DL.e_addT, DL.e_addL, DL.e_sub, DL.e_mul, DL.e_mulL, DL.e_mulT, DL.e_fdiv, DL.e_mod, DL.e_pow, DL.e_neg, DL.e_lt, DL.e_le, DL.e_gt, DL.e_ge, DL.e_eqI, DL.e_eqS, DL.e_neI, DL.e_neS, DL.e_isN, DL.e_isntN, DL.e_isB, DL.e_isntB, DL.e_atK, DL.e_ixT, DL.e_ixL, DL.e_ixK, DL.e_ixDT, DL.e_setK, DL.e_setDT, DL.e_setSome, DL.e_setL, DL.e_delK, DL.e_delT, DL.e_inT, DL.e_inK, DL.e_lenL, DL.e_lenT, DL.e_lenK, DL.e_lenDT, DL.e_lenS, DL.e_listL, DL.e_listO, DL.e_listT, DL.e_tupleL, DL.e_tupleT, DL.e_int, DL.e_lm0, DL.e_lm, DL.e_isL, DL.e_app, DL.e_pop, DL.e_popSome, DL.e_call, DL.e_newT, DL.e_newK, DL.e_disp, DL.e_prs0, DL.e_prsS, DL.f_for, DL.f_lc, DL.f_dc, DL.f_iseq, DL.f_seqT, DL.f_rng1, DL.f_rngK, DL.f_zip, DL.f_zipT, DL.f_yes, DL.f_par3, DL.f_par3K, DL.f_isi, DL.f_isiK, DL.f_fld, DL.f_mkE, DL.f_mk0, DL.f_slice, DL.f_nopart, DL.f_part, DL.f_partK, DL.f_slT, DL.f_lrg, DL.f_dispT, List.set_cons_zero, List.set_cons_succ, List.length_cons, List.length_nil, decide_eq_true_eq, Bool.not_eq_true, true_and, and_true, if_true, Bool.false_eq_true, if_false, Nat.reduceAdd, Nat.reduceLT, Nat.reduceLeDiff, f_isi, e, Option.bind_some, e1, f_isiK, Bool.not_false]
    have z : isAny d = false := by
      cases d with
      | tup xs => exact absurd ⟨xs, rfl⟩ ht
      | _ => rfl
    rw [z] at q
    exact ⟨M, Keep.refl, q⟩
end
end Lw

end T_LWC

section T_LWD
set_option Elab.async false
set_option linter.all false
set_option maxRecDepth 100000
set_option maxHeartbeats 4000000
namespace Lw
open PySem PySem.Spec L2 DL
open PyProof.Rows hiding St
def plusF (A : Cel) : D → Option D
  | .tup xs => (intsOf xs).map fun r => rowD (plus r A)
  | _ => none
theorem plusF_row {A r : Cel} : plusF A (rowD r) = some (rowD (plus r A)) := by
  show (intsOf (r.map D.int)).map _ = _
  rw [intsOf_map]
  rfl
theorem plusF_rows {A : Cel} : ∀ G : List Cel, (G.map rowD).filterMap (plusF A) = (G.map fun r => plus r A).map rowD
  | [] => rfl
  | r :: G => by
    rw [List.map_cons, List.filterMap_cons, plusF_row, plusF_rows G]
    rfl
section
variable {P : Program} {w : World} {K : PySem.W.Frag} {mg : Str → Option Value} {base : Heap}
def spLot : SpD := fun ds M Q _ => ∃ p c ns n d, ds = [.ref p, .int (d : Nat)] ∧ Pen M p c ns n ∧ n < 2 ^ 38 ∧ 2 ≤ d ∧ d ≤ 4 ∧ ∀ q G M', Kp p M M' → M q = none → M' q = some (.lst (G.map rowD)) → Pen M' p c ns (n + 300) → Lot d 50000 G → G ≠ [] → G.length ≤ 30 → Q (.ref q) M'
theorem ok_law_lot (Z : Free mg) (S : Stands K mg "_law_lot" s_law_lot ["pen", "dimension"]) (C_law_draw : FnD P w K mg base 1 "_law_draw" ["pen", "many"] spDraw) (C_law_pick : FnD P w K mg base 2 "_law_pick" ["pen", "some"] spPick)
    (C_law_grown : FnD P w K mg base 3 "_law_grown" ["pen", "dimension", "many"] spGrown) (C_law_plus : FnD P w K mg base 1 "_law_plus" ["one", "two"] spLPlus) (C_law_turned : FnD P w K mg base 3 "_law_turned" ["pen", "cells"] spTurned) :
    FnD P w K mg base 4 "_law_lot" ["pen", "dimension"] spLot := by
  obtain ⟨f, fd, F, hm, hb⟩ := S
  refine FnD.of F sc_law_lot hm hb (fun ds M Q E h => ?_) fun cdv A outer s0 H0 E E0 hr tk hp => ?_
  · obtain ⟨p, c, ns, n, d, rfl, _⟩ := h; rfl
  have nd := sc_law_lot.nd
  refine ⟨_, (pssd_cons (sv 2 nd (ped_lst pad_nil))
  (pssd_cons (psd_for hp rfl (pid_range1 rfl Z.range (pad_cons (ped_op op_addD ped_int (ped_call C_law_draw (hr.mono (by decide)) rfl tk (pad_cons (v 0) (pad_cons ped_int pad_nil)))) pad_nil)) (gn 3 nd) (pssd_cons (sv 4 nd (ped_callTy call_tupleD rfl Z.tuple (by decide +kernel) (pad_cons (ped_lc rfl nd (pid_range1 rfl Z.range (pad_cons (v 1) pad_nil)) (blkOk_by (own := [("k", 6)]) rfl) (by decide) (fun _ _ _ _ _ => (gn 6 nd)) (fun _ _ _ _ _ => ptsd_nil) (fun _ _ _ _ _ => (ped_op op_subD (ped_call C_law_draw (hr.mono (by decide)) rfl takesD0 (pad_cons (v 0) (pad_cons ped_int pad_nil))) ped_int))) pad_nil)))
      (pssd_one (sv 2 nd (ped_op op_addD (v 2) (ped_lc rfl nd (pid_seq (ped_call C_law_grown (hr.mono (by decide)) rfl tk (pad_cons (v 0) (pad_cons (v 1) (pad_cons (ped_op op_addD ped_int (ped_call C_law_draw (hr.mono (by decide)) rfl tk (pad_cons (v 0) (pad_cons ped_int pad_nil)))) pad_nil))))) (blkOk_by (own := [("cell", 7)]) rfl) (by decide) (fun _ _ _ _ _ => (gn 7 nd)) (fun _ _ _ _ _ => ptsd_nil) (fun _ _ _ _ _ => (ped_call C_law_plus (hr.mono (by decide)) rfl takesD0 (pad_cons (v 7) (pad_cons (v 4) pad_nil))))))))))
  (pssd_cons (psd_for hp rfl (pid_range1 rfl Z.range (pad_cons (ped_call C_law_draw (hr.mono (by decide)) rfl tk (pad_cons (v 0) (pad_cons ped_int pad_nil))) pad_nil)) (gn 3 nd) (pssd_one (psd_expr (ped_append (v 2) (pad_cons (ped_call C_law_pick (hr.mono (by decide)) rfl tk (pad_cons (v 0) (pad_cons (v 2) pad_nil))) pad_nil)))))
  (pssd_cons (sv 5 nd (ped_lst pad_nil))
  (pssd_cons (psd_for hp rfl (pid_range1 rfl Z.range (pad_cons (ped_callB call_lenD2 rfl Z.len PySem.boot_len (pad_cons (v 2) pad_nil)) pad_nil)) (gn 3 nd) (pssd_one (psd_expr (ped_append (v 5) (pad_cons (ped_popAt (v 2) (pad_cons (ped_call C_law_draw (hr.mono (by decide)) rfl tk (pad_cons (v 0) (pad_cons (ped_callB call_lenD2 rfl Z.len PySem.boot_len (pad_cons (v 2) pad_nil)) pad_nil))) pad_nil)) pad_nil)))))
  (pssd_one (psd_ret (ped_call C_law_turned (hr.mono (by decide)) rfl tk (pad_cons (v 0) (pad_cons (v 5) pad_nil)))))))))), fun ds M Q h => ?_⟩
  obtain ⟨p, c, ns, n, d, rfl, hP, hn, hd0, hd1, k⟩ := h
  have sz := sizeLine_eq
  show tseq _ _ _ [some (.ref p), some (.int (d : Nat)), none, none, none, none, none, none] M
  have fp : ∀ {a : Addr}, M a = none → a ≠ p := fun h z => pen_some hP (z ▸ h)
  have fc : ∀ {a : Addr}, M a = none → a ≠ c := fun h z => pen_cell hP (z ▸ h)
  refine seq_cut (fun ρ M' => ∃ q, ρ = [some (.ref p), some (.int (d : Nat)), some (.ref q), none, none, none, none, none] ∧ M q = none ∧ Keep M M' ∧ M' q = some (.lst [])) (fun N hN => ?_) ?_
  · simp only [DL.e_next, DL.e_break, DL.e_cont, DL.e_drop, DL.e_ret, DL.e_retN, DL.e_ifS, DL.e_asg, DL.e_par, DL.e_par2, DL.e_del, DL.e_gname, DL.e_gsub, DL.e_gtup, DL.e_gcons, DL.e_gnil, DL.e_var0, DL.e_varS, DL.e_con, DL.e_top2, DL.e_top1, DL.e_cb, DL.e_nil, DL.e_cons, DL.e_tup, DL.e_lst, DL.e_test, DL.e_testK, DL.e_tru, DL.e_truB, DL.e_truN, DL.e_truL, DL.e_and, DL.e_or, DL.e_not, DL.e_if, DL.e_andV, DL.e_andK, DL.e_orV, DL.e_orK, DL.e_notV, DL.e_notK, DL.e_add, DL.e_addS, DL.e_addT, DL.e_addL, DL.e_sub, DL.e_mul, DL.e_mulL, DL.e_mulT, DL.e_fdiv, DL.e_mod, DL.e_pow, DL.e_neg, DL.e_lt, DL.e_le, DL.e_gt, DL.e_ge, DL.e_eqI, DL.e_eqS, DL.e_neI, DL.e_neS, DL.e_isN, DL.e_isntN, DL.e_isB, DL.e_isntB, DL.e_atK, DL.e_ixT, DL.e_ixL, DL.e_ixK, DL.e_ixDT, DL.e_setK, DL.e_setDT, DL.e_setSome, DL.e_setL, DL.e_delK, DL.e_delT, DL.e_inT, DL.e_inK, DL.e_lenL, DL.e_lenT, DL.e_lenK, DL.e_lenDT, DL.e_lenS, DL.e_listL, DL.e_listO, DL.e_listT, DL.e_tupleL, DL.e_tupleT, DL.e_int, DL.e_lm0, DL.e_lm, DL.e_isL, DL.e_app, DL.e_pop, DL.e_popSome, DL.e_call, DL.e_newT, DL.e_newK, DL.e_disp, DL.e_prs0, DL.e_prsS, DL.f_for, DL.f_lc, DL.f_dc, DL.f_iseq, DL.f_seqT, DL.f_rng1, DL.f_rngK, DL.f_zip, DL.f_zipT, DL.f_yes, DL.f_par3, DL.f_par3K, DL.f_isi, DL.f_isiK, DL.f_fld, DL.f_mkE, DL.f_mk0, DL.f_slice, DL.f_nopart, DL.f_part, DL.f_partK, DL.f_slT, DL.f_lrg, DL.f_dispT, List.set_cons_zero, List.set_cons_succ, List.length_cons, List.length_nil, decide_eq_true_eq, Bool.not_eq_true, true_and, and_true, if_true, Bool.false_eq_true, if_false, Nat.reduceAdd, Nat.reduceLT, Nat.reduceLeDiff]
    exact ⟨by decide, fun q hq => hN _ _ ⟨q, rfl, hq, Keep.new hq, put_same⟩⟩
  rintro ρ M1 ⟨q0, rfl, g0, K1, b1⟩
  refine seq_cut (fun ρ M' => ∃ (q : Addr) (G : List Cel) (o3 o4 : Option D), ρ = [some (.ref p), some (.int (d : Nat)), some (.ref q), o3, o4, none, none, none] ∧ Kp p M M' ∧ M q = none ∧ M' q = some (.lst (G.map rowD)) ∧ Pen M' p c ns (n + 100) ∧ Lot d 10 G ∧ G ≠ [] ∧ G.length ≤ 24) (fun N hN => ?_) ?_
  · simp only [DL.e_next, DL.e_break, DL.e_cont, DL.e_drop, DL.e_ret, DL.e_retN, DL.e_ifS, DL.e_asg, DL.e_par, DL.e_par2, DL.e_del, DL.e_gname, DL.e_gsub, DL.e_gtup, DL.e_gcons, DL.e_gnil, DL.e_var0, DL.e_varS, DL.e_con, DL.e_top2, DL.e_top1, DL.e_cb, DL.e_nil, DL.e_cons, DL.e_tup, DL.e_lst, DL.e_test, DL.e_testK, DL.e_tru, DL.e_truB, DL.e_truN, DL.e_truL, DL.e_and, DL.e_or, DL.e_not, DL.e_if, DL.e_andV, DL.e_andK, DL.e_orV, DL.e_orK, DL.e_notV, DL.e_notK, DL.e_add, DL.e_addS, DL.e_addT, DL.e_addL, DL.e_sub, DL.e_mul, DL.e_mulL, DL.e_mulT, DL.e_fdiv, DL.e_mod, DL.e_pow, DL.e_neg, DL.e_lt, DL.e_le, DL.e_gt, DL.e_ge, DL.e_eqI, DL.e_eqS, DL.e_neI, DL.e_neS, DL.e_isN, DL.e_isntN, DL.e_isB, DL.e_isntB, DL.e_atK, DL.e_ixT, DL.e_ixL, DL.e_ixK, DL.e_ixDT, DL.e_setK, DL.e_setDT, DL.e_setSome, DL.e_setL, DL.e_delK, DL.e_delT, DL.e_inT, DL.e_inK, DL.e_lenL, DL.e_lenT, DL.e_lenK, DL.e_lenDT, DL.e_lenS, DL.e_listL, DL.e_listO, DL.e_listT, DL.e_tupleL, DL.e_tupleT, DL.e_int, DL.e_lm0, DL.e_lm, DL.e_isL, DL.e_app, DL.e_pop, DL.e_popSome, DL.e_call, DL.e_newT, DL.e_newK, DL.e_disp, DL.e_prs0, DL.e_prsS, DL.f_for, DL.f_lc, DL.f_dc, DL.f_iseq, DL.f_seqT, DL.f_rng1, DL.f_rngK, DL.f_zip, DL.f_zipT, DL.f_yes, DL.f_par3, DL.f_par3K, DL.f_isi, DL.f_isiK, DL.f_fld, DL.f_mkE, DL.f_mk0, DL.f_slice, DL.f_nopart, DL.f_part, DL.f_partK, DL.f_slT, DL.f_lrg, DL.f_dispT, List.set_cons_zero, List.set_cons_succ, List.length_cons, List.length_nil, decide_eq_true_eq, Bool.not_eq_true, true_and, and_true, if_true, Bool.false_eq_true, if_false, Nat.reduceAdd, Nat.reduceLT, Nat.reduceLeDiff, f_for, f_rng1]
    refine ⟨p, c, ns, n, 4, rfl, pen_keep hP K1, by omega, by omega, by omega, fun r0 M2 r00 r01 C2 P2 => ?_⟩
    obtain ⟨m, em⟩ : ∃ m : Nat, (1 : Int) + r0 = (m : Nat) := ⟨(1 + r0).toNat, by omega⟩
    simp only [DL.e_next, DL.e_break, DL.e_cont, DL.e_drop, DL.e_ret, DL.e_retN, DL.e_ifS, DL.e_asg, DL.e_par, DL.e_par2, DL.e_del, DL.e_gname, DL.e_gsub, DL.e_gtup, DL.e_gcons, DL.e_gnil, DL.e_var0, DL.e_varS, DL.e_con, DL.e_top2, DL.e_top1, DL.e_cb, DL.e_nil, DL.e_cons, DL.e_tup, DL.e_lst, DL.e_test, DL.e_testK, DL.e_tru, DL.e_truB, DL.e_truN, DL.e_truL, DL.e_and, DL.e_or, DL.e_not, DL.e_if, DL.e_andV, DL.e_andK, DL.e_orV, DL.e_orK, DL.e_notV, DL.e_notK, DL.e_add, DL.e_addS, DL.e_addT, DL.e_addL, DL.e_sub, DL.e_mul, DL.e_mulL, DL.e_mulT, DL.e_fdiv, DL.e_mod, DL.e_pow, DL.e_neg, DL.e_lt, DL.e_le, DL.e_gt, DL.e_ge, DL.e_eqI, DL.e_eqS, DL.e_neI, DL.e_neS, DL.e_isN, DL.e_isntN, DL.e_isB, DL.e_isntB, DL.e_atK, DL.e_ixT, DL.e_ixL, DL.e_ixK, DL.e_ixDT, DL.e_setK, DL.e_setDT, DL.e_setSome, DL.e_setL, DL.e_delK, DL.e_delT, DL.e_inT, DL.e_inK, DL.e_lenL, DL.e_lenT, DL.e_lenK, DL.e_lenDT, DL.e_lenS, DL.e_listL, DL.e_listO, DL.e_listT, DL.e_tupleL, DL.e_tupleT, DL.e_int, DL.e_lm0, DL.e_lm, DL.e_isL, DL.e_app, DL.e_pop, DL.e_popSome, DL.e_call, DL.e_newT, DL.e_newK, DL.e_disp, DL.e_prs0, DL.e_prsS, DL.f_for, DL.f_lc, DL.f_dc, DL.f_iseq, DL.f_seqT, DL.f_rng1, DL.f_rngK, DL.f_zip, DL.f_zipT, DL.f_yes, DL.f_par3, DL.f_par3K, DL.f_isi, DL.f_isiK, DL.f_fld, DL.f_mkE, DL.f_mk0, DL.f_slice, DL.f_nopart, DL.f_part, DL.f_partK, DL.f_slT, DL.f_lrg, DL.f_dispT, List.set_cons_zero, List.set_cons_succ, List.length_cons, List.length_nil, decide_eq_true_eq, Bool.not_eq_true, true_and, and_true, if_true, Bool.false_eq_true, if_false, Nat.reduceAdd, Nat.reduceLT, Nat.reduceLeDiff]
    rw [em, Int.toNat_natCast]
    refine ⟨⟨by omega, by omega⟩, ?_⟩
    have b2 : M2 q0 = some (.lst (([] : List Cel).map rowD)) := by rw [C2 q0 (fp g0)]; exact b1
    refine for_inv (fun i ρ M' => ∃ (q : Addr) (G : List Cel) (o3 o4 : Option D), ρ = [some (.ref p), some (.int (d : Nat)), some (.ref q), o3, o4, none, none, none] ∧ Kp p M M' ∧ M q = none ∧ M' q = some (.lst (G.map rowD)) ∧ Pen M' p c ns (n + 1 + 17 * i) ∧ Lot d 10 G ∧ (0 < i → G ≠ []) ∧ G.length ≤ 6 * i)
      ⟨q0, [], none, none, rfl, (Kp.keep K1).trans C2.kp, g0, b2, P2, (by intro r hr; cases hr), by simp, by simp⟩ (fun _ _ _ _ _ => trivial) (fun i x ρ M' e W => ?_) (fun ρ M' W => ?_)
    · obtain ⟨q, G, o3, o4, rfl, K3, gq, b3, P3, lotG, neG, lG⟩ := W
      have hi : i < 4 := by
        have := (List.getElem?_eq_some_iff.mp e).1
        rw [intsD_length] at this
        omega
      rw [e_gname]
      show tseq _ _ _ [some (.ref p), some (.int (d : Nat)), some (.ref q), some x, o4, none, none, none] M'
      refine seq_cut (fun ρ M4 => ∃ A : Cel, ρ = [some (.ref p), some (.int (d : Nat)), some (.ref q), some x, some (rowD A), none, none, none] ∧ Kp p M' M4 ∧ A.length = d ∧ Bd 4 A ∧ Pen M4 p c ns (n + 1 + 17 * i + d)) (fun N2 hN2 => ?_) ?_
      · simp only [DL.e_next, DL.e_break, DL.e_cont, DL.e_drop, DL.e_ret, DL.e_retN, DL.e_ifS, DL.e_asg, DL.e_par, DL.e_par2, DL.e_del, DL.e_gname, DL.e_gsub, DL.e_gtup, DL.e_gcons, DL.e_gnil, DL.e_var0, DL.e_varS, DL.e_con, DL.e_top2, DL.e_top1, DL.e_cb, DL.e_nil, DL.e_cons, DL.e_tup, DL.e_lst, DL.e_test, DL.e_testK, DL.e_tru, DL.e_truB, DL.e_truN, DL.e_truL, DL.e_and, DL.e_or, DL.e_not, DL.e_if, DL.e_andV, DL.e_andK, DL.e_orV, DL.e_orK, DL.e_notV, DL.e_notK, DL.e_add, DL.e_addS, DL.e_addT, DL.e_addL, DL.e_sub, DL.e_mul, DL.e_mulL, DL.e_mulT, DL.e_fdiv, DL.e_mod, DL.e_pow, DL.e_neg, DL.e_lt, DL.e_le, DL.e_gt, DL.e_ge, DL.e_eqI, DL.e_eqS, DL.e_neI, DL.e_neS, DL.e_isN, DL.e_isntN, DL.e_isB, DL.e_isntB, DL.e_atK, DL.e_ixT, DL.e_ixL, DL.e_ixK, DL.e_ixDT, DL.e_setK, DL.e_setDT, DL.e_setSome, DL.e_setL, DL.e_delK, DL.e_delT, DL.e_inT, DL.e_inK, DL.e_lenL, DL.e_lenT, DL.e_lenK, DL.e_lenDT, DL.e_lenS, DL.e_listL, DL.e_listO, DL.e_listT, DL.e_tupleL, DL.e_tupleT, DL.e_int, DL.e_lm0, DL.e_lm, DL.e_isL, DL.e_app, DL.e_pop, DL.e_popSome, DL.e_call, DL.e_newT, DL.e_newK, DL.e_disp, DL.e_prs0, DL.e_prsS, DL.f_for, DL.f_lc, DL.f_dc, DL.f_iseq, DL.f_seqT, DL.f_rng1, DL.f_rngK, DL.f_zip, DL.f_zipT, DL.f_yes, DL.f_par3, DL.f_par3K, DL.f_isi, DL.f_isiK, DL.f_fld, DL.f_mkE, DL.f_mk0, DL.f_slice, DL.f_nopart, DL.f_part, DL.f_partK, DL.f_slT, DL.f_lrg, DL.f_dispT, List.set_cons_zero, List.set_cons_succ, List.length_cons, List.length_nil, decide_eq_true_eq, Bool.not_eq_true, true_and, and_true, if_true, Bool.false_eq_true, if_false, Nat.reduceAdd, Nat.reduceLT, Nat.reduceLeDiff, f_lc, f_rng1]
        rw [Int.toNat_natCast]
        refine ⟨⟨by omega, by omega⟩, fun pl hpl => ?_⟩
        refine lc_draws (n := n + 1 + 17 * i) (fun y => ∃ i : Int, y = .int i ∧ -4 ≤ i ∧ i ≤ 4) P3 hpl (by rw [intsD_length]; omega) (fun _ _ => trivial) (fun z hz M m kM hP' hm Ky ky => ?_) fun M5 acc kM hM la ha hP' => ?_
        · rw [intsD_length] at hm
          simp only [DL.e_next, DL.e_break, DL.e_cont, DL.e_drop, DL.e_ret, DL.e_retN, DL.e_ifS, DL.e_asg, DL.e_par, DL.e_par2, DL.e_del, DL.e_gname, DL.e_gsub, DL.e_gtup, DL.e_gcons, DL.e_gnil, DL.e_var0, DL.e_varS, DL.e_con, DL.e_top2, DL.e_top1, DL.e_cb, DL.e_nil, DL.e_cons, DL.e_tup, DL.e_lst, DL.e_test, DL.e_testK, DL.e_tru, DL.e_truB, DL.e_truN, DL.e_truL, DL.e_and, DL.e_or, DL.e_not, DL.e_if, DL.e_andV, DL.e_andK, DL.e_orV, DL.e_orK, DL.e_notV, DL.e_notK, DL.e_add, DL.e_addS, DL.e_addT, DL.e_addL, DL.e_sub, DL.e_mul, DL.e_mulL, DL.e_mulT, DL.e_fdiv, DL.e_mod, DL.e_pow, DL.e_neg, DL.e_lt, DL.e_le, DL.e_gt, DL.e_ge, DL.e_eqI, DL.e_eqS, DL.e_neI, DL.e_neS, DL.e_isN, DL.e_isntN, DL.e_isB, DL.e_isntB, DL.e_atK, DL.e_ixT, DL.e_ixL, DL.e_ixK, DL.e_ixDT, DL.e_setK, DL.e_setDT, DL.e_setSome, DL.e_setL, DL.e_delK, DL.e_delT, DL.e_inT, DL.e_inK, DL.e_lenL, DL.e_lenT, DL.e_lenK, DL.e_lenDT, DL.e_lenS, DL.e_listL, DL.e_listO, DL.e_listT, DL.e_tupleL, DL.e_tupleT, DL.e_int, DL.e_lm0, DL.e_lm, DL.e_isL, DL.e_app, DL.e_pop, DL.e_popSome, DL.e_call, DL.e_newT, DL.e_newK, DL.e_disp, DL.e_prs0, DL.e_prsS, DL.f_for, DL.f_lc, DL.f_dc, DL.f_iseq, DL.f_seqT, DL.f_rng1, DL.f_rngK, DL.f_zip, DL.f_zipT, DL.f_yes, DL.f_par3, DL.f_par3K, DL.f_isi, DL.f_isiK, DL.f_fld, DL.f_mkE, DL.f_mk0, DL.f_slice, DL.f_nopart, DL.f_part, DL.f_partK, DL.f_slT, DL.f_lrg, DL.f_dispT, List.set_cons_zero, List.set_cons_succ, List.length_cons, List.length_nil, decide_eq_true_eq, Bool.not_eq_true, true_and, and_true, if_true, Bool.false_eq_true, if_false, Nat.reduceAdd, Nat.reduceLT, Nat.reduceLeDiff, DL.wiped, List.map_cons, List.map_nil]
          refine ⟨p, c, ns, m, 9, rfl, hP', by omega, by omega, by omega, fun r M' r0 r1 C P' => ?_⟩
          exact ky M' _ ⟨r - 4, rfl, by omega, by omega⟩ C.kp P'
        · obtain ⟨A, rfl, hA⟩ := ints_of ha
          rw [List.length_map, intsD_length] at la
          rw [intsD_length] at hP'
          show tupleR [.ref pl] M5 _
          rw [e_tupleL hM]
          exact hN2 _ _ ⟨A, rfl, kM, la, fun x hx => hA x hx, hP'⟩
      rintro ρ M4 ⟨A, rfl, K4, lA, bA, P4⟩
      have b4 := K4 _ _ (fp gq) b3
      have K34 := K3.trans K4
      simp only [DL.e_next, DL.e_break, DL.e_cont, DL.e_drop, DL.e_ret, DL.e_retN, DL.e_ifS, DL.e_asg, DL.e_par, DL.e_par2, DL.e_del, DL.e_gname, DL.e_gsub, DL.e_gtup, DL.e_gcons, DL.e_gnil, DL.e_var0, DL.e_varS, DL.e_con, DL.e_top2, DL.e_top1, DL.e_cb, DL.e_nil, DL.e_cons, DL.e_tup, DL.e_lst, DL.e_test, DL.e_testK, DL.e_tru, DL.e_truB, DL.e_truN, DL.e_truL, DL.e_and, DL.e_or, DL.e_not, DL.e_if, DL.e_andV, DL.e_andK, DL.e_orV, DL.e_orK, DL.e_notV, DL.e_notK, DL.e_add, DL.e_addS, DL.e_addT, DL.e_addL, DL.e_sub, DL.e_mul, DL.e_mulL, DL.e_mulT, DL.e_fdiv, DL.e_mod, DL.e_pow, DL.e_neg, DL.e_lt, DL.e_le, DL.e_gt, DL.e_ge, DL.e_eqI, DL.e_eqS, DL.e_neI, DL.e_neS, DL.e_isN, DL.e_isntN, DL.e_isB, DL.e_isntB, DL.e_atK, DL.e_ixT, DL.e_ixL, DL.e_ixK, DL.e_ixDT, DL.e_setK, DL.e_setDT, DL.e_setSome, DL.e_setL, DL.e_delK, DL.e_delT, DL.e_inT, DL.e_inK, DL.e_lenL, DL.e_lenT, DL.e_lenK, DL.e_lenDT, DL.e_lenS, DL.e_listL, DL.e_listO, DL.e_listT, DL.e_tupleL, DL.e_tupleT, DL.e_int, DL.e_lm0, DL.e_lm, DL.e_isL, DL.e_app, DL.e_pop, DL.e_popSome, DL.e_call, DL.e_newT, DL.e_newK, DL.e_disp, DL.e_prs0, DL.e_prsS, DL.f_for, DL.f_lc, DL.f_dc, DL.f_iseq, DL.f_seqT, DL.f_rng1, DL.f_rngK, DL.f_zip, DL.f_zipT, DL.f_yes, DL.f_par3, DL.f_par3K, DL.f_isi, DL.f_isiK, DL.f_fld, DL.f_mkE, DL.f_mk0, DL.f_slice, DL.f_nopart, DL.f_part, DL.f_partK, DL.f_slT, DL.f_lrg, DL.f_dispT, List.set_cons_zero, List.set_cons_succ, List.length_cons, List.length_nil, decide_eq_true_eq, Bool.not_eq_true, true_and, and_true, if_true, Bool.false_eq_true, if_false, Nat.reduceAdd, Nat.reduceLT, Nat.reduceLeDiff, f_lc, f_iseq]
      refine ⟨p, c, ns, _, 6, rfl, P4, by omega, by omega, by omega, fun r2 M5 r20 r21 C5 P5 => ?_⟩
      obtain ⟨m2, em2⟩ : ∃ m : Nat, (1 : Int) + r2 = (m : Nat) := ⟨(1 + r2).toNat, by omega⟩
      show addR (.int 1) (.int r2) M5 _
      rw [e_add, em2]
      refine ⟨p, c, ns, _, d, m2, rfl, P5, by omega, hd0, hd1, by omega, by omega, fun q2 G2 M6 K6 g6 b6 P6 lot6 ne6 l6 => ?_⟩
      show seqK (.ref q2) M6 _
      rw [f_seqL b6]
      intro pl hpl
      have b56 : M6 q = some (.lst (G.map rowD)) := K6 _ _ (fp gq) (by rw [C5 q (fp gq)]; exact b4)
      refine lc_pure (plusF A) hpl (by rw [List.length_map]; omega) (fun M7 k7 => rdL_lst (k7 _ _ b6)) (fun z hz M7 acc k7 h7 Ky Kn ky kn => ?_) fun M7 k7 h7 => ?_
      · obtain ⟨s, hs, rfl⟩ := List.mem_map.mp hz
        simp only [DL.e_next, DL.e_break, DL.e_cont, DL.e_drop, DL.e_ret, DL.e_retN, DL.e_ifS, DL.e_asg, DL.e_par, DL.e_par2, DL.e_del, DL.e_gname, DL.e_gsub, DL.e_gtup, DL.e_gcons, DL.e_gnil, DL.e_var0, DL.e_varS, DL.e_con, DL.e_top2, DL.e_top1, DL.e_cb, DL.e_nil, DL.e_cons, DL.e_tup, DL.e_lst, DL.e_test, DL.e_testK, DL.e_tru, DL.e_truB, DL.e_truN, DL.e_truL, DL.e_and, DL.e_or, DL.e_not, DL.e_if, DL.e_andV, DL.e_andK, DL.e_orV, DL.e_orK, DL.e_notV, DL.e_notK, DL.e_add, DL.e_addS, DL.e_addT, DL.e_addL, DL.e_sub, DL.e_mul, DL.e_mulL, DL.e_mulT, DL.e_fdiv, DL.e_mod, DL.e_pow, DL.e_neg, DL.e_lt, DL.e_le, DL.e_gt, DL.e_ge, DL.e_eqI, DL.e_eqS, DL.e_neI, DL.e_neS, DL.e_isN, DL.e_isntN, DL.e_isB, DL.e_isntB, DL.e_atK, DL.e_ixT, DL.e_ixL, DL.e_ixK, DL.e_ixDT, DL.e_setK, DL.e_setDT, DL.e_setSome, DL.e_setL, DL.e_delK, DL.e_delT, DL.e_inT, DL.e_inK, DL.e_lenL, DL.e_lenT, DL.e_lenK, DL.e_lenDT, DL.e_lenS, DL.e_listL, DL.e_listO, DL.e_listT, DL.e_tupleL, DL.e_tupleT, DL.e_int, DL.e_lm0, DL.e_lm, DL.e_isL, DL.e_app, DL.e_pop, DL.e_popSome, DL.e_call, DL.e_newT, DL.e_newK, DL.e_disp, DL.e_prs0, DL.e_prsS, DL.f_for, DL.f_lc, DL.f_dc, DL.f_iseq, DL.f_seqT, DL.f_rng1, DL.f_rngK, DL.f_zip, DL.f_zipT, DL.f_yes, DL.f_par3, DL.f_par3K, DL.f_isi, DL.f_isiK, DL.f_fld, DL.f_mkE, DL.f_mk0, DL.f_slice, DL.f_nopart, DL.f_part, DL.f_partK, DL.f_slT, DL.f_lrg, DL.f_dispT, List.set_cons_zero, List.set_cons_succ, List.length_cons, List.length_nil, decide_eq_true_eq, Bool.not_eq_true, true_and, and_true, if_true, Bool.false_eq_true, if_false, Nat.reduceAdd, Nat.reduceLT, Nat.reduceLeDiff, DL.wiped, List.map_cons, List.map_nil]
        exact ⟨s, A, rfl, by rw [(lot6 s hs).1]; omega, ky M7 _ plusF_row .refl⟩
      · rw [plusF_rows] at h7
        show addR (.ref q) (.ref pl) M7 _
        rw [e_addL (k7 _ _ b56) h7]
        refine ⟨by simp only [List.length_map]; omega, fun p8 hp8 => ?_⟩
        have K47 : Kp p M M7 := (K34.trans C5.kp).trans (K6.trans (Kp.keep k7))
        have P7 := pen_keep P6 k7
        refine ⟨p8, G ++ (G2.map fun r => plus r A), _, _, rfl, K47.trans (Kp.keep (Keep.new hp8)), kp_fresh K47 P7 hp8, by rw [put_same, List.map_append], pen_up (pen_keep P7 (Keep.new hp8)) (by omega), fun s hs => ?_, fun _ => ?_, ?_⟩
        · rcases List.mem_append.mp hs with hs | hs
          · exact lotG s hs
          · obtain ⟨t, ht, rfl⟩ := List.mem_map.mp hs
            have e1 := (lot6 t ht).1
            refine ⟨by rw [plus_len (by omega)]; exact e1, ((lot6 t ht).2.plus bA).mono (by omega)⟩
        · cases G2 with
          | nil => exact absurd rfl ne6
          | cons s G2 => simp
        · simp only [List.length_append, List.length_map]
          omega
    · obtain ⟨q, G, o3, o4, rfl, K3, gq, b3, P3, lotG, neG, lG⟩ := W
      rw [intsD_length] at P3 neG lG
      exact hN _ _ ⟨q, G, o3, o4, rfl, K3, gq, b3, pen_up P3 (by omega), lotG, neG (by omega), by omega⟩
  rintro ρ M2 ⟨q, G, o3, o4, rfl, K2, gq, b2, P2, lotG, neG, lG⟩
  refine seq_cut (fun ρ M' => ∃ (G : List Cel) (o3 : Option D), ρ = [some (.ref p), some (.int (d : Nat)), some (.ref q), o3, o4, none, none, none] ∧ Kp p M M' ∧ M' q = some (.lst (G.map rowD)) ∧ Pen M' p c ns (n + 110) ∧ Lot d 10 G ∧ G ≠ [] ∧ G.length ≤ 30) (fun N hN => ?_) ?_
  · simp only [DL.e_next, DL.e_break, DL.e_cont, DL.e_drop, DL.e_ret, DL.e_retN, DL.e_ifS, DL.e_asg, DL.e_par, DL.e_par2, DL.e_del, DL.e_gname, DL.e_gsub, DL.e_gtup, DL.e_gcons, DL.e_gnil, DL.e_var0, DL.e_varS, DL.e_con, DL.e_top2, DL.e_top1, DL.e_cb, DL.e_nil, DL.e_cons, DL.e_tup, DL.e_lst, DL.e_test, DL.e_testK, DL.e_tru, DL.e_truB, DL.e_truN, DL.e_truL, DL.e_and, DL.e_or, DL.e_not, DL.e_if, DL.e_andV, DL.e_andK, DL.e_orV, DL.e_orK, DL.e_notV, DL.e_notK, DL.e_add, DL.e_addS, DL.e_addT, DL.e_addL, DL.e_sub, DL.e_mul, DL.e_mulL, DL.e_mulT, DL.e_fdiv, DL.e_mod, DL.e_pow, DL.e_neg, DL.e_lt, DL.e_le, DL.e_gt, DL.e_ge, DL.e_eqI, DL.e_eqS, DL.e_neI, DL.e_neS, DL.e_isN, DL.e_isntN, DL.e_isB, DL.e_isntB, DL.e_atK, DL.e_ixT, DL.e_ixL, DL.e_ixK, DL.e_ixDT, DL.e_setK, DL.e_setDT, DL.e_setSome, DL.e_setL, DL.e_delK, DL.e_delT, DL.e_inT, DL.e_inK, DL.e_lenL, DL.e_lenT, DL.e_lenK, DL.e_lenDT, DL.e_lenS, DL.e_listL, DL.e_listO, DL.e_listT, DL.e_tupleL, DL.e_tupleT, DL.e_int, DL.e_lm0, DL.e_lm, DL.e_isL, DL.e_app, DL.e_pop, DL.e_popSome, DL.e_call, DL.e_newT, DL.e_newK, DL.e_disp, DL.e_prs0, DL.e_prsS, DL.f_for, DL.f_lc, DL.f_dc, DL.f_iseq, DL.f_seqT, DL.f_rng1, DL.f_rngK, DL.f_zip, DL.f_zipT, DL.f_yes, DL.f_par3, DL.f_par3K, DL.f_isi, DL.f_isiK, DL.f_fld, DL.f_mkE, DL.f_mk0, DL.f_slice, DL.f_nopart, DL.f_part, DL.f_partK, DL.f_slT, DL.f_lrg, DL.f_dispT, List.set_cons_zero, List.set_cons_succ, List.length_cons, List.length_nil, decide_eq_true_eq, Bool.not_eq_true, true_and, and_true, if_true, Bool.false_eq_true, if_false, Nat.reduceAdd, Nat.reduceLT, Nat.reduceLeDiff, f_for, f_rng1]
    refine ⟨p, c, ns, _, 3, rfl, P2, by omega, by omega, by omega, fun r0 M3 r00 r01 C3 P3 => ?_⟩
    obtain ⟨m, em⟩ : ∃ m : Nat, r0 = (m : Nat) := ⟨r0.toNat, by omega⟩
    subst em
    show rngK [.int (m : Nat)] M3 _
    rw [f_rngK, Int.toNat_natCast]
    refine ⟨⟨by omega, by omega⟩, ?_⟩
    refine for_inv (fun i ρ M' => ∃ (G : List Cel) (o3 : Option D), ρ = [some (.ref p), some (.int (d : Nat)), some (.ref q), o3, o4, none, none, none] ∧ Kp p M M' ∧ M' q = some (.lst (G.map rowD)) ∧ Pen M' p c ns (n + 101 + i) ∧ Lot d 10 G ∧ G ≠ [] ∧ G.length ≤ 24 + i)
      ⟨G, o3, rfl, K2.trans C3.kp, by rw [C3 q (fp gq)]; exact b2, P3, lotG, neG, lG⟩ (fun _ _ _ _ _ => trivial) (fun i x ρ M' e W => ?_) (fun ρ M' W => ?_)
    · obtain ⟨G, o3, rfl, K4, b4, P4, lotG, neG, lG⟩ := W
      have hi : i < 3 := by
        have := (List.getElem?_eq_some_iff.mp e).1
        rw [intsD_length] at this
        omega
      simp only [DL.e_next, DL.e_break, DL.e_cont, DL.e_drop, DL.e_ret, DL.e_retN, DL.e_ifS, DL.e_asg, DL.e_par, DL.e_par2, DL.e_del, DL.e_gname, DL.e_gsub, DL.e_gtup, DL.e_gcons, DL.e_gnil, DL.e_var0, DL.e_varS, DL.e_con, DL.e_top2, DL.e_top1, DL.e_cb, DL.e_nil, DL.e_cons, DL.e_tup, DL.e_lst, DL.e_test, DL.e_testK, DL.e_tru, DL.e_truB, DL.e_truN, DL.e_truL, DL.e_and, DL.e_or, DL.e_not, DL.e_if, DL.e_andV, DL.e_andK, DL.e_orV, DL.e_orK, DL.e_notV, DL.e_notK, DL.e_add, DL.e_addS, DL.e_addT, DL.e_addL, DL.e_sub, DL.e_mul, DL.e_mulL, DL.e_mulT, DL.e_fdiv, DL.e_mod, DL.e_pow, DL.e_neg, DL.e_lt, DL.e_le, DL.e_gt, DL.e_ge, DL.e_eqI, DL.e_eqS, DL.e_neI, DL.e_neS, DL.e_isN, DL.e_isntN, DL.e_isB, DL.e_isntB, DL.e_atK, DL.e_ixT, DL.e_ixL, DL.e_ixK, DL.e_ixDT, DL.e_setK, DL.e_setDT, DL.e_setSome, DL.e_setL, DL.e_delK, DL.e_delT, DL.e_inT, DL.e_inK, DL.e_lenL, DL.e_lenT, DL.e_lenK, DL.e_lenDT, DL.e_lenS, DL.e_listL, DL.e_listO, DL.e_listT, DL.e_tupleL, DL.e_tupleT, DL.e_int, DL.e_lm0, DL.e_lm, DL.e_isL, DL.e_app, DL.e_pop, DL.e_popSome, DL.e_call, DL.e_newT, DL.e_newK, DL.e_disp, DL.e_prs0, DL.e_prsS, DL.f_for, DL.f_lc, DL.f_dc, DL.f_iseq, DL.f_seqT, DL.f_rng1, DL.f_rngK, DL.f_zip, DL.f_zipT, DL.f_yes, DL.f_par3, DL.f_par3K, DL.f_isi, DL.f_isiK, DL.f_fld, DL.f_mkE, DL.f_mk0, DL.f_slice, DL.f_nopart, DL.f_part, DL.f_partK, DL.f_slT, DL.f_lrg, DL.f_dispT, List.set_cons_zero, List.set_cons_succ, List.length_cons, List.length_nil, decide_eq_true_eq, Bool.not_eq_true, true_and, and_true, if_true, Bool.false_eq_true, if_false, Nat.reduceAdd, Nat.reduceLT, Nat.reduceLeDiff, e_isL b4]
      refine pick_rows P4 (by omega) b4 neG (by omega) fun r M5 hr C5 P5 => ?_
      have b5 : M5 q = some (.lst (G.map rowD)) := by rw [C5 q (fp gq)]; exact b4
      show appR (.ref q) [rowD r] M5 _
      rw [e_app b5]
      refine ⟨by rw [List.length_map]; omega, G ++ [r], _, rfl, (K4.trans C5.kp).new gq, by rw [put_same, List.map_append]; rfl, pen_up (pen_put P5 (fp gq) (fc gq)) (by omega), fun s hs => ?_, by simp, by simp; omega⟩
      rcases List.mem_append.mp hs with hs | hs
      · exact lotG s hs
      · rw [List.mem_singleton] at hs
        subst hs
        exact lotG _ hr
    · obtain ⟨G, o3, rfl, K4, b4, P4, lotG, neG, lG⟩ := W
      rw [intsD_length] at P4 lG
      exact hN _ _ ⟨G, o3, rfl, K4, b4, pen_up P4 (by omega), lotG, neG, by omega⟩
  rintro ρ M3 ⟨G, o3, rfl, K3, b3, P3, lotG, neG, lG⟩
  refine seq_cut (fun ρ M' => ∃ xo, ρ = [some (.ref p), some (.int (d : Nat)), some (.ref q), o3, o4, some (.ref xo), none, none] ∧ M xo = none ∧ q ≠ xo ∧ Keep M3 M' ∧ M' xo = some (.lst [])) (fun N hN => ?_) ?_
  · simp only [DL.e_next, DL.e_break, DL.e_cont, DL.e_drop, DL.e_ret, DL.e_retN, DL.e_ifS, DL.e_asg, DL.e_par, DL.e_par2, DL.e_del, DL.e_gname, DL.e_gsub, DL.e_gtup, DL.e_gcons, DL.e_gnil, DL.e_var0, DL.e_varS, DL.e_con, DL.e_top2, DL.e_top1, DL.e_cb, DL.e_nil, DL.e_cons, DL.e_tup, DL.e_lst, DL.e_test, DL.e_testK, DL.e_tru, DL.e_truB, DL.e_truN, DL.e_truL, DL.e_and, DL.e_or, DL.e_not, DL.e_if, DL.e_andV, DL.e_andK, DL.e_orV, DL.e_orK, DL.e_notV, DL.e_notK, DL.e_add, DL.e_addS, DL.e_addT, DL.e_addL, DL.e_sub, DL.e_mul, DL.e_mulL, DL.e_mulT, DL.e_fdiv, DL.e_mod, DL.e_pow, DL.e_neg, DL.e_lt, DL.e_le, DL.e_gt, DL.e_ge, DL.e_eqI, DL.e_eqS, DL.e_neI, DL.e_neS, DL.e_isN, DL.e_isntN, DL.e_isB, DL.e_isntB, DL.e_atK, DL.e_ixT, DL.e_ixL, DL.e_ixK, DL.e_ixDT, DL.e_setK, DL.e_setDT, DL.e_setSome, DL.e_setL, DL.e_delK, DL.e_delT, DL.e_inT, DL.e_inK, DL.e_lenL, DL.e_lenT, DL.e_lenK, DL.e_lenDT, DL.e_lenS, DL.e_listL, DL.e_listO, DL.e_listT, DL.e_tupleL, DL.e_tupleT, DL.e_int, DL.e_lm0, DL.e_lm, DL.e_isL, DL.e_app, DL.e_pop, DL.e_popSome, DL.e_call, DL.e_newT, DL.e_newK, DL.e_disp, DL.e_prs0, DL.e_prsS, DL.f_for, DL.f_lc, DL.f_dc, DL.f_iseq, DL.f_seqT, DL.f_rng1, DL.f_rngK, DL.f_zip, DL.f_zipT, DL.f_yes, DL.f_par3, DL.f_par3K, DL.f_isi, DL.f_isiK, DL.f_fld, DL.f_mkE, DL.f_mk0, DL.f_slice, DL.f_nopart, DL.f_part, DL.f_partK, DL.f_slT, DL.f_lrg, DL.f_dispT, List.set_cons_zero, List.set_cons_succ, List.length_cons, List.length_nil, decide_eq_true_eq, Bool.not_eq_true, true_and, and_true, if_true, Bool.false_eq_true, if_false, Nat.reduceAdd, Nat.reduceLT, Nat.reduceLeDiff]
    exact ⟨by decide, fun xo hxo => hN _ _ ⟨xo, rfl, kp_fresh K3 P3 hxo, ne_none b3 hxo, Keep.new hxo, put_same⟩⟩
  rintro ρ M4 ⟨xo, rfl, go, nqo, K4, bo4⟩
  have b4 := K4 _ _ b3
  refine seq_cut (fun ρ M' => ∃ (O : List Cel) (o3 : Option D), ρ = [some (.ref p), some (.int (d : Nat)), some (.ref q), o3, o4, some (.ref xo), none, none] ∧ Kp p M M' ∧ M' xo = some (.lst (O.map rowD)) ∧ Pen M' p c ns (n + 140) ∧ Lot d 10 O ∧ O.length = G.length) (fun N hN => ?_) ?_
  · simp only [DL.e_next, DL.e_break, DL.e_cont, DL.e_drop, DL.e_ret, DL.e_retN, DL.e_ifS, DL.e_asg, DL.e_par, DL.e_par2, DL.e_del, DL.e_gname, DL.e_gsub, DL.e_gtup, DL.e_gcons, DL.e_gnil, DL.e_var0, DL.e_varS, DL.e_con, DL.e_top2, DL.e_top1, DL.e_cb, DL.e_nil, DL.e_cons, DL.e_tup, DL.e_lst, DL.e_test, DL.e_testK, DL.e_tru, DL.e_truB, DL.e_truN, DL.e_truL, DL.e_and, DL.e_or, DL.e_not, DL.e_if, DL.e_andV, DL.e_andK, DL.e_orV, DL.e_orK, DL.e_notV, DL.e_notK, DL.e_add, DL.e_addS, DL.e_addT, DL.e_addL, DL.e_sub, DL.e_mul, DL.e_mulL, DL.e_mulT, DL.e_fdiv, DL.e_mod, DL.e_pow, DL.e_neg, DL.e_lt, DL.e_le, DL.e_gt, DL.e_ge, DL.e_eqI, DL.e_eqS, DL.e_neI, DL.e_neS, DL.e_isN, DL.e_isntN, DL.e_isB, DL.e_isntB, DL.e_atK, DL.e_ixT, DL.e_ixL, DL.e_ixK, DL.e_ixDT, DL.e_setK, DL.e_setDT, DL.e_setSome, DL.e_setL, DL.e_delK, DL.e_delT, DL.e_inT, DL.e_inK, DL.e_lenL, DL.e_lenT, DL.e_lenK, DL.e_lenDT, DL.e_lenS, DL.e_listL, DL.e_listO, DL.e_listT, DL.e_tupleL, DL.e_tupleT, DL.e_int, DL.e_lm0, DL.e_lm, DL.e_isL, DL.e_app, DL.e_pop, DL.e_popSome, DL.e_call, DL.e_newT, DL.e_newK, DL.e_disp, DL.e_prs0, DL.e_prsS, DL.f_for, DL.f_lc, DL.f_dc, DL.f_iseq, DL.f_seqT, DL.f_rng1, DL.f_rngK, DL.f_zip, DL.f_zipT, DL.f_yes, DL.f_par3, DL.f_par3K, DL.f_isi, DL.f_isiK, DL.f_fld, DL.f_mkE, DL.f_mk0, DL.f_slice, DL.f_nopart, DL.f_part, DL.f_partK, DL.f_slT, DL.f_lrg, DL.f_dispT, List.set_cons_zero, List.set_cons_succ, List.length_cons, List.length_nil, decide_eq_true_eq, Bool.not_eq_true, true_and, and_true, if_true, Bool.false_eq_true, if_false, Nat.reduceAdd, Nat.reduceLT, Nat.reduceLeDiff, f_for, f_rng1, e_lenL b4, List.length_map]
    rw [Int.toNat_natCast]
    refine ⟨⟨by omega, by omega⟩, ?_⟩
    refine for_inv (fun i ρ M' => ∃ (A O : List Cel) (o3 : Option D), ρ = [some (.ref p), some (.int (d : Nat)), some (.ref q), o3, o4, some (.ref xo), none, none] ∧ Kp p M M' ∧ M' q = some (.lst (A.map rowD)) ∧ A.length + i = G.length ∧ Lot d 10 A ∧ M' xo = some (.lst (O.map rowD)) ∧ O.length = i ∧ Lot d 10 O ∧ Pen M' p c ns (n + 110 + i))
      ⟨G, [], o3, rfl, K3.trans (Kp.keep K4), b4, by simp, lotG, bo4, rfl, (by intro r hr; cases hr), pen_keep P3 K4⟩ (fun _ _ _ _ _ => trivial) (fun i x ρ M' e W => ?_) (fun ρ M' W => ?_)
    · obtain ⟨A, O, o3, rfl, K5, hA, lA, bA, hO, lO, bO, P5⟩ := W
      have hi : i < G.length := by
        have := (List.getElem?_eq_some_iff.mp e).1
        rwa [intsD_length] at this
      simp only [DL.e_next, DL.e_break, DL.e_cont, DL.e_drop, DL.e_ret, DL.e_retN, DL.e_ifS, DL.e_asg, DL.e_par, DL.e_par2, DL.e_del, DL.e_gname, DL.e_gsub, DL.e_gtup, DL.e_gcons, DL.e_gnil, DL.e_var0, DL.e_varS, DL.e_con, DL.e_top2, DL.e_top1, DL.e_cb, DL.e_nil, DL.e_cons, DL.e_tup, DL.e_lst, DL.e_test, DL.e_testK, DL.e_tru, DL.e_truB, DL.e_truN, DL.e_truL, DL.e_and, DL.e_or, DL.e_not, DL.e_if, DL.e_andV, DL.e_andK, DL.e_orV, DL.e_orK, DL.e_notV, DL.e_notK, DL.e_add, DL.e_addS, DL.e_addT, DL.e_addL, DL.e_sub, DL.e_mul, DL.e_mulL, DL.e_mulT, DL.e_fdiv, DL.e_mod, DL.e_pow, DL.e_neg, DL.e_lt, DL.e_le, DL.e_gt, DL.e_ge, DL.e_eqI, DL.e_eqS, DL.e_neI, DL.e_neS, DL.e_isN, DL.e_isntN, DL.e_isB, DL.e_isntB, DL.e_atK, DL.e_ixT, DL.e_ixL, DL.e_ixK, DL.e_ixDT, DL.e_setK, DL.e_setDT, DL.e_setSome, DL.e_setL, DL.e_delK, DL.e_delT, DL.e_inT, DL.e_inK, DL.e_lenL, DL.e_lenT, DL.e_lenK, DL.e_lenDT, DL.e_lenS, DL.e_listL, DL.e_listO, DL.e_listT, DL.e_tupleL, DL.e_tupleT, DL.e_int, DL.e_lm0, DL.e_lm, DL.e_isL, DL.e_app, DL.e_pop, DL.e_popSome, DL.e_call, DL.e_newT, DL.e_newK, DL.e_disp, DL.e_prs0, DL.e_prsS, DL.f_for, DL.f_lc, DL.f_dc, DL.f_iseq, DL.f_seqT, DL.f_rng1, DL.f_rngK, DL.f_zip, DL.f_zipT, DL.f_yes, DL.f_par3, DL.f_par3K, DL.f_isi, DL.f_isiK, DL.f_fld, DL.f_mkE, DL.f_mk0, DL.f_slice, DL.f_nopart, DL.f_part, DL.f_partK, DL.f_slT, DL.f_lrg, DL.f_dispT, List.set_cons_zero, List.set_cons_succ, List.length_cons, List.length_nil, decide_eq_true_eq, Bool.not_eq_true, true_and, and_true, if_true, Bool.false_eq_true, if_false, Nat.reduceAdd, Nat.reduceLT, Nat.reduceLeDiff, e_isL hO, e_isL hA, e_lenL hA, List.length_map]
      refine ⟨p, c, ns, _, _, rfl, P5, by omega, by omega, by omega, fun r M6 r0 r1 C6 P6 => ?_⟩
      have hA6 : M6 q = some (.lst (A.map rowD)) := by rw [C6 q (fp gq)]; exact hA
      have hO6 : M6 xo = some (.lst (O.map rowD)) := by rw [C6 xo (fp go)]; exact hO
      refine popAt_go hA6 r0 (by rw [List.length_map]; exact r1) (by rw [List.length_map]; omega) fun y hy => ?_
      obtain ⟨s, hs, rfl⟩ := List.mem_map.mp hy
      have hO7 : put M6 q (.lst ((A.map rowD).eraseIdx r.toNat)) xo = some (.lst (O.map rowD)) := by rw [put_ne (Ne.symm nqo)]; exact hO6
      show appR (.ref xo) [rowD s] _ _
      rw [e_app hO7]
      refine ⟨by rw [List.length_map]; omega, A.eraseIdx r.toNat, O ++ [s], _, rfl, ((K5.trans C6.kp).new gq).new go, ?_, ?_, fun z hz => bA z (List.mem_of_mem_eraseIdx hz), ?_, by simp [lO], fun z hz => ?_, pen_put (pen_put P6 (fp gq) (fc gq)) (fp go) (fc go)⟩
      · rw [put_ne nqo, put_same, er_map]
      · rw [List.length_eraseIdx, if_pos (by omega)]
        omega
      · rw [put_same, List.map_append]
        rfl
      · rcases List.mem_append.mp hz with hz | hz
        · exact bO z hz
        · rw [List.mem_singleton] at hz
          subst hz
          exact bA _ hs
    · obtain ⟨A, O, o3, rfl, K5, hA, lA, bA, hO, lO, bO, P5⟩ := W
      rw [intsD_length] at lO P5
      exact hN _ _ ⟨O, o3, rfl, K5, hO, pen_up P5 (by omega), bO, lO⟩
  rintro ρ M5 ⟨O, o3, rfl, K5, bO5, P5, lotO, lO⟩
  simp only [DL.e_next, DL.e_break, DL.e_cont, DL.e_drop, DL.e_ret, DL.e_retN, DL.e_ifS, DL.e_asg, DL.e_par, DL.e_par2, DL.e_del, DL.e_gname, DL.e_gsub, DL.e_gtup, DL.e_gcons, DL.e_gnil, DL.e_var0, DL.e_varS, DL.e_con, DL.e_top2, DL.e_top1, DL.e_cb, DL.e_nil, DL.e_cons, DL.e_tup, DL.e_lst, DL.e_test, DL.e_testK, DL.e_tru, DL.e_truB, DL.e_truN, DL.e_truL, DL.e_and, DL.e_or, DL.e_not, DL.e_if, DL.e_andV, DL.e_andK, DL.e_orV, DL.e_orK, DL.e_notV, DL.e_notK, DL.e_add, DL.e_addS, DL.e_addT, DL.e_addL, DL.e_sub, DL.e_mul, DL.e_mulL, DL.e_mulT, DL.e_fdiv, DL.e_mod, DL.e_pow, DL.e_neg, DL.e_lt, DL.e_le, DL.e_gt, DL.e_ge, DL.e_eqI, DL.e_eqS, DL.e_neI, DL.e_neS, DL.e_isN, DL.e_isntN, DL.e_isB, DL.e_isntB, DL.e_atK, DL.e_ixT, DL.e_ixL, DL.e_ixK, DL.e_ixDT, DL.e_setK, DL.e_setDT, DL.e_setSome, DL.e_setL, DL.e_delK, DL.e_delT, DL.e_inT, DL.e_inK, DL.e_lenL, DL.e_lenT, DL.e_lenK, DL.e_lenDT, DL.e_lenS, DL.e_listL, DL.e_listO, DL.e_listT, DL.e_tupleL, DL.e_tupleT, DL.e_int, DL.e_lm0, DL.e_lm, DL.e_isL, DL.e_app, DL.e_pop, DL.e_popSome, DL.e_call, DL.e_newT, DL.e_newK, DL.e_disp, DL.e_prs0, DL.e_prsS, DL.f_for, DL.f_lc, DL.f_dc, DL.f_iseq, DL.f_seqT, DL.f_rng1, DL.f_rngK, DL.f_zip, DL.f_zipT, DL.f_yes, DL.f_par3, DL.f_par3K, DL.f_isi, DL.f_isiK, DL.f_fld, DL.f_mkE, DL.f_mk0, DL.f_slice, DL.f_nopart, DL.f_part, DL.f_partK, DL.f_slT, DL.f_lrg, DL.f_dispT, List.set_cons_zero, List.set_cons_succ, List.length_cons, List.length_nil, decide_eq_true_eq, Bool.not_eq_true, true_and, and_true, if_true, Bool.false_eq_true, if_false, Nat.reduceAdd, Nat.reduceLT, Nat.reduceLeDiff]
  refine ⟨p, c, ns, _, xo, O, d, 10, rfl, P5, by omega, bO5, ?_, by omega, lotO, hd0, hd1, by omega, fun q' G' M6 K6 g6 b6 P6 lot6 l6 => ?_⟩
  · rintro rfl
    rw [List.length_nil] at lO
    exact neG (List.length_eq_zero_iff.mp lO.symm)
  · have g7 : M q' = none := kp_fresh K5 P5 g6
    refine Down.of (k q' G' M6 (K5.trans K6) g7 b6 (pen_up P6 (by omega)) (fun s hs => ⟨(lot6 s hs).1, (lot6 s hs).2.mono (by omega)⟩) ?_ (by omega))
    rintro rfl
    rw [List.length_nil] at l6
    exact neG (List.length_eq_zero_iff.mp (by omega))
end
end Lw

end T_LWD

section T_LWE
set_option Elab.async false
set_option linter.all false
set_option maxRecDepth 100000
set_option maxHeartbeats 4000000
namespace Lw
open PySem PySem.Spec L2 DL
open PyProof.Rows hiding St
/-- what stays: all but the pen, the exceptions' fields and the tables -/
def KX (p : Addr) (M M' : Mem) : Prop := ∀ b o, b ≠ p → (∀ f, o ≠ .exc f) → (∀ q cs, o ≠ .tab q cs) → M b = some o → M' b = some o
theorem KX.refl {p : Addr} {M : Mem} : KX p M M := fun _ _ _ _ _ h => h
theorem KX.trans {p : Addr} {M M1 M2 : Mem} (h : KX p M M1) (k : KX p M1 M2) : KX p M M2 := fun b o n f t e => k b o n f t (h b o n f t e)
theorem Kp.kx {p : Addr} {M M' : Mem} (h : Kp p M M') : KX p M M' := fun b o n _ _ e => h b o n e
/-- an item of a tuple -/
structure It (y : D) : Prop where
  easy : Easy y
  sh : ∃ p, ∀ M, Sh M y p 2 400
theorem it_int {i : Int} (h : i.natAbs < 10 ^ 50) : It (.int i) := ⟨easy_int i, _, fun M => (Sh.int h).mono (by decide) (by decide)⟩
theorem it_bl {b : Bool} : It (.bl b) := ⟨⟨rfl, Nat.zero_le _, rfl⟩, _, fun M => Sh.bl.mono (by decide) (by decide)⟩
theorem it_non : It .non := ⟨⟨rfl, Nat.zero_le _, rfl⟩, _, fun M => Sh.non.mono (by decide) (by decide)⟩
theorem it_row {r : Cel} {b : Int} (h : Bd b r) (hb : b < 10 ^ 40) (hl : r.length ≤ 5) : It (rowD r) := ⟨easy_row r, _, fun M => (Sh.row h hb hl).mono (by decide) (by decide)⟩
theorem it_str : It (.str "0") := ⟨⟨rfl, Nat.zero_le _, by decide +kernel⟩, .str "0", fun M => ⟨.str _, rfl, Nat.zero_le _, by decide +kernel, by decide +kernel, by decide +kernel⟩⟩
theorem bd_nat {b i : Int} (h : -b ≤ i ∧ i ≤ b) (hb : b < 10 ^ 40) : i.natAbs < 10 ^ 50 := by
  have h1 : (10 : Nat) ^ 50 = 100000000000000000000000000000000000000000000000000 := by decide +kernel
  have h2 : (10 : Int) ^ 40 = 10000000000000000000000000000000000000000 := by decide +kernel
  omega
theorem it_all : ∀ {l : List D}, (∀ y ∈ l, It y) → ∃ ps, ∀ M, ShL M l ps 2 400
  | [], _ => ⟨[], fun M => .nil⟩
  | y :: l, h => by
    obtain ⟨p, hp⟩ := (h y List.mem_cons_self).sh
    obtain ⟨ps, hps⟩ := it_all fun z hz => h z (List.mem_cons_of_mem _ hz)
    exact ⟨p :: ps, fun M => .cons (hp M) (hps M)⟩
/-- no cell of this dimension, and to be shown -/
structure OddD (p : Addr) (n : Nat) (M : Mem) (x : D) : Prop where
  plain : ∀ M', KX p M M' → Plain M' x
  of : isOf x n = false
  txt : ∃ s, PyData.strOk s = true ∧ ∀ M', KX p M M' → ∀ Q : VKd, Q (.str s) M' → reprR [x] M' Q
  easy : ∀ xs, x = .tup xs → ∀ y ∈ xs, Easy y
theorem odd_tup {p : Addr} {n : Nat} {M : Mem} {xs : List D} (h : ∀ y ∈ xs, It y) (hl : xs.length ≤ 6) (ho : isOf (.tup xs) n = false) : OddD p n M (.tup xs) := by
  obtain ⟨ps, hps⟩ := it_all h
  refine ⟨fun M' _ => ⟨rfl, fun ys e => ?_⟩, ho, ⟨(PyData.tuple ps).shown, (Sh.tup (hps M) hl).ok, fun M' _ Q q => (Sh.tup (hps M') hl).repr (by decide) (by decide) q⟩, fun ys e y hy => ?_⟩
  · cases e
    have := sizeLine_eq
    exact ⟨by omega, fun y hy => (h y hy).easy.kind⟩
  · cases e
    exact (h y hy).easy
theorem odd_one {p : Addr} {n : Nat} {M : Mem} {x : D} (h : It x) (nt : ∀ xs, x ≠ .tup xs) (ho : isOf x n = false) : OddD p n M x := by
  obtain ⟨q, hq⟩ := h.sh
  exact ⟨fun M' _ => ⟨h.easy.kind, fun ys e => absurd e (nt ys)⟩, ho, ⟨q.shown, (hq M).ok, fun M' _ Q z => (hq M').repr (by decide) (by decide) z⟩, fun ys e => absurd e (nt ys)⟩
theorem odd_list {p a : Addr} {n : Nat} {M : Mem} {r : Cel} {b : Int} (h : Bd b r) (hb : b < 10 ^ 40) (hl : r.length ≤ 5) (ha : M a = some (.lst (r.map D.int))) (np : a ≠ p) : OddD p n M (.ref a) := by
  obtain ⟨ps, hps⟩ := it_all (l := r.map D.int) fun y hy => by
    obtain ⟨i, hi, rfl⟩ := List.mem_map.mp hy
    exact it_int (bd_nat (h i hi) hb)
  have ka : ∀ M', KX p M M' → M' a = some (.lst (r.map D.int)) := fun M' k => k a _ np (fun f z => nomatch z) (fun q cs z => nomatch z) ha
  exact ⟨fun M' k => ⟨by simp only [kindD, ka M' k]; rfl, fun ys e => nomatch e⟩, rfl, ⟨(PyData.list ps).shown, (Sh.lst (rdL_lst ha) (hps M) (n := 5) (by simpa using hl)).ok, fun M' k Q q => (Sh.lst (rdL_lst (ka M' k)) (hps M') (n := 5) (by simpa using hl)).repr (by decide) (by decide) q⟩, fun ys e => nomatch e⟩
theorem odd_dict {p a : Addr} {n : Nat} {M : Mem} (ha : M a = some (.dT [])) (np : a ≠ p) : OddD p n M (.ref a) := by
  have ka : ∀ M', KX p M M' → M' a = some (.dT []) := fun M' k => k a _ np (fun f z => nomatch z) (fun q cs z => nomatch z) ha
  exact ⟨fun M' k => ⟨by simp only [kindD, ka M' k]; rfl, fun ys e => nomatch e⟩, rfl, ⟨(PyData.dict []).shown, by decide +kernel, fun M' k Q q => .inr ⟨a, rfl, .inr (ka M' k), q⟩⟩, fun ys e => nomatch e⟩
theorem OddD.kx {p : Addr} {n : Nat} {M M1 : Mem} {x : D} (h : OddD p n M x) (k : KX p M M1) : OddD p n M1 x := by
  obtain ⟨a, b, ⟨s, so, c⟩, d⟩ := h
  exact ⟨fun M' k' => a M' (k.trans k'), b, ⟨s, so, fun M' k' => c M' (k.trans k')⟩, d⟩
theorem isOf_len {xs : List D} {n : Nat} (h : xs.length ≠ n) : isOf (.tup xs) n = false := by
  have : ¬ ((xs.length : Int) = (n : Int)) := by omega
  simp [isOf, this]
theorem isOf_bad {xs : List D} {n : Nat} (h : xs.all isI = false) : isOf (.tup xs) n = false := by
  simp [isOf, h]
/-! the odd ones -/
def odds1 (r : Cel) (a : Addr) : List D := [D.non, D.int 3, D.str "00", D.ref a, D.tup (r.map D.int).dropLast, D.tup (r.map D.int ++ [D.int 0]), D.tup ((r.map D.int).dropLast ++ [D.bl true]), D.tup ((r.map D.int).dropLast ++ [D.str "0"])]
def odds2 (r : Cel) : List D := [D.tup ((r.map D.int).dropLast ++ [D.non]), D.tup ((r.map D.int).dropLast ++ [D.tup [D.int 0]])]
def odds3 (r : Cel) (e : Addr) : List D := [D.tup [], D.tup [D.int 0], D.tup [D.int 0, D.int 0, D.int 0, D.int 0, D.int 0], D.tup [D.tup (r.map D.int), D.tup (r.map D.int)], D.ref e]
theorem it_prefix {r : Cel} {b : Int} (h : Bd b r) (hb : b < 10 ^ 40) {y : D} (hy : y ∈ r.map D.int) : It y := by
  obtain ⟨i, hi, rfl⟩ := List.mem_map.mp hy
  exact it_int (bd_nat (h i hi) hb)
theorem it_init {r : Cel} {b : Int} (h : Bd b r) (hb : b < 10 ^ 40) {y z : D} (hz : It z) (hy : y ∈ (r.map D.int).dropLast ++ [z]) : It y := by
  rcases List.mem_append.mp hy with hy | hy
  · exact it_prefix h hb ((List.dropLast_sublist _).subset hy)
  · rw [List.mem_singleton] at hy
    subst hy
    exact hz
theorem init_len {r : Cel} : (r.map D.int).dropLast.length = r.length - 1 := by rw [List.length_dropLast, List.length_map]
theorem odd_init {p : Addr} {M : Mem} {r : Cel} {b : Int} (h : Bd b r) (hb : b < 10 ^ 40) (h0 : 2 ≤ r.length) (h1 : r.length ≤ 4) {z : D} (hz : It z) (nz : isI z = false) : OddD p r.length M (.tup ((r.map D.int).dropLast ++ [z])) := by
  refine odd_tup (fun y hy => it_init h hb hz hy) ?_ (isOf_bad ?_)
  · rw [List.length_append, init_len, List.length_singleton]; omega
  · rw [List.all_append, List.all_cons, nz]; simp
theorem odds1_ok {p a : Addr} {M : Mem} {r : Cel} {b : Int} (h : Bd b r) (hb : b < 10 ^ 40) (h0 : 2 ≤ r.length) (h1 : r.length ≤ 4) (ha : M a = some (.lst (r.map D.int))) (np : a ≠ p) : ∀ x ∈ odds1 r a, OddD p r.length M x := by
  intro x hx
  simp only [odds1, List.mem_cons, List.not_mem_nil, or_false] at hx
  rcases hx with rfl | rfl | rfl | rfl | rfl | rfl | rfl | rfl
  · exact odd_one it_non (fun xs z => nomatch z) rfl
  · exact odd_one (it_int (by decide +kernel)) (fun xs z => nomatch z) rfl
  · refine ⟨fun M' _ => ⟨rfl, fun ys e => nomatch e⟩, rfl, ⟨(PyData.str "00").shown, by decide +kernel, fun M' _ Q q => .inl ⟨.str "00", .str _, rfl, by decide, by decide +kernel, q⟩⟩, fun ys e => nomatch e⟩
  · exact odd_list h hb (by omega) ha np
  · refine odd_tup (fun y hy => it_prefix h hb ((List.dropLast_sublist _).subset hy)) (by rw [init_len]; omega) (isOf_len (by rw [init_len]; omega))
  · refine odd_tup (fun y hy => ?_) (by rw [List.length_append, List.length_map, List.length_singleton]; omega) (isOf_len (by rw [List.length_append, List.length_map, List.length_singleton]; omega))
    rcases List.mem_append.mp hy with hy | hy
    · exact it_prefix h hb hy
    · rw [List.mem_singleton] at hy
      subst hy
      exact it_int (by decide +kernel)
  · exact odd_init h hb h0 h1 it_bl rfl
  · exact odd_init h hb h0 h1 it_str rfl
theorem odds2_ok {p : Addr} {M : Mem} {r : Cel} {b : Int} (h : Bd b r) (hb : b < 10 ^ 40) (h0 : 2 ≤ r.length) (h1 : r.length ≤ 4) : ∀ x ∈ odds2 r, OddD p r.length M x := by
  intro x hx
  simp only [odds2, List.mem_cons, List.not_mem_nil, or_false] at hx
  rcases hx with rfl | rfl
  · exact odd_init h hb h0 h1 it_non rfl
  · exact odd_init h hb h0 h1 (it_row (r := [0]) (b := 0) (by intro x hx; simp at hx; omega) (by decide) (by decide)) rfl
theorem odds3_ok {p e : Addr} {M : Mem} {r : Cel} {b : Int} (h : Bd b r) (hb : b < 10 ^ 40) (h0 : 2 ≤ r.length) (h1 : r.length ≤ 4) (he : M e = some (.dT [])) (np : e ≠ p) : ∀ x ∈ odds3 r e, OddD p r.length M x := by
  intro x hx
  have z0 : It (.int 0) := it_int (by decide +kernel)
  simp only [odds3, List.mem_cons, List.not_mem_nil, or_false] at hx
  rcases hx with rfl | rfl | rfl | rfl | rfl
  · exact odd_tup (by simp) (by decide) (isOf_len (by simp; omega))
  · exact odd_tup (by simpa using z0) (by decide) (isOf_len (by simp; omega))
  · exact odd_tup (by simpa using z0) (by decide) (isOf_len (by simp; omega))
  · exact odd_tup (fun y hy => by
      have hy : y = .tup (r.map D.int) := by simpa using hy
      rw [hy]
      show It (rowD r)
      exact it_row h hb (by omega)) (by simp) (isOf_bad rfl)
  · exact odd_dict he np
section
variable {P : Program} {w : World} {K : PySem.W.Frag} {mg : Str → Option Value} {base : Heap}
def spOdd : SpD := fun ds M Q _ => ∃ p c ns n r b, ds = [.ref p, rowD r] ∧ Pen M p c ns n ∧ n < 2 ^ 39 ∧ 2 ≤ r.length ∧ r.length ≤ 4 ∧ Bd b r ∧ b < 10 ^ 40 ∧ 0 ≤ b ∧ ∀ x M', Kp p M M' → Pen M' p c ns (n + 1) → OddD p r.length M' x → Q x M'
theorem ok_law_odd (Z : Free mg) (S : Stands K mg "_law_odd" s_law_odd ["pen", "cell"]) (C_law_pick : FnD P w K mg base 2 "_law_pick" ["pen", "some"] spPick) : FnD P w K mg base 3 "_law_odd" ["pen", "cell"] spOdd := by
  obtain ⟨f, fd, F, hm, hb⟩ := S
  refine FnD.of F sc_law_odd hm hb (fun ds M Q E h => ?_) fun cdv A outer s0 H0 E E0 hr tk hp => ?_
  · obtain ⟨p, c, ns, n, r, b, rfl, _⟩ := h; rfl
  have nd := sc_law_odd.nd
  refine ⟨_, (pssd_cons (sv 2 nd (ped_lst (pad_cons ped_non (pad_cons ped_int (pad_cons ped_str (pad_cons (ped_callTy call_listD rfl Z.list (by decide +kernel) (pad_cons (v 1) pad_nil)) (pad_cons (ped_slice (v 1) pod_none (pod_some (ped_un un_negD ped_int))) (pad_cons (ped_op op_addD (v 1) (ped_tup (pad_cons ped_int pad_nil))) (pad_cons (ped_op op_addD (ped_slice (v 1) pod_none (pod_some (ped_un un_negD ped_int))) (ped_tup (pad_cons ped_bl pad_nil))) (pad_cons (ped_op op_addD (ped_slice (v 1) pod_none (pod_some (ped_un un_negD ped_int))) (ped_tup (pad_cons ped_str pad_nil))) pad_nil))))))))))
  (pssd_cons (sv 2 nd (ped_op op_addD (v 2) (ped_lst (pad_cons (ped_op op_addD (ped_slice (v 1) pod_none (pod_some (ped_un un_negD ped_int))) (ped_tup (pad_cons ped_non pad_nil))) (pad_cons (ped_op op_addD (ped_slice (v 1) pod_none (pod_some (ped_un un_negD ped_int))) (ped_tup (pad_cons (ped_tup (pad_cons ped_int pad_nil)) pad_nil))) pad_nil)))))
  (pssd_one (psd_ret (ped_call C_law_pick (hr.mono (by decide)) rfl tk (pad_cons (v 0) (pad_cons (ped_op op_addD (v 2) (ped_lst (pad_cons (ped_tup pad_nil) (pad_cons (ped_tup (pad_cons ped_int pad_nil)) (pad_cons (ped_tup (pad_cons ped_int (pad_cons ped_int (pad_cons ped_int (pad_cons ped_int (pad_cons ped_int pad_nil)))))) (pad_cons (ped_tup (pad_cons (v 1) (pad_cons (v 1) pad_nil))) (pad_cons ped_dnewT pad_nil))))))) pad_nil))))))), fun ds M Q h => ?_⟩
  obtain ⟨p, c, ns, n, r, b, rfl, hP, hn, h0, h1, hB, hb, hb0, k⟩ := h
  have sz := sizeLine_eq
  show tseq _ _ _ [some (.ref p), some (.tup (r.map D.int)), none] M
  have li : (r.map D.int).length = r.length := List.length_map _
  have ld : (r.map D.int).dropLast.length = r.length - 1 := by rw [List.length_dropLast, li]
  refine seq_cut (fun ρ M' => ∃ (q a : Addr) (l : List D), ρ = [some (.ref p), some (.tup (r.map D.int)), some (.ref q)] ∧ Keep M M' ∧ M' q = some (.lst l) ∧ l.length = 8 ∧ ∀ x ∈ l, OddD p r.length M' x) (fun N hN => ?_) ?_
  · simp only [DL.e_next, DL.e_break, DL.e_cont, DL.e_drop, DL.e_ret, DL.e_retN, DL.e_ifS, DL.e_asg, DL.e_par, DL.e_par2, DL.e_del, DL.e_gname, DL.e_gsub, DL.e_gtup, DL.e_gcons, DL.e_gnil, DL.e_var0, DL.e_varS, DL.e_con, DL.e_top2, DL.e_top1, DL.e_cb, DL.e_nil, DL.e_cons, DL.e_tup, DL.e_lst, DL.e_test, DL.e_testK, DL.e_tru, DL.e_truB, DL.e_truN, DL.e_truL, DL.e_and, DL.e_or, DL.e_not, DL.e_if, DL.e_andV, DL.e_andK, DL.e_orV, DL.e_orK, DL.e_notV, DL.e_notK, DL.e_add, DL.e_addS, DL.e_addT, DL.e_addL, DL.e_sub, DL.e_mul, DL.e_mulL, DL.e_mulT, DL.e_fdiv, DL.e_mod, DL.e_pow, DL.e_neg, DL.e_lt, DL.e_le, DL.e_gt, DL.e_ge, DL.e_eqI, DL.e_eqS, DL.e_neI, DL.e_neS, DL.e_isN, DL.e_isntN, DL.e_isB, DL.e_isntB, DL.e_atK, DL.e_ixT, DL.e_ixL, DL.e_ixK, DL.e_ixDT, DL.e_setK, DL.e_setDT, DL.e_setSome, DL.e_setL, DL.e_delK, DL.e_delT, DL.e_inT, DL.e_inK, DL.e_lenL, DL.e_lenT, DL.e_lenK, DL.e_lenDT, DL.e_lenS, DL.e_listL, DL.e_listO, DL.e_listT, DL.e_tupleL, DL.e_tupleT, DL.e_int, DL.e_lm0, DL.e_lm, DL.e_isL, DL.e_app, DL.e_pop, DL.e_popSome, DL.e_call, DL.e_newT, DL.e_newK, DL.e_disp, DL.e_prs0, DL.e_prsS, DL.f_for, DL.f_lc, DL.f_dc, DL.f_iseq, DL.f_seqT, DL.f_rng1, DL.f_rngK, DL.f_zip, DL.f_zipT, DL.f_yes, DL.f_par3, DL.f_par3K, DL.f_isi, DL.f_isiK, DL.f_fld, DL.f_mkE, DL.f_mk0, DL.f_slice, DL.f_nopart, DL.f_part, DL.f_partK, DL.f_slT, DL.f_lrg, DL.f_dispT, List.set_cons_zero, List.set_cons_succ, List.length_cons, List.length_nil, decide_eq_true_eq, Bool.not_eq_true, true_and, and_true, if_true, Bool.false_eq_true, if_false, Nat.reduceAdd, Nat.reduceLT, Nat.reduceLeDiff]
    rw [cut_init]
    intro a ha
    refine ⟨by decide, by omega, by decide, by omega, by decide, by omega, by decide, fun q hq => ?_⟩
    have nap : a ≠ p := fun z => pen_some hP (z ▸ ha)
    have haq : put (put M a (.lst (r.map D.int))) q (.lst (odds1 r a)) a = some (.lst (r.map D.int)) := by
      rw [put_ne (ne_none put_same hq), put_same]
    exact hN _ _ ⟨q, a, odds1 r a, rfl, (Keep.new ha).trans (Keep.new hq), put_same, rfl, odds1_ok hB hb h0 h1 haq nap⟩
  rintro ρ M1 ⟨q1, a1, l1, rfl, K1, hq1, ll1, o1⟩
  have P1 := pen_keep hP K1
  refine seq_cut (fun ρ M' => ∃ (q : Addr) (l : List D), ρ = [some (.ref p), some (.tup (r.map D.int)), some (.ref q)] ∧ Keep M1 M' ∧ M' q = some (.lst l) ∧ l.length = 10 ∧ ∀ x ∈ l, OddD p r.length M' x) (fun N hN => ?_) ?_
  · simp only [DL.e_next, DL.e_break, DL.e_cont, DL.e_drop, DL.e_ret, DL.e_retN, DL.e_ifS, DL.e_asg, DL.e_par, DL.e_par2, DL.e_del, DL.e_gname, DL.e_gsub, DL.e_gtup, DL.e_gcons, DL.e_gnil, DL.e_var0, DL.e_varS, DL.e_con, DL.e_top2, DL.e_top1, DL.e_cb, DL.e_nil, DL.e_cons, DL.e_tup, DL.e_lst, DL.e_test, DL.e_testK, DL.e_tru, DL.e_truB, DL.e_truN, DL.e_truL, DL.e_and, DL.e_or, DL.e_not, DL.e_if, DL.e_andV, DL.e_andK, DL.e_orV, DL.e_orK, DL.e_notV, DL.e_notK, DL.e_add, DL.e_addS, DL.e_addT, DL.e_addL, DL.e_sub, DL.e_mul, DL.e_mulL, DL.e_mulT, DL.e_fdiv, DL.e_mod, DL.e_pow, DL.e_neg, DL.e_lt, DL.e_le, DL.e_gt, DL.e_ge, DL.e_eqI, DL.e_eqS, DL.e_neI, DL.e_neS, DL.e_isN, DL.e_isntN, DL.e_isB, DL.e_isntB, DL.e_atK, DL.e_ixT, DL.e_ixL, DL.e_ixK, DL.e_ixDT, DL.e_setK, DL.e_setDT, DL.e_setSome, DL.e_setL, DL.e_delK, DL.e_delT, DL.e_inT, DL.e_inK, DL.e_lenL, DL.e_lenT, DL.e_lenK, DL.e_lenDT, DL.e_lenS, DL.e_listL, DL.e_listO, DL.e_listT, DL.e_tupleL, DL.e_tupleT, DL.e_int, DL.e_lm0, DL.e_lm, DL.e_isL, DL.e_app, DL.e_pop, DL.e_popSome, DL.e_call, DL.e_newT, DL.e_newK, DL.e_disp, DL.e_prs0, DL.e_prsS, DL.f_for, DL.f_lc, DL.f_dc, DL.f_iseq, DL.f_seqT, DL.f_rng1, DL.f_rngK, DL.f_zip, DL.f_zipT, DL.f_yes, DL.f_par3, DL.f_par3K, DL.f_isi, DL.f_isiK, DL.f_fld, DL.f_mkE, DL.f_mk0, DL.f_slice, DL.f_nopart, DL.f_part, DL.f_partK, DL.f_slT, DL.f_lrg, DL.f_dispT, List.set_cons_zero, List.set_cons_succ, List.length_cons, List.length_nil, decide_eq_true_eq, Bool.not_eq_true, true_and, and_true, if_true, Bool.false_eq_true, if_false, Nat.reduceAdd, Nat.reduceLT, Nat.reduceLeDiff]
    rw [cut_init]
    refine ⟨by decide, by omega, by decide, by decide, by omega, by decide, fun q hq => ?_⟩
    show addR (.ref q1) (.ref q) _ _
    rw [e_addL ((Keep.new hq) _ _ hq1) put_same]
    refine ⟨by rw [ll1]; show 8 + 2 ≤ sizeLine; decide, fun q3 hq3 => ?_⟩
    have KK := (Keep.new (o := .lst (odds2 r)) hq).trans (Keep.new (o := .lst (l1 ++ odds2 r)) hq3)
    refine hN _ _ ⟨q3, l1 ++ odds2 r, rfl, KK, put_same, by rw [List.length_append, ll1]; rfl, fun x hx => ?_⟩
    rcases List.mem_append.mp hx with hx | hx
    · exact (o1 x hx).kx (Kp.keep KK).kx
    · exact odds2_ok hB hb h0 h1 x hx
  rintro ρ M2 ⟨q2, l2, rfl, K2, hq2, ll2, o2⟩
  have P2 := pen_keep P1 K2
  simp only [DL.e_next, DL.e_break, DL.e_cont, DL.e_drop, DL.e_ret, DL.e_retN, DL.e_ifS, DL.e_asg, DL.e_par, DL.e_par2, DL.e_del, DL.e_gname, DL.e_gsub, DL.e_gtup, DL.e_gcons, DL.e_gnil, DL.e_var0, DL.e_varS, DL.e_con, DL.e_top2, DL.e_top1, DL.e_cb, DL.e_nil, DL.e_cons, DL.e_tup, DL.e_lst, DL.e_test, DL.e_testK, DL.e_tru, DL.e_truB, DL.e_truN, DL.e_truL, DL.e_and, DL.e_or, DL.e_not, DL.e_if, DL.e_andV, DL.e_andK, DL.e_orV, DL.e_orK, DL.e_notV, DL.e_notK, DL.e_add, DL.e_addS, DL.e_addT, DL.e_addL, DL.e_sub, DL.e_mul, DL.e_mulL, DL.e_mulT, DL.e_fdiv, DL.e_mod, DL.e_pow, DL.e_neg, DL.e_lt, DL.e_le, DL.e_gt, DL.e_ge, DL.e_eqI, DL.e_eqS, DL.e_neI, DL.e_neS, DL.e_isN, DL.e_isntN, DL.e_isB, DL.e_isntB, DL.e_atK, DL.e_ixT, DL.e_ixL, DL.e_ixK, DL.e_ixDT, DL.e_setK, DL.e_setDT, DL.e_setSome, DL.e_setL, DL.e_delK, DL.e_delT, DL.e_inT, DL.e_inK, DL.e_lenL, DL.e_lenT, DL.e_lenK, DL.e_lenDT, DL.e_lenS, DL.e_listL, DL.e_listO, DL.e_listT, DL.e_tupleL, DL.e_tupleT, DL.e_int, DL.e_lm0, DL.e_lm, DL.e_isL, DL.e_app, DL.e_pop, DL.e_popSome, DL.e_call, DL.e_newT, DL.e_newK, DL.e_disp, DL.e_prs0, DL.e_prsS, DL.f_for, DL.f_lc, DL.f_dc, DL.f_iseq, DL.f_seqT, DL.f_rng1, DL.f_rngK, DL.f_zip, DL.f_zipT, DL.f_yes, DL.f_par3, DL.f_par3K, DL.f_isi, DL.f_isiK, DL.f_fld, DL.f_mkE, DL.f_mk0, DL.f_slice, DL.f_nopart, DL.f_part, DL.f_partK, DL.f_slT, DL.f_lrg, DL.f_dispT, List.set_cons_zero, List.set_cons_succ, List.length_cons, List.length_nil, decide_eq_true_eq, Bool.not_eq_true, true_and, and_true, if_true, Bool.false_eq_true, if_false, Nat.reduceAdd, Nat.reduceLT, Nat.reduceLeDiff]
  refine ⟨by decide, by decide, by decide, by decide, fun e he => ⟨by decide, fun q hq => ?_⟩⟩
  have nep : e ≠ p := fun z => pen_some P2 (z ▸ he)
  show addR (.ref q2) (.ref q) _ _
  rw [e_addL ((Keep.new hq) _ _ ((Keep.new he) _ _ hq2)) put_same]
  refine ⟨by rw [ll2]; show 10 + 5 ≤ sizeLine; decide, fun q3 hq3 => ?_⟩
  have KK := ((Keep.new (o := .dT []) he).trans (Keep.new (o := .lst (odds3 r e)) hq)).trans (Keep.new (o := .lst (l2 ++ odds3 r e)) hq3)
  have P3 := pen_keep P2 KK
  have all : ∀ x ∈ l2 ++ odds3 r e, OddD p r.length (put (put (put M2 e (.dT [])) q (.lst (odds3 r e))) q3 (.lst (l2 ++ odds3 r e))) x := fun x hx => by
    rcases List.mem_append.mp hx with hx | hx
    · exact (o2 x hx).kx (Kp.keep KK).kx
    · refine odds3_ok hB hb h0 h1 ?_ nep x hx
      exact (Keep.new hq3) _ _ ((Keep.new hq) _ _ put_same)
  refine pick_at P3 (by omega) put_same (by simp [odds3]) (by rw [List.length_append, ll2]; show 10 + 5 < 2 ^ 30; decide) fun x M' hx C P' => ?_
  exact Down.of (k x M' ((Kp.keep ((K1.trans K2).trans KK)).trans C.kp) P' ((all x hx).kx C.kp.kx))
end
end Lw

end T_LWE

section T_LWF
set_option Elab.async false
set_option linter.all false
set_option maxRecDepth 100000
set_option maxHeartbeats 4000000
namespace Lw
open PySem PySem.Spec L2 DL
open PyProof.Rows hiding St
/-- the two kinds of errors: what the module's heap says -/
structure Exf (K : PySem.W.Frag) : Prop where
  kC : ExK K (He.ga K "BadCell")
  kN : ExK K (He.ga K "BadNumber")
  fC : PySem.W.findIn K (.ref (He.ga K "BadCell")) "cell" = some none
  fW : PySem.W.findIn K (.ref (He.ga K "BadNumber")) "what" = some none
  fN : PySem.W.findIn K (.ref (He.ga K "BadNumber")) "number" = some none
  cc : PySem.W.exmOne K (.ref (He.ga K "BadCell")) (.ref (He.ga K "BadCell")) = some true
  nc : PySem.W.exmOne K (.ref (He.ga K "BadNumber")) (.ref (He.ga K "BadCell")) = some false
  nn : PySem.W.exmOne K (.ref (He.ga K "BadNumber")) (.ref (He.ga K "BadNumber")) = some true
/-- all but the exceptions' fields stays -/
def Sx (M M' : Mem) : Prop := ∀ b o, M b = some o → (∀ f, o ≠ .exc f) → M' b = some o
/-- x is shown as s, here and wherever its lists stay -/
def Txt (M : Mem) (x : D) (s : Str) : Prop := ∀ M', Sx M M' → ∀ Q : VKd, Q (.str s) M' → reprR [x] M' Q
def cellR (s : Str) : D := .tup [.str "cell", .str s]
def numR (w s : Str) : D := .tup [.str "number", .str w, .str s]
def spRef (K : PySem.W.Frag) : ActD → Mem → VKd → Prop := fun tl M Q => ∀ (E0 : XKd) (Qn : VKd), (∀ x s M', Txt M' x s → (∀ M2, Sx M' M2 → Q (cellR s) M2) → E0 (He.ga K "BadCell") [("cell", x)] M') →
  (∀ x w s M', Txt M' x s → (∀ M2, Sx M' M2 → Q (numR w s) M2) → E0 (He.ga K "BadNumber") [("number", x), ("what", .str w)] M') → (∀ d M', Q .non M' → Qn d M') → tl E0 M Qn
theorem V_refused {X : Cx} {g : Addr} (Z : Free X.mg) (hA : X.A.guards = some []) (hr0 : Room 3 X.A) (T : Exf X.K) (G_BadCell : X.mg "BadCell" = some (.ref (He.ga X.K "BadCell"))) (G_BadNumber : X.mg "BadNumber" = some (.ref (He.ga X.K "BadNumber"))) :
    GivesD X ["call", "e"] "_law_refused" s_law_refused g "call" "law.<locals>.<lambda>" (spRef X.K) := by
  intro cdv s H f c tl act
  have nd := sc_law_refused.nd
  have hr := hr0.deeper (envOfC "_law_refused" (defScope s_law_refused) s.heap.objs.size g cdv)
  refine ⟨_, (pss0_try rfl rfl nd takesD0 (fun W pn xe tk hp => (pssd_one (psd_expr (act W pn xe _ _ tk)))) (clsd_named (i := 1) ⟨rfl, by decide, .inl G_BadCell⟩ rfl rfl (fun a oe C dd pn hz hf => (pssd_one (psd_ret (ped_tup (pad_cons ped_str (pad_cons (ped_callB (call_reprU hA (u200s hr)) rfl Z.repr (by decide +kernel) (pad_cons (ped_xfK hz hf (v 1)) pad_nil)) pad_nil)))))) (clsd_named (i := 1) ⟨rfl, by decide, .inl G_BadNumber⟩ rfl rfl (fun a oe C dd pn hz hf => (pssd_one (psd_ret (ped_tup (pad_cons ped_str (pad_cons (ped_xfK hz hf (v 1)) (pad_cons (ped_callB (call_reprU hA (u200s hr)) rfl Z.repr (by decide +kernel) (pad_cons (ped_xfK hz hf (v 1)) pad_nil)) pad_nil))))))) clsd_nil)) (pssd_one (psd_ret ped_non))), fun M Q hc h => ?_⟩
  refine ⟨rfl, hc, h _ _ (fun x s M' ht q => ?_) (fun x w s M' ht q => ?_) (fun d M' q => ?_)⟩
  · refine ⟨true, T.cc, fun _ a dd M2 hdd st => ?_, fun z => nomatch z⟩
    show tret _ _ [none, some (.ref a)] M2
    simp only [DL.e_next, DL.e_break, DL.e_cont, DL.e_drop, DL.e_ret, DL.e_retN, DL.e_ifS, DL.e_asg, DL.e_par, DL.e_par2, DL.e_del, DL.e_gname, DL.e_gsub, DL.e_gtup, DL.e_gcons, DL.e_gnil, DL.e_var0, DL.e_varS, DL.e_con, DL.e_top2, DL.e_top1, DL.e_cb, DL.e_nil, DL.e_cons, DL.e_tup, DL.e_lst, DL.e_test, DL.e_testK, DL.e_tru, DL.e_truB, DL.e_truN, DL.e_truL, DL.e_and, DL.e_or, DL.e_not, DL.e_if, DL.e_andV, DL.e_andK, DL.e_orV, DL.e_orK, DL.e_notV, DL.e_notK, DL.e_add, DL.e_addS, DL.e_addT, DL.e_addL, DL.e_sub, DL.e_mul, DL.e_mulL, DL.e_mulT, DL.e_fdiv, DL.e_mod, DL.e_pow, DL.e_neg, DL.e_lt, DL.e_le, DL.e_gt, DL.e_ge, DL.e_eqI, DL.e_eqS, DL.e_neI, DL.e_neS, DL.e_isN, DL.e_isntN, DL.e_isB, DL.e_isntB, DL.e_atK, DL.e_ixT, DL.e_ixL, DL.e_ixK, DL.e_ixDT, DL.e_setK, DL.e_setDT, DL.e_setSome, DL.e_setL, DL.e_delK, DL.e_delT, DL.e_inT, DL.e_inK, DL.e_lenL, DL.e_lenT, DL.e_lenK, DL.e_lenDT, DL.e_lenS, DL.e_listL, DL.e_listO, DL.e_listT, DL.e_tupleL, DL.e_tupleT, DL.e_int, DL.e_lm0, DL.e_lm, DL.e_isL, DL.e_app, DL.e_pop, DL.e_popSome, DL.e_call, DL.e_newT, DL.e_newK, DL.e_disp, DL.e_prs0, DL.e_prsS, DL.f_for, DL.f_lc, DL.f_dc, DL.f_iseq, DL.f_seqT, DL.f_rng1, DL.f_rngK, DL.f_zip, DL.f_zipT, DL.f_yes, DL.f_par3, DL.f_par3K, DL.f_isi, DL.f_isiK, DL.f_fld, DL.f_mkE, DL.f_mk0, DL.f_slice, DL.f_nopart, DL.f_part, DL.f_partK, DL.f_slT, DL.f_lrg, DL.f_dispT, List.set_cons_zero, List.set_cons_succ, List.length_cons, List.length_nil, decide_eq_true_eq, Bool.not_eq_true, true_and, and_true, if_true, Bool.false_eq_true, if_false, Nat.reduceAdd, Nat.reduceLT, Nat.reduceLeDiff]
    refine ⟨T.kC, T.fC, rfl, _, x, hdd, rfl, ?_⟩
    refine ht M2 st _ ?_
    exact ⟨by decide, M2, fun _ _ z => z, q M2 st⟩
  · refine ⟨false, T.nc, ?_, fun _ => ⟨true, T.nn, fun _ a dd M2 hdd st => ?_, ?_⟩⟩
    · intro z
      cases z
    · show tret _ _ [none, some (.ref a)] M2
      simp only [DL.e_next, DL.e_break, DL.e_cont, DL.e_drop, DL.e_ret, DL.e_retN, DL.e_ifS, DL.e_asg, DL.e_par, DL.e_par2, DL.e_del, DL.e_gname, DL.e_gsub, DL.e_gtup, DL.e_gcons, DL.e_gnil, DL.e_var0, DL.e_varS, DL.e_con, DL.e_top2, DL.e_top1, DL.e_cb, DL.e_nil, DL.e_cons, DL.e_tup, DL.e_lst, DL.e_test, DL.e_testK, DL.e_tru, DL.e_truB, DL.e_truN, DL.e_truL, DL.e_and, DL.e_or, DL.e_not, DL.e_if, DL.e_andV, DL.e_andK, DL.e_orV, DL.e_orK, DL.e_notV, DL.e_notK, DL.e_add, DL.e_addS, DL.e_addT, DL.e_addL, DL.e_sub, DL.e_mul, DL.e_mulL, DL.e_mulT, DL.e_fdiv, DL.e_mod, DL.e_pow, DL.e_neg, DL.e_lt, DL.e_le, DL.e_gt, DL.e_ge, DL.e_eqI, DL.e_eqS, DL.e_neI, DL.e_neS, DL.e_isN, DL.e_isntN, DL.e_isB, DL.e_isntB, DL.e_atK, DL.e_ixT, DL.e_ixL, DL.e_ixK, DL.e_ixDT, DL.e_setK, DL.e_setDT, DL.e_setSome, DL.e_setL, DL.e_delK, DL.e_delT, DL.e_inT, DL.e_inK, DL.e_lenL, DL.e_lenT, DL.e_lenK, DL.e_lenDT, DL.e_lenS, DL.e_listL, DL.e_listO, DL.e_listT, DL.e_tupleL, DL.e_tupleT, DL.e_int, DL.e_lm0, DL.e_lm, DL.e_isL, DL.e_app, DL.e_pop, DL.e_popSome, DL.e_call, DL.e_newT, DL.e_newK, DL.e_disp, DL.e_prs0, DL.e_prsS, DL.f_for, DL.f_lc, DL.f_dc, DL.f_iseq, DL.f_seqT, DL.f_rng1, DL.f_rngK, DL.f_zip, DL.f_zipT, DL.f_yes, DL.f_par3, DL.f_par3K, DL.f_isi, DL.f_isiK, DL.f_fld, DL.f_mkE, DL.f_mk0, DL.f_slice, DL.f_nopart, DL.f_part, DL.f_partK, DL.f_slT, DL.f_lrg, DL.f_dispT, List.set_cons_zero, List.set_cons_succ, List.length_cons, List.length_nil, decide_eq_true_eq, Bool.not_eq_true, true_and, and_true, if_true, Bool.false_eq_true, if_false, Nat.reduceAdd, Nat.reduceLT, Nat.reduceLeDiff]
      refine ⟨T.kN, T.fW, rfl, _, .str w, hdd, rfl, T.kN, T.fN, rfl, _, x, hdd, rfl, ?_⟩
      refine ht M2 st _ ?_
      exact ⟨by decide, M2, fun _ _ z => z, q M2 st⟩
    · intro z
      cases z
  · exact ⟨M', Keep.refl, q⟩
end Lw

end T_LWF

section T_LWG
set_option Elab.async false
set_option linter.all false
set_option maxRecDepth 100000
set_option maxHeartbeats 4000000
namespace Lw
open PySem PySem.Spec L2 DL
open PyProof.Rows hiding St
/-! ### parts: how many, how great -/
theorem parts_mem {L : List Cel} : ∀ {cs S : List Cel} {P : List Cel}, P ∈ partsBy srtR L cs S → (∀ r ∈ P, r ∈ L) ∧ P.length ≤ L.length
  | [], _, _, h => by cases h
  | c :: cs, S, P, h => by
    unfold partsBy at h
    split at h
    · exact parts_mem h
    · rcases List.mem_cons.mp h with rfl | h
      · refine ⟨fun r hr => (mem_comp.mp ((srtR_perm _).subset hr)).mem, ?_⟩
        rw [(srtR_perm _).length_eq]
        exact List.length_filter_le _ _
      · exact parts_mem h
theorem parts_len {L : List Cel} : ∀ {cs S : List Cel}, (partsBy srtR L cs S).length ≤ cs.length
  | [], _ => Nat.le_refl _
  | c :: cs, S => by
    unfold partsBy
    split
    · exact Nat.le_succ_of_le parts_len
    · rw [List.length_cons, List.length_cons]
      exact Nat.succ_le_succ parts_len
theorem shl_ex {k n : Nat} : ∀ {l : List D}, (∀ y ∈ l, ∃ p, ∀ M, Sh M y p k n) → ∃ ps, ∀ M, ShL M l ps k n
  | [], _ => ⟨[], fun M => .nil⟩
  | y :: l, h => by
    obtain ⟨p, hp⟩ := h y List.mem_cons_self
    obtain ⟨ps, hps⟩ := shl_ex fun z hz => h z (List.mem_cons_of_mem _ hz)
    exact ⟨p :: ps, fun M => .cons (hp M) (hps M)⟩
theorem sh_rows {L : List Cel} {b : Int} (h : ∀ r ∈ L, Bd b r ∧ r.length ≤ 5) (hb : b < 10 ^ 40) (hl : L.length ≤ 30) : ∃ p, ∀ M, Sh M (.tup (L.map rowD)) p 2 9453 := ⟨_, fun M => Sh.tup (Sh.rows h hb) (n := 30) (by simpa using hl)⟩
theorem sh_parts {L : List Cel} {b : Int} (h : ∀ r ∈ L, Bd b r ∧ r.length ≤ 5) (hb : b < 10 ^ 40) (hl : L.length ≤ 30) : ∃ p, ∀ M, Sh M (.tup (partsD L)) p 3 283653 := by
  obtain ⟨ps, hps⟩ := shl_ex (k := 2) (n := 9453) (l := partsD L) fun y hy => by
    obtain ⟨P, hP, rfl⟩ := List.mem_map.mp hy
    obtain ⟨a, c⟩ := parts_mem hP
    exact sh_rows (fun r hr => h r (a r hr)) hb (by omega)
  refine ⟨_, fun M => Sh.tup (hps M) (n := 30) ?_⟩
  have := parts_len (L := L) (cs := srtR L) (S := [])
  rw [(srtR_perm L).length_eq] at this
  show ((parts L).map _).length ≤ 30
  rw [List.length_map]
  exact Nat.le_trans this hl
/-! ### the bent lot -/
def bentL (G : List Cel) (x : D) (j : Nat) : List D := (G.map rowD).take j ++ [x] ++ (G.map rowD).drop j ++ [.non]
def dueD (G : List Cel) (x : D) (j : Nat) : D := if 0 < j ∨ isAny x = false then x else rowD (G.headD [])
theorem lot_any {d : Nat} {b : Int} {G : List Cel} (h : Lot d b G) (h0 : 2 ≤ d) (h1 : d ≤ 4) {r : Cel} (hr : r ∈ G) : isAny (rowD r) = true := isAny_rowD (by rw [(h r hr).1]; exact h0) (by rw [(h r hr).1]; exact h1)
theorem lenD_row (r : Cel) : lenD (rowD r) = r.length := by simp [lenD, rowD]
theorem odd_len {x : D} {d : Nat} (ho : isOf x d = false) (ha : isAny x = true) : lenD x ≠ d := by
  obtain ⟨r, rfl, _⟩ := isAny_row ha
  rw [isOf_rowD] at ho
  rw [lenD_row]
  have := of_decide_eq_false ho
  omega
theorem bad_bent {d : Nat} {b : Int} {G : List Cel} {x : D} {j : Nat} (lot : Lot d b G) (h0 : 2 ≤ d) (h1 : d ≤ 4) (ne : G ≠ []) (ho : isOf x d = false) (hj : j ≤ G.length) : badC (bentL G x j) = some (dueD G x j) := by
  cases G with
  | nil => exact absurd rfl ne
  | cons g G =>
    have lg := (lot g List.mem_cons_self).1
    have ag := lot_any lot h0 h1 (List.mem_cons_self : g ∈ g :: G)
    cases j with
    | zero =>
      have e : bentL (g :: G) x 0 = x :: rowD g :: (G.map rowD ++ [.non]) := by simp [bentL]
      rw [e]
      unfold dueD
      cases ha : isAny x with
      | false =>
        rw [if_pos (.inr rfl)]
        exact badC_at (i := 0) rfl (by simp) (.inl ha)
      | true =>
        rw [if_neg (by simp)]
        refine badC_at (i := 1) rfl (fun y hy => ?_) (.inr ?_)
        · have hy : y = x := by simpa using hy
          rw [hy]
          exact ⟨ha, rfl⟩
        · show lenD (rowD g) ≠ lenD x
          have := odd_len ho ha
          rw [lenD_row, lg]
          exact fun z => this z.symm
    | succ j =>
      have hd : (bentL (g :: G) x (j + 1)).headD .non = rowD g := by simp [bentL]
      have lt : ((g :: G).map rowD).take (j + 1) = ((g :: G).take (j + 1)).map rowD := (List.map_take).symm
      have ll : (((g :: G).map rowD).take (j + 1)).length = j + 1 := by
        rw [List.length_take, List.length_map]; omega
      have at_ : (bentL (g :: G) x (j + 1))[j + 1]? = some x := by
        unfold bentL
        rw [List.append_assoc, List.append_assoc, List.getElem?_append_right (by omega), ll, Nat.sub_self]
        rfl
      have pre : (bentL (g :: G) x (j + 1)).take (j + 1) = ((g :: G).take (j + 1)).map rowD := by
        unfold bentL
        rw [List.append_assoc, List.append_assoc, List.take_append_of_le_length (by omega), lt, List.take_of_length_le (by rw [List.length_map, List.length_take]; omega)]
      unfold dueD
      rw [if_pos (.inl (by omega))]
      refine badC_at at_ (fun y hy => ?_) ?_
      · rw [pre] at hy
        obtain ⟨r, hr, rfl⟩ := List.mem_map.mp hy
        have hr := List.mem_of_mem_take hr
        refine ⟨lot_any lot h0 h1 hr, ?_⟩
        rw [hd, lenD_row, lenD_row, (lot r hr).1, lg]
      · cases ha : isAny x with
        | false => exact .inl rfl
        | true =>
          refine .inr ?_
          rw [hd, lenD_row, lg]
          exact odd_len ho ha
theorem bent_mem {G : List Cel} {x y : D} {j : Nat} (h : y ∈ bentL G x j) : (∃ r ∈ G, y = rowD r) ∨ y = x ∨ y = .non := by
  unfold bentL at h
  simp only [List.mem_append, List.mem_singleton] at h
  rcases h with ((h | h) | h) | h
  · obtain ⟨r, hr, e⟩ := List.mem_map.mp (List.mem_of_mem_take h)
    exact .inl ⟨r, hr, e.symm⟩
  · exact .inr (.inl h)
  · obtain ⟨r, hr, e⟩ := List.mem_map.mp (List.mem_of_mem_drop h)
    exact .inl ⟨r, hr, e.symm⟩
  · exact .inr (.inr h)
/-! ### equal texts -/
theorem La.refl_eq {M : Mem} {x y : D} {p : PyData} {k : Nat} {Q : Bool → Mem → Prop} (h : La M x p k) (g : La M y p k) (hk : k ≤ 64) (q : Q true M) : eqD x y M Q := La.eq h g hk hk (by rw [PySem.SeqAt.eqv_refl p h.lay]; exact q)
theorem strs_py {M : Mem} : ∀ ss : List Str, PyRL M (ss.map D.str) (ss.map PyData.str) ∧ PyData.depthAll (ss.map PyData.str) = 0
  | [] => ⟨.nil, rfl⟩
  | s :: ss => by
    obtain ⟨a, b⟩ := strs_py (M := M) ss
    exact ⟨.cons (.str s) a, by rw [List.map_cons, PyData.depthAll, b]; rfl⟩
theorem strs_lay : ∀ {ss : List Str}, (∀ s ∈ ss, PyData.strOk s = true) → PyData.canLayAll0 (ss.map PyData.str) = true
  | [], _ => rfl
  | s :: ss, h => by
    rw [List.map_cons, PyData.canLayAll0, strs_lay fun t ht => h t (List.mem_cons_of_mem _ ht)]
    have := h s List.mem_cons_self
    simpa [PyData.canLay0] using this
theorem La.strs {M : Mem} {a : Addr} {ss : List Str} (h : rdL M a = some (ss.map D.str)) (ok : ∀ s ∈ ss, PyData.strOk s = true) : La M (.ref a) (.list (ss.map PyData.str)) 1 := by
  obtain ⟨x, y⟩ := strs_py (M := M) ss
  exact ⟨.lst h x, by rw [PyData.depth, y]; decide, strs_lay ok⟩
theorem La.tstrs {M : Mem} {ss : List Str} (ok : ∀ s ∈ ss, PyData.strOk s = true) : La M (.tup (ss.map D.str)) (.tuple (ss.map PyData.str)) 1 := by
  obtain ⟨x, y⟩ := strs_py (M := M) ss
  exact ⟨.tup x, by rw [PyData.depth, y]; decide, strs_lay ok⟩
theorem La.cell {M : Mem} {s : Str} (h : PyData.strOk s = true) : La M (cellR s) (.tuple [.str "cell", .str s]) 1 := La.tstrs (ss := ["cell", s]) (by
  intro t ht
  simp only [List.mem_cons, List.not_mem_nil, or_false] at ht
  rcases ht with rfl | rfl
  · decide +kernel
  · exact h)
theorem La.num {M : Mem} {s : Str} (h : PyData.strOk s = true) : La M (numR "dimension" s) (.tuple [.str "number", .str "dimension", .str s]) 1 := La.tstrs (ss := ["number", "dimension", s]) (by
  intro t ht
  simp only [List.mem_cons, List.not_mem_nil, or_false] at ht
  rcases ht with rfl | rfl | rfl
  · decide +kernel
  · decide +kernel
  · exact h)
theorem La.cells {M : Mem} {a : Addr} {s : Str} (hM : M a = some (.lst [cellR s, cellR s])) (h : PyData.strOk s = true) : La M (.ref a) (.list [.tuple [.str "cell", .str s], .tuple [.str "cell", .str s]]) 2 := by
  have c := La.cell (M := M) h
  have d := c.dp
  refine ⟨.lst (rdL_lst hM) (.cons c.py (.cons c.py .nil)), ?_, ?_⟩
  · simp only [PyData.depth, PyData.depthAll] at d ⊢
    omega
  · have l := c.lay
    simp only [PyData.canLay0] at l ⊢
    simp [PyData.canLayAll0, PyData.canLay0] at l ⊢
    exact l
/-! ### late in a turn -/
def TxtX (p : Addr) (MB : Mem) (x : D) (s : Str) : Prop := PyData.strOk s = true ∧ ∀ M', KX p MB M' → ∀ Q : VKd, Q (.str s) M' → reprR [x] M' Q
abbrev QN : Str := "law.<locals>.<lambda>"
structure Late (p c : Addr) (ns : List Int) (n : Nat) (T : Addr) (MB M : Mem) : Prop where
  kx : KX p MB M
  pen : Pen M p c ns n
  tab : ∃ cs, M T = some (.tab QN cs)
theorem Late.lam {p c T : Addr} {ns : List Int} {n : Nat} {MB M M1 M2 : Mem} {cs : List Addr} (J : Late p c ns n T MB M) (h1 : M1 T = some (.tab QN cs)) (h2 : ∀ b o, M b = some o → (∀ q cs, o ≠ .tab q cs) → M1 b = some o) (h3 : Sx M1 M2) : Late p c ns n T MB M2 := by
  have kz : ∀ b o, (∀ f, o ≠ .exc f) → (∀ q cs, o ≠ .tab q cs) → M b = some o → M2 b = some o := fun b o f t e => h3 b o (h2 b o e t) f
  refine ⟨J.kx.trans fun b o _ f t e => kz b o f t e, ?_, cs, h3 T _ h1 fun f z => nomatch z⟩
  obtain ⟨⟨x1, x2, x3, x4, hM, r⟩, hc⟩ := J.pen
  exact ⟨⟨x1, x2, x3, x4, kz _ _ (fun f z => nomatch z) (fun q cs z => nomatch z) hM, r⟩, kz _ _ (fun f z => nomatch z) (fun q cs z => nomatch z) hc⟩
theorem sx_refl {M : Mem} : Sx M M := fun _ _ e _ => e
theorem Late.txt {p c T : Addr} {ns : List Int} {n : Nat} {MB M : Mem} {x : D} {s : Str} (J : Late p c ns n T MB M) (h : TxtX p MB x s) : Txt M x s := fun M' sx Q q => h.2 M' (J.kx.trans fun b o _ f _ e => sx b o e f) Q q
theorem Late.more {p c T : Addr} {ns : List Int} {n : Nat} {MB M M' : Mem} (J : Late p c ns n T MB M) (k : Keep M M') : Late p c ns n T MB M' := by
  obtain ⟨cs, h⟩ := J.tab
  exact ⟨J.kx.trans (Kp.keep k).kx, pen_keep J.pen k, cs, k _ _ h⟩
/-- refused(lambda: ..), where BadCell(x) comes out -/
theorem lam_cell {K : PySem.W.Frag} {p c T : Addr} {ns : List Int} {n : Nat} {MB M : Mem} {x : D} {s : Str} {tb : XKd → TEd} {ρ : Envd} {Q : VKd} (J : Late p c ns n T MB M) (ht : TxtX p MB x s)
    (body : ∀ M1 (E0 : XKd) (Qn : VKd), Late p c ns n T MB M1 → E0 (He.ga K "BadCell") [("cell", x)] M1 → tb E0 ρ M1 Qn) (k : ∀ M2, Late p c ns n T MB M2 → (∀ b o, (∀ f, o ≠ .exc f) → (∀ q cs, o ≠ .tab q cs) → M b = some o → M2 b = some o) → Q (cellR s) M2) : tlam T QN (spRef K) tb ρ M Q := by
  obtain ⟨cs, hT⟩ := J.tab
  refine ⟨cs, hT, fun c1 M1 h1 h2 E0 Qn hC hN hZ => ?_⟩
  have J1 := J.lam h1 h2 sx_refl
  refine body M1 E0 Qn J1 (hC x s M1 (J1.txt ht) fun M2 sx => k M2 (J.lam h1 h2 sx) fun b o f t e => sx b o (h2 b o e t) f)
theorem lam_num {K : PySem.W.Frag} {p c T : Addr} {ns : List Int} {n : Nat} {MB M : Mem} {x : D} {w s : Str} {tb : XKd → TEd} {ρ : Envd} {Q : VKd} (J : Late p c ns n T MB M) (ht : TxtX p MB x s)
    (body : ∀ M1 (E0 : XKd) (Qn : VKd), Late p c ns n T MB M1 → E0 (He.ga K "BadNumber") [("number", x), ("what", .str w)] M1 → tb E0 ρ M1 Qn) (k : ∀ M2, Late p c ns n T MB M2 → Q (numR w s) M2) : tlam T QN (spRef K) tb ρ M Q := by
  obtain ⟨cs, hT⟩ := J.tab
  refine ⟨cs, hT, fun c1 M1 h1 h2 E0 Qn hC hN hZ => ?_⟩
  have J1 := J.lam h1 h2 sx_refl
  exact body M1 E0 Qn J1 (hN x w s M1 (J1.txt ht) fun M2 sx => k M2 (J.lam h1 h2 sx))
end Lw

end T_LWG

section T_LWH
set_option Elab.async false
set_option linter.all false
set_option maxRecDepth 100000
set_option maxHeartbeats 4000000
namespace Lw
open PySem PySem.Spec L2 DL
open PyProof.Rows hiding St
def spLaw (T : Addr) : SpD := fun ds M Q _ => ∃ (a : Addr) (ns : List Int), ds = [.ref a] ∧ M a = some (.ro (ns.map D.int)) ∧ ns.length < 2 ^ 20 ∧ M T = some (.tab QN []) ∧ ∀ M', Q (.bl true) M'
theorem pen_tab {M : Mem} {p c T : Addr} {ns : List Int} {n : Nat} {cs : List Addr} (h : Pen M p c ns n) (hT : M T = some (.tab QN cs)) : T ≠ p := by
  obtain ⟨⟨x1, x2, x3, x4, hM, _⟩, _⟩ := h
  intro z
  rw [z, hM] at hT
  cases hT
theorem list_rd {M : Mem} {d : D} {xs : List D} {Q : VKd} (h : rdS M d = some xs) : listR [d] M Q = ∀ p, M p = none → Q (.ref p) (put M p (.lst xs)) := by
  simp only [listR, h]
theorem rd_kp {M M' : Mem} {d : D} {p : Addr} {xs : List D} (h : rdS M d = some xs) (k : Kp p M M') (n : ∀ a, d = .ref a → a ≠ p) : rdS M' d = some xs := by
  cases d with
  | ref a =>
    have na := n a rfl
    simp only [rdS, rdL] at h ⊢
    split at h
    · rename_i e; rw [k a _ na e]; exact h
    · rename_i e; rw [k a _ na e]; exact h
    · cases h
  | _ => exact h
def tellF (d : Nat) : D → Option D
  | .int o => some (.str (PyData.bool (decide (o = (d : Int)))).shown)
  | _ => none
theorem tell_list (d : Nat) : [D.int 2, D.int 3, D.int 4].filterMap (tellF d) = (([2, 3, 4] : List Int).map fun o => (PyData.bool (decide (o = (d : Int)))).shown).map D.str := rfl
theorem sl_list {M : Mem} {a : Addr} {xs : List D} {lo hi : Option Int} {Q : VKd} (h : M a = some (.lst xs)) : slR (.ref a) lo hi M Q = ∀ p, M p = none → Q (.ref p) (put M p (.lst (DL.cutD xs lo hi))) := by
  simp only [slR, rdL_lst h]
theorem neTT {xs ys : List D} {M : Mem} {Q : VKd} : neR (.tup xs) (.tup ys) M Q = eqD (.tup xs) (.tup ys) M fun b M1 => Q (.bl (!b)) M1 := rfl
theorem txt_it {p : Addr} {MB : Mem} {y : D} (h : It y) : ∃ s, TxtX p MB y s := by
  obtain ⟨q, hq⟩ := h.sh
  exact ⟨_, (hq MB).ok, fun M' _ Q z => (hq M').repr (by decide) (by decide) z⟩
def wrongs : List D := [D.int 0, D.int 1, D.int 5, D.int (-2), D.non, D.bl true, D.str "2", D.tup [D.int 2], D.int (10 ^ Int.toNat 20)]
theorem wrong_ok {p : Addr} {MB : Mem} {y : D} (h : y ∈ wrongs) : (∃ s, TxtX p MB y s) ∧ (∀ M, (kindD M y).isSome = true) ∧ ∀ i : Int, y = .int i → i ≠ 2 ∧ i ≠ 3 ∧ i ≠ 4 := by
  simp only [wrongs, List.mem_cons, List.not_mem_nil, or_false] at h
  have big : ((10 : Int) ^ Int.toNat 20) = 100000000000000000000 := by decide +kernel
  rw [big] at h
  rcases h with rfl | rfl | rfl | rfl | rfl | rfl | rfl | rfl | rfl
  · exact ⟨txt_it (it_int (by decide +kernel)), fun M => rfl, fun i e => by cases e; decide⟩
  · exact ⟨txt_it (it_int (by decide +kernel)), fun M => rfl, fun i e => by cases e; decide⟩
  · exact ⟨txt_it (it_int (by decide +kernel)), fun M => rfl, fun i e => by cases e; decide⟩
  · exact ⟨txt_it (it_int (by decide +kernel)), fun M => rfl, fun i e => by cases e; decide⟩
  · exact ⟨txt_it it_non, fun M => rfl, fun i e => by cases e⟩
  · exact ⟨txt_it it_bl, fun M => rfl, fun i e => by cases e⟩
  · exact ⟨txt_it ⟨⟨rfl, Nat.zero_le _, by decide +kernel⟩, .str "2", fun M => ⟨.str _, rfl, Nat.zero_le _, by decide +kernel, by decide +kernel, by decide +kernel⟩⟩, fun M => rfl, fun i e => by cases e⟩
  · exact ⟨txt_it (it_row (r := [2]) (b := 2) (by intro x hx; simp at hx; omega) (by decide +kernel) (by decide)), fun M => rfl, fun i e => by cases e⟩
  · exact ⟨txt_it (it_int (by decide +kernel)), fun M => rfl, fun i e => by cases e; decide⟩
theorem bool_ok (b : Bool) : PyData.strOk (PyData.bool b).shown = true := by cases b <;> decide +kernel
section
variable {P : Program} {w : World} {K : PySem.W.Frag} {mg : Str → Option Value} {base : Heap}
theorem ok_law {f g cc T : Addr} {fd : FuncData} (Z : Free mg) (F : Fun K "law" "law" s_law f fd) (TB : LamX.TabB base mg cc T) (hcd : ∀ cdv, CodeAt K f cdv → cdv = .ref cc) (Tx : Exf K)
    (G_BadCell : mg "BadCell" = some (.ref (He.ga K "BadCell"))) (G_BadNumber : mg "BadNumber" = some (.ref (He.ga K "BadNumber"))) (SR : ∃ fd, Fun K "_law_refused" "_law_refused" s_law_refused g fd ∧ L2.Binds K fd ["call"] []) (G_law_refused : mg "_law_refused" = some (.ref g))
    (C_law_pen : FnD P w K mg base 1 "_law_pen" ["script"] spPen) (C_law_draw : FnD P w K mg base 1 "_law_draw" ["pen", "many"] spDraw) (C_law_pick : FnD P w K mg base 2 "_law_pick" ["pen", "some"] spPick) (C_law_lot : FnD P w K mg base 4 "_law_lot" ["pen", "dimension"] spLot)
    (C_beside : FnD P w K mg base 4 "beside" ["cell"] (spBeside K)) (C_law_around : FnD P w K mg base 2 "_law_around" ["cell"] spLAround) (C_law_parts : FnD P w K mg base 4 "_law_parts" ["cells"] spLParts) (C_parts_of : FnD P w K mg base 5 "parts_of" ["cells"] (spPartsOf K))
    (C_hangs : FnD P w K mg base 6 "hangs" ["cells"] (spHangs K)) (C_law_odd : FnD P w K mg base 3 "_law_odd" ["pen", "cell"] spOdd) (C_is_cell : FnD P w K mg base 3 "is_cell" ["value", "dimension"] (spCell K)) (C_law_any : FnD P w K mg base 1 "_law_any" ["value"] spLAny) :
    FnQ P w K mg base 13 f fd ["script"] (lowSp K (spLaw T)) := by
  refine FnQ.ofDC F sc_law (fun ds M Q E h => ?_) fun cdv A outer s0 H0 E E0 hC hA hr tk hp => ?_
  · obtain ⟨a, ns, rfl, _⟩ := h; rfl
  obtain rfl := hcd cdv hC
  obtain ⟨fdr, F_law_refused, B_law_refused⟩ := SR
  have nd := sc_law.nd
  have hql : (("law" : Str) ++ ".<locals>.") ++ "<lambda>" = QN := by decide +kernel
  have hcode : (envOfC "law" (defScope s_law) s0.heap.objs.size f (.ref cc)).code = .ref cc := rfl
  have V_law_refused := V_refused (X := cxOf (L2.CX P w) P w K mg base ["script", "pen", "dimension", "cells", "parts", "passed", "at", "told", "due", "found", "bent", "cell", "odd", "wrong", "other"] "law" (defScope s_law) f (.ref cc) A outer s0 H0 E) (g := g) Z hA (hr.mono (by decide)) Tx G_BadCell G_BadNumber
  refine ⟨_, (pssd_cons (sv 1 nd (ped_call C_law_pen (hr.mono (by decide)) rfl tk (pad_cons (v 0) pad_nil)))
  (pssd_cons (psd_for hp rfl (pid_seq (ped_lst (pad_cons ped_int (pad_cons ped_int (pad_cons ped_int pad_nil))))) (gn 2 nd) (pssd_cons (sv 3 nd (ped_call C_law_lot (hr.mono (by decide)) rfl tk (pad_cons (v 1) (pad_cons (v 2) pad_nil))))
      (pssd_cons (sv 11 nd (ped_call C_law_pick (hr.mono (by decide)) rfl tk (pad_cons (v 1) (pad_cons (v 3) pad_nil))))
      (pssd_cons (psd_if (ptd_cmp (op_neDD (u64 hr)) (ped_callB (call_reprD hA hr) rfl Z.repr (by decide +kernel) (pad_cons (ped_call C_beside (hr.mono (by decide)) rfl tk (pad_cons (v 11) pad_nil)) pad_nil)) (ped_callB (call_reprD hA hr) rfl Z.repr (by decide +kernel) (pad_cons (ped_callTy call_tupleD rfl Z.tuple (by decide +kernel) (pad_cons (ped_call C_law_around (hr.mono (by decide)) rfl tk (pad_cons (v 11) pad_nil)) pad_nil)) pad_nil)) (nomark _)) (pssd_one (psd_ret ped_bl)) pssd_nil)
      (pssd_cons (sv 4 nd (ped_call C_law_parts (hr.mono (by decide)) rfl tk (pad_cons (v 3) pad_nil)))
      (pssd_cons (sv 5 nd (ped_call C_law_pick (hr.mono (by decide)) rfl tk (pad_cons (v 1) (pad_cons (ped_lst (pad_cons (ped_callTy call_listD rfl Z.list (by decide +kernel) (pad_cons (v 3) pad_nil)) (pad_cons (ped_callTy call_tupleD rfl Z.tuple (by decide +kernel) (pad_cons (v 3) pad_nil)) pad_nil))) pad_nil))))
      (pssd_cons (psd_if (PWd.pt (pwd_or (ptd_cmp (op_neDD (u64 hr)) (ped_callB (call_reprD hA hr) rfl Z.repr (by decide +kernel) (pad_cons (ped_call C_parts_of (hr.mono (by decide)) rfl tk (pad_cons (v 5) pad_nil)) pad_nil)) (ped_callB (call_reprD hA hr) rfl Z.repr (by decide +kernel) (pad_cons (ped_callTy call_tupleD rfl Z.tuple (by decide +kernel) (pad_cons (v 4) pad_nil)) pad_nil)) (nomark _)) (pwd_or1 (ptd_cmp (op_neDD (u64 hr)) (ped_callB (call_reprD hA hr) rfl Z.repr (by decide +kernel) (pad_cons (ped_call C_hangs (hr.mono (by decide)) rfl tk (pad_cons (v 5) pad_nil)) pad_nil)) (ped_callB (call_reprD hA hr) rfl Z.repr (by decide +kernel) (pad_cons (ped_cmp (op_eqDD (u64 hr)) (ped_callB call_lenD2 rfl Z.len PySem.boot_len (pad_cons (v 4) pad_nil)) ped_int (nomark _)) pad_nil)) (nomark _))))) (pssd_one (psd_ret ped_bl)) pssd_nil)
      (pssd_cons (psd_if (ptd_cmp (op_neDD (u64 hr)) (ped_callTy call_listD rfl Z.list (by decide +kernel) (pad_cons (v 5) pad_nil)) (v 3) (nomark _)) (pssd_one (psd_ret ped_bl)) pssd_nil)
      (pssd_cons (psd_asg (ped_tup (pad_cons (ped_call C_law_odd (hr.mono (by decide)) rfl tk (pad_cons (v 1) (pad_cons (v 11) pad_nil))) (pad_cons (ped_call C_law_draw (hr.mono (by decide)) rfl tk (pad_cons (v 1) (pad_cons (ped_op op_addD (ped_callB call_lenD2 rfl Z.len PySem.boot_len (pad_cons (v 3) pad_nil)) ped_int) pad_nil))) pad_nil))) (pgd_tup (n := 2) rfl (pgsd_cons (gn 12 nd) (pgsd_cons (gn 6 nd) pgsd_nil))))
      (pssd_cons (svL 7 nd (pid_seq (ped_lst (pad_cons ped_int (pad_cons ped_int (pad_cons ped_int pad_nil))))) (blkOk_by (own := [("other", 14)]) rfl) (by decide) (fun _ _ _ _ _ => (gn 14 nd)) (fun _ _ _ _ _ => ptsd_nil) (fun _ _ _ _ _ => (ped_callB (call_reprD hA hr) rfl Z.repr (by decide +kernel) (pad_cons (ped_call C_is_cell (hr.mono (by decide)) rfl takesD0 (pad_cons (v 11) (pad_cons (v 14) pad_nil))) pad_nil))))
      (pssd_cons (psd_if (ptd_cmp (op_neDD (u64 hr)) (v 7) (ped_lc rfl nd (pid_seq (ped_lst (pad_cons ped_int (pad_cons ped_int (pad_cons ped_int pad_nil))))) (blkOk_by (own := [("other", 14)]) rfl) (by decide) (fun _ _ _ _ _ => (gn 14 nd)) (fun _ _ _ _ _ => ptsd_nil) (fun _ _ _ _ _ => (ped_callB (call_reprD hA hr) rfl Z.repr (by decide +kernel) (pad_cons (ped_cmp (op_eqDD (u64 hr)) (v 14) (v 2) (nomark _)) pad_nil)))) (nomark _)) (pssd_one (psd_ret ped_bl)) pssd_nil)
      (pssd_cons (psd_if (ptd_cmp op_isntD (ped_call C_is_cell (hr.mono (by decide)) rfl tk (pad_cons (v 12) (pad_cons (v 2) pad_nil))) ped_bl (nomark _)) (pssd_one (psd_ret ped_bl)) pssd_nil)
      (pssd_cons (sv 10 nd (ped_op op_addD (ped_op op_addD (ped_op op_addD (ped_slice (v 3) pod_none (pod_some (v 6))) (ped_lst (pad_cons (v 12) pad_nil))) (ped_slice (v 3) (pod_some (v 6)) pod_none)) (ped_lst (pad_cons ped_non pad_nil))))
      (pssd_cons (sv 8 nd (ped_if (PWd.pt (pwd_or (ptd_cmp op_gtD (v 6) ped_int (nomark _)) (pwd_or1 (ptd_not (ptd_truth (ped_call C_law_any (hr.mono (by decide)) rfl tk (pad_cons (v 12) pad_nil))))))) (v 12) (ped_ix (u1 hr) (v 3) ped_int)))
      (pssd_cons (sv 9 nd (ped_lst (pad_cons (ped_lam (k := 8) F_law_refused B_law_refused rfl G_law_refused sc_law_refused rfl (.inl rfl) V_law_refused TB hcode hql (hr.mono (by decide)) (LamX.lamS_by rfl) rfl (fun _ _ _ _ _ => rfl) (fun A outer s H E E0 f c' hr tk => (ped_call C_parts_of (hr.mono (by decide)) rfl tk (pad_cons (v 10) pad_nil)))) pad_nil)))
      (pssd_cons (psd_expr (ped_append (v 9) (pad_cons (ped_lam (k := 8) F_law_refused B_law_refused rfl G_law_refused sc_law_refused rfl (.inl rfl) V_law_refused TB hcode hql (hr.mono (by decide)) (LamX.lamS_by rfl) rfl (fun _ _ _ _ _ => rfl) (fun A outer s H E E0 f c' hr tk => (ped_call C_hangs (hr.mono (by decide)) rfl tk (pad_cons (ped_callTy call_tupleD rfl Z.tuple (by decide +kernel) (pad_cons (v 10) pad_nil)) pad_nil)))) pad_nil)))
      (pssd_cons (psd_if (ptd_cmp (op_neDD (u64 hr)) (v 9) (ped_op op_mulD (ped_lst (pad_cons (ped_tup (pad_cons ped_str (pad_cons (ped_callB (call_reprD hA hr) rfl Z.repr (by decide +kernel) (pad_cons (v 8) pad_nil)) pad_nil))) pad_nil)) ped_int) (nomark _)) (pssd_one (psd_ret ped_bl)) pssd_nil)
      (pssd_cons (psd_if (PWd.pt (pwd_and (ptd_not (ptd_truth (ped_call C_law_any (hr.mono (by decide)) rfl tk (pad_cons (v 12) pad_nil)))) (pwd_and1 (ptd_cmp (op_neDD (u64 hr)) (ped_lam (k := 8) F_law_refused B_law_refused rfl G_law_refused sc_law_refused rfl (.inl rfl) V_law_refused TB hcode hql (hr.mono (by decide)) (LamX.lamS_by rfl) rfl (fun _ _ _ _ _ => rfl) (fun A outer s H E E0 f c' hr tk => (ped_call C_beside (hr.mono (by decide)) rfl tk (pad_cons (v 12) pad_nil)))) (ped_tup (pad_cons ped_str (pad_cons (ped_callB (call_reprD hA hr) rfl Z.repr (by decide +kernel) (pad_cons (v 12) pad_nil)) pad_nil))) (nomark _))))) (pssd_one (psd_ret ped_bl)) pssd_nil)
      (pssd_cons (sv 13 nd (ped_call C_law_pick (hr.mono (by decide)) rfl tk (pad_cons (v 1) (pad_cons (ped_lst (pad_cons ped_int (pad_cons ped_int (pad_cons ped_int (pad_cons (ped_un un_negD ped_int) (pad_cons ped_non (pad_cons ped_bl (pad_cons ped_str (pad_cons (ped_tup (pad_cons ped_int pad_nil)) (pad_cons (ped_op op_powD ped_int ped_int) pad_nil)))))))))) pad_nil))))
      (pssd_one (psd_if (ptd_cmp (op_neDD (u64 hr)) (ped_lam (k := 8) F_law_refused B_law_refused rfl G_law_refused sc_law_refused rfl (.inl rfl) V_law_refused TB hcode hql (hr.mono (by decide)) (LamX.lamS_by rfl) rfl (fun _ _ _ _ _ => rfl) (fun A outer s H E E0 f c' hr tk => (ped_call C_is_cell (hr.mono (by decide)) rfl tk (pad_cons (v 11) (pad_cons (v 13) pad_nil))))) (ped_tup (pad_cons ped_str (pad_cons ped_str (pad_cons (ped_callB (call_reprD hA hr) rfl Z.repr (by decide +kernel) (pad_cons (v 13) pad_nil)) pad_nil)))) (nomark _)) (pssd_one (psd_ret ped_bl)) pssd_nil)))))))))))))))))))))
  (pssd_one (psd_ret (ped_cmp (op_eqDD (u64 hr)) (ped_callB (call_reprD hA hr) rfl Z.repr (by decide +kernel) (pad_cons (ped_tup (pad_cons (ped_call C_parts_of (hr.mono (by decide)) rfl tk (pad_cons (ped_lst pad_nil) pad_nil)) (pad_cons (ped_call C_hangs (hr.mono (by decide)) rfl tk (pad_cons (ped_tup pad_nil) pad_nil)) pad_nil))) pad_nil)) (ped_callB (call_reprD hA hr) rfl Z.repr (by decide +kernel) (pad_cons (ped_tup (pad_cons (ped_tup pad_nil) (pad_cons ped_bl pad_nil))) pad_nil)) (nomark _)))))), fun ds M Q h => ?_⟩
  obtain ⟨a, ns, rfl, ha, hn, hT, q⟩ := h
  show tseq _ _ _ [some (.ref a), none, none, none, none, none, none, none, none, none, none, none, none, none, none] M
  refine seq_cut (fun ρ M' => ∃ p c, ρ = [some (.ref a), some (.ref p), none, none, none, none, none, none, none, none, none, none, none, none, none] ∧ Pen M' p c ns 0 ∧ M' T = some (.tab QN [])) (fun N hN => ?_) ?_
  · simp only [DL.e_next, DL.e_break, DL.e_cont, DL.e_drop, DL.e_ret, DL.e_retN, DL.e_ifS, DL.e_asg, DL.e_par, DL.e_par2, DL.e_del, DL.e_gname, DL.e_gsub, DL.e_gtup, DL.e_gcons, DL.e_gnil, DL.e_var0, DL.e_varS, DL.e_con, DL.e_top2, DL.e_top1, DL.e_cb, DL.e_nil, DL.e_cons, DL.e_tup, DL.e_lst, DL.e_test, DL.e_testK, DL.e_tru, DL.e_truB, DL.e_truN, DL.e_truL, DL.e_and, DL.e_or, DL.e_not, DL.e_if, DL.e_andV, DL.e_andK, DL.e_orV, DL.e_orK, DL.e_notV, DL.e_notK, DL.e_add, DL.e_addS, DL.e_addT, DL.e_addL, DL.e_sub, DL.e_mul, DL.e_mulL, DL.e_mulT, DL.e_fdiv, DL.e_mod, DL.e_pow, DL.e_neg, DL.e_lt, DL.e_le, DL.e_gt, DL.e_ge, DL.e_eqI, DL.e_eqS, DL.e_neI, DL.e_neS, DL.e_isN, DL.e_isntN, DL.e_isB, DL.e_isntB, DL.e_atK, DL.e_ixT, DL.e_ixL, DL.e_ixK, DL.e_ixDT, DL.e_setK, DL.e_setDT, DL.e_setSome, DL.e_setL, DL.e_delK, DL.e_delT, DL.e_inT, DL.e_inK, DL.e_lenL, DL.e_lenT, DL.e_lenK, DL.e_lenDT, DL.e_lenS, DL.e_listL, DL.e_listO, DL.e_listT, DL.e_tupleL, DL.e_tupleT, DL.e_int, DL.e_lm0, DL.e_lm, DL.e_isL, DL.e_app, DL.e_pop, DL.e_popSome, DL.e_call, DL.e_newT, DL.e_newK, DL.e_disp, DL.e_prs0, DL.e_prsS, DL.f_for, DL.f_lc, DL.f_dc, DL.f_iseq, DL.f_seqT, DL.f_rng1, DL.f_rngK, DL.f_zip, DL.f_zipT, DL.f_yes, DL.f_par3, DL.f_par3K, DL.f_isi, DL.f_isiK, DL.f_fld, DL.f_mkE, DL.f_mk0, DL.f_slice, DL.f_nopart, DL.f_part, DL.f_partK, DL.f_slT, DL.f_lrg, DL.f_dispT, List.set_cons_zero, List.set_cons_succ, List.length_cons, List.length_nil, decide_eq_true_eq, Bool.not_eq_true, true_and, and_true, if_true, Bool.false_eq_true, if_false, Nat.reduceAdd, Nat.reduceLT, Nat.reduceLeDiff]
    exact ⟨a, ns, rfl, ha, hn, fun p c M' _ _ k hP => hN _ _ ⟨p, c, rfl, hP, k _ _ hT⟩⟩
  rintro ρ M0 ⟨p, c, rfl, P0, hT0⟩
  refine seq_cut (fun _ _ => True) (fun N hN => ?_) fun ρ' M' _ => ?_
  · simp only [DL.e_next, DL.e_break, DL.e_cont, DL.e_drop, DL.e_ret, DL.e_retN, DL.e_ifS, DL.e_asg, DL.e_par, DL.e_par2, DL.e_del, DL.e_gname, DL.e_gsub, DL.e_gtup, DL.e_gcons, DL.e_gnil, DL.e_var0, DL.e_varS, DL.e_con, DL.e_top2, DL.e_top1, DL.e_cb, DL.e_nil, DL.e_cons, DL.e_tup, DL.e_lst, DL.e_test, DL.e_testK, DL.e_tru, DL.e_truB, DL.e_truN, DL.e_truL, DL.e_and, DL.e_or, DL.e_not, DL.e_if, DL.e_andV, DL.e_andK, DL.e_orV, DL.e_orK, DL.e_notV, DL.e_notK, DL.e_add, DL.e_addS, DL.e_addT, DL.e_addL, DL.e_sub, DL.e_mul, DL.e_mulL, DL.e_mulT, DL.e_fdiv, DL.e_mod, DL.e_pow, DL.e_neg, DL.e_lt, DL.e_le, DL.e_gt, DL.e_ge, DL.e_eqI, DL.e_eqS, DL.e_neI, DL.e_neS, DL.e_isN, DL.e_isntN, DL.e_isB, DL.e_isntB, DL.e_atK, DL.e_ixT, DL.e_ixL, DL.e_ixK, DL.e_ixDT, DL.e_setK, DL.e_setDT, DL.e_setSome, DL.e_setL, DL.e_delK, DL.e_delT, DL.e_inT, DL.e_inK, DL.e_lenL, DL.e_lenT, DL.e_lenK, DL.e_lenDT, DL.e_lenS, DL.e_listL, DL.e_listO, DL.e_listT, DL.e_tupleL, DL.e_tupleT, DL.e_int, DL.e_lm0, DL.e_lm, DL.e_isL, DL.e_app, DL.e_pop, DL.e_popSome, DL.e_call, DL.e_newT, DL.e_newK, DL.e_disp, DL.e_prs0, DL.e_prsS, DL.f_for, DL.f_lc, DL.f_dc, DL.f_iseq, DL.f_seqT, DL.f_rng1, DL.f_rngK, DL.f_zip, DL.f_zipT, DL.f_yes, DL.f_par3, DL.f_par3K, DL.f_isi, DL.f_isiK, DL.f_fld, DL.f_mkE, DL.f_mk0, DL.f_slice, DL.f_nopart, DL.f_part, DL.f_partK, DL.f_slT, DL.f_lrg, DL.f_dispT, List.set_cons_zero, List.set_cons_succ, List.length_cons, List.length_nil, decide_eq_true_eq, Bool.not_eq_true, true_and, and_true, if_true, Bool.false_eq_true, if_false, Nat.reduceAdd, Nat.reduceLT, Nat.reduceLeDiff, f_for, f_iseq]
    refine ⟨by decide, fun pd hpd => ?_⟩
    show seqK (.ref pd) _ _
    rw [f_seqL put_same]
    refine for_inv (fun i ρ M => ∃ x2 x3 x4 x5 x6 x7 x8 x9 x10 x11 x12 x13 x14, ρ = [some (.ref a), some (.ref p), x2, x3, x4, x5, x6, x7, x8, x9, x10, x11, x12, x13, x14] ∧ M pd = some (.lst [.int 2, .int 3, .int 4]) ∧ Pen M p c ns (1000 * i) ∧ ∃ cs, M T = some (.tab QN cs))
      ⟨_, _, _, _, _, _, _, _, _, _, _, _, _, rfl, put_same, pen_keep P0 (Keep.new hpd), [], (Keep.new hpd) _ _ hT0⟩ (fun i ρ M _ W => ?_) (fun i x ρ M1 e W => ?_) (fun ρ M _ => hN _ _ trivial)
    · obtain ⟨_, _, _, _, _, _, _, _, _, _, _, _, _, rfl, h, _⟩ := W
      exact rdL_lst h
    obtain ⟨x2, x3, x4, x5, x6, x7, x8, x9, x10, x11, x12, x13, x14, rfl, hpd1, P1, cs1, hT1⟩ := W
    have hx : ∃ d : Nat, x = .int (d : Nat) ∧ 2 ≤ d ∧ d ≤ 4 := by
      have hi := (List.getElem?_eq_some_iff.mp e).1
      have hi : i < 3 := hi
      match i, hi, e with
      | 0, _, e => cases e; exact ⟨2, rfl, by decide, by decide⟩
      | 1, _, e => cases e; exact ⟨3, rfl, by decide, by decide⟩
      | 2, _, e => cases e; exact ⟨4, rfl, by decide, by decide⟩
    have hi3 : i < 3 := (List.getElem?_eq_some_iff.mp e).1
    clear e
    obtain ⟨d, rfl, hd0, hd1⟩ := hx
    have hTp := pen_tab P1 hT1
    have hdp := pen_ne P1 hpd1
    have sz := sizeLine_eq
    rw [e_gname]
    show tseq _ _ _ [some (.ref a), some (.ref p), some (.int (d : Nat)), x3, x4, x5, x6, x7, x8, x9, x10, x11, x12, x13, x14] M1
    -- cells
    refine seq_cut (fun ρ M' => ∃ (xl : Addr) (G : List Cel), ρ = [some (.ref a), some (.ref p), some (.int (d : Nat)), some (.ref xl), x4, x5, x6, x7, x8, x9, x10, x11, x12, x13, x14] ∧ Kp p M1 M' ∧ M' xl = some (.lst (G.map rowD)) ∧ Pen M' p c ns (1000 * i + 300) ∧ Lot d 50000 G ∧ G ≠ [] ∧ G.length ≤ 30) (fun N2 hN2 => ?_) ?_
    · simp only [DL.e_next, DL.e_break, DL.e_cont, DL.e_drop, DL.e_ret, DL.e_retN, DL.e_ifS, DL.e_asg, DL.e_par, DL.e_par2, DL.e_del, DL.e_gname, DL.e_gsub, DL.e_gtup, DL.e_gcons, DL.e_gnil, DL.e_var0, DL.e_varS, DL.e_con, DL.e_top2, DL.e_top1, DL.e_cb, DL.e_nil, DL.e_cons, DL.e_tup, DL.e_lst, DL.e_test, DL.e_testK, DL.e_tru, DL.e_truB, DL.e_truN, DL.e_truL, DL.e_and, DL.e_or, DL.e_not, DL.e_if, DL.e_andV, DL.e_andK, DL.e_orV, DL.e_orK, DL.e_notV, DL.e_notK, DL.e_add, DL.e_addS, DL.e_addT, DL.e_addL, DL.e_sub, DL.e_mul, DL.e_mulL, DL.e_mulT, DL.e_fdiv, DL.e_mod, DL.e_pow, DL.e_neg, DL.e_lt, DL.e_le, DL.e_gt, DL.e_ge, DL.e_eqI, DL.e_eqS, DL.e_neI, DL.e_neS, DL.e_isN, DL.e_isntN, DL.e_isB, DL.e_isntB, DL.e_atK, DL.e_ixT, DL.e_ixL, DL.e_ixK, DL.e_ixDT, DL.e_setK, DL.e_setDT, DL.e_setSome, DL.e_setL, DL.e_delK, DL.e_delT, DL.e_inT, DL.e_inK, DL.e_lenL, DL.e_lenT, DL.e_lenK, DL.e_lenDT, DL.e_lenS, DL.e_listL, DL.e_listO, DL.e_listT, DL.e_tupleL, DL.e_tupleT, DL.e_int, DL.e_lm0, DL.e_lm, DL.e_isL, DL.e_app, DL.e_pop, DL.e_popSome, DL.e_call, DL.e_newT, DL.e_newK, DL.e_disp, DL.e_prs0, DL.e_prsS, DL.f_for, DL.f_lc, DL.f_dc, DL.f_iseq, DL.f_seqT, DL.f_rng1, DL.f_rngK, DL.f_zip, DL.f_zipT, DL.f_yes, DL.f_par3, DL.f_par3K, DL.f_isi, DL.f_isiK, DL.f_fld, DL.f_mkE, DL.f_mk0, DL.f_slice, DL.f_nopart, DL.f_part, DL.f_partK, DL.f_slT, DL.f_lrg, DL.f_dispT, List.set_cons_zero, List.set_cons_succ, List.length_cons, List.length_nil, decide_eq_true_eq, Bool.not_eq_true, true_and, and_true, if_true, Bool.false_eq_true, if_false, Nat.reduceAdd, Nat.reduceLT, Nat.reduceLeDiff]
      exact ⟨p, c, ns, _, d, rfl, P1, by omega, hd0, hd1, fun xl G M2 K2 g2 b2 P2 l2 n2 k2 => hN2 _ _ ⟨xl, G, rfl, K2, b2, P2, l2, n2, k2⟩⟩
    rintro ρ M2 ⟨xl, G, rfl, K2, b2, P2, lot, neG, lG⟩
    have hlp := pen_ne P2 b2
    -- cell
    refine seq_cut (fun ρ M' => ∃ (r : Cel), ρ = [some (.ref a), some (.ref p), some (.int (d : Nat)), some (.ref xl), x4, x5, x6, x7, x8, x9, x10, some (rowD r), x12, x13, x14] ∧ Kp p M1 M' ∧ M' xl = some (.lst (G.map rowD)) ∧ Pen M' p c ns (1000 * i + 301) ∧ r ∈ G) (fun N2 hN2 => ?_) ?_
    · simp only [DL.e_next, DL.e_break, DL.e_cont, DL.e_drop, DL.e_ret, DL.e_retN, DL.e_ifS, DL.e_asg, DL.e_par, DL.e_par2, DL.e_del, DL.e_gname, DL.e_gsub, DL.e_gtup, DL.e_gcons, DL.e_gnil, DL.e_var0, DL.e_varS, DL.e_con, DL.e_top2, DL.e_top1, DL.e_cb, DL.e_nil, DL.e_cons, DL.e_tup, DL.e_lst, DL.e_test, DL.e_testK, DL.e_tru, DL.e_truB, DL.e_truN, DL.e_truL, DL.e_and, DL.e_or, DL.e_not, DL.e_if, DL.e_andV, DL.e_andK, DL.e_orV, DL.e_orK, DL.e_notV, DL.e_notK, DL.e_add, DL.e_addS, DL.e_addT, DL.e_addL, DL.e_sub, DL.e_mul, DL.e_mulL, DL.e_mulT, DL.e_fdiv, DL.e_mod, DL.e_pow, DL.e_neg, DL.e_lt, DL.e_le, DL.e_gt, DL.e_ge, DL.e_eqI, DL.e_eqS, DL.e_neI, DL.e_neS, DL.e_isN, DL.e_isntN, DL.e_isB, DL.e_isntB, DL.e_atK, DL.e_ixT, DL.e_ixL, DL.e_ixK, DL.e_ixDT, DL.e_setK, DL.e_setDT, DL.e_setSome, DL.e_setL, DL.e_delK, DL.e_delT, DL.e_inT, DL.e_inK, DL.e_lenL, DL.e_lenT, DL.e_lenK, DL.e_lenDT, DL.e_lenS, DL.e_listL, DL.e_listO, DL.e_listT, DL.e_tupleL, DL.e_tupleT, DL.e_int, DL.e_lm0, DL.e_lm, DL.e_isL, DL.e_app, DL.e_pop, DL.e_popSome, DL.e_call, DL.e_newT, DL.e_newK, DL.e_disp, DL.e_prs0, DL.e_prsS, DL.f_for, DL.f_lc, DL.f_dc, DL.f_iseq, DL.f_seqT, DL.f_rng1, DL.f_rngK, DL.f_zip, DL.f_zipT, DL.f_yes, DL.f_par3, DL.f_par3K, DL.f_isi, DL.f_isiK, DL.f_fld, DL.f_mkE, DL.f_mk0, DL.f_slice, DL.f_nopart, DL.f_part, DL.f_partK, DL.f_slT, DL.f_lrg, DL.f_dispT, List.set_cons_zero, List.set_cons_succ, List.length_cons, List.length_nil, decide_eq_true_eq, Bool.not_eq_true, true_and, and_true, if_true, Bool.false_eq_true, if_false, Nat.reduceAdd, Nat.reduceLT, Nat.reduceLeDiff]
      exact pick_rows P2 (by omega) b2 neG (by omega) fun r M3 hr C3 P3 => hN2 _ _ ⟨r, rfl, K2.trans C3.kp, by rw [C3 xl hlp]; exact b2, P3, hr⟩
    rintro ρ M3 ⟨r, rfl, K3, b3, P3, hr⟩
    obtain ⟨lr, br⟩ := lot r hr
    have hb40 : (50000 : Int) < 10 ^ 40 := by decide +kernel
    have five : ∀ s ∈ G, Bd 50000 s ∧ s.length ≤ 5 := fun s hs => ⟨(lot s hs).2, by rw [(lot s hs).1]; omega⟩
    -- beside
    refine seq_cut (fun ρ M' => ρ = [some (.ref a), some (.ref p), some (.int (d : Nat)), some (.ref xl), x4, x5, x6, x7, x8, x9, x10, some (rowD r), x12, x13, x14] ∧ Keep M3 M') (fun N2 hN2 => ?_) ?_
    · simp only [DL.e_next, DL.e_break, DL.e_cont, DL.e_drop, DL.e_ret, DL.e_retN, DL.e_ifS, DL.e_asg, DL.e_par, DL.e_par2, DL.e_del, DL.e_gname, DL.e_gsub, DL.e_gtup, DL.e_gcons, DL.e_gnil, DL.e_var0, DL.e_varS, DL.e_con, DL.e_top2, DL.e_top1, DL.e_cb, DL.e_nil, DL.e_cons, DL.e_tup, DL.e_lst, DL.e_test, DL.e_testK, DL.e_tru, DL.e_truB, DL.e_truN, DL.e_truL, DL.e_and, DL.e_or, DL.e_not, DL.e_if, DL.e_andV, DL.e_andK, DL.e_orV, DL.e_orK, DL.e_notV, DL.e_notK, DL.e_add, DL.e_addS, DL.e_addT, DL.e_addL, DL.e_sub, DL.e_mul, DL.e_mulL, DL.e_mulT, DL.e_fdiv, DL.e_mod, DL.e_pow, DL.e_neg, DL.e_lt, DL.e_le, DL.e_gt, DL.e_ge, DL.e_eqI, DL.e_eqS, DL.e_neI, DL.e_neS, DL.e_isN, DL.e_isntN, DL.e_isB, DL.e_isntB, DL.e_atK, DL.e_ixT, DL.e_ixL, DL.e_ixK, DL.e_ixDT, DL.e_setK, DL.e_setDT, DL.e_setSome, DL.e_setL, DL.e_delK, DL.e_delT, DL.e_inT, DL.e_inK, DL.e_lenL, DL.e_lenT, DL.e_lenK, DL.e_lenDT, DL.e_lenS, DL.e_listL, DL.e_listO, DL.e_listT, DL.e_tupleL, DL.e_tupleT, DL.e_int, DL.e_lm0, DL.e_lm, DL.e_isL, DL.e_app, DL.e_pop, DL.e_popSome, DL.e_call, DL.e_newT, DL.e_newK, DL.e_disp, DL.e_prs0, DL.e_prsS, DL.f_for, DL.f_lc, DL.f_dc, DL.f_iseq, DL.f_seqT, DL.f_rng1, DL.f_rngK, DL.f_zip, DL.f_zipT, DL.f_yes, DL.f_par3, DL.f_par3K, DL.f_isi, DL.f_isiK, DL.f_fld, DL.f_mkE, DL.f_mk0, DL.f_slice, DL.f_nopart, DL.f_part, DL.f_partK, DL.f_slT, DL.f_lrg, DL.f_dispT, List.set_cons_zero, List.set_cons_succ, List.length_cons, List.length_nil, decide_eq_true_eq, Bool.not_eq_true, true_and, and_true, if_true, Bool.false_eq_true, if_false, Nat.reduceAdd, Nat.reduceLT, Nat.reduceLeDiff]
      have n8 : (nbrs r).length ≤ 30 := by
        unfold nbrs stepsL
        rw [List.length_map]
        split <;> simp
      obtain ⟨pd, hpd2⟩ := sh_rows (L := nbrs r) (b := 50001) (fun s hs => ⟨br.nbrs hs, by rw [nbrs_len hs]; omega⟩) (by decide +kernel) n8
      refine ⟨rowD r, rfl, plain_row (by omega), fun xs e h0 h1 => ?_, fun z => ?_⟩
      · have e := rowD_inj e
        subst e
        refine (hpd2 M3).repr (by decide) (by decide) ?_
        refine ⟨r, rfl, h0, h1, fun p4 M4 K4 g4 b4 => ?_⟩
        show tupleR [.ref p4] M4 _
        rw [e_tupleL b4]
        refine (hpd2 M4).repr (by decide) (by decide) ?_
        rw [e_neS, e_testK, decide_eq_true rfl]
        exact hN2 _ _ ⟨rfl, K4⟩
      · rw [isAny_rowD (by omega) (by omega)] at z
        cases z
    rintro ρ M4 ⟨rfl, K4⟩
    have b4 := K4 _ _ b3
    -- parts
    refine seq_cut (fun ρ M' => ∃ xp, ρ = [some (.ref a), some (.ref p), some (.int (d : Nat)), some (.ref xl), some (.ref xp), x5, x6, x7, x8, x9, x10, some (rowD r), x12, x13, x14] ∧ Keep M3 M' ∧ M' xp = some (.lst (partsD (dedup G)))) (fun N2 hN2 => ?_) ?_
    · simp only [DL.e_next, DL.e_break, DL.e_cont, DL.e_drop, DL.e_ret, DL.e_retN, DL.e_ifS, DL.e_asg, DL.e_par, DL.e_par2, DL.e_del, DL.e_gname, DL.e_gsub, DL.e_gtup, DL.e_gcons, DL.e_gnil, DL.e_var0, DL.e_varS, DL.e_con, DL.e_top2, DL.e_top1, DL.e_cb, DL.e_nil, DL.e_cons, DL.e_tup, DL.e_lst, DL.e_test, DL.e_testK, DL.e_tru, DL.e_truB, DL.e_truN, DL.e_truL, DL.e_and, DL.e_or, DL.e_not, DL.e_if, DL.e_andV, DL.e_andK, DL.e_orV, DL.e_orK, DL.e_notV, DL.e_notK, DL.e_add, DL.e_addS, DL.e_addT, DL.e_addL, DL.e_sub, DL.e_mul, DL.e_mulL, DL.e_mulT, DL.e_fdiv, DL.e_mod, DL.e_pow, DL.e_neg, DL.e_lt, DL.e_le, DL.e_gt, DL.e_ge, DL.e_eqI, DL.e_eqS, DL.e_neI, DL.e_neS, DL.e_isN, DL.e_isntN, DL.e_isB, DL.e_isntB, DL.e_atK, DL.e_ixT, DL.e_ixL, DL.e_ixK, DL.e_ixDT, DL.e_setK, DL.e_setDT, DL.e_setSome, DL.e_setL, DL.e_delK, DL.e_delT, DL.e_inT, DL.e_inK, DL.e_lenL, DL.e_lenT, DL.e_lenK, DL.e_lenDT, DL.e_lenS, DL.e_listL, DL.e_listO, DL.e_listT, DL.e_tupleL, DL.e_tupleT, DL.e_int, DL.e_lm0, DL.e_lm, DL.e_isL, DL.e_app, DL.e_pop, DL.e_popSome, DL.e_call, DL.e_newT, DL.e_newK, DL.e_disp, DL.e_prs0, DL.e_prsS, DL.f_for, DL.f_lc, DL.f_dc, DL.f_iseq, DL.f_seqT, DL.f_rng1, DL.f_rngK, DL.f_zip, DL.f_zipT, DL.f_yes, DL.f_par3, DL.f_par3K, DL.f_isi, DL.f_isiK, DL.f_fld, DL.f_mkE, DL.f_mk0, DL.f_slice, DL.f_nopart, DL.f_part, DL.f_partK, DL.f_slT, DL.f_lrg, DL.f_dispT, List.set_cons_zero, List.set_cons_succ, List.length_cons, List.length_nil, decide_eq_true_eq, Bool.not_eq_true, true_and, and_true, if_true, Bool.false_eq_true, if_false, Nat.reduceAdd, Nat.reduceLT, Nat.reduceLeDiff]
      exact ⟨.ref xl, G, d, rfl, rdL_lst b4, ⟨hd0, hd1, fun s hs => (lot s hs).1, by omega⟩, fun xp M5 K5 g5 b5 => hN2 _ _ ⟨xp, rfl, K4.trans K5, b5⟩⟩
    rintro ρ M5 ⟨xp, rfl, K5, hp5⟩
    have b5 := K5 _ _ b3
    have P5 := pen_keep P3 K5
    have hpp := pen_ne P5 hp5
    -- passed
    refine seq_cut (fun ρ M' => ∃ pa, ρ = [some (.ref a), some (.ref p), some (.int (d : Nat)), some (.ref xl), some (.ref xp), some pa, x6, x7, x8, x9, x10, some (rowD r), x12, x13, x14] ∧ Kp p M5 M' ∧ rdS M' pa = some (G.map rowD) ∧ (∀ z, pa = .ref z → z ≠ p) ∧ Pen M' p c ns (1000 * i + 302)) (fun N2 hN2 => ?_) ?_
    · simp only [DL.e_next, DL.e_break, DL.e_cont, DL.e_drop, DL.e_ret, DL.e_retN, DL.e_ifS, DL.e_asg, DL.e_par, DL.e_par2, DL.e_del, DL.e_gname, DL.e_gsub, DL.e_gtup, DL.e_gcons, DL.e_gnil, DL.e_var0, DL.e_varS, DL.e_con, DL.e_top2, DL.e_top1, DL.e_cb, DL.e_nil, DL.e_cons, DL.e_tup, DL.e_lst, DL.e_test, DL.e_testK, DL.e_tru, DL.e_truB, DL.e_truN, DL.e_truL, DL.e_and, DL.e_or, DL.e_not, DL.e_if, DL.e_andV, DL.e_andK, DL.e_orV, DL.e_orK, DL.e_notV, DL.e_notK, DL.e_add, DL.e_addS, DL.e_addT, DL.e_addL, DL.e_sub, DL.e_mul, DL.e_mulL, DL.e_mulT, DL.e_fdiv, DL.e_mod, DL.e_pow, DL.e_neg, DL.e_lt, DL.e_le, DL.e_gt, DL.e_ge, DL.e_eqI, DL.e_eqS, DL.e_neI, DL.e_neS, DL.e_isN, DL.e_isntN, DL.e_isB, DL.e_isntB, DL.e_atK, DL.e_ixT, DL.e_ixL, DL.e_ixK, DL.e_ixDT, DL.e_setK, DL.e_setDT, DL.e_setSome, DL.e_setL, DL.e_delK, DL.e_delT, DL.e_inT, DL.e_inK, DL.e_lenL, DL.e_lenT, DL.e_lenK, DL.e_lenDT, DL.e_lenS, DL.e_listL, DL.e_listO, DL.e_listT, DL.e_tupleL, DL.e_tupleT, DL.e_int, DL.e_lm0, DL.e_lm, DL.e_isL, DL.e_app, DL.e_pop, DL.e_popSome, DL.e_call, DL.e_newT, DL.e_newK, DL.e_disp, DL.e_prs0, DL.e_prsS, DL.f_for, DL.f_lc, DL.f_dc, DL.f_iseq, DL.f_seqT, DL.f_rng1, DL.f_rngK, DL.f_zip, DL.f_zipT, DL.f_yes, DL.f_par3, DL.f_par3K, DL.f_isi, DL.f_isiK, DL.f_fld, DL.f_mkE, DL.f_mk0, DL.f_slice, DL.f_nopart, DL.f_part, DL.f_partK, DL.f_slT, DL.f_lrg, DL.f_dispT, List.set_cons_zero, List.set_cons_succ, List.length_cons, List.length_nil, decide_eq_true_eq, Bool.not_eq_true, true_and, and_true, if_true, Bool.false_eq_true, if_false, Nat.reduceAdd, Nat.reduceLT, Nat.reduceLeDiff, e_listL b5]
      intro xc hxc
      show tupleR [.ref xl] _ _
      rw [e_tupleL ((Keep.new hxc) _ _ b5)]
      refine ⟨by decide, fun xd hxd => ?_⟩
      have KK := (Keep.new (o := .lst (G.map rowD)) hxc).trans (Keep.new (o := .lst [.ref xc, .tup (G.map rowD)]) hxd)
      have hc6 := (Keep.new (o := .lst [.ref xc, .tup (G.map rowD)]) hxd) _ _ (put_same (M := M5) (a := xc) (o := .lst (G.map rowD)))
      have ncp : xc ≠ p := fun z => pen_some P5 (z ▸ hxc)
      refine pick_at (pen_keep P5 KK) (by omega) put_same (by simp) (by simp) fun y M6 hy C6 P6 => hN2 _ _ ⟨y, rfl, (Kp.keep KK).trans C6.kp, ?_, ?_, P6⟩
      · simp only [List.mem_cons, List.not_mem_nil, or_false] at hy
        rcases hy with rfl | rfl
        · exact rdL_lst (by rw [C6 xc ncp]; exact hc6)
        · rfl
      · simp only [List.mem_cons, List.not_mem_nil, or_false] at hy
        rcases hy with rfl | rfl
        · intro z e; cases e; exact ncp
        · intro z e; cases e
    rintro ρ M6 ⟨pa, rfl, K6, hpa6, npa, P6⟩
    have b6 := K6 _ _ hlp b5
    have hp6 := K6 _ _ hpp hp5
    have good : badC (G.map rowD) = none := by
      unfold badC
      rw [List.find?_eq_none]
      intro y hy
      obtain ⟨s, hs, rfl⟩ := List.mem_map.mp hy
      have hh : lenD ((G.map rowD).headD .non) = d := by
        cases G with
        | nil => exact absurd rfl neG
        | cons g G => exact (lenD_row g).trans (lot g List.mem_cons_self).1
      rw [lot_any lot hd0 hd1 hs, hh, lenD_row, (lot s hs).1]
      simp
    have rows_inj : ∀ {A B : List Cel}, A.map rowD = B.map rowD → A = B := fun h => (List.map_inj_right (fun a b z => rowD_inj z)).mp h
    -- parts_of, hangs
    refine seq_cut (fun ρ M' => ρ = [some (.ref a), some (.ref p), some (.int (d : Nat)), some (.ref xl), some (.ref xp), some pa, x6, x7, x8, x9, x10, some (rowD r), x12, x13, x14] ∧ M' = M6) (fun N2 hN2 => ?_) ?_
    · simp only [DL.e_next, DL.e_break, DL.e_cont, DL.e_drop, DL.e_ret, DL.e_retN, DL.e_ifS, DL.e_asg, DL.e_par, DL.e_par2, DL.e_del, DL.e_gname, DL.e_gsub, DL.e_gtup, DL.e_gcons, DL.e_gnil, DL.e_var0, DL.e_varS, DL.e_con, DL.e_top2, DL.e_top1, DL.e_cb, DL.e_nil, DL.e_cons, DL.e_tup, DL.e_lst, DL.e_test, DL.e_testK, DL.e_tru, DL.e_truB, DL.e_truN, DL.e_truL, DL.e_and, DL.e_or, DL.e_not, DL.e_if, DL.e_andV, DL.e_andK, DL.e_orV, DL.e_orK, DL.e_notV, DL.e_notK, DL.e_add, DL.e_addS, DL.e_addT, DL.e_addL, DL.e_sub, DL.e_mul, DL.e_mulL, DL.e_mulT, DL.e_fdiv, DL.e_mod, DL.e_pow, DL.e_neg, DL.e_lt, DL.e_le, DL.e_gt, DL.e_ge, DL.e_eqI, DL.e_eqS, DL.e_neI, DL.e_neS, DL.e_isN, DL.e_isntN, DL.e_isB, DL.e_isntB, DL.e_atK, DL.e_ixT, DL.e_ixL, DL.e_ixK, DL.e_ixDT, DL.e_setK, DL.e_setDT, DL.e_setSome, DL.e_setL, DL.e_delK, DL.e_delT, DL.e_inT, DL.e_inK, DL.e_lenL, DL.e_lenT, DL.e_lenK, DL.e_lenDT, DL.e_lenS, DL.e_listL, DL.e_listO, DL.e_listT, DL.e_tupleL, DL.e_tupleT, DL.e_int, DL.e_lm0, DL.e_lm, DL.e_isL, DL.e_app, DL.e_pop, DL.e_popSome, DL.e_call, DL.e_newT, DL.e_newK, DL.e_disp, DL.e_prs0, DL.e_prsS, DL.f_for, DL.f_lc, DL.f_dc, DL.f_iseq, DL.f_seqT, DL.f_rng1, DL.f_rngK, DL.f_zip, DL.f_zipT, DL.f_yes, DL.f_par3, DL.f_par3K, DL.f_isi, DL.f_isiK, DL.f_fld, DL.f_mkE, DL.f_mk0, DL.f_slice, DL.f_nopart, DL.f_part, DL.f_partK, DL.f_slT, DL.f_lrg, DL.f_dispT, List.set_cons_zero, List.set_cons_succ, List.length_cons, List.length_nil, decide_eq_true_eq, Bool.not_eq_true, true_and, and_true, if_true, Bool.false_eq_true, if_false, Nat.reduceAdd, Nat.reduceLT, Nat.reduceLeDiff]
      have lD : (dedup G).length ≤ 30 := Nat.le_trans (dedup_len G) lG
      obtain ⟨pd, hpd2⟩ := sh_parts (L := dedup G) (b := 50000) (fun s hs => five s (mem_dedup.mp hs)) hb40 lD
      have plG : ∀ y ∈ G.map rowD, Plain M6 y := fun y hy => by
        obtain ⟨s, hs, rfl⟩ := List.mem_map.mp hy
        exact plain_row (by rw [(lot s hs).1]; omega)
      refine ⟨pa, G.map rowD, rfl, hpa6, plG, by rw [List.length_map]; omega, fun rows _ er => ?_, fun y hy => by rw [good] at hy; cases hy⟩
      have er := rows_inj er
      subst er
      refine (hpd2 M6).repr (by decide) (by decide) ?_
      show tupleR [.ref xp] M6 _
      rw [e_tupleL hp6]
      refine (hpd2 M6).repr (by decide) (by decide) ?_
      rw [e_neS, e_testK, decide_eq_true rfl]
      refine ⟨pa, G.map rowD, rfl, hpa6, plG, by rw [List.length_map]; omega, fun rows _ er => ?_, fun y hy => by rw [good] at hy; cases hy⟩
      have er := rows_inj er
      subst er
      refine (Sh.bl (M := M6)).repr (by decide) (by decide) ?_
      show lenR [.ref xp] M6 _
      rw [e_lenL hp6]
      show eqR (.int _) (.int 1) M6 _
      rw [e_eqI]
      have z : decide (((partsD (dedup G)).length : Int) = 1) = decide ((parts (dedup G)).length = 1) := by
        rw [decide_eq_decide]
        simp only [partsD, List.length_map]
        omega
      rw [z]
      refine (Sh.bl (M := M6)).repr (by decide) (by decide) ?_
      rw [e_neS, e_testK, decide_eq_true rfl]
      exact hN2 _ _ ⟨rfl, rfl⟩
    rintro ρ M7 ⟨rfl, rfl⟩
    -- list(passed)
    refine seq_cut (fun ρ M' => ρ = [some (.ref a), some (.ref p), some (.int (d : Nat)), some (.ref xl), some (.ref xp), some pa, x6, x7, x8, x9, x10, some (rowD r), x12, x13, x14] ∧ Keep M7 M') (fun N2 hN2 => ?_) ?_
    · simp only [DL.e_next, DL.e_break, DL.e_cont, DL.e_drop, DL.e_ret, DL.e_retN, DL.e_ifS, DL.e_asg, DL.e_par, DL.e_par2, DL.e_del, DL.e_gname, DL.e_gsub, DL.e_gtup, DL.e_gcons, DL.e_gnil, DL.e_var0, DL.e_varS, DL.e_con, DL.e_top2, DL.e_top1, DL.e_cb, DL.e_nil, DL.e_cons, DL.e_tup, DL.e_lst, DL.e_test, DL.e_testK, DL.e_tru, DL.e_truB, DL.e_truN, DL.e_truL, DL.e_and, DL.e_or, DL.e_not, DL.e_if, DL.e_andV, DL.e_andK, DL.e_orV, DL.e_orK, DL.e_notV, DL.e_notK, DL.e_add, DL.e_addS, DL.e_addT, DL.e_addL, DL.e_sub, DL.e_mul, DL.e_mulL, DL.e_mulT, DL.e_fdiv, DL.e_mod, DL.e_pow, DL.e_neg, DL.e_lt, DL.e_le, DL.e_gt, DL.e_ge, DL.e_eqI, DL.e_eqS, DL.e_neI, DL.e_neS, DL.e_isN, DL.e_isntN, DL.e_isB, DL.e_isntB, DL.e_atK, DL.e_ixT, DL.e_ixL, DL.e_ixK, DL.e_ixDT, DL.e_setK, DL.e_setDT, DL.e_setSome, DL.e_setL, DL.e_delK, DL.e_delT, DL.e_inT, DL.e_inK, DL.e_lenL, DL.e_lenT, DL.e_lenK, DL.e_lenDT, DL.e_lenS, DL.e_listL, DL.e_listO, DL.e_listT, DL.e_tupleL, DL.e_tupleT, DL.e_int, DL.e_lm0, DL.e_lm, DL.e_isL, DL.e_app, DL.e_pop, DL.e_popSome, DL.e_call, DL.e_newT, DL.e_newK, DL.e_disp, DL.e_prs0, DL.e_prsS, DL.f_for, DL.f_lc, DL.f_dc, DL.f_iseq, DL.f_seqT, DL.f_rng1, DL.f_rngK, DL.f_zip, DL.f_zipT, DL.f_yes, DL.f_par3, DL.f_par3K, DL.f_isi, DL.f_isiK, DL.f_fld, DL.f_mkE, DL.f_mk0, DL.f_slice, DL.f_nopart, DL.f_part, DL.f_partK, DL.f_slT, DL.f_lrg, DL.f_dispT, List.set_cons_zero, List.set_cons_succ, List.length_cons, List.length_nil, decide_eq_true_eq, Bool.not_eq_true, true_and, and_true, if_true, Bool.false_eq_true, if_false, Nat.reduceAdd, Nat.reduceLT, Nat.reduceLeDiff]
      rw [list_rd hpa6]
      intro xq hxq
      show neR (.ref xq) (.ref xl) _ _
      rw [neRR]
      refine rows_eq put_same ((Keep.new hxq) _ _ b6) ?_
      rw [e_testK, decide_eq_true rfl]
      exact hN2 _ _ ⟨rfl, Keep.new hxq⟩
    rintro ρ M8 ⟨rfl, K8⟩
    have b8 := K8 _ _ b6
    have P8 := pen_keep P6 K8
    have K18 : Kp p M1 M8 := ((K3.trans (Kp.keep K5)).trans K6).trans (Kp.keep K8)
    -- odd, at
    refine seq_cut (fun ρ M' => ∃ (x : D) (j : Nat), ρ = [some (.ref a), some (.ref p), some (.int (d : Nat)), some (.ref xl), some (.ref xp), some pa, some (.int (j : Nat)), x7, x8, x9, x10, some (rowD r), some x, x13, x14] ∧ Kp p M8 M' ∧ OddD p d M' x ∧ j ≤ G.length ∧ Pen M' p c ns (1000 * i + 304)) (fun N2 hN2 => ?_) ?_
    · simp only [DL.e_next, DL.e_break, DL.e_cont, DL.e_drop, DL.e_ret, DL.e_retN, DL.e_ifS, DL.e_asg, DL.e_par, DL.e_par2, DL.e_del, DL.e_gname, DL.e_gsub, DL.e_gtup, DL.e_gcons, DL.e_gnil, DL.e_var0, DL.e_varS, DL.e_con, DL.e_top2, DL.e_top1, DL.e_cb, DL.e_nil, DL.e_cons, DL.e_tup, DL.e_lst, DL.e_test, DL.e_testK, DL.e_tru, DL.e_truB, DL.e_truN, DL.e_truL, DL.e_and, DL.e_or, DL.e_not, DL.e_if, DL.e_andV, DL.e_andK, DL.e_orV, DL.e_orK, DL.e_notV, DL.e_notK, DL.e_add, DL.e_addS, DL.e_addT, DL.e_addL, DL.e_sub, DL.e_mul, DL.e_mulL, DL.e_mulT, DL.e_fdiv, DL.e_mod, DL.e_pow, DL.e_neg, DL.e_lt, DL.e_le, DL.e_gt, DL.e_ge, DL.e_eqI, DL.e_eqS, DL.e_neI, DL.e_neS, DL.e_isN, DL.e_isntN, DL.e_isB, DL.e_isntB, DL.e_atK, DL.e_ixT, DL.e_ixL, DL.e_ixK, DL.e_ixDT, DL.e_setK, DL.e_setDT, DL.e_setSome, DL.e_setL, DL.e_delK, DL.e_delT, DL.e_inT, DL.e_inK, DL.e_lenL, DL.e_lenT, DL.e_lenK, DL.e_lenDT, DL.e_lenS, DL.e_listL, DL.e_listO, DL.e_listT, DL.e_tupleL, DL.e_tupleT, DL.e_int, DL.e_lm0, DL.e_lm, DL.e_isL, DL.e_app, DL.e_pop, DL.e_popSome, DL.e_call, DL.e_newT, DL.e_newK, DL.e_disp, DL.e_prs0, DL.e_prsS, DL.f_for, DL.f_lc, DL.f_dc, DL.f_iseq, DL.f_seqT, DL.f_rng1, DL.f_rngK, DL.f_zip, DL.f_zipT, DL.f_yes, DL.f_par3, DL.f_par3K, DL.f_isi, DL.f_isiK, DL.f_fld, DL.f_mkE, DL.f_mk0, DL.f_slice, DL.f_nopart, DL.f_part, DL.f_partK, DL.f_slT, DL.f_lrg, DL.f_dispT, List.set_cons_zero, List.set_cons_succ, List.length_cons, List.length_nil, decide_eq_true_eq, Bool.not_eq_true, true_and, and_true, if_true, Bool.false_eq_true, if_false, Nat.reduceAdd, Nat.reduceLT, Nat.reduceLeDiff]
      refine ⟨p, c, ns, _, r, 50000, rfl, P8, by omega, by omega, by omega, br, hb40, by decide, fun x M9 K9 P9 o9 => ?_⟩
      rw [lr] at o9
      show lenR [.ref xl] M9 _
      rw [e_lenL (K9 _ _ hlp b8), List.length_map]
      show addR (.int _) (.int 1) M9 _
      rw [e_add]
      refine ⟨p, c, ns, _, _, rfl, P9, by omega, by omega, by omega, fun j0 M10 j00 j01 C10 P10 => ?_⟩
      obtain ⟨j, rfl⟩ : ∃ j : Nat, j0 = (j : Nat) := ⟨j0.toNat, by omega⟩
      exact ⟨by decide, hN2 _ _ ⟨x, j, rfl, K9.trans C10.kp, o9.kx C10.kp.kx, by omega, P10⟩⟩
    rintro ρ M9 ⟨x, j, rfl, K9, o9, hj, P9⟩
    have b9 := K9 _ _ hlp b8
    -- told
    refine seq_cut (fun ρ M' => ∃ pt, ρ = [some (.ref a), some (.ref p), some (.int (d : Nat)), some (.ref xl), some (.ref xp), some pa, some (.int (j : Nat)), some (.ref pt), x8, x9, x10, some (rowD r), some x, x13, x14] ∧ Keep M9 M' ∧ M' pt = some (.lst ((([2, 3, 4] : List Int).map fun o => (PyData.bool (decide (o = (d : Int)))).shown).map D.str))) (fun N2 hN2 => ?_) ?_
    · simp only [DL.e_next, DL.e_break, DL.e_cont, DL.e_drop, DL.e_ret, DL.e_retN, DL.e_ifS, DL.e_asg, DL.e_par, DL.e_par2, DL.e_del, DL.e_gname, DL.e_gsub, DL.e_gtup, DL.e_gcons, DL.e_gnil, DL.e_var0, DL.e_varS, DL.e_con, DL.e_top2, DL.e_top1, DL.e_cb, DL.e_nil, DL.e_cons, DL.e_tup, DL.e_lst, DL.e_test, DL.e_testK, DL.e_tru, DL.e_truB, DL.e_truN, DL.e_truL, DL.e_and, DL.e_or, DL.e_not, DL.e_if, DL.e_andV, DL.e_andK, DL.e_orV, DL.e_orK, DL.e_notV, DL.e_notK, DL.e_add, DL.e_addS, DL.e_addT, DL.e_addL, DL.e_sub, DL.e_mul, DL.e_mulL, DL.e_mulT, DL.e_fdiv, DL.e_mod, DL.e_pow, DL.e_neg, DL.e_lt, DL.e_le, DL.e_gt, DL.e_ge, DL.e_eqI, DL.e_eqS, DL.e_neI, DL.e_neS, DL.e_isN, DL.e_isntN, DL.e_isB, DL.e_isntB, DL.e_atK, DL.e_ixT, DL.e_ixL, DL.e_ixK, DL.e_ixDT, DL.e_setK, DL.e_setDT, DL.e_setSome, DL.e_setL, DL.e_delK, DL.e_delT, DL.e_inT, DL.e_inK, DL.e_lenL, DL.e_lenT, DL.e_lenK, DL.e_lenDT, DL.e_lenS, DL.e_listL, DL.e_listO, DL.e_listT, DL.e_tupleL, DL.e_tupleT, DL.e_int, DL.e_lm0, DL.e_lm, DL.e_isL, DL.e_app, DL.e_pop, DL.e_popSome, DL.e_call, DL.e_newT, DL.e_newK, DL.e_disp, DL.e_prs0, DL.e_prsS, DL.f_for, DL.f_lc, DL.f_dc, DL.f_iseq, DL.f_seqT, DL.f_rng1, DL.f_rngK, DL.f_zip, DL.f_zipT, DL.f_yes, DL.f_par3, DL.f_par3K, DL.f_isi, DL.f_isiK, DL.f_fld, DL.f_mkE, DL.f_mk0, DL.f_slice, DL.f_nopart, DL.f_part, DL.f_partK, DL.f_slT, DL.f_lrg, DL.f_dispT, List.set_cons_zero, List.set_cons_succ, List.length_cons, List.length_nil, decide_eq_true_eq, Bool.not_eq_true, true_and, and_true, if_true, Bool.false_eq_true, if_false, Nat.reduceAdd, Nat.reduceLT, Nat.reduceLeDiff]
      refine ⟨by decide, fun pe hpe => ?_⟩
      show seqK (.ref pe) _ _
      rw [f_seqL put_same]
      intro pt hpt
      refine lc_pure (tellF d) hpt (by decide) (fun M k => rdL_lst (k _ _ put_same)) (fun y hy M' acc k hM Ky Kn ky kn => ?_) fun M' k hM => ?_
      · have ho : ∃ o : Int, y = .int o ∧ (o = 2 ∨ o = 3 ∨ o = 4) := by
          simp only [List.mem_cons, List.not_mem_nil, or_false] at hy
          rcases hy with rfl | rfl | rfl
          · exact ⟨2, rfl, .inl rfl⟩
          · exact ⟨3, rfl, .inr (.inl rfl)⟩
          · exact ⟨4, rfl, .inr (.inr rfl)⟩
        obtain ⟨o, rfl, ho⟩ := ho
        simp only [DL.e_next, DL.e_break, DL.e_cont, DL.e_drop, DL.e_ret, DL.e_retN, DL.e_ifS, DL.e_asg, DL.e_par, DL.e_par2, DL.e_del, DL.e_gname, DL.e_gsub, DL.e_gtup, DL.e_gcons, DL.e_gnil, DL.e_var0, DL.e_varS, DL.e_con, DL.e_top2, DL.e_top1, DL.e_cb, DL.e_nil, DL.e_cons, DL.e_tup, DL.e_lst, DL.e_test, DL.e_testK, DL.e_tru, DL.e_truB, DL.e_truN, DL.e_truL, DL.e_and, DL.e_or, DL.e_not, DL.e_if, DL.e_andV, DL.e_andK, DL.e_orV, DL.e_orK, DL.e_notV, DL.e_notK, DL.e_add, DL.e_addS, DL.e_addT, DL.e_addL, DL.e_sub, DL.e_mul, DL.e_mulL, DL.e_mulT, DL.e_fdiv, DL.e_mod, DL.e_pow, DL.e_neg, DL.e_lt, DL.e_le, DL.e_gt, DL.e_ge, DL.e_eqI, DL.e_eqS, DL.e_neI, DL.e_neS, DL.e_isN, DL.e_isntN, DL.e_isB, DL.e_isntB, DL.e_atK, DL.e_ixT, DL.e_ixL, DL.e_ixK, DL.e_ixDT, DL.e_setK, DL.e_setDT, DL.e_setSome, DL.e_setL, DL.e_delK, DL.e_delT, DL.e_inT, DL.e_inK, DL.e_lenL, DL.e_lenT, DL.e_lenK, DL.e_lenDT, DL.e_lenS, DL.e_listL, DL.e_listO, DL.e_listT, DL.e_tupleL, DL.e_tupleT, DL.e_int, DL.e_lm0, DL.e_lm, DL.e_isL, DL.e_app, DL.e_pop, DL.e_popSome, DL.e_call, DL.e_newT, DL.e_newK, DL.e_disp, DL.e_prs0, DL.e_prsS, DL.f_for, DL.f_lc, DL.f_dc, DL.f_iseq, DL.f_seqT, DL.f_rng1, DL.f_rngK, DL.f_zip, DL.f_zipT, DL.f_yes, DL.f_par3, DL.f_par3K, DL.f_isi, DL.f_isiK, DL.f_fld, DL.f_mkE, DL.f_mk0, DL.f_slice, DL.f_nopart, DL.f_part, DL.f_partK, DL.f_slT, DL.f_lrg, DL.f_dispT, List.set_cons_zero, List.set_cons_succ, List.length_cons, List.length_nil, decide_eq_true_eq, Bool.not_eq_true, true_and, and_true, if_true, Bool.false_eq_true, if_false, Nat.reduceAdd, Nat.reduceLT, Nat.reduceLeDiff, DL.wiped, List.map_cons, List.map_nil]
        refine ⟨rowD r, .int o, rfl, rfl, .inl ⟨o, rfl, ho, plain_row (by omega), ?_⟩⟩
        rw [isOf_rowD, lr]
        refine (Sh.bl (M := M')).repr (by decide) (by decide) (ky M' _ ?_ .refl)
        have z : decide (((d : Nat) : Int) = o) = decide (o = (d : Int)) := by
          rw [decide_eq_decide]
          exact eq_comm
        rw [z]
        rfl
      · rw [tell_list] at hM
        exact hN2 _ _ ⟨pt, rfl, (Keep.new hpe).trans k, hM⟩
    rintro ρ M10 ⟨pt, rfl, K10, ht10⟩
    refine seq_cut (fun ρ M' => ρ = [some (.ref a), some (.ref p), some (.int (d : Nat)), some (.ref xl), some (.ref xp), some pa, some (.int (j : Nat)), some (.ref pt), x8, x9, x10, some (rowD r), some x, x13, x14] ∧ Keep M9 M') (fun N2 hN2 => ?_) ?_
    · simp only [DL.e_next, DL.e_break, DL.e_cont, DL.e_drop, DL.e_ret, DL.e_retN, DL.e_ifS, DL.e_asg, DL.e_par, DL.e_par2, DL.e_del, DL.e_gname, DL.e_gsub, DL.e_gtup, DL.e_gcons, DL.e_gnil, DL.e_var0, DL.e_varS, DL.e_con, DL.e_top2, DL.e_top1, DL.e_cb, DL.e_nil, DL.e_cons, DL.e_tup, DL.e_lst, DL.e_test, DL.e_testK, DL.e_tru, DL.e_truB, DL.e_truN, DL.e_truL, DL.e_and, DL.e_or, DL.e_not, DL.e_if, DL.e_andV, DL.e_andK, DL.e_orV, DL.e_orK, DL.e_notV, DL.e_notK, DL.e_add, DL.e_addS, DL.e_addT, DL.e_addL, DL.e_sub, DL.e_mul, DL.e_mulL, DL.e_mulT, DL.e_fdiv, DL.e_mod, DL.e_pow, DL.e_neg, DL.e_lt, DL.e_le, DL.e_gt, DL.e_ge, DL.e_eqI, DL.e_eqS, DL.e_neI, DL.e_neS, DL.e_isN, DL.e_isntN, DL.e_isB, DL.e_isntB, DL.e_atK, DL.e_ixT, DL.e_ixL, DL.e_ixK, DL.e_ixDT, DL.e_setK, DL.e_setDT, DL.e_setSome, DL.e_setL, DL.e_delK, DL.e_delT, DL.e_inT, DL.e_inK, DL.e_lenL, DL.e_lenT, DL.e_lenK, DL.e_lenDT, DL.e_lenS, DL.e_listL, DL.e_listO, DL.e_listT, DL.e_tupleL, DL.e_tupleT, DL.e_int, DL.e_lm0, DL.e_lm, DL.e_isL, DL.e_app, DL.e_pop, DL.e_popSome, DL.e_call, DL.e_newT, DL.e_newK, DL.e_disp, DL.e_prs0, DL.e_prsS, DL.f_for, DL.f_lc, DL.f_dc, DL.f_iseq, DL.f_seqT, DL.f_rng1, DL.f_rngK, DL.f_zip, DL.f_zipT, DL.f_yes, DL.f_par3, DL.f_par3K, DL.f_isi, DL.f_isiK, DL.f_fld, DL.f_mkE, DL.f_mk0, DL.f_slice, DL.f_nopart, DL.f_part, DL.f_partK, DL.f_slT, DL.f_lrg, DL.f_dispT, List.set_cons_zero, List.set_cons_succ, List.length_cons, List.length_nil, decide_eq_true_eq, Bool.not_eq_true, true_and, and_true, if_true, Bool.false_eq_true, if_false, Nat.reduceAdd, Nat.reduceLT, Nat.reduceLeDiff]
      refine ⟨by decide, fun pe hpe => ?_⟩
      show seqK (.ref pe) _ _
      rw [f_seqL put_same]
      intro pu hpu
      refine lc_pure (tellF d) hpu (by decide) (fun M k => rdL_lst (k _ _ put_same)) (fun y hy M' acc k hM Ky Kn ky kn => ?_) fun M' k hM => ?_
      · have ho : ∃ o : Int, y = .int o := by
          simp only [List.mem_cons, List.not_mem_nil, or_false] at hy
          rcases hy with rfl | rfl | rfl <;> exact ⟨_, rfl⟩
        obtain ⟨o, rfl⟩ := ho
        simp only [DL.e_next, DL.e_break, DL.e_cont, DL.e_drop, DL.e_ret, DL.e_retN, DL.e_ifS, DL.e_asg, DL.e_par, DL.e_par2, DL.e_del, DL.e_gname, DL.e_gsub, DL.e_gtup, DL.e_gcons, DL.e_gnil, DL.e_var0, DL.e_varS, DL.e_con, DL.e_top2, DL.e_top1, DL.e_cb, DL.e_nil, DL.e_cons, DL.e_tup, DL.e_lst, DL.e_test, DL.e_testK, DL.e_tru, DL.e_truB, DL.e_truN, DL.e_truL, DL.e_and, DL.e_or, DL.e_not, DL.e_if, DL.e_andV, DL.e_andK, DL.e_orV, DL.e_orK, DL.e_notV, DL.e_notK, DL.e_add, DL.e_addS, DL.e_addT, DL.e_addL, DL.e_sub, DL.e_mul, DL.e_mulL, DL.e_mulT, DL.e_fdiv, DL.e_mod, DL.e_pow, DL.e_neg, DL.e_lt, DL.e_le, DL.e_gt, DL.e_ge, DL.e_eqI, DL.e_eqS, DL.e_neI, DL.e_neS, DL.e_isN, DL.e_isntN, DL.e_isB, DL.e_isntB, DL.e_atK, DL.e_ixT, DL.e_ixL, DL.e_ixK, DL.e_ixDT, DL.e_setK, DL.e_setDT, DL.e_setSome, DL.e_setL, DL.e_delK, DL.e_delT, DL.e_inT, DL.e_inK, DL.e_lenL, DL.e_lenT, DL.e_lenK, DL.e_lenDT, DL.e_lenS, DL.e_listL, DL.e_listO, DL.e_listT, DL.e_tupleL, DL.e_tupleT, DL.e_int, DL.e_lm0, DL.e_lm, DL.e_isL, DL.e_app, DL.e_pop, DL.e_popSome, DL.e_call, DL.e_newT, DL.e_newK, DL.e_disp, DL.e_prs0, DL.e_prsS, DL.f_for, DL.f_lc, DL.f_dc, DL.f_iseq, DL.f_seqT, DL.f_rng1, DL.f_rngK, DL.f_zip, DL.f_zipT, DL.f_yes, DL.f_par3, DL.f_par3K, DL.f_isi, DL.f_isiK, DL.f_fld, DL.f_mkE, DL.f_mk0, DL.f_slice, DL.f_nopart, DL.f_part, DL.f_partK, DL.f_slT, DL.f_lrg, DL.f_dispT, List.set_cons_zero, List.set_cons_succ, List.length_cons, List.length_nil, decide_eq_true_eq, Bool.not_eq_true, true_and, and_true, if_true, Bool.false_eq_true, if_false, Nat.reduceAdd, Nat.reduceLT, Nat.reduceLeDiff, DL.wiped, List.map_cons, List.map_nil]
        exact (Sh.bl (M := M')).repr (by decide) (by decide) (ky M' _ rfl .refl)
      · rw [tell_list] at hM
        show neR (.ref pt) (.ref pu) _ _
        rw [neRR]
        have KK := (Keep.new (o := .lst [.int 2, .int 3, .int 4]) hpe).trans k
        have okS : ∀ s ∈ (([2, 3, 4] : List Int).map fun o => (PyData.bool (decide (o = (d : Int)))).shown), PyData.strOk s = true := fun s hs => by
          obtain ⟨o, _, rfl⟩ := List.mem_map.mp hs
          exact bool_ok _
        refine La.refl_eq (La.strs (rdL_lst (KK _ _ ht10)) okS) (La.strs (rdL_lst hM) okS) (by decide) ?_
        rw [e_testK]
        exact hN2 _ _ ⟨rfl, K10.trans KK⟩
    rintro ρ M11 ⟨rfl, K11⟩
    have o11 := o9.kx (Kp.keep K11).kx
    have b11 := K11 _ _ b9
    have P11 := pen_keep P9 K11
    -- is_cell(odd, dimension)
    refine seq_cut (fun ρ M' => ρ = [some (.ref a), some (.ref p), some (.int (d : Nat)), some (.ref xl), some (.ref xp), some pa, some (.int (j : Nat)), some (.ref pt), x8, x9, x10, some (rowD r), some x, x13, x14] ∧ M' = M11) (fun N2 hN2 => ?_) ?_
    · simp only [DL.e_next, DL.e_break, DL.e_cont, DL.e_drop, DL.e_ret, DL.e_retN, DL.e_ifS, DL.e_asg, DL.e_par, DL.e_par2, DL.e_del, DL.e_gname, DL.e_gsub, DL.e_gtup, DL.e_gcons, DL.e_gnil, DL.e_var0, DL.e_varS, DL.e_con, DL.e_top2, DL.e_top1, DL.e_cb, DL.e_nil, DL.e_cons, DL.e_tup, DL.e_lst, DL.e_test, DL.e_testK, DL.e_tru, DL.e_truB, DL.e_truN, DL.e_truL, DL.e_and, DL.e_or, DL.e_not, DL.e_if, DL.e_andV, DL.e_andK, DL.e_orV, DL.e_orK, DL.e_notV, DL.e_notK, DL.e_add, DL.e_addS, DL.e_addT, DL.e_addL, DL.e_sub, DL.e_mul, DL.e_mulL, DL.e_mulT, DL.e_fdiv, DL.e_mod, DL.e_pow, DL.e_neg, DL.e_lt, DL.e_le, DL.e_gt, DL.e_ge, DL.e_eqI, DL.e_eqS, DL.e_neI, DL.e_neS, DL.e_isN, DL.e_isntN, DL.e_isB, DL.e_isntB, DL.e_atK, DL.e_ixT, DL.e_ixL, DL.e_ixK, DL.e_ixDT, DL.e_setK, DL.e_setDT, DL.e_setSome, DL.e_setL, DL.e_delK, DL.e_delT, DL.e_inT, DL.e_inK, DL.e_lenL, DL.e_lenT, DL.e_lenK, DL.e_lenDT, DL.e_lenS, DL.e_listL, DL.e_listO, DL.e_listT, DL.e_tupleL, DL.e_tupleT, DL.e_int, DL.e_lm0, DL.e_lm, DL.e_isL, DL.e_app, DL.e_pop, DL.e_popSome, DL.e_call, DL.e_newT, DL.e_newK, DL.e_disp, DL.e_prs0, DL.e_prsS, DL.f_for, DL.f_lc, DL.f_dc, DL.f_iseq, DL.f_seqT, DL.f_rng1, DL.f_rngK, DL.f_zip, DL.f_zipT, DL.f_yes, DL.f_par3, DL.f_par3K, DL.f_isi, DL.f_isiK, DL.f_fld, DL.f_mkE, DL.f_mk0, DL.f_slice, DL.f_nopart, DL.f_part, DL.f_partK, DL.f_slT, DL.f_lrg, DL.f_dispT, List.set_cons_zero, List.set_cons_succ, List.length_cons, List.length_nil, decide_eq_true_eq, Bool.not_eq_true, true_and, and_true, if_true, Bool.false_eq_true, if_false, Nat.reduceAdd, Nat.reduceLT, Nat.reduceLeDiff]
      refine ⟨x, .int (d : Nat), rfl, rfl, .inl ⟨(d : Nat), rfl, by omega, o11.plain _ KX.refl, ?_⟩⟩
      rw [o11.of]
      show isntR (.bl false) (.bl false) M11 _
      rw [e_isntB, e_testK, decide_eq_true rfl]
      exact hN2 _ _ ⟨rfl, rfl⟩
    rintro ρ M12 ⟨rfl, rfl⟩
    -- bent
    refine seq_cut (fun ρ M' => ∃ xb, ρ = [some (.ref a), some (.ref p), some (.int (d : Nat)), some (.ref xl), some (.ref xp), some pa, some (.int (j : Nat)), some (.ref pt), x8, x9, some (.ref xb), some (rowD r), some x, x13, x14] ∧ Keep M12 M' ∧ M' xb = some (.lst (bentL G x j))) (fun N2 hN2 => ?_) ?_
    · simp only [DL.e_next, DL.e_break, DL.e_cont, DL.e_drop, DL.e_ret, DL.e_retN, DL.e_ifS, DL.e_asg, DL.e_par, DL.e_par2, DL.e_del, DL.e_gname, DL.e_gsub, DL.e_gtup, DL.e_gcons, DL.e_gnil, DL.e_var0, DL.e_varS, DL.e_con, DL.e_top2, DL.e_top1, DL.e_cb, DL.e_nil, DL.e_cons, DL.e_tup, DL.e_lst, DL.e_test, DL.e_testK, DL.e_tru, DL.e_truB, DL.e_truN, DL.e_truL, DL.e_and, DL.e_or, DL.e_not, DL.e_if, DL.e_andV, DL.e_andK, DL.e_orV, DL.e_orK, DL.e_notV, DL.e_notK, DL.e_add, DL.e_addS, DL.e_addT, DL.e_addL, DL.e_sub, DL.e_mul, DL.e_mulL, DL.e_mulT, DL.e_fdiv, DL.e_mod, DL.e_pow, DL.e_neg, DL.e_lt, DL.e_le, DL.e_gt, DL.e_ge, DL.e_eqI, DL.e_eqS, DL.e_neI, DL.e_neS, DL.e_isN, DL.e_isntN, DL.e_isB, DL.e_isntB, DL.e_atK, DL.e_ixT, DL.e_ixL, DL.e_ixK, DL.e_ixDT, DL.e_setK, DL.e_setDT, DL.e_setSome, DL.e_setL, DL.e_delK, DL.e_delT, DL.e_inT, DL.e_inK, DL.e_lenL, DL.e_lenT, DL.e_lenK, DL.e_lenDT, DL.e_lenS, DL.e_listL, DL.e_listO, DL.e_listT, DL.e_tupleL, DL.e_tupleT, DL.e_int, DL.e_lm0, DL.e_lm, DL.e_isL, DL.e_app, DL.e_pop, DL.e_popSome, DL.e_call, DL.e_newT, DL.e_newK, DL.e_disp, DL.e_prs0, DL.e_prsS, DL.f_for, DL.f_lc, DL.f_dc, DL.f_iseq, DL.f_seqT, DL.f_rng1, DL.f_rngK, DL.f_zip, DL.f_zipT, DL.f_yes, DL.f_par3, DL.f_par3K, DL.f_isi, DL.f_isiK, DL.f_fld, DL.f_mkE, DL.f_mk0, DL.f_slice, DL.f_nopart, DL.f_part, DL.f_partK, DL.f_slT, DL.f_lrg, DL.f_dispT, List.set_cons_zero, List.set_cons_succ, List.length_cons, List.length_nil, decide_eq_true_eq, Bool.not_eq_true, true_and, and_true, if_true, Bool.false_eq_true, if_false, Nat.reduceAdd, Nat.reduceLT, Nat.reduceLeDiff]
      rw [sl_list b11, cut_take]
      intro q1 h1
      refine ⟨by decide, fun q2 h2 => ?_⟩
      show addR (.ref q1) (.ref q2) _ _
      rw [e_addL ((Keep.new h2) _ _ put_same) put_same]
      refine ⟨by rw [List.length_take, List.length_map, List.length_singleton]; omega, fun q3 h3 => ?_⟩
      have KK3 := ((Keep.new (o := .lst ((G.map rowD).take j)) h1).trans (Keep.new (o := .lst [x]) h2)).trans (Keep.new (o := .lst ((G.map rowD).take j ++ [x])) h3)
      have e3 : put (put (put M12 q1 (.lst ((G.map rowD).take j))) q2 (.lst [x])) q3 (.lst ((G.map rowD).take j ++ [x])) q3 = some (.lst ((G.map rowD).take j ++ [x])) := put_same
      generalize put (put (put M12 q1 (.lst ((G.map rowD).take j))) q2 (.lst [x])) q3 (.lst ((G.map rowD).take j ++ [x])) = M3' at *
      show slR (.ref xl) (some (j : Int)) none M3' _
      rw [sl_list (KK3 _ _ b11), cut_drop]
      intro q4 h4
      show addR (.ref q3) (.ref q4) _ _
      rw [e_addL ((Keep.new h4) _ _ e3) put_same]
      refine ⟨by rw [List.length_append, List.length_take, List.length_drop, List.length_map, List.length_singleton]; omega, fun q5 h5 => ?_⟩
      have KK5 := KK3.trans ((Keep.new (o := .lst ((G.map rowD).drop j)) h4).trans (Keep.new (o := .lst ((G.map rowD).take j ++ [x] ++ (G.map rowD).drop j)) h5))
      have e5 : put (put M3' q4 (.lst ((G.map rowD).drop j))) q5 (.lst ((G.map rowD).take j ++ [x] ++ (G.map rowD).drop j)) q5 = some (.lst ((G.map rowD).take j ++ [x] ++ (G.map rowD).drop j)) := put_same
      generalize put (put M3' q4 (.lst ((G.map rowD).drop j))) q5 (.lst ((G.map rowD).take j ++ [x] ++ (G.map rowD).drop j)) = M5' at *
      refine ⟨by decide, fun q6 h6 => ?_⟩
      show addR (.ref q5) (.ref q6) _ _
      rw [e_addL ((Keep.new h6) _ _ e5) put_same]
      refine ⟨by simp only [List.length_append, List.length_take, List.length_drop, List.length_map, List.length_singleton]; omega, fun q7 h7 => ?_⟩
      exact hN2 _ _ ⟨q7, rfl, (KK5.trans (Keep.new h6)).trans (Keep.new h7), put_same⟩
    rintro ρ M13 ⟨xb, rfl, K13, hb13⟩
    have o13 := o11.kx (Kp.keep K13).kx
    have b13 := K13 _ _ b11
    have P13 := pen_keep P11 K13
    have K113 : Kp p M1 M13 := (K18.trans K9).trans (Kp.keep (K11.trans K13))
    have hd13 := K113 _ _ hdp hpd1
    have hT13 := K113 _ _ hTp hT1
    have hbp := pen_ne P13 hb13
    have bad := bad_bent lot hd0 hd1 neG o13.of hj
    -- due
    refine seq_cut (fun ρ M' => ρ = [some (.ref a), some (.ref p), some (.int (d : Nat)), some (.ref xl), some (.ref xp), some pa, some (.int (j : Nat)), some (.ref pt), some (dueD G x j), x9, some (.ref xb), some (rowD r), some x, x13, x14] ∧ M' = M13) (fun N2 hN2 => ?_) ?_
    · simp only [DL.e_next, DL.e_break, DL.e_cont, DL.e_drop, DL.e_ret, DL.e_retN, DL.e_ifS, DL.e_asg, DL.e_par, DL.e_par2, DL.e_del, DL.e_gname, DL.e_gsub, DL.e_gtup, DL.e_gcons, DL.e_gnil, DL.e_var0, DL.e_varS, DL.e_con, DL.e_top2, DL.e_top1, DL.e_cb, DL.e_nil, DL.e_cons, DL.e_tup, DL.e_lst, DL.e_test, DL.e_testK, DL.e_tru, DL.e_truB, DL.e_truN, DL.e_truL, DL.e_and, DL.e_or, DL.e_not, DL.e_if, DL.e_andV, DL.e_andK, DL.e_orV, DL.e_orK, DL.e_notV, DL.e_notK, DL.e_add, DL.e_addS, DL.e_addT, DL.e_addL, DL.e_sub, DL.e_mul, DL.e_mulL, DL.e_mulT, DL.e_fdiv, DL.e_mod, DL.e_pow, DL.e_neg, DL.e_lt, DL.e_le, DL.e_gt, DL.e_ge, DL.e_eqI, DL.e_eqS, DL.e_neI, DL.e_neS, DL.e_isN, DL.e_isntN, DL.e_isB, DL.e_isntB, DL.e_atK, DL.e_ixT, DL.e_ixL, DL.e_ixK, DL.e_ixDT, DL.e_setK, DL.e_setDT, DL.e_setSome, DL.e_setL, DL.e_delK, DL.e_delT, DL.e_inT, DL.e_inK, DL.e_lenL, DL.e_lenT, DL.e_lenK, DL.e_lenDT, DL.e_lenS, DL.e_listL, DL.e_listO, DL.e_listT, DL.e_tupleL, DL.e_tupleT, DL.e_int, DL.e_lm0, DL.e_lm, DL.e_isL, DL.e_app, DL.e_pop, DL.e_popSome, DL.e_call, DL.e_newT, DL.e_newK, DL.e_disp, DL.e_prs0, DL.e_prsS, DL.f_for, DL.f_lc, DL.f_dc, DL.f_iseq, DL.f_seqT, DL.f_rng1, DL.f_rngK, DL.f_zip, DL.f_zipT, DL.f_yes, DL.f_par3, DL.f_par3K, DL.f_isi, DL.f_isiK, DL.f_fld, DL.f_mkE, DL.f_mk0, DL.f_slice, DL.f_nopart, DL.f_part, DL.f_partK, DL.f_slT, DL.f_lrg, DL.f_dispT, List.set_cons_zero, List.set_cons_succ, List.length_cons, List.length_nil, decide_eq_true_eq, Bool.not_eq_true, true_and, and_true, if_true, Bool.false_eq_true, if_false, Nat.reduceAdd, Nat.reduceLT, Nat.reduceLeDiff]
      have fin : (dueD G x j = x → N2 ([some (.ref a), some (.ref p), some (.int (d : Nat)), some (.ref xl), some (.ref xp), some pa, some (.int (j : Nat)), some (.ref pt), some x, x9, some (.ref xb), some (rowD r), some x, x13, x14]) M13) ∧ (dueD G x j = rowD (G.headD []) → N2 ([some (.ref a), some (.ref p), some (.int (d : Nat)), some (.ref xl), some (.ref xp), some pa, some (.int (j : Nat)), some (.ref pt), some (rowD (G.headD [])), x9, some (.ref xb), some (rowD r), some x, x13, x14]) M13) :=
        ⟨fun z => hN2 _ _ ⟨by rw [z], rfl⟩, fun z => hN2 _ _ ⟨by rw [z], rfl⟩⟩
      by_cases h0 : 0 < (j : Int)
      · rw [if_pos h0]
        exact fin.1 (by unfold dueD; rw [if_pos (.inl (by omega))])
      · rw [if_neg h0]
        refine ⟨x, rfl, o13.plain _ KX.refl, o13.easy, ?_⟩
        show truR (.bl (isAny x)) _ _
        rw [e_truB]
        cases hx : isAny x with
        | false =>
          rw [if_pos (show ((!false) = true) from rfl)]
          exact fin.1 (by unfold dueD; rw [if_pos (.inr hx)])
        | true =>
          rw [if_neg (by simp)]
          have e0 : atI (G.map rowD) 0 = some (rowD (G.headD [])) := by
            cases G with
            | nil => exact absurd rfl neG
            | cons g G => simp [atI, ixN]
          rw [e_ixL b13, e0, e_atK]
          exact fin.2 (by unfold dueD; rw [if_neg (by simp [hx]; omega)])
    rintro ρ M14 ⟨rfl, rfl⟩
    have J13 : Late p c ns (1000 * i + 304) T M14 M14 := ⟨KX.refl, P13, cs1, hT13⟩
    obtain ⟨so, hso⟩ : ∃ s, TxtX p M14 x s := by
      obtain ⟨s, a, b⟩ := o13.txt
      exact ⟨s, a, b⟩
    obtain ⟨s, hs⟩ : ∃ s, TxtX p M14 (dueD G x j) s := by
      unfold dueD
      split
      · exact ⟨so, hso⟩
      · have hg : G.headD [] ∈ G := by
          cases G with
          | nil => exact absurd rfl neG
          | cons g G => exact List.mem_cons_self
        have sr := fun M => Sh.row (M := M) (n := 5) (five _ hg).1 hb40 (five _ hg).2
        exact ⟨_, (sr M14).ok, fun M' _ Q q => (sr M').repr (by decide) (by decide) q⟩
    have plain : ∀ {M : Mem}, KX p M14 M → ∀ y ∈ bentL G x j, Plain M y := fun k y hy => by
      rcases bent_mem hy with ⟨t, ht, rfl⟩ | rfl | rfl
      · exact plain_row (by rw [(lot t ht).1]; omega)
      · exact o13.plain _ k
      · exact ⟨rfl, fun xs e => nomatch e⟩
    have lB : (bentL G x j).length < 2 ^ 20 := by
      unfold bentL
      simp only [List.length_append, List.length_take, List.length_drop, List.length_map, List.length_singleton]
      omega
    have bentAt : ∀ {M : Mem}, KX p M14 M → M xb = some (.lst (bentL G x j)) := fun k => k xb _ hbp (fun f z => nomatch z) (fun q cs z => nomatch z) hb13
    -- found
    refine seq_cut (fun ρ M' => ∃ xf, ρ = [some (.ref a), some (.ref p), some (.int (d : Nat)), some (.ref xl), some (.ref xp), some pa, some (.int (j : Nat)), some (.ref pt), some (dueD G x j), some (.ref xf), some (.ref xb), some (rowD r), some x, x13, x14] ∧ Late p c ns (1000 * i + 304) T M14 M' ∧ M' xf = some (.lst [cellR s]) ∧ xf ≠ p ∧ xf ≠ c ∧ xf ≠ T ∧ (∀ o, (∀ f, o ≠ .exc f) → (∀ q cs, o ≠ .tab q cs) → M14 xf ≠ some o)) (fun N2 hN2 => ?_) ?_
    · simp only [DL.e_next, DL.e_break, DL.e_cont, DL.e_drop, DL.e_ret, DL.e_retN, DL.e_ifS, DL.e_asg, DL.e_par, DL.e_par2, DL.e_del, DL.e_gname, DL.e_gsub, DL.e_gtup, DL.e_gcons, DL.e_gnil, DL.e_var0, DL.e_varS, DL.e_con, DL.e_top2, DL.e_top1, DL.e_cb, DL.e_nil, DL.e_cons, DL.e_tup, DL.e_lst, DL.e_test, DL.e_testK, DL.e_tru, DL.e_truB, DL.e_truN, DL.e_truL, DL.e_and, DL.e_or, DL.e_not, DL.e_if, DL.e_andV, DL.e_andK, DL.e_orV, DL.e_orK, DL.e_notV, DL.e_notK, DL.e_add, DL.e_addS, DL.e_addT, DL.e_addL, DL.e_sub, DL.e_mul, DL.e_mulL, DL.e_mulT, DL.e_fdiv, DL.e_mod, DL.e_pow, DL.e_neg, DL.e_lt, DL.e_le, DL.e_gt, DL.e_ge, DL.e_eqI, DL.e_eqS, DL.e_neI, DL.e_neS, DL.e_isN, DL.e_isntN, DL.e_isB, DL.e_isntB, DL.e_atK, DL.e_ixT, DL.e_ixL, DL.e_ixK, DL.e_ixDT, DL.e_setK, DL.e_setDT, DL.e_setSome, DL.e_setL, DL.e_delK, DL.e_delT, DL.e_inT, DL.e_inK, DL.e_lenL, DL.e_lenT, DL.e_lenK, DL.e_lenDT, DL.e_lenS, DL.e_listL, DL.e_listO, DL.e_listT, DL.e_tupleL, DL.e_tupleT, DL.e_int, DL.e_lm0, DL.e_lm, DL.e_isL, DL.e_app, DL.e_pop, DL.e_popSome, DL.e_call, DL.e_newT, DL.e_newK, DL.e_disp, DL.e_prs0, DL.e_prsS, DL.f_for, DL.f_lc, DL.f_dc, DL.f_iseq, DL.f_seqT, DL.f_rng1, DL.f_rngK, DL.f_zip, DL.f_zipT, DL.f_yes, DL.f_par3, DL.f_par3K, DL.f_isi, DL.f_isiK, DL.f_fld, DL.f_mkE, DL.f_mk0, DL.f_slice, DL.f_nopart, DL.f_part, DL.f_partK, DL.f_slT, DL.f_lrg, DL.f_dispT, List.set_cons_zero, List.set_cons_succ, List.length_cons, List.length_nil, decide_eq_true_eq, Bool.not_eq_true, true_and, and_true, if_true, Bool.false_eq_true, if_false, Nat.reduceAdd, Nat.reduceLT, Nat.reduceLeDiff]
      refine lam_cell J13 hs (fun M E1 Qn J1 hE => ?_) fun M J1 _ => ?_
      · show spPartsOf K [.ref xb] M Qn _
        exact ⟨.ref xb, bentL G x j, rfl, rdL_lst (bentAt J1.kx), plain J1.kx, lB, fun rows hg _ => by (rw [bad] at hg; cases hg), fun y hy => by
          rw [bad] at hy
          cases hy
          exact hE⟩
      · refine ⟨by decide, fun xf hxf => hN2 _ _ ⟨xf, rfl, J1.more (Keep.new hxf), put_same, fun z => pen_some J1.pen (z ▸ hxf), fun z => pen_cell J1.pen (z ▸ hxf), fun z => ?_, fun o f t e => ?_⟩⟩
        · obtain ⟨cs, h⟩ := J1.tab
          rw [← z, hxf] at h
          cases h
        · have := J1.kx xf o (fun z => pen_some J1.pen (z ▸ hxf)) f t e
          rw [hxf] at this
          cases this
    rintro ρ M15 ⟨xf, rfl, J15, hf15, nfp, nfc, nfT, nfB⟩
    refine seq_cut (fun ρ M' => ρ = [some (.ref a), some (.ref p), some (.int (d : Nat)), some (.ref xl), some (.ref xp), some pa, some (.int (j : Nat)), some (.ref pt), some (dueD G x j), some (.ref xf), some (.ref xb), some (rowD r), some x, x13, x14] ∧ Late p c ns (1000 * i + 304) T M14 M' ∧ M' xf = some (.lst [cellR s, cellR s])) (fun N2 hN2 => ?_) ?_
    · simp only [DL.e_next, DL.e_break, DL.e_cont, DL.e_drop, DL.e_ret, DL.e_retN, DL.e_ifS, DL.e_asg, DL.e_par, DL.e_par2, DL.e_del, DL.e_gname, DL.e_gsub, DL.e_gtup, DL.e_gcons, DL.e_gnil, DL.e_var0, DL.e_varS, DL.e_con, DL.e_top2, DL.e_top1, DL.e_cb, DL.e_nil, DL.e_cons, DL.e_tup, DL.e_lst, DL.e_test, DL.e_testK, DL.e_tru, DL.e_truB, DL.e_truN, DL.e_truL, DL.e_and, DL.e_or, DL.e_not, DL.e_if, DL.e_andV, DL.e_andK, DL.e_orV, DL.e_orK, DL.e_notV, DL.e_notK, DL.e_add, DL.e_addS, DL.e_addT, DL.e_addL, DL.e_sub, DL.e_mul, DL.e_mulL, DL.e_mulT, DL.e_fdiv, DL.e_mod, DL.e_pow, DL.e_neg, DL.e_lt, DL.e_le, DL.e_gt, DL.e_ge, DL.e_eqI, DL.e_eqS, DL.e_neI, DL.e_neS, DL.e_isN, DL.e_isntN, DL.e_isB, DL.e_isntB, DL.e_atK, DL.e_ixT, DL.e_ixL, DL.e_ixK, DL.e_ixDT, DL.e_setK, DL.e_setDT, DL.e_setSome, DL.e_setL, DL.e_delK, DL.e_delT, DL.e_inT, DL.e_inK, DL.e_lenL, DL.e_lenT, DL.e_lenK, DL.e_lenDT, DL.e_lenS, DL.e_listL, DL.e_listO, DL.e_listT, DL.e_tupleL, DL.e_tupleT, DL.e_int, DL.e_lm0, DL.e_lm, DL.e_isL, DL.e_app, DL.e_pop, DL.e_popSome, DL.e_call, DL.e_newT, DL.e_newK, DL.e_disp, DL.e_prs0, DL.e_prsS, DL.f_for, DL.f_lc, DL.f_dc, DL.f_iseq, DL.f_seqT, DL.f_rng1, DL.f_rngK, DL.f_zip, DL.f_zipT, DL.f_yes, DL.f_par3, DL.f_par3K, DL.f_isi, DL.f_isiK, DL.f_fld, DL.f_mkE, DL.f_mk0, DL.f_slice, DL.f_nopart, DL.f_part, DL.f_partK, DL.f_slT, DL.f_lrg, DL.f_dispT, List.set_cons_zero, List.set_cons_succ, List.length_cons, List.length_nil, decide_eq_true_eq, Bool.not_eq_true, true_and, and_true, if_true, Bool.false_eq_true, if_false, Nat.reduceAdd, Nat.reduceLT, Nat.reduceLeDiff, e_isL hf15]
      refine lam_cell J15 hs (fun M E1 Qn J1 hE => ?_) fun M J1 kz => ?_
      · simp only [DL.e_next, DL.e_break, DL.e_cont, DL.e_drop, DL.e_ret, DL.e_retN, DL.e_ifS, DL.e_asg, DL.e_par, DL.e_par2, DL.e_del, DL.e_gname, DL.e_gsub, DL.e_gtup, DL.e_gcons, DL.e_gnil, DL.e_var0, DL.e_varS, DL.e_con, DL.e_top2, DL.e_top1, DL.e_cb, DL.e_nil, DL.e_cons, DL.e_tup, DL.e_lst, DL.e_test, DL.e_testK, DL.e_tru, DL.e_truB, DL.e_truN, DL.e_truL, DL.e_and, DL.e_or, DL.e_not, DL.e_if, DL.e_andV, DL.e_andK, DL.e_orV, DL.e_orK, DL.e_notV, DL.e_notK, DL.e_add, DL.e_addS, DL.e_addT, DL.e_addL, DL.e_sub, DL.e_mul, DL.e_mulL, DL.e_mulT, DL.e_fdiv, DL.e_mod, DL.e_pow, DL.e_neg, DL.e_lt, DL.e_le, DL.e_gt, DL.e_ge, DL.e_eqI, DL.e_eqS, DL.e_neI, DL.e_neS, DL.e_isN, DL.e_isntN, DL.e_isB, DL.e_isntB, DL.e_atK, DL.e_ixT, DL.e_ixL, DL.e_ixK, DL.e_ixDT, DL.e_setK, DL.e_setDT, DL.e_setSome, DL.e_setL, DL.e_delK, DL.e_delT, DL.e_inT, DL.e_inK, DL.e_lenL, DL.e_lenT, DL.e_lenK, DL.e_lenDT, DL.e_lenS, DL.e_listL, DL.e_listO, DL.e_listT, DL.e_tupleL, DL.e_tupleT, DL.e_int, DL.e_lm0, DL.e_lm, DL.e_isL, DL.e_app, DL.e_pop, DL.e_popSome, DL.e_call, DL.e_newT, DL.e_newK, DL.e_disp, DL.e_prs0, DL.e_prsS, DL.f_for, DL.f_lc, DL.f_dc, DL.f_iseq, DL.f_seqT, DL.f_rng1, DL.f_rngK, DL.f_zip, DL.f_zipT, DL.f_yes, DL.f_par3, DL.f_par3K, DL.f_isi, DL.f_isiK, DL.f_fld, DL.f_mkE, DL.f_mk0, DL.f_slice, DL.f_nopart, DL.f_part, DL.f_partK, DL.f_slT, DL.f_lrg, DL.f_dispT, List.set_cons_zero, List.set_cons_succ, List.length_cons, List.length_nil, decide_eq_true_eq, Bool.not_eq_true, true_and, and_true, if_true, Bool.false_eq_true, if_false, Nat.reduceAdd, Nat.reduceLT, Nat.reduceLeDiff]
        rw [e_tupleL (bentAt J1.kx)]
        show spHangs K [.tup (bentL G x j)] M Qn _
        exact ⟨.tup (bentL G x j), bentL G x j, rfl, rfl, plain J1.kx, lB, fun rows hg _ => by (rw [bad] at hg; cases hg), fun y hy => by
          rw [bad] at hy
          cases hy
          exact hE⟩
      · have hf := kz xf (.lst [cellR s]) (fun f z => nomatch z) (fun q cs z => nomatch z) hf15
        show appR (.ref xf) [cellR s] M _
        rw [e_app hf]
        refine ⟨by show 1 < sizeLine; decide, hN2 _ _ ⟨rfl, ⟨fun b o n f t e => ?_, pen_put J1.pen nfp nfc, ?_⟩, put_same⟩⟩
        · rw [put_ne (fun (z : b = xf) => nfB o f t (by rw [← z]; exact e))]
          exact J1.kx b o n f t e
        · obtain ⟨cs, h⟩ := J1.tab
          exact ⟨cs, by rw [put_ne (Ne.symm nfT)]; exact h⟩
    rintro ρ M16 ⟨rfl, J16, hf16⟩
    -- found != [..] * 2
    refine seq_cut (fun ρ M' => ρ = [some (.ref a), some (.ref p), some (.int (d : Nat)), some (.ref xl), some (.ref xp), some pa, some (.int (j : Nat)), some (.ref pt), some (dueD G x j), some (.ref xf), some (.ref xb), some (rowD r), some x, x13, x14] ∧ Late p c ns (1000 * i + 304) T M14 M') (fun N2 hN2 => ?_) ?_
    · simp only [DL.e_next, DL.e_break, DL.e_cont, DL.e_drop, DL.e_ret, DL.e_retN, DL.e_ifS, DL.e_asg, DL.e_par, DL.e_par2, DL.e_del, DL.e_gname, DL.e_gsub, DL.e_gtup, DL.e_gcons, DL.e_gnil, DL.e_var0, DL.e_varS, DL.e_con, DL.e_top2, DL.e_top1, DL.e_cb, DL.e_nil, DL.e_cons, DL.e_tup, DL.e_lst, DL.e_test, DL.e_testK, DL.e_tru, DL.e_truB, DL.e_truN, DL.e_truL, DL.e_and, DL.e_or, DL.e_not, DL.e_if, DL.e_andV, DL.e_andK, DL.e_orV, DL.e_orK, DL.e_notV, DL.e_notK, DL.e_add, DL.e_addS, DL.e_addT, DL.e_addL, DL.e_sub, DL.e_mul, DL.e_mulL, DL.e_mulT, DL.e_fdiv, DL.e_mod, DL.e_pow, DL.e_neg, DL.e_lt, DL.e_le, DL.e_gt, DL.e_ge, DL.e_eqI, DL.e_eqS, DL.e_neI, DL.e_neS, DL.e_isN, DL.e_isntN, DL.e_isB, DL.e_isntB, DL.e_atK, DL.e_ixT, DL.e_ixL, DL.e_ixK, DL.e_ixDT, DL.e_setK, DL.e_setDT, DL.e_setSome, DL.e_setL, DL.e_delK, DL.e_delT, DL.e_inT, DL.e_inK, DL.e_lenL, DL.e_lenT, DL.e_lenK, DL.e_lenDT, DL.e_lenS, DL.e_listL, DL.e_listO, DL.e_listT, DL.e_tupleL, DL.e_tupleT, DL.e_int, DL.e_lm0, DL.e_lm, DL.e_isL, DL.e_app, DL.e_pop, DL.e_popSome, DL.e_call, DL.e_newT, DL.e_newK, DL.e_disp, DL.e_prs0, DL.e_prsS, DL.f_for, DL.f_lc, DL.f_dc, DL.f_iseq, DL.f_seqT, DL.f_rng1, DL.f_rngK, DL.f_zip, DL.f_zipT, DL.f_yes, DL.f_par3, DL.f_par3K, DL.f_isi, DL.f_isiK, DL.f_fld, DL.f_mkE, DL.f_mk0, DL.f_slice, DL.f_nopart, DL.f_part, DL.f_partK, DL.f_slT, DL.f_lrg, DL.f_dispT, List.set_cons_zero, List.set_cons_succ, List.length_cons, List.length_nil, decide_eq_true_eq, Bool.not_eq_true, true_and, and_true, if_true, Bool.false_eq_true, if_false, Nat.reduceAdd, Nat.reduceLT, Nat.reduceLeDiff]
      refine hs.2 M16 J16.kx _ ?_
      refine ⟨by decide, by decide, fun q1 h1 => ?_⟩
      show mulR (.ref q1) (.int 2) _ _
      rw [e_mulL put_same]
      refine ⟨⟨by decide, by decide, by show 1 * 2 ≤ sizeLine; decide⟩, fun q2 h2 => ?_⟩
      show neR (.ref xf) (.ref q2) _ _
      rw [neRR]
      have KK := (Keep.new (o := .lst [cellR s]) h1).trans (Keep.new (o := .lst (List.replicate (2 : Int).toNat [cellR s]).flatten) h2)
      refine La.refl_eq (La.cells (KK _ _ hf16) hs.1) (La.cells (s := s) put_same hs.1) (by decide) ?_
      rw [e_testK]
      exact hN2 _ _ ⟨rfl, J16.more KK⟩
    rintro ρ M17 ⟨rfl, J17⟩
    -- refused(beside(odd))
    refine seq_cut (fun ρ M' => ρ = [some (.ref a), some (.ref p), some (.int (d : Nat)), some (.ref xl), some (.ref xp), some pa, some (.int (j : Nat)), some (.ref pt), some (dueD G x j), some (.ref xf), some (.ref xb), some (rowD r), some x, x13, x14] ∧ Late p c ns (1000 * i + 304) T M14 M') (fun N2 hN2 => ?_) ?_
    · simp only [DL.e_next, DL.e_break, DL.e_cont, DL.e_drop, DL.e_ret, DL.e_retN, DL.e_ifS, DL.e_asg, DL.e_par, DL.e_par2, DL.e_del, DL.e_gname, DL.e_gsub, DL.e_gtup, DL.e_gcons, DL.e_gnil, DL.e_var0, DL.e_varS, DL.e_con, DL.e_top2, DL.e_top1, DL.e_cb, DL.e_nil, DL.e_cons, DL.e_tup, DL.e_lst, DL.e_test, DL.e_testK, DL.e_tru, DL.e_truB, DL.e_truN, DL.e_truL, DL.e_and, DL.e_or, DL.e_not, DL.e_if, DL.e_andV, DL.e_andK, DL.e_orV, DL.e_orK, DL.e_notV, DL.e_notK, DL.e_add, DL.e_addS, DL.e_addT, DL.e_addL, DL.e_sub, DL.e_mul, DL.e_mulL, DL.e_mulT, DL.e_fdiv, DL.e_mod, DL.e_pow, DL.e_neg, DL.e_lt, DL.e_le, DL.e_gt, DL.e_ge, DL.e_eqI, DL.e_eqS, DL.e_neI, DL.e_neS, DL.e_isN, DL.e_isntN, DL.e_isB, DL.e_isntB, DL.e_atK, DL.e_ixT, DL.e_ixL, DL.e_ixK, DL.e_ixDT, DL.e_setK, DL.e_setDT, DL.e_setSome, DL.e_setL, DL.e_delK, DL.e_delT, DL.e_inT, DL.e_inK, DL.e_lenL, DL.e_lenT, DL.e_lenK, DL.e_lenDT, DL.e_lenS, DL.e_listL, DL.e_listO, DL.e_listT, DL.e_tupleL, DL.e_tupleT, DL.e_int, DL.e_lm0, DL.e_lm, DL.e_isL, DL.e_app, DL.e_pop, DL.e_popSome, DL.e_call, DL.e_newT, DL.e_newK, DL.e_disp, DL.e_prs0, DL.e_prsS, DL.f_for, DL.f_lc, DL.f_dc, DL.f_iseq, DL.f_seqT, DL.f_rng1, DL.f_rngK, DL.f_zip, DL.f_zipT, DL.f_yes, DL.f_par3, DL.f_par3K, DL.f_isi, DL.f_isiK, DL.f_fld, DL.f_mkE, DL.f_mk0, DL.f_slice, DL.f_nopart, DL.f_part, DL.f_partK, DL.f_slT, DL.f_lrg, DL.f_dispT, List.set_cons_zero, List.set_cons_succ, List.length_cons, List.length_nil, decide_eq_true_eq, Bool.not_eq_true, true_and, and_true, if_true, Bool.false_eq_true, if_false, Nat.reduceAdd, Nat.reduceLT, Nat.reduceLeDiff]
      refine ⟨x, rfl, o13.plain _ J17.kx, o13.easy, ?_⟩
      show truR (.bl (isAny x)) _ _
      rw [e_truB]
      cases hx : isAny x with
      | true =>
        rw [if_neg (by simp)]
        exact hN2 _ _ ⟨rfl, J17⟩
      | false =>
        rw [if_pos (show ((!false) = true) from rfl)]
        refine lam_cell J17 hso (fun M E1 Qn J1 hE => ?_) fun M J1 _ => ?_
        · show spBeside K [x] M Qn _
          refine ⟨x, rfl, o13.plain _ J1.kx, fun xs e h0 h1 => ?_, fun _ => hE⟩
          rw [e, isAny_rowD h0 h1] at hx
          cases hx
        · refine hso.2 M J1.kx _ ?_
          refine ⟨by decide, ?_⟩
          show neR (.tup [.str "cell", .str so]) (.tup [.str "cell", .str so]) M _
          rw [neTT]
          show eqD (cellR so) (cellR so) M _
          refine La.refl_eq (La.cell hso.1) (La.cell hso.1) (by decide) ?_
          rw [e_testK]
          exact hN2 _ _ ⟨rfl, J1⟩
    rintro ρ M18 ⟨rfl, J18⟩
    -- wrong
    refine seq_cut (fun ρ M' => ∃ y sw, ρ = [some (.ref a), some (.ref p), some (.int (d : Nat)), some (.ref xl), some (.ref xp), some pa, some (.int (j : Nat)), some (.ref pt), some (dueD G x j), some (.ref xf), some (.ref xb), some (rowD r), some x, some y, x14] ∧ Late p c ns (1000 * i + 305) T M14 M' ∧ TxtX p M14 y sw ∧ (∀ M, (kindD M y).isSome = true) ∧ ∀ i : Int, y = .int i → i ≠ 2 ∧ i ≠ 3 ∧ i ≠ 4) (fun N2 hN2 => ?_) ?_
    · simp only [DL.e_next, DL.e_break, DL.e_cont, DL.e_drop, DL.e_ret, DL.e_retN, DL.e_ifS, DL.e_asg, DL.e_par, DL.e_par2, DL.e_del, DL.e_gname, DL.e_gsub, DL.e_gtup, DL.e_gcons, DL.e_gnil, DL.e_var0, DL.e_varS, DL.e_con, DL.e_top2, DL.e_top1, DL.e_cb, DL.e_nil, DL.e_cons, DL.e_tup, DL.e_lst, DL.e_test, DL.e_testK, DL.e_tru, DL.e_truB, DL.e_truN, DL.e_truL, DL.e_and, DL.e_or, DL.e_not, DL.e_if, DL.e_andV, DL.e_andK, DL.e_orV, DL.e_orK, DL.e_notV, DL.e_notK, DL.e_add, DL.e_addS, DL.e_addT, DL.e_addL, DL.e_sub, DL.e_mul, DL.e_mulL, DL.e_mulT, DL.e_fdiv, DL.e_mod, DL.e_pow, DL.e_neg, DL.e_lt, DL.e_le, DL.e_gt, DL.e_ge, DL.e_eqI, DL.e_eqS, DL.e_neI, DL.e_neS, DL.e_isN, DL.e_isntN, DL.e_isB, DL.e_isntB, DL.e_atK, DL.e_ixT, DL.e_ixL, DL.e_ixK, DL.e_ixDT, DL.e_setK, DL.e_setDT, DL.e_setSome, DL.e_setL, DL.e_delK, DL.e_delT, DL.e_inT, DL.e_inK, DL.e_lenL, DL.e_lenT, DL.e_lenK, DL.e_lenDT, DL.e_lenS, DL.e_listL, DL.e_listO, DL.e_listT, DL.e_tupleL, DL.e_tupleT, DL.e_int, DL.e_lm0, DL.e_lm, DL.e_isL, DL.e_app, DL.e_pop, DL.e_popSome, DL.e_call, DL.e_newT, DL.e_newK, DL.e_disp, DL.e_prs0, DL.e_prsS, DL.f_for, DL.f_lc, DL.f_dc, DL.f_iseq, DL.f_seqT, DL.f_rng1, DL.f_rngK, DL.f_zip, DL.f_zipT, DL.f_yes, DL.f_par3, DL.f_par3K, DL.f_isi, DL.f_isiK, DL.f_fld, DL.f_mkE, DL.f_mk0, DL.f_slice, DL.f_nopart, DL.f_part, DL.f_partK, DL.f_slT, DL.f_lrg, DL.f_dispT, List.set_cons_zero, List.set_cons_succ, List.length_cons, List.length_nil, decide_eq_true_eq, Bool.not_eq_true, true_and, and_true, if_true, Bool.false_eq_true, if_false, Nat.reduceAdd, Nat.reduceLT, Nat.reduceLeDiff]
      refine ⟨by decide, ⟨by decide, by decide, by decide⟩, by decide, fun pw hpw => ?_⟩
      have J18' := J18.more (Keep.new (o := .lst wrongs) hpw)
      refine pick_at J18'.pen (by omega) (put_same (o := .lst wrongs)) (by simp [wrongs]) (by decide) fun y M hy C P => ?_
      obtain ⟨⟨sw, h1⟩, h2, h3⟩ := wrong_ok (p := p) (MB := M14) hy
      obtain ⟨cs, h⟩ := J18'.tab
      exact hN2 _ _ ⟨y, sw, rfl, ⟨J18'.kx.trans C.kp.kx, P, cs, by rw [C T hTp]; exact h⟩, h1, h2, h3⟩
    rintro ρ M19 ⟨y, sw, rfl, J19, hsw, ky, hy⟩
    simp only [DL.e_next, DL.e_break, DL.e_cont, DL.e_drop, DL.e_ret, DL.e_retN, DL.e_ifS, DL.e_asg, DL.e_par, DL.e_par2, DL.e_del, DL.e_gname, DL.e_gsub, DL.e_gtup, DL.e_gcons, DL.e_gnil, DL.e_var0, DL.e_varS, DL.e_con, DL.e_top2, DL.e_top1, DL.e_cb, DL.e_nil, DL.e_cons, DL.e_tup, DL.e_lst, DL.e_test, DL.e_testK, DL.e_tru, DL.e_truB, DL.e_truN, DL.e_truL, DL.e_and, DL.e_or, DL.e_not, DL.e_if, DL.e_andV, DL.e_andK, DL.e_orV, DL.e_orK, DL.e_notV, DL.e_notK, DL.e_add, DL.e_addS, DL.e_addT, DL.e_addL, DL.e_sub, DL.e_mul, DL.e_mulL, DL.e_mulT, DL.e_fdiv, DL.e_mod, DL.e_pow, DL.e_neg, DL.e_lt, DL.e_le, DL.e_gt, DL.e_ge, DL.e_eqI, DL.e_eqS, DL.e_neI, DL.e_neS, DL.e_isN, DL.e_isntN, DL.e_isB, DL.e_isntB, DL.e_atK, DL.e_ixT, DL.e_ixL, DL.e_ixK, DL.e_ixDT, DL.e_setK, DL.e_setDT, DL.e_setSome, DL.e_setL, DL.e_delK, DL.e_delT, DL.e_inT, DL.e_inK, DL.e_lenL, DL.e_lenT, DL.e_lenK, DL.e_lenDT, DL.e_lenS, DL.e_listL, DL.e_listO, DL.e_listT, DL.e_tupleL, DL.e_tupleT, DL.e_int, DL.e_lm0, DL.e_lm, DL.e_isL, DL.e_app, DL.e_pop, DL.e_popSome, DL.e_call, DL.e_newT, DL.e_newK, DL.e_disp, DL.e_prs0, DL.e_prsS, DL.f_for, DL.f_lc, DL.f_dc, DL.f_iseq, DL.f_seqT, DL.f_rng1, DL.f_rngK, DL.f_zip, DL.f_zipT, DL.f_yes, DL.f_par3, DL.f_par3K, DL.f_isi, DL.f_isiK, DL.f_fld, DL.f_mkE, DL.f_mk0, DL.f_slice, DL.f_nopart, DL.f_part, DL.f_partK, DL.f_slT, DL.f_lrg, DL.f_dispT, List.set_cons_zero, List.set_cons_succ, List.length_cons, List.length_nil, decide_eq_true_eq, Bool.not_eq_true, true_and, and_true, if_true, Bool.false_eq_true, if_false, Nat.reduceAdd, Nat.reduceLT, Nat.reduceLeDiff]
    refine lam_num (w := "dimension") J19 hsw (fun M E1 Qn J1 hE => ?_) fun M J1 => ?_
    · show spCell K [rowD r, y] M Qn _
      exact ⟨rowD r, y, rfl, ky M, .inr ⟨hy, hE⟩⟩
    · refine hsw.2 M J1.kx _ ?_
      refine ⟨by decide, ?_⟩
      show neR (.tup [.str "number", .str "dimension", .str sw]) (.tup [.str "number", .str "dimension", .str sw]) M _
      rw [neTT]
      show eqD (numR "dimension" sw) (numR "dimension" sw) M _
      refine La.refl_eq (La.num hsw.1) (La.num hsw.1) (by decide) ?_
      rw [e_testK]
      exact ⟨_, _, _, _, _, _, _, _, _, _, _, _, _, rfl, J1.kx pd _ hdp (fun f z => nomatch z) (fun q cs z => nomatch z) hd13, pen_up J1.pen (by omega), J1.tab⟩
  · simp only [DL.e_next, DL.e_break, DL.e_cont, DL.e_drop, DL.e_ret, DL.e_retN, DL.e_ifS, DL.e_asg, DL.e_par, DL.e_par2, DL.e_del, DL.e_gname, DL.e_gsub, DL.e_gtup, DL.e_gcons, DL.e_gnil, DL.e_var0, DL.e_varS, DL.e_con, DL.e_top2, DL.e_top1, DL.e_cb, DL.e_nil, DL.e_cons, DL.e_tup, DL.e_lst, DL.e_test, DL.e_testK, DL.e_tru, DL.e_truB, DL.e_truN, DL.e_truL, DL.e_and, DL.e_or, DL.e_not, DL.e_if, DL.e_andV, DL.e_andK, DL.e_orV, DL.e_orK, DL.e_notV, DL.e_notK, DL.e_add, DL.e_addS, DL.e_addT, DL.e_addL, DL.e_sub, DL.e_mul, DL.e_mulL, DL.e_mulT, DL.e_fdiv, DL.e_mod, DL.e_pow, DL.e_neg, DL.e_lt, DL.e_le, DL.e_gt, DL.e_ge, DL.e_eqI, DL.e_eqS, DL.e_neI, DL.e_neS, DL.e_isN, DL.e_isntN, DL.e_isB, DL.e_isntB, DL.e_atK, DL.e_ixT, DL.e_ixL, DL.e_ixK, DL.e_ixDT, DL.e_setK, DL.e_setDT, DL.e_setSome, DL.e_setL, DL.e_delK, DL.e_delT, DL.e_inT, DL.e_inK, DL.e_lenL, DL.e_lenT, DL.e_lenK, DL.e_lenDT, DL.e_lenS, DL.e_listL, DL.e_listO, DL.e_listT, DL.e_tupleL, DL.e_tupleT, DL.e_int, DL.e_lm0, DL.e_lm, DL.e_isL, DL.e_app, DL.e_pop, DL.e_popSome, DL.e_call, DL.e_newT, DL.e_newK, DL.e_disp, DL.e_prs0, DL.e_prsS, DL.f_for, DL.f_lc, DL.f_dc, DL.f_iseq, DL.f_seqT, DL.f_rng1, DL.f_rngK, DL.f_zip, DL.f_zipT, DL.f_yes, DL.f_par3, DL.f_par3K, DL.f_isi, DL.f_isiK, DL.f_fld, DL.f_mkE, DL.f_mk0, DL.f_slice, DL.f_nopart, DL.f_part, DL.f_partK, DL.f_slT, DL.f_lrg, DL.f_dispT, List.set_cons_zero, List.set_cons_succ, List.length_cons, List.length_nil, decide_eq_true_eq, Bool.not_eq_true, true_and, and_true, if_true, Bool.false_eq_true, if_false, Nat.reduceAdd, Nat.reduceLT, Nat.reduceLeDiff]
    refine ⟨by decide, fun pe hpe => ?_⟩
    have p0 : parts (dedup []) = [] := by
      have e : srtR [] = [] := by simp [srtR]
      unfold parts
      rw [show dedup [] = [] from rfl, e]
      rfl
    refine ⟨.ref pe, [], rfl, rdL_lst put_same, by simp, by decide, fun rows _ er => ?_, fun y hy => by cases hy⟩
    have er : rows = [] := by
      cases rows with
      | nil => rfl
      | cons r rows => cases er
    subst er
    refine ⟨by decide, .tup [], [], rfl, rfl, by simp, by decide, fun rows _ er => ?_, fun y hy => by cases hy⟩
    have er : rows = [] := by
      cases rows with
      | nil => rfl
      | cons r rows => cases er
    subst er
    have pd0 : partsD (dedup []) = [] := by
      unfold partsD
      rw [p0]
      rfl
    have pb : decide ((parts (dedup [])).length = 1) = false := by
      rw [p0]
      rfl
    show _ ∧ reprR [.tup [.tup (partsD (dedup [])), .bl (decide ((parts (dedup [])).length = 1))]] _ _
    rw [pd0, pb]
    have sh : ∀ M, Sh M (.tup [.tup [], .bl false]) (.tuple [.tuple [], .bool false]) 2 200 := fun M => (Sh.tup (k := 1) (l := 60) (n := 2) (.cons ((Sh.tup (k := 0) (l := 0) (n := 0) .nil (by decide)).mono (by decide) (by decide)) (.cons (Sh.bl.mono (by decide) (by decide)) .nil)) (by decide)).mono (by decide) (by decide)
    refine ⟨by decide, (sh _).repr (by decide) (by decide) ?_⟩
    refine ⟨by decide, by decide, (sh _).repr (by decide) (by decide) ?_⟩
    rw [e_eqS, decide_eq_true rfl]
    exact Down.of (q _)
end
end Lw

end T_LWH

section T_K01E
set_option Elab.async false
set_option linter.all false
set_option maxRecDepth 100000
set_option maxHeartbeats 0
namespace Lw
open PySem PySem.Spec L2 DL
open PyProof.Rows hiding St
/-! ### the head: facts by names -/
def exTop : List (Str × Nat) := [("BadNumber", 2), ("BadCell", 3)]
def dE (x : Str) (i : Nat) : He.DefD := metDef x "__init__" (x ++ ".__init__") (methOf (top i) 0)
def fnI : List He.DefD := exTop.map fun p => dE p.1 p.2
def fnL : List He.DefD := [topDef "is_whole" (top 4), topDef "is_of" (top 7), topDef "is_cell" (top 8), topDef "is_any" (top 9), topDef "added" (top 10), topDef "around" (top 11), topDef "beside" (top 12), topDef "taken_part" (top 13), topDef "parts_in" (top 14), topDef "check_cells" (top 15), topDef "parts_of" (top 16), topDef "hangs" (top 17), topDef "_law_pen" (top 19), topDef "_law_draw" (top 20), topDef "_law_pick" (top 21), topDef "_law_around" (top 22), topDef "_law_plus" (top 23), topDef "_law_spread" (top 24), topDef "_law_dict" (top 25), topDef "_law_parts" (top 26), topDef "_law_grown" (top 27), topDef "_law_turned" (top 28), topDef "_law_odd" (top 29), topDef "_law_any" (top 30), topDef "_law_refused" (top 31), topDef "_law_lot" (top 32), topDef "law" (top 33)]
def fn : List He.DefD := fnL ++ fnI
def fa : List He.Fa := [.glo "is_whole", .glo "is_of", .glo "is_cell", .glo "is_any", .glo "added", .glo "around", .glo "beside", .glo "taken_part", .glo "parts_in", .glo "check_cells", .glo "parts_of", .glo "hangs", .glo "_law_pen", .glo "_law_draw", .glo "_law_pick", .glo "_law_around", .glo "_law_plus", .glo "_law_spread", .glo "_law_dict", .glo "_law_parts", .glo "_law_grown", .glo "_law_turned", .glo "_law_odd", .glo "_law_any", .glo "_law_refused", .glo "_law_lot", .glo "law", .glo "ClimbError", .glo "BadNumber", .glo "BadCell", .glo "STEPS", .free "len", .free "range", .free "list", .free "tuple", .free "int", .free "sum", .free "all", .free "any", .free "max", .free "min", .free "abs", .free "sorted", .free "zip", .free "enumerate", .free "isinstance", .free "repr", .free "dict", .free "set", .free "bool", .free "str", .free "ValueError"]
def oneB (K : PySem.W.Frag) (x : Str) : Bool := exKB K (He.ga K x) && oexB K (He.ga K x) && iniB K x
def noB (K : PySem.W.Frag) (x f : Str) : Bool := decide (PySem.W.findIn K (.ref (He.ga K x)) f = some none)
def exmB (K : PySem.W.Frag) (x y : Str) (b : Bool) : Bool := decide (PySem.W.exmOne K (.ref (He.ga K x)) (.ref (He.ga K y)) = some b)
def exB (K : PySem.W.Frag) : Bool := noLst K && (stepsB K && (oneB K "BadCell" && (oneB K "BadNumber" && (noB K "BadCell" "cell" && (noB K "BadNumber" "what" && (noB K "BadNumber" "number" && (exmB K "BadCell" "BadCell" true && (exmB K "BadNumber" "BadCell" false && exmB K "BadNumber" "BadNumber" true))))))))
abbrev Rw : PySem.W.OpenRow := PySem.W.OpenLaw.row PySem.Challenge.rw_climbabout_k01_cells
abbrev tf : List He.Defn := [("law", none)]
abbrev hkL : PySem.W.Hook := He.hookX 5 fa fn [] tf exB
def obL (s : PySem.W.SharedT) : He.AlX := He.obsX 5 fa fn [] tf exB (HandSHeadRun.getT s)
theorem obL_eq (s : PySem.W.SharedT) : obL s = hkL.obs s.abs := He.obsX_eq (HandSHeadRun.getT_eq s)
/-- the written negative numbers ask the row special-get-raises: both answers -/
theorem runF (w : World) : HandSHeadRun.RunEq Rw (PySem.W.view Rw.prog [33]) hkL obL 6000 ["__name__", "ClimbError", "BadNumber", "BadCell", "is_whole", "STEPS", "is_of", "is_cell", "is_any", "added", "around", "beside", "taken_part", "parts_in", "check_cells", "parts_of", "hangs", "_law_pen", "_law_draw", "_law_pick", "_law_around", "_law_plus", "_law_spread", "_law_dict", "_law_parts", "_law_grown", "_law_turned", "_law_odd", "_law_any", "_law_refused", "_law_lot"] (w.withFollow "special-get-raises" false) := by
  intro os
  kernel_rfl
theorem runT (w : World) : HandSHeadRun.RunEq Rw (PySem.W.view Rw.prog [33]) hkL obL 6000 ["__name__", "ClimbError", "BadNumber", "BadCell", "is_whole", "STEPS", "is_of", "is_cell", "is_any", "added", "around", "beside", "taken_part", "parts_in", "check_cells", "parts_of", "hangs", "_law_pen", "_law_draw", "_law_pick", "_law_around", "_law_plus", "_law_spread", "_law_dict", "_law_parts", "_law_grown", "_law_turned", "_law_odd", "_law_any", "_law_refused", "_law_lot"] (w.withFollow "special-get-raises" true) := by
  intro os
  kernel_rfl
theorem runL (w : World) : HandSHeadRun.RunEq Rw (PySem.W.view Rw.prog [33]) hkL obL 6000 ["__name__", "ClimbError", "BadNumber", "BadCell", "is_whole", "STEPS", "is_of", "is_cell", "is_any", "added", "around", "beside", "taken_part", "parts_in", "check_cells", "parts_of", "hangs", "_law_pen", "_law_draw", "_law_pick", "_law_around", "_law_plus", "_law_spread", "_law_dict", "_law_parts", "_law_grown", "_law_turned", "_law_odd", "_law_any", "_law_refused", "_law_lot"] w := PySem.W.byRow2 "special-get-raises" (P := fun w => HandSHeadRun.RunEq Rw (PySem.W.view Rw.prog [33]) hkL obL 6000 ["__name__", "ClimbError", "BadNumber", "BadCell", "is_whole", "STEPS", "is_of", "is_cell", "is_any", "added", "around", "beside", "taken_part", "parts_in", "check_cells", "parts_of", "hangs", "_law_pen", "_law_draw", "_law_pick", "_law_around", "_law_plus", "_law_spread", "_law_dict", "_law_parts", "_law_grown", "_law_turned", "_law_odd", "_law_any", "_law_refused", "_law_lot"] w) runF runT w
section
variable {P : Program} {w : World} {K : PySem.W.Frag} {mg : Str → Option Value} {base h : Heap}
theorem stands {x : Str} {st : Stmt} {ps : List Str} (F : ∃ fd, FunD K x x (defArgs st) (defBody st) (defScope st) [] [] (He.fAd K (x, none)) fd) (hm : mg x = some (.ref (He.ga K x)))
    (b : ∀ (kV doc pm : Value) (an : Option Addr) (cdv ct : Value) (us : List Value), us.length = ps.length → bindArgs (PySem.W.fnOf x x (defArgs st) (defBody st) (defScope st) .none kV doc pm an cdv ct) ⟨us, []⟩ = pure (ps.zip us)) : Stands K mg x st ps := by
  obtain ⟨fd, F⟩ := F
  exact ⟨_, fd, fun_of F, hm, F.bindsN b⟩
theorem free_of (X : K.In h) (G : h.Ns mainGlobals mg) (c : He.SaysD fa fn K) : Free mg := by
  have f : ∀ x : Str, (.free x : He.Fa) ∈ fa → mg x = none := fun x hx => He.free_ok X G (c.facts hx)
  constructor <;> (apply f; simp [fa])
theorem glo_of (X : K.In h) (G : h.Ns mainGlobals mg) (c : He.SaysD fa fn K) (x : Str) (hx : (.glo x : He.Fa) ∈ fa) : mg x = some (.ref (He.ga K x)) := He.glo_ok X G (c.facts hx)
theorem noB_ok {x f : Str} (h : noB K x f = true) : PySem.W.findIn K (.ref (He.ga K x)) f = some none := of_decide_eq_true h
theorem exmB_ok {x y : Str} {b : Bool} (h : exmB K x y b = true) : PySem.W.exmOne K (.ref (He.ga K x)) (.ref (He.ga K y)) = some b := of_decide_eq_true h
theorem oneB_ok {x : Str} (h : oneB K x = true) : ExK K (He.ga K x) ∧ OexC K (He.ga K x) ∧ PySem.W.findIn K (.ref (He.ga K x)) "__init__" = some (some (.ref (He.fAd K (x, some "__init__")))) ∧ PySem.W.typeIn K (.ref (He.fAd K (x, some "__init__"))) = some (.type "function") := by
  unfold oneB at h
  obtain ⟨h1, h2⟩ := He.ba h
  obtain ⟨h0, h1⟩ := He.ba h1
  unfold iniB at h2
  simp only [Bool.and_eq_true, decide_eq_true_eq] at h2
  exact ⟨exKB_ok h0, oexB_ok h1, h2⟩
end
theorem atL {w : World} {mg : Str → Option Value} {f : Addr} {h : Heap} (Y : ∃ K : PySem.W.Frag, K.In h ∧ He.SaysX fa fn [] tf exB w h K) (G : h.Ns mainGlobals mg) (hmg : mg ("law" : Str) = some (.ref f)) : LawAtQ PySem.Challenge.rw_climbabout_k01_cells w 13 63 "script" mg f h := by
  obtain ⟨K, X, y⟩ := Y
  have c : He.SaysD fa fn K := y.t.d
  have m : exB K = true := y.more
  unfold exB at m
  obtain ⟨nl, m⟩ := He.ba m
  obtain ⟨ST, m⟩ := He.ba m
  obtain ⟨mC, m⟩ := He.ba m
  obtain ⟨mN, m⟩ := He.ba m
  obtain ⟨m1, m⟩ := He.ba m
  obtain ⟨m2, m⟩ := He.ba m
  obtain ⟨m3, m⟩ := He.ba m
  obtain ⟨m4, m⟩ := He.ba m
  obtain ⟨m5, m6⟩ := He.ba m
  have g : ∀ x : Str, (.glo x : He.Fa) ∈ fa → mg x = some (.ref (He.ga K x)) := fun x hx => glo_of X G c x hx
  have e := hmg.symm.trans (g "law" (by simp [fa]))
  cases e
  obtain ⟨fd, F⟩ : ∃ fd, FunD K "law" "law" (defArgs s_law) (defBody s_law) (defScope s_law) [] [] (He.fAd K ("law", none)) fd := c.def_ 26 (d := topDef "law" (top 33)) rfl
  have b := FunD.bindsA (ps := ["script"]) F fun _ _ _ _ _ _ us hl => match us, hl with | [_], _ => rfl
  refine ⟨K, fd, [He.cT K ("law", none)], lowSp K (spLaw (He.cT K ("law", none)).2), X, fun p hp => ?_, fun p hp => ?_, fun p hp => ?_, fun s u => b s [u] rfl, fun H a ns hl _ hT hS => lowLawT (q := QN) nl hS (hT _ (List.mem_singleton.mpr rfl)) fun M _ hM hM2 => ⟨a, ns, rfl, hM, by omega, hM2, fun _ => rfl⟩, fun base X0 G0 TB => ?_⟩
  · rw [List.mem_singleton] at hp
    subst hp
    exact y.empty _ (List.mem_singleton.mpr rfl)
  · rw [List.mem_singleton] at hp
    subst hp
    exact y.out _ (List.mem_singleton.mpr rfl)
  · rw [List.mem_singleton] at hp
    subst hp
    exact PySem.W.codeHd_of_K X (y.hd _ (List.mem_singleton.mpr rfl))
  have Z : Free mg := free_of X G c
  obtain ⟨eC, T_BadCell, zi_BadCell⟩ := oneB_ok mC
  obtain ⟨eN, T_BadNumber, zi_BadNumber⟩ := oneB_ok mN
  have na_BadCell_cell := noB_ok m1
  have na_BadNumber_what := noB_ok m2
  have na_BadNumber_number := noB_ok m3
  have Tx : Exf K := ⟨eC, eN, na_BadCell_cell, na_BadNumber_what, na_BadNumber_number, exmB_ok m4, exmB_ok m5, exmB_ok m6⟩
  have I_BadCell : ExI PySem.Challenge.rw_climbabout_k01_cells.prog w K base 1 (He.ga K "BadCell") ["cell"] := by
    obtain ⟨fd, F⟩ : ∃ fd, FunD K "__init__" ("BadCell" ++ ".__init__") (defArgs (methOf (top 3) 0)) (defBody (methOf (top 3) 0)) (defScope (methOf (top 3) 0)) [] [] (He.fAd K ("BadCell", some "__init__")) fd := c.def_ 28 (d := dE "BadCell" 3) rfl
    exact ⟨_, fd, ["self", "cell"], T_BadCell, zi_BadCell.1, zi_BadCell.2, F.bindsN (fun _ _ _ _ _ _ us hl => by match us, hl with | [x0, x1], _ => rfl), by decide, fun mg' => ini1 (fun_of F) ⟨rfl, rfl, rfl, by decide +kernel, rfl, by decide +kernel, by decide +kernel⟩ rfl T_BadCell (na_BadCell_cell) (by decide) (by decide) (by decide +kernel) (by decide +kernel)⟩
  have I_BadNumber : ExI PySem.Challenge.rw_climbabout_k01_cells.prog w K base 1 (He.ga K "BadNumber") ["what", "number"] := by
    obtain ⟨fd, F⟩ : ∃ fd, FunD K "__init__" ("BadNumber" ++ ".__init__") (defArgs (methOf (top 2) 0)) (defBody (methOf (top 2) 0)) (defScope (methOf (top 2) 0)) [] [] (He.fAd K ("BadNumber", some "__init__")) fd := c.def_ 27 (d := dE "BadNumber" 2) rfl
    exact ⟨_, fd, ["self", "what", "number"], T_BadNumber, zi_BadNumber.1, zi_BadNumber.2, F.bindsN (fun _ _ _ _ _ _ us hl => by match us, hl with | [x0, x1, x2], _ => rfl), by decide, fun mg' => ini2 (fun_of F) ⟨rfl, rfl, rfl, by decide +kernel, rfl, by decide +kernel, by decide +kernel⟩ rfl T_BadNumber (na_BadNumber_what) (by decide) (by decide) (by decide +kernel) (by decide +kernel) (na_BadNumber_number) (by decide) (by decide) (by decide +kernel)⟩
  have G_BadCell := g "BadCell" (by simp [fa])
  have G_BadNumber := g "BadNumber" (by simp [fa])
  have G_STEPS := g "STEPS" (by simp [fa])
  have c1 := ok_whole (P := PySem.Challenge.rw_climbabout_k01_cells.prog) (w := w) (base := base) Z (stands (c.def_ 0 (d := topDef "is_whole" (top 4)) rfl) (g _ (by simp [fa])) (fun _ _ _ _ _ _ us hl => by match us, hl with | [x0], _ => rfl))
  have c2 := ok_of (P := PySem.Challenge.rw_climbabout_k01_cells.prog) (w := w) (base := base) Z (stands (c.def_ 1 (d := topDef "is_of" (top 7)) rfl) (g _ (by simp [fa])) (fun _ _ _ _ _ _ us hl => by match us, hl with | [x0, x1], _ => rfl)) c1
  have c3 := ok_any (P := PySem.Challenge.rw_climbabout_k01_cells.prog) (w := w) (base := base) Z (stands (c.def_ 3 (d := topDef "is_any" (top 9)) rfl) (g _ (by simp [fa])) (fun _ _ _ _ _ _ us hl => by match us, hl with | [x0], _ => rfl)) c2
  have c4 := ok_added (P := PySem.Challenge.rw_climbabout_k01_cells.prog) (w := w) (base := base) Z (stands (c.def_ 4 (d := topDef "added" (top 10)) rfl) (g _ (by simp [fa])) (fun _ _ _ _ _ _ us hl => by match us, hl with | [x0, x1], _ => rfl))
  have c5 := ok_around (P := PySem.Challenge.rw_climbabout_k01_cells.prog) (w := w) (base := base) Z (stands (c.def_ 5 (d := topDef "around" (top 11)) rfl) (g _ (by simp [fa])) (fun _ _ _ _ _ _ us hl => by match us, hl with | [x0], _ => rfl)) ST G_STEPS c4
  have c6 := ok_beside (P := PySem.Challenge.rw_climbabout_k01_cells.prog) (w := w) (base := base) Z (stands (c.def_ 6 (d := topDef "beside" (top 12)) rfl) (g _ (by simp [fa])) (fun _ _ _ _ _ _ us hl => by match us, hl with | [x0], _ => rfl)) I_BadCell G_BadCell c3 c5
  have c7 := ok_cell (P := PySem.Challenge.rw_climbabout_k01_cells.prog) (w := w) (base := base) Z (stands (c.def_ 2 (d := topDef "is_cell" (top 8)) rfl) (g _ (by simp [fa])) (fun _ _ _ _ _ _ us hl => by match us, hl with | [x0, x1], _ => rfl)) I_BadNumber G_BadNumber c1 c2
  have c8 := ok_check (P := PySem.Challenge.rw_climbabout_k01_cells.prog) (w := w) (base := base) Z (stands (c.def_ 9 (d := topDef "check_cells" (top 15)) rfl) (g _ (by simp [fa])) (fun _ _ _ _ _ _ us hl => by match us, hl with | [x0], _ => rfl)) I_BadCell G_BadCell c3
  have c9 := ok_taken (P := PySem.Challenge.rw_climbabout_k01_cells.prog) (w := w) (base := base) Z (stands (c.def_ 7 (d := topDef "taken_part" (top 13)) rfl) (g _ (by simp [fa])) (fun _ _ _ _ _ _ us hl => by match us, hl with | [x0, x1], _ => rfl)) c5
  have c10 := ok_parts_in (P := PySem.Challenge.rw_climbabout_k01_cells.prog) (w := w) (base := base) Z (stands (c.def_ 8 (d := topDef "parts_in" (top 14)) rfl) (g _ (by simp [fa])) (fun _ _ _ _ _ _ us hl => by match us, hl with | [x0], _ => rfl)) c9
  have c11 := ok_parts_of (P := PySem.Challenge.rw_climbabout_k01_cells.prog) (w := w) (base := base) Z (stands (c.def_ 10 (d := topDef "parts_of" (top 16)) rfl) (g _ (by simp [fa])) (fun _ _ _ _ _ _ us hl => by match us, hl with | [x0], _ => rfl)) c8 c10
  have c12 := ok_hangs (P := PySem.Challenge.rw_climbabout_k01_cells.prog) (w := w) (base := base) Z (stands (c.def_ 11 (d := topDef "hangs" (top 17)) rfl) (g _ (by simp [fa])) (fun _ _ _ _ _ _ us hl => by match us, hl with | [x0], _ => rfl)) c11
  have p1 := ok_pen (P := PySem.Challenge.rw_climbabout_k01_cells.prog) (w := w) (base := base) Z (stands (c.def_ 12 (d := topDef "_law_pen" (top 19)) rfl) (g _ (by simp [fa])) (fun _ _ _ _ _ _ us hl => by match us, hl with | [x0], _ => rfl))
  have p2 := ok_draw (P := PySem.Challenge.rw_climbabout_k01_cells.prog) (w := w) (base := base) Z (stands (c.def_ 13 (d := topDef "_law_draw" (top 20)) rfl) (g _ (by simp [fa])) (fun _ _ _ _ _ _ us hl => by match us, hl with | [x0, x1], _ => rfl))
  have p3 := ok_pick (P := PySem.Challenge.rw_climbabout_k01_cells.prog) (w := w) (base := base) Z (stands (c.def_ 14 (d := topDef "_law_pick" (top 21)) rfl) (g _ (by simp [fa])) (fun _ _ _ _ _ _ us hl => by match us, hl with | [x0, x1], _ => rfl)) p2
  have p4 := ok_law_around (P := PySem.Challenge.rw_climbabout_k01_cells.prog) (w := w) (base := base) Z (stands (c.def_ 15 (d := topDef "_law_around" (top 22)) rfl) (g _ (by simp [fa])) (fun _ _ _ _ _ _ us hl => by match us, hl with | [x0], _ => rfl))
  have p5 := ok_law_plus (P := PySem.Challenge.rw_climbabout_k01_cells.prog) (w := w) (base := base) Z (stands (c.def_ 16 (d := topDef "_law_plus" (top 23)) rfl) (g _ (by simp [fa])) (fun _ _ _ _ _ _ us hl => by match us, hl with | [x0, x1], _ => rfl))
  have p6 := ok_law_spread (P := PySem.Challenge.rw_climbabout_k01_cells.prog) (w := w) (base := base) Z (stands (c.def_ 17 (d := topDef "_law_spread" (top 24)) rfl) (g _ (by simp [fa])) (fun _ _ _ _ _ _ us hl => by match us, hl with | [x0, x1], _ => rfl)) p4
  have p7 := ok_law_dict (P := PySem.Challenge.rw_climbabout_k01_cells.prog) (w := w) (base := base) Z (stands (c.def_ 18 (d := topDef "_law_dict" (top 25)) rfl) (g _ (by simp [fa])) (fun _ _ _ _ _ _ us hl => by match us, hl with | [x0], _ => rfl))
  have p8 := ok_law_parts (P := PySem.Challenge.rw_climbabout_k01_cells.prog) (w := w) (base := base) Z (stands (c.def_ 19 (d := topDef "_law_parts" (top 26)) rfl) (g _ (by simp [fa])) (fun _ _ _ _ _ _ us hl => by match us, hl with | [x0], _ => rfl)) p7 p6
  have p9 := ok_law_grown (P := PySem.Challenge.rw_climbabout_k01_cells.prog) (w := w) (base := base) Z (stands (c.def_ 20 (d := topDef "_law_grown" (top 27)) rfl) (g _ (by simp [fa])) (fun _ _ _ _ _ _ us hl => by match us, hl with | [x0, x1, x2], _ => rfl)) p3 p4
  have p10 := ok_law_turned (P := PySem.Challenge.rw_climbabout_k01_cells.prog) (w := w) (base := base) Z (stands (c.def_ 21 (d := topDef "_law_turned" (top 28)) rfl) (g _ (by simp [fa])) (fun _ _ _ _ _ _ us hl => by match us, hl with | [x0, x1], _ => rfl)) p2 p3
  have p11 := ok_law_odd (P := PySem.Challenge.rw_climbabout_k01_cells.prog) (w := w) (base := base) Z (stands (c.def_ 22 (d := topDef "_law_odd" (top 29)) rfl) (g _ (by simp [fa])) (fun _ _ _ _ _ _ us hl => by match us, hl with | [x0, x1], _ => rfl)) p3
  have p12 := ok_law_any (P := PySem.Challenge.rw_climbabout_k01_cells.prog) (w := w) (base := base) Z (stands (c.def_ 23 (d := topDef "_law_any" (top 30)) rfl) (g _ (by simp [fa])) (fun _ _ _ _ _ _ us hl => by match us, hl with | [x0], _ => rfl))
  have p13 := ok_law_lot (P := PySem.Challenge.rw_climbabout_k01_cells.prog) (w := w) (base := base) Z (stands (c.def_ 25 (d := topDef "_law_lot" (top 32)) rfl) (g _ (by simp [fa])) (fun _ _ _ _ _ _ us hl => by match us, hl with | [x0, x1], _ => rfl)) p2 p3 p9 p5 p10
  have SR : Stands K mg "_law_refused" s_law_refused ["call"] := (stands (c.def_ 24 (d := topDef "_law_refused" (top 31)) rfl) (g _ (by simp [fa])) (fun _ _ _ _ _ _ us hl => by match us, hl with | [x0], _ => rfl))
  obtain ⟨gr, fdr, Fr, hmr, hbr⟩ := SR
  exact ok_law Z (fun_of F) (TB _ (List.mem_singleton.mpr rfl)) (fun cdv hC => codeAt_ref (p := ("law", none)) hC) Tx G_BadCell G_BadNumber ⟨fdr, Fr, hbr⟩ hmr p1 p2 p3 p13 c6 p4 p8 c11 c12 p11 c7 p12
end Lw
open PySem PySem.W PySem.Calls PyProof.Rows
theorem PySem.Challenge.cw_climbabout_k01_cells_holds : PySem.Challenge.rw_climbabout_k01_cells.Holds := by
  w_on; o_law
  refine HandSHeadRun.head_any (r := Lw.Rw) (q := view Lw.Rw.prog [33]) (H := Lw.hkL) (ob := Lw.obL) (M := 6000) (loose := ["__name__", "ClimbError", "BadNumber", "BadCell", "is_whole", "STEPS", "is_of", "is_cell", "is_any", "added", "around", "beside", "taken_part", "parts_in", "check_cells", "parts_of", "hangs", "_law_pen", "_law_draw", "_law_pick", "_law_around", "_law_plus", "_law_spread", "_law_dict", "_law_parts", "_law_grown", "_law_turned", "_law_odd", "_law_any", "_law_refused", "_law_lot"]) (d := HandSHeadRun.topDef Lw.Rw.prog 33) (kwd := []) Lw.obL_eq
    (by kernel_rfl) (fun s => by kernel_rfl) Lw.runL (by kernel_rfl) (by kernel_rfl) (by kernel_rfl) (by rfl) (by first | assumption | decide +kernel) (by decide +kernel) ⟨rfl, rfl, rfl, rfl, rfl, by decide +kernel⟩ ?hw ?hc
  case hw => w_witness2
  case hc =>
    refine DL.walk_Q (l := PySem.Challenge.rw_climbabout_k01_cells) (n := 63) (k := 13) (x := "script") rfl (by decide) (by kernel_rfl) ⟨rfl, by decide, by decide⟩ ?F
    intro w mg fa h Y G hmg0
    have hmg : mg ("law" : PySem.Str) = some (.ref fa) := by
      have e : (HandSHeadRun.topDef Lw.Rw.prog 33).name = ("law" : PySem.Str) := by kernel_rfl
      rw [← e]
      exact hmg0
    exact Lw.atL Y G hmg

end T_K01E
