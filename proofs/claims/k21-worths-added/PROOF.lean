import PyProof.Rows.All
import HandS.ForMost
import HandS.Exc
import HandS.Wide
import HandS.TupAny
import HandS.TupMul
import HandS.Flow
import KE.DataEq
import KE.DataCmp
import HandS.Comp
import HandS.ExcOwn
import HandS.CallSlots
import HandS.Words
import HandS.WordsExc
import HandS.Ends
import HandS.IsInst
import HandS.Zip
import HandS.Text
import KE.GoesEnum
import KE.GoesMore
import HandS.Iter
import KE.SortData
import HandS.Star
import HandS.Defaults
import PyProof.ReprLen
import HandS.Style
import HandS.SetFor
import HandS.Strs
import PySem.Challenge.RW_bothvanish_k21_whole_worths_added
import Wide.All
import OpenK.AllK
import Wide.FinOn
set_option Elab.async false
set_option linter.all false
set_option maxRecDepth 100000
set_option autoImplicit false
/-! FLa: values without a heap (tuples whole), the store, and how they stand in the hand layer's heap. -/
namespace FL
open PySem PySem.Spec L2

inductive PV where
  | non | bl (b : Bool) | int (i : Int) | str (x : Str) | tup (xs : List PV) | kl (xs : List PV) | ref (n : Nat) | glb (x : Str) | ty (n : String)
  | fl (xs : List PV) | obj (C : Str) (ns : List Str) (vs : List PV) | dct (ks vs : List PV)
inductive LO where
  | lst (xs : List PV)
  | dic (kvs : List (PV × PV))
  | ins (C : Str) (fs : List (Str × PV))
abbrev Sto := List LO
abbrev En := List (Option PV)
inductive Res (α : Type) where
  | ok (a : α) (S : Sto)
  | exc (C : Str) (fs : List (Str × PV)) (S : Sto)
  | stk
def Res.bind {α β : Type} (r : Res α) (f : α → Sto → Res β) : Res β := match r with
  | .ok a S => f a S
  | .exc C fs S => .exc C fs S
  | .stk => .stk
def Out {α : Type} (r : Res α) (k : α → Sto → Prop) (e : Str → List (Str × PV) → Sto → Prop) : Prop := match r with
  | .ok a S => k a S
  | .exc C fs S => e C fs S
  | .stk => False
theorem Out.bind {α β : Type} {r : Res α} {f : α → Sto → Res β} {k : β → Sto → Prop} {e : Str → List (Str × PV) → Sto → Prop} (h : Out (r.bind f) k e) : Out r (fun a S => Out (f a S) k e) e := by
  cases r with
  | ok a S => exact h
  | exc C fs S => exact h
  | stk => exact h
theorem Out.mono {α : Type} {r : Res α} {k k' : α → Sto → Prop} {e e' : Str → List (Str × PV) → Sto → Prop} (h : Out r k e) (hk : ∀ a S, k a S → k' a S) (he : ∀ C fs S, e C fs S → e' C fs S) : Out r k' e' := by
  cases r with
  | ok a S => exact hk _ _ h
  | exc C fs S => exact he _ _ _ h
  | stk => exact h

/-- a list that stands still: the script, a list of the written part, or one that the store does not name -/
def SqK (K : PySem.W.Frag) (H : Hp) (a : Addr) (xs : List V) : Prop :=
  (∃ o, H a = some (.frz o (.lst xs))) ∨ ∃ (o : Obj) (its : Array Value) (n : Nat), K.lookup a = some o ∧ o.cls = .type "list" ∧ o.dict = none ∧ o.data = .seq its n ∧ its.size ≤ sizeLine ∧ Vals xs its.toList
theorem SqK.sq {K : PySem.W.Frag} {H : Hp} {a : Addr} {xs : List V} (h : SqK K H a xs) : SqL K H a xs := by
  rcases h with ⟨o, h⟩ | h
  · exact .inl (.inr ⟨o, h⟩)
  · exact .inr h
def keyOf : PV → Option Key
  | .int i => some (.inl i)
  | .str x => some (.inr x)
  | _ => none
def keysOf : PV → Option (List Key)
  | .tup xs => xs.mapM keyOf
  | _ => none
section
variable (K : PySem.W.Frag) (mg : Str → Option Value)
mutual
inductive VR (μ : List Addr) (H : Hp) : PV → V → Prop
  | non : VR μ H .non .non
  | bl (b : Bool) : VR μ H (.bl b) (.bl b)
  | int (i : Int) : VR μ H (.int i) (.int i)
  | str (x : Str) : VR μ H (.str x) (.str x)
  | ty (n : String) : VR μ H (.ty n) (.ty n)
  | tup {a : Addr} {xs : List PV} {vs : List V} : SqT K H a vs → VRs μ H xs vs → VR μ H (.tup xs) (.ref a)
  | kl {a : Addr} {xs : List PV} {vs : List V} : SqK K H a vs → VRs μ H xs vs → VR μ H (.kl xs) (.ref a)
  | ref {n : Nat} {a : Addr} : μ[n]? = some a → VR μ H (.ref n) (.ref a)
  | glb {x : Str} {a : Addr} : mg x = some (.ref a) → VR μ H (.glb x) (.ref a)
  | fl {a : Addr} {xs : List PV} {vs : List V} : H a = some (.lst vs) → a ∉ μ → VRs μ H xs vs → VR μ H (.fl xs) (.ref a)
  | obj {a c dx : Addr} {C : Str} {ns : List Str} {vs : List PV} {gs : List (Str × V)} : mg C = some (.ref c) → H a = some (.ins c dx gs) → a ∉ μ → gs.map (·.1) = ns → VRs μ H vs (gs.map (·.2)) → VR μ H (.obj C ns vs) (.ref a)
  | dctK {a : Addr} {ks vs : List PV} {es : List (Key × V)} : H a = some (.dK es) → a ∉ μ → ks.map keyOf = es.map (fun e => some e.1) → VRs μ H vs (es.map (·.2)) → VR μ H (.dct ks vs) (.ref a)
  | dctT {a : Addr} {ks vs : List PV} {es : List (List Key × V)} : H a = some (.dT es) → a ∉ μ → ks.map keysOf = es.map (fun e => some e.1) → VRs μ H vs (es.map (·.2)) → VR μ H (.dct ks vs) (.ref a)
inductive VRs (μ : List Addr) (H : Hp) : List PV → List V → Prop
  | nil : VRs μ H [] []
  | cons {x : PV} {xs : List PV} {v : V} {vs : List V} : VR μ H x v → VRs μ H xs vs → VRs μ H (x :: xs) (v :: vs)
end
/-- attributes by name, in order -/
inductive FRs (μ : List Addr) (H : Hp) : List (Str × PV) → List (Str × V) → Prop
  | nil : FRs μ H [] []
  | cons {f : Str} {x : PV} {v : V} {fs : List (Str × PV)} {gs : List (Str × V)} : VR K mg μ H x v → FRs μ H fs gs → FRs μ H ((f, x) :: fs) ((f, v) :: gs)
inductive KRs (μ : List Addr) (H : Hp) : List (PV × PV) → List (Key × V) → Prop
  | nil : KRs μ H [] []
  | cons {q x : PV} {k : Key} {v : V} {fs : List (PV × PV)} {gs : List (Key × V)} : keyOf q = some k → VR K mg μ H x v → KRs μ H fs gs → KRs μ H ((q, x) :: fs) ((k, v) :: gs)
inductive TRs (μ : List Addr) (H : Hp) : List (PV × PV) → List (List Key × V) → Prop
  | nil : TRs μ H [] []
  | cons {q x : PV} {k : List Key} {v : V} {fs : List (PV × PV)} {gs : List (List Key × V)} : keysOf q = some k → VR K mg μ H x v → TRs μ H fs gs → TRs μ H ((q, x) :: fs) ((k, v) :: gs)
inductive OR (μ : List Addr) (H : Hp) : LO → Addr → Prop
  | lst {a : Addr} {xs : List PV} {vs : List V} : H a = some (.lst vs) → VRs K mg μ H xs vs → OR μ H (.lst xs) a
  | dicK {a : Addr} {kvs : List (PV × PV)} {ks : List (Key × V)} : H a = some (.dK ks) → KRs K mg μ H kvs ks → OR μ H (.dic kvs) a
  | dicT {a : Addr} {kvs : List (PV × PV)} {ks : List (List Key × V)} : H a = some (.dT ks) → TRs K mg μ H kvs ks → OR μ H (.dic kvs) a
  | ins {a c dx : Addr} {C : Str} {fs : List (Str × PV)} {gs : List (Str × V)} : mg C = some (.ref c) → H a = some (.ins c dx gs) → FRs K mg μ H fs gs → OR μ H (.ins C fs) a
structure SR (μ : List Addr) (S : Sto) (H : Hp) : Prop where
  len : μ.length = S.length
  nd : μ.Nodup
  at_ : ∀ (n : Nat) (a : Addr) (o : LO), μ[n]? = some a → S[n]? = some o → OR K mg μ H o a
def ER (μ : List Addr) (H : Hp) (ρ : En) (σ : St) : Prop := ρ.length = σ.length ∧ ∀ (i : Nat) (x : PV), ρ[i]? = some (some x) → ∃ v, σ[i]? = some (some v) ∧ VR K mg μ H x v
/-- how an exception stands -/
def XR (μ : List Addr) (H : Hp) (C : Str) (fs : List (Str × PV)) (cls : Value) (d : Option Addr) : Prop :=
  mg C = some cls ∧ ((d = none ∧ fs = []) ∨ ∃ dx gs, d = some dx ∧ H dx = some (.xd gs) ∧ FRs K mg μ H fs gs)
end
/-- one step: the store's own objects, and new ones, alone have changed -/
structure Stp (μ : List Addr) (H : Hp) (μ' : List Addr) (H' : Hp) : Prop where
  pre : μ <+: μ'
  new : ∀ a ∈ μ', a ∈ μ ∨ H a = none
  keep : ∀ a o, H a = some o → a ∉ μ → H' a = some o

section
variable {K : PySem.W.Frag} {mg : Str → Option Value} {μ μ' μ1 μ2 : List Addr} {S S' : Sto} {H H' H1 H2 : Hp}
theorem Stp.refl : Stp μ H μ H := ⟨List.prefix_refl _, fun _ h => .inl h, fun _ _ h _ => h⟩
theorem Stp.trans (a : Stp μ H μ1 H1) (b : Stp μ1 H1 μ2 H2) : Stp μ H μ2 H2 := by
  refine ⟨a.pre.trans b.pre, fun x hx => ?_, fun x o e n => ?_⟩
  · rcases b.new x hx with h | h
    · exact a.new x h
    · by_cases hm : x ∈ μ
      · exact .inl hm
      · right
        cases q : H x with
        | none => rfl
        | some o => rw [a.keep x o q hm] at h; cases h
  · refine b.keep x o (a.keep x o e n) fun hm => ?_
    rcases a.new x hm with h | h
    · exact n h
    · rw [e] at h; cases h
theorem SR.of_mem (r : SR K mg μ S H) {a : Addr} (h : a ∈ μ) : ∃ (n : Nat) (o : LO), μ[n]? = some a ∧ S[n]? = some o ∧ OR K mg μ H o a := by
  obtain ⟨n, hn, e⟩ := List.getElem_of_mem h
  have e1 : μ[n]? = some a := by rw [List.getElem?_eq_getElem hn, e]
  have hn2 : n < S.length := by rw [← r.len]; exact hn
  exact ⟨n, S[n], e1, List.getElem?_eq_getElem hn2, r.at_ n a _ e1 (List.getElem?_eq_getElem hn2)⟩
theorem OR.not_tup {a : Addr} {o : LO} {xs : List V} (h : OR K mg μ H o a) (e : H a = some (.tup xs)) : False := by
  cases h with
  | lst h _ => rw [e] at h; cases h
  | dicK h _ => rw [e] at h; cases h
  | dicT h _ => rw [e] at h; cases h
  | ins _ h _ => rw [e] at h; cases h
theorem OR.not_flst {a : Addr} {o : LO} {ob : Obj} {xs : List V} (h : OR K mg μ H o a) (e : H a = some (.frz ob (.lst xs))) : False := by
  cases h with
  | lst h _ => rw [e] at h; cases h
  | dicK h _ => rw [e] at h; cases h
  | dicT h _ => rw [e] at h; cases h
  | ins _ h _ => rw [e] at h; cases h
theorem OR.not_ftup {a : Addr} {o : LO} {ob : Obj} {xs : List V} (h : OR K mg μ H o a) (e : H a = some (.frz ob (.tup xs))) : False := by
  cases h with
  | lst h _ => rw [e] at h; cases h
  | dicK h _ => rw [e] at h; cases h
  | dicT h _ => rw [e] at h; cases h
  | ins _ h _ => rw [e] at h; cases h
theorem OR.not_xd {a : Addr} {o : LO} {fs : List (Str × V)} (h : OR K mg μ H o a) (e : H a = some (.xd fs)) : False := by
  cases h with
  | lst h _ => rw [e] at h; cases h
  | dicK h _ => rw [e] at h; cases h
  | dicT h _ => rw [e] at h; cases h
  | ins _ h _ => rw [e] at h; cases h
theorem OR.some {a : Addr} {o : LO} (h : OR K mg μ H o a) : ∃ u, H a = some u := by
  cases h with
  | lst h _ => exact ⟨_, h⟩
  | dicK h _ => exact ⟨_, h⟩
  | dicT h _ => exact ⟨_, h⟩
  | ins _ h _ => exact ⟨_, h⟩
theorem SR.sqt (r : SR K mg μ S H) (st : Stp μ H μ' H') {a : Addr} {vs : List V} (h : SqT K H a vs) : SqT K H' a vs := by
  rcases h with (h | ⟨o, h⟩) | h
  · refine .inl (.inl (st.keep _ _ h fun hm => ?_))
    obtain ⟨_, o, _, _, ho⟩ := r.of_mem hm
    exact ho.not_tup h
  · refine .inl (.inr ⟨o, st.keep _ _ h fun hm => ?_⟩)
    obtain ⟨_, o, _, _, ho⟩ := r.of_mem hm
    exact ho.not_ftup h
  · exact .inr h
theorem Stp.nin (st : Stp μ H μ' H') {a : Addr} {o : HO} (e : H a = some o) (n : a ∉ μ) : a ∉ μ' := fun hm => by
  rcases st.new a hm with h | h
  · exact n h
  · rw [e] at h; cases h
theorem SR.sqk (r : SR K mg μ S H) (st : Stp μ H μ' H') {a : Addr} {vs : List V} (h : SqK K H a vs) : SqK K H' a vs := by
  rcases h with ⟨o, h⟩ | h
  · refine .inl ⟨o, st.keep _ _ h fun hm => ?_⟩
    obtain ⟨_, o, _, _, ho⟩ := r.of_mem hm
    exact ho.not_flst h
  · exact .inr h
theorem prefix_get {α : Type} {l l' : List α} (h : l <+: l') {n : Nat} {a : α} (e : l[n]? = some a) : l'[n]? = some a := by
  obtain ⟨t, rfl⟩ := h
  obtain ⟨h1, _⟩ := List.getElem?_eq_some_iff.mp e
  rw [List.getElem?_append_left h1]
  exact e
mutual
theorem VR.mono (r : SR K mg μ S H) (st : Stp μ H μ' H') : ∀ (x : PV) (v : V), VR K mg μ H x v → VR K mg μ' H' x v
  | .non, _, h => by cases h; exact .non
  | .bl b, _, h => by cases h; exact .bl b
  | .int i, _, h => by cases h; exact .int i
  | .str x, _, h => by cases h; exact .str x
  | .ty n, _, h => by cases h; exact .ty n
  | .tup xs, _, h => by
    cases h with
    | tup hs ha => exact .tup (r.sqt st hs) (VRs.mono r st xs _ ha)
  | .kl xs, _, h => by
    cases h with
    | kl hs ha => exact .kl (r.sqk st hs) (VRs.mono r st xs _ ha)
  | .ref n, _, h => by
    cases h with
    | ref e => exact .ref (prefix_get st.pre e)
  | .glb x, _, h => by
    cases h with
    | glb e => exact .glb e
  | .fl xs, _, h => by
    cases h with
    | fl e n ha => exact .fl (st.keep _ _ e n) (st.nin e n) (VRs.mono r st xs _ ha)
  | .obj C ns vs, _, h => by
    cases h with
    | obj m e n q ha => exact .obj m (st.keep _ _ e n) (st.nin e n) q (VRs.mono r st vs _ ha)
  | .dct ks vs, _, h => by
    cases h with
    | dctK e n q ha => exact .dctK (st.keep _ _ e n) (st.nin e n) q (VRs.mono r st vs _ ha)
    | dctT e n q ha => exact .dctT (st.keep _ _ e n) (st.nin e n) q (VRs.mono r st vs _ ha)
theorem VRs.mono (r : SR K mg μ S H) (st : Stp μ H μ' H') : ∀ (xs : List PV) (vs : List V), VRs K mg μ H xs vs → VRs K mg μ' H' xs vs
  | [], _, h => by cases h; exact .nil
  | x :: xs, _, h => by
    cases h with
    | cons h1 h2 => exact .cons (VR.mono r st x _ h1) (VRs.mono r st xs _ h2)
end
theorem FRs.mono (r : SR K mg μ S H) (st : Stp μ H μ' H') {fs : List (Str × PV)} {gs : List (Str × V)} (h : FRs K mg μ H fs gs) : FRs K mg μ' H' fs gs := by
  induction h with
  | nil => exact .nil
  | cons h _ ih => exact .cons (VR.mono r st _ _ h) ih
theorem KRs.mono (r : SR K mg μ S H) (st : Stp μ H μ' H') {fs : List (PV × PV)} {gs : List (Key × V)} (h : KRs K mg μ H fs gs) : KRs K mg μ' H' fs gs := by
  induction h with
  | nil => exact .nil
  | cons e h _ ih => exact .cons e (VR.mono r st _ _ h) ih
theorem TRs.mono (r : SR K mg μ S H) (st : Stp μ H μ' H') {fs : List (PV × PV)} {gs : List (List Key × V)} (h : TRs K mg μ H fs gs) : TRs K mg μ' H' fs gs := by
  induction h with
  | nil => exact .nil
  | cons e h _ ih => exact .cons e (VR.mono r st _ _ h) ih
theorem ER.mono (r : SR K mg μ S H) (st : Stp μ H μ' H') {ρ : En} {σ : St} (h : ER K mg μ H ρ σ) : ER K mg μ' H' ρ σ :=
  ⟨h.1, fun i x e => let ⟨v, e1, q⟩ := h.2 i x e; ⟨v, e1, VR.mono r st _ _ q⟩⟩
/-- the object's own description, its heap cell kept -/
theorem OR.mono (r : SR K mg μ S H) (st : Stp μ H μ' H') {o : LO} {a : Addr} (h : OR K mg μ H o a) (e : H' a = H a) : OR K mg μ' H' o a := by
  cases h with
  | lst h q => exact .lst (e.trans h) (VRs.mono r st _ _ q)
  | dicK h q => exact .dicK (e.trans h) (q.mono r st)
  | dicT h q => exact .dicT (e.trans h) (q.mono r st)
  | ins c h q => exact .ins c (e.trans h) (q.mono r st)
theorem Stp.fresh {p : Addr} {o : HO} (hp : H p = none) : Stp μ H μ (upd H p o) :=
  ⟨List.prefix_refl _, fun _ h => .inl h, fun a u e _ => by rw [upd_ne (ne_of_none e hp)]; exact e⟩
theorem SR.ne_fresh (r : SR K mg μ S H) {p : Addr} (hp : H p = none) {a : Addr} (h : a ∈ μ) : a ≠ p := by
  obtain ⟨_, o, _, _, ho⟩ := r.of_mem h
  obtain ⟨u, e⟩ := ho.some
  exact ne_of_none e hp
/-- a new object that the store does not name (a tuple) -/
theorem SR.fresh (r : SR K mg μ S H) {p : Addr} {o : HO} (hp : H p = none) : SR K mg μ S (upd H p o) :=
  ⟨r.len, r.nd, fun n a o' e1 e2 => (r.at_ n a o' e1 e2).mono r (Stp.fresh hp) (upd_ne (r.ne_fresh hp (List.mem_of_getElem? e1)))⟩
/-- a new object of the store -/
theorem Stp.newObj {p : Addr} {o : HO} (hp : H p = none) : Stp μ H (μ ++ [p]) (upd H p o) :=
  ⟨List.prefix_append _ _, fun a h => by
    rcases List.mem_append.mp h with h | h
    · exact .inl h
    · rw [List.mem_singleton] at h; subst h; exact .inr hp, fun a u e _ => by rw [upd_ne (ne_of_none e hp)]; exact e⟩
theorem SR.newObj (r : SR K mg μ S H) {p : Addr} {o : HO} {u : LO} (hp : H p = none) (hu : OR K mg (μ ++ [p]) (upd H p o) u p) : SR K mg (μ ++ [p]) (S ++ [u]) (upd H p o) := by
  refine ⟨by simp [r.len], ?_, fun n a o' e1 e2 => ?_⟩
  · rw [List.nodup_append]
    refine ⟨r.nd, by simp, fun a ha b hb => ?_⟩
    rw [List.mem_singleton] at hb; subst hb
    exact r.ne_fresh hp ha
  · by_cases hn : n < μ.length
    · rw [List.getElem?_append_left hn] at e1
      rw [List.getElem?_append_left (by rw [← r.len]; exact hn)] at e2
      exact (r.at_ n a o' e1 e2).mono r (Stp.newObj hp) (upd_ne (r.ne_fresh hp (List.mem_of_getElem? e1)))
    · obtain ⟨h1, _⟩ := List.getElem?_eq_some_iff.mp e1
      have e : n = μ.length := by rw [List.length_append, List.length_singleton] at h1; omega
      subst e
      rw [List.getElem?_append_right (Nat.le_refl _), Nat.sub_self] at e1
      rw [r.len, List.getElem?_append_right (Nat.le_refl _), Nat.sub_self] at e2
      cases e1; cases e2
      exact hu
/-- an object of the store is written -/
theorem Stp.put {n : Nat} {a : Addr} {o : HO} (e : μ[n]? = some a) : Stp μ H μ (upd H a o) :=
  ⟨List.prefix_refl _, fun _ h => .inl h, fun b u h hm => by
    have : b ≠ a := fun z => hm (by rw [z]; exact List.mem_of_getElem? e)
    rw [upd_ne this]; exact h⟩
theorem nodup_get {l : List Addr} (h : l.Nodup) {i j : Nat} {a : Addr} (e1 : l[i]? = some a) (e2 : l[j]? = some a) : i = j := by
  obtain ⟨h1, q1⟩ := List.getElem?_eq_some_iff.mp e1
  obtain ⟨h2, q2⟩ := List.getElem?_eq_some_iff.mp e2
  exact (List.getElem_inj h).mp (q1.trans q2.symm)
theorem SR.put (r : SR K mg μ S H) {n : Nat} {a : Addr} {o : HO} {u : LO} (e : μ[n]? = some a) (hu : OR K mg μ (upd H a o) u a) : SR K mg μ (S.set n u) (upd H a o) := by
  refine ⟨by simp [r.len], r.nd, fun m b o' e1 e2 => ?_⟩
  by_cases hm : m = n
  · subst hm
    rw [e] at e1; cases e1
    have hl : m < S.length := by rw [← r.len]; exact (List.getElem?_eq_some_iff.mp e).1
    rw [List.getElem?_set_self hl] at e2
    cases e2
    exact hu
  · rw [List.getElem?_set_ne (Ne.symm hm)] at e2
    refine (r.at_ m b o' e1 e2).mono r (Stp.put e) (upd_ne fun z => hm ?_)
    subst z
    exact nodup_get r.nd e1 e
/-- a new list that the store does not name -/
theorem SR.newL (r : SR K mg μ S H) {p : Addr} (hp : H p = none) {xs : List PV} {vs : List V} (ha : VRs K mg μ H xs vs) : VR K mg μ (upd H p (.lst vs)) (.fl xs) (.ref p) :=
  .fl upd_same (fun hm => r.ne_fresh hp hm rfl) (VRs.mono r (Stp.fresh hp) _ _ ha)
theorem SR.addr (r : SR K mg μ S H) {n : Nat} {o : LO} (e : S[n]? = some o) : ∃ a, μ[n]? = some a ∧ OR K mg μ H o a := by
  have hn : n < μ.length := by rw [r.len]; exact (List.getElem?_eq_some_iff.mp e).1
  exact ⟨μ[n], List.getElem?_eq_getElem hn, r.at_ n _ o (List.getElem?_eq_getElem hn) e⟩
end
end FL

/-! FLb: what an expression computes, as a function of slots and store; the rules. -/
namespace FL
open PySem PySem.Spec L2
/-- the longest list that is spoken of -/
def big : Nat := 100000
theorem big_le : big ≤ sizeLine := by decide
theorem big_lt : big < sizeLine := by decide

section
variable (K : PySem.W.Frag) (mg : Str → Option Value)
def okG {α β : Type} (R : List Addr → Hp → α → β → Prop) (μ : List Addr) (H : Hp) (Q : β → Hp → Prop) : α → Sto → Prop := fun a S' =>
  ∀ (μ' : List Addr) (H' : Hp) (b : β), Stp μ H μ' H' → SR K mg μ' S' H' → R μ' H' a b → Q b H'
def exG (W : WX) (σ : L2.St) (μ : List Addr) (H : Hp) : Str → List (Str × PV) → Sto → Prop := fun C fs S' =>
  ∀ (μ' : List Addr) (H' : Hp) (c : Value) (d : Option Addr), Stp μ H μ' H' → SR K mg μ' S' H' → XR K mg μ' H' C fs c d → W c d σ H'
/-- the reading of what computes d -/
def tG {α β : Type} (R : List Addr → Hp → α → β → Prop) (W : WX) (d : En → Sto → Res α) : L2.St → Hp → (β → Hp → Prop) → Prop := fun σ H Q =>
  ∃ (ρ : En) (S : Sto) (μ : List Addr), ER K mg μ H ρ σ ∧ SR K mg μ S H ∧ Out (d ρ S) (okG K mg R μ H Q) (exG K mg W σ μ H)
abbrev tE (W : WX) (d : En → Sto → Res PV) : TE := tG K mg (fun μ H => VR K mg μ H) W d
abbrev tA (W : WX) (d : En → Sto → Res (List PV)) : TA := tG K mg (fun μ H => VRs K mg μ H) W d
def eqR : List Addr → Hp → Bool → Bool → Prop := fun _ _ a b => a = b
abbrev tT (W : WX) (d : En → Sto → Res Bool) : TT := tG K mg eqR W d
end
section
variable {K : PySem.W.Frag} {mg : Str → Option Value} {W : WX} {α β γ δ : Type}
theorem okG.step {R : List Addr → Hp → α → β → Prop} {μ μ1 : List Addr} {H H1 : Hp} {Q : β → Hp → Prop} {a : α} {S : Sto} (h : okG K mg R μ H Q a S) (st : Stp μ H μ1 H1) : okG K mg R μ1 H1 Q a S :=
  fun μ' H' b s2 sr r => h μ' H' b (st.trans s2) sr r
theorem exG.step {σ : L2.St} {μ μ1 : List Addr} {H H1 : Hp} {C : Str} {fs : List (Str × PV)} {S : Sto} (h : exG K mg W σ μ H C fs S) (st : Stp μ H μ1 H1) : exG K mg W σ μ1 H1 C fs S :=
  fun μ' H' c d s2 sr r => h μ' H' c d (st.trans s2) sr r
/-- one part, then the rest -/
theorem tG_bind {R : List Addr → Hp → α → β → Prop} {R2 : List Addr → Hp → γ → δ → Prop} {d : En → Sto → Res α} {f : α → Sto → Res γ} {ρ : En} {S : Sto} {μ : List Addr} {σ : L2.St} {H : Hp} {Q : δ → Hp → Prop} {Q1 : β → Hp → Prop}
    (er : ER K mg μ H ρ σ) (sr : SR K mg μ S H) (h : Out ((d ρ S).bind f) (okG K mg R2 μ H Q) (exG K mg W σ μ H))
    (k : ∀ (a : α) (b : β) (S1 : Sto) (μ1 : List Addr) (H1 : Hp), Stp μ H μ1 H1 → SR K mg μ1 S1 H1 → R μ1 H1 a b → ER K mg μ1 H1 ρ σ → Out (f a S1) (okG K mg R2 μ1 H1 Q) (exG K mg W σ μ1 H1) → Q1 b H1) : tG K mg R W d σ H Q1 := by
  refine ⟨ρ, S, μ, er, sr, h.bind.mono (fun a S1 h1 μ1 H1 b st sr1 r => ?_) fun C fs S1 h1 => h1⟩
  exact k a b S1 μ1 H1 st sr1 r (er.mono sr st) (h1.mono (fun _ _ q => q.step st) fun _ _ _ q => q.step st)
theorem tG_ret {R : List Addr → Hp → α → β → Prop} {d : En → Sto → Res α} {ρ : En} {S : Sto} {μ : List Addr} {σ : L2.St} {H : Hp} {Q : β → Hp → Prop}
    (er : ER K mg μ H ρ σ) (sr : SR K mg μ S H) (h : Out (d ρ S) (okG K mg R μ H Q) (exG K mg W σ μ H)) : tG K mg R W d σ H Q := ⟨ρ, S, μ, er, sr, h⟩
end
theorem _root_.PySem.PE_imp {X : Cx} {e : Expr} {t t' : TE} (h : PE X e t) (k : ∀ σ H Q, t' σ H Q → t σ H Q) : PE X e t' := ⟨fun pins s σ H Q I q => h.run pins s σ H Q I (k σ H Q q)⟩
theorem _root_.PySem.PT_imp {X : Cx} {e : Expr} {t t' : TT} (h : PT X e t) (k : ∀ σ H Q, t' σ H Q → t σ H Q) : PT X e t' := ⟨fun pins s σ H Q I q => h.run pins s σ H Q I (k σ H Q q)⟩
theorem _root_.PySem.PW_imp {X : Cx} {e : Expr} {t t' : TT} (h : PW X e t) (k : ∀ σ H Q, t' σ H Q → t σ H Q) : PW X e t' := ⟨fun wh pins s σ H Q I q => h.run wh pins s σ H Q I (k σ H Q q)⟩
theorem _root_.PySem.PA_imp {X : Cx} {es : List Expr} {t t' : TA} (h : PA X es t) (k : ∀ σ H Q, t' σ H Q → t σ H Q) : PA X es t' := ⟨fun pos pins s σ H Q I q => h.run pos pins s σ H Q I (k σ H Q q)⟩

theorem Res.bind_assoc {α β γ : Type} (r : Res α) (f : α → Sto → Res β) (g : β → Sto → Res γ) : (r.bind f).bind g = r.bind fun a S => (f a S).bind g := by
  cases r <;> rfl
/-! ### the functions -/
abbrev OP := Option (PV × Sto)
def ofO {α : Type} : Option (α × Sto) → Res α
  | some (a, S) => .ok a S
  | none => .stk
def eVar (i : Nat) : En → Sto → Res PV := fun ρ S => match ρ[i]? with
  | some (some x) => .ok x S
  | _ => .stk
def eC (v : PV) : En → Sto → Res PV := fun _ S => .ok v S
def eBin (f : PV → PV → Sto → OP) (da db : En → Sto → Res PV) : En → Sto → Res PV := fun ρ S => (da ρ S).bind fun x S1 => (db ρ S1).bind fun y S2 => ofO (f x y S2)
def eUn (f : PV → Sto → OP) (da : En → Sto → Res PV) : En → Sto → Res PV := fun ρ S => (da ρ S).bind fun x S1 => ofO (f x S1)
def aNil : En → Sto → Res (List PV) := fun _ S => .ok [] S
def aCons (da : En → Sto → Res PV) (dr : En → Sto → Res (List PV)) : En → Sto → Res (List PV) := fun ρ S => (da ρ S).bind fun x S1 => (dr ρ S1).bind fun xs S2 => .ok (x :: xs) S2
def eTup (da : En → Sto → Res (List PV)) : En → Sto → Res PV := fun ρ S => (da ρ S).bind fun xs S1 => if xs.length ≤ big then .ok (.tup xs) S1 else .stk
def eLst (da : En → Sto → Res (List PV)) : En → Sto → Res PV := fun ρ S => (da ρ S).bind fun xs S1 => if xs.length ≤ big then .ok (.ref S1.length) (S1 ++ [.lst xs]) else .stk
def eIf (dt : En → Sto → Res Bool) (da db : En → Sto → Res PV) : En → Sto → Res PV := fun ρ S => (dt ρ S).bind fun b S1 => if b then da ρ S1 else db ρ S1
def tOfE (da : En → Sto → Res PV) : En → Sto → Res Bool := fun ρ S => (da ρ S).bind fun x S1 => match x with
  | .bl b => .ok b S1
  | _ => .stk
def tAnd2 (da db : En → Sto → Res Bool) : En → Sto → Res Bool := fun ρ S => (da ρ S).bind fun b S1 => if b then db ρ S1 else .ok false S1
def tOr2 (da db : En → Sto → Res Bool) : En → Sto → Res Bool := fun ρ S => (da ρ S).bind fun b S1 => if b then .ok true S1 else db ρ S1
def tNot1 (da : En → Sto → Res Bool) : En → Sto → Res Bool := fun ρ S => (da ρ S).bind fun b S1 => .ok (!b) S1
def eAnd2 (da db : En → Sto → Res PV) : En → Sto → Res PV := fun ρ S => (da ρ S).bind fun x S1 => match x with
  | .bl b => if b then db ρ S1 else .ok (.bl false) S1
  | _ => .stk
def eOr2 (da db : En → Sto → Res PV) : En → Sto → Res PV := fun ρ S => (da ρ S).bind fun x S1 => match x with
  | .bl b => if b then .ok (.bl true) S1 else db ρ S1
  | _ => .stk
def eNot1 (da : En → Sto → Res PV) : En → Sto → Res PV := fun ρ S => (da ρ S).bind fun x S1 => match x with
  | .bl b => .ok (.bl (!b)) S1
  | _ => .stk
def eCall (f : List PV → Sto → OP) (da : En → Sto → Res (List PV)) : En → Sto → Res PV := fun ρ S => (da ρ S).bind fun xs S1 => ofO (f xs S1)

/-! ### values' operations, judged -/
section
variable (X : Cx)
def k2 (f : PV → PV → Sto → OP) : R2 := fun v w H Q => ∃ (x y : PV) (S : Sto) (μ : List Addr), VR X.K X.mg μ H x v ∧ VR X.K X.mg μ H y w ∧ SR X.K X.mg μ S H ∧ Out (ofO (f x y S)) (okG X.K X.mg (fun μ H => VR X.K X.mg μ H) μ H Q) (fun _ _ _ => False)
def k1 (f : PV → Sto → OP) : V → Hp → VK → Prop := fun v H Q => ∃ (x : PV) (S : Sto) (μ : List Addr), VR X.K X.mg μ H x v ∧ SR X.K X.mg μ S H ∧ Out (ofO (f x S)) (okG X.K X.mg (fun μ H => VR X.K X.mg μ H) μ H Q) (fun _ _ _ => False)
def kL (f : List PV → Sto → OP) : List V → Hp → VK → Prop := fun vs H Q => ∃ (xs : List PV) (S : Sto) (μ : List Addr), VRs X.K X.mg μ H xs vs ∧ SR X.K X.mg μ S H ∧ Out (ofO (f xs S)) (okG X.K X.mg (fun μ H => VR X.K X.mg μ H) μ H Q) (fun _ _ _ => False)
end
theorem ofO_ex {α : Type} {r : Option (α × Sto)} {k : α → Sto → Prop} {e e' : Str → List (Str × PV) → Sto → Prop} (h : Out (ofO r) k e) : Out (ofO r) k e' := by
  cases r with
  | none => exact h
  | some p => exact h

/-! ### the rules of expressions -/
section
variable {X : Cx} {W : WX} {e a b c : Expr} {es : List Expr} {pos : Pos} {da db : En → Sto → Res PV} {dl : En → Sto → Res (List PV)} {dt : En → Sto → Res Bool}
abbrev FE (X : Cx) (W : WX) (e : Expr) (d : En → Sto → Res PV) : Prop := PE X e (tE X.K X.mg W d)
abbrev FA (X : Cx) (W : WX) (es : List Expr) (d : En → Sto → Res (List PV)) : Prop := PA X es (tA X.K X.mg W d)
abbrev FT (X : Cx) (W : WX) (e : Expr) (d : En → Sto → Res Bool) : Prop := PT X e (tT X.K X.mg W d)
abbrev FW (X : Cx) (W : WX) (e : Expr) (d : En → Sto → Res Bool) : Prop := PW X e (tT X.K X.mg W d)
theorem fe_var (i : Nat) {x : Str} (hN : X.N[i]? = some x := by rfl) (hv : Vis X.env.scope x := by first | exact Or.inl rfl | exact Or.inr (Or.inl rfl) | exact Or.inr (Or.inr rfl)) (hd : (x == ("__debug__" : Str)) = false := by decide)
    (hcd : (x == ("__classdict__" : Str)) = false := by decide) : FE X W (.Name x pos) (eVar i) := by
  refine PE_imp (pe_var hN hv hd hcd) fun σ H Q h => ?_
  obtain ⟨ρ, S, μ, er, sr, h⟩ := h
  unfold eVar at h
  cases q : ρ[i]? with
  | none => rw [q] at h; exact h.elim
  | some o =>
    rw [q] at h
    cases o with
    | none => exact h.elim
    | some x =>
      obtain ⟨v, e1, r⟩ := er.2 i x q
      exact ⟨v, e1, h μ H v .refl sr r⟩
theorem fe_c {v : PV} {w : V} (h : PE X e (tC w)) (r : ∀ μ H, VR X.K X.mg μ H v w) : FE X W e (eC v) := by
  refine PE_imp h fun σ H Q h => ?_
  obtain ⟨ρ, S, μ, er, sr, h⟩ := h
  exact h μ H w .refl sr (r μ H)
theorem fe_int {i : Int} {j pos} : FE X W (.Constant (.int i) j pos) (eC (.int i)) := fe_c pe_int fun _ _ => .int i
theorem fe_bl {b : Bool} {j pos} : FE X W (.Constant (.bool b) j pos) (eC (.bl b)) := fe_c pe_bl fun _ _ => .bl b
theorem fe_non {j pos} : FE X W (.Constant .none j pos) (eC .non) := fe_c pe_non fun _ _ => .non
theorem fe_str {x : Str} {j pos} : FE X W (.Constant (.str x) j pos) (eC (.str x)) := fe_c pe_str fun _ _ => .str x
theorem fe_glob {x : Str} {a : Addr} (hg : Gl X x) (hm : X.mg x = some (.ref a)) (hd : (x == ("__debug__" : Str)) = false := by decide) : FE X W (.Name x pos) (eC (.glb x)) := fe_c (pe_glob hg hm (v := .ref a) rfl hd) fun _ _ => .glb hm
theorem fe_gint {x : Str} {i : Int} {t : Tok} (hg : Gl X x) (hm : X.mg x = some (.int i t)) (hd : (x == ("__debug__" : Str)) = false := by decide) : FE X W (.Name x pos) (eC (.int i)) := fe_c (pe_glob hg hm (v := .int i) ⟨_, rfl⟩ hd) fun _ _ => .int i
theorem fe_gstr {x y : Str} {t : Tok} (hg : Gl X x) (hm : X.mg x = some (.str y t)) (hd : (x == ("__debug__" : Str)) = false := by decide) : FE X W (.Name x pos) (eC (.str y)) := fe_c (pe_glob hg hm (v := .str y) ⟨_, rfl⟩ hd) fun _ _ => .str y
theorem fe_bin {op : Operator} {f : PV → PV → Sto → OP} (ho : OpR X (binaryOp op) (k2 X f)) (ha : FE X W a da) (hb : FE X W b db) : FE X W (.BinOp a op b pos) (eBin f da db) := by
  refine PE_imp (pe_op ho ha hb) fun σ H Q h => ?_
  obtain ⟨ρ, S, μ, er, sr, h⟩ := h
  refine tG_bind er sr h fun x v S1 μ1 H1 st1 sr1 r1 er1 h1 => ?_
  refine tG_bind er1 sr1 h1 fun y w S2 μ2 H2 st2 sr2 r2 er2 h2 => ?_
  exact ⟨x, y, S2, μ2, VR.mono sr1 st2 _ _ r1, r2, sr2, ofO_ex h2⟩
theorem fe_un {op : UnaryOp} {f : PV → Sto → OP} (ho : UnR X (unaryOp op) (k1 X f)) (ha : FE X W a da) : FE X W (.UnaryOp op a pos) (eUn f da) := by
  refine PE_imp (pe_un ho ha) fun σ H Q h => ?_
  obtain ⟨ρ, S, μ, er, sr, h⟩ := h
  refine tG_bind er sr h fun x v S1 μ1 H1 st1 sr1 r1 er1 h1 => ?_
  exact ⟨x, S1, μ1, r1, sr1, ofO_ex h1⟩
theorem fe_cmp {op : CmpOp} {f : PV → PV → Sto → OP} (ho : OpR X (compareOp op) (k2 X f)) (ha : FE X W a da) (hb : FE X W b db) (h1 : behindInMarks op b = false := by first | exact nobehind _ (by decide) (by decide) | rfl) : FE X W (.Compare a [op] [b] pos) (eBin f da db) := by
  refine PE_imp (pe_cmpR ho ha hb h1) fun σ H Q h => ?_
  obtain ⟨ρ, S, μ, er, sr, h⟩ := h
  refine tG_bind er sr h fun x v S1 μ1 H1 st1 sr1 r1 er1 h1 => ?_
  refine tG_bind er1 sr1 h1 fun y w S2 μ2 H2 st2 sr2 r2 er2 h2 => ?_
  exact ⟨x, y, S2, μ2, VR.mono sr1 st2 _ _ r1, r2, sr2, ofO_ex h2⟩
theorem fa_nil : FA X W [] aNil := by
  refine PA_imp pa_nil fun σ H Q h => ?_
  obtain ⟨ρ, S, μ, er, sr, h⟩ := h
  exact h μ H [] .refl sr .nil
theorem fa_cons (ha : FE X W e da) (hr : FA X W es dl) (hs : starEach (e :: es) X.env = (false, eval e X.env) :: starEach es X.env := by rfl) : FA X W (e :: es) (aCons da dl) := by
  refine PA_imp (pa_cons ha hr hs) fun σ H Q h => ?_
  obtain ⟨ρ, S, μ, er, sr, h⟩ := h
  refine tG_bind er sr h fun x v S1 μ1 H1 st1 sr1 r1 er1 h1 => ?_
  refine tG_bind er1 sr1 h1 fun xs vs S2 μ2 H2 st2 sr2 r2 er2 h2 => ?_
  exact h2 μ2 H2 _ .refl sr2 (.cons (VR.mono sr1 st2 _ _ r1) r2)
theorem VRs.length {K : PySem.W.Frag} {mg : Str → Option Value} {μ : List Addr} {H : Hp} : ∀ {xs : List PV} {vs : List V}, VRs K mg μ H xs vs → xs.length = vs.length
  | [], _, h => by cases h; rfl
  | x :: xs, _, h => by
    cases h with
    | cons _ h2 => simp [h2.length]
theorem fe_tup {x1} (h : FA X W es dl) : FE X W (.Tuple es x1 pos) (eTup dl) := by
  refine PE_imp (pe_tup h) fun σ H Q h => ?_
  obtain ⟨ρ, S, μ, er, sr, h⟩ := h
  refine tG_bind er sr h fun xs vs S1 μ1 H1 st1 sr1 r1 er1 h1 => ?_
  by_cases hl : xs.length ≤ big
  · rw [if_pos hl] at h1
    refine ⟨by rw [← r1.length]; exact Nat.le_trans hl big_le, fun p hp => ?_⟩
    exact h1 μ1 _ _ (Stp.fresh hp) (sr1.fresh hp) (.tup (.of upd_same) (VRs.mono sr1 (Stp.fresh hp) _ _ r1))
  · rw [if_neg hl] at h1; exact h1.elim
theorem fe_lst (h : FA X W es dl) : FE X W (.List es pos) (eLst dl) := by
  refine PE_imp (pe_lst h) fun σ H Q h => ?_
  obtain ⟨ρ, S, μ, er, sr, h⟩ := h
  refine tG_bind er sr h fun xs vs S1 μ1 H1 st1 sr1 r1 er1 h1 => ?_
  by_cases hl : xs.length ≤ big
  · rw [if_pos hl] at h1
    refine ⟨by rw [← r1.length]; exact Nat.le_trans hl big_le, fun p hp => ?_⟩
    exact h1 (μ1 ++ [p]) _ _ (Stp.newObj hp) (sr1.newObj hp (.lst upd_same (VRs.mono sr1 (Stp.newObj hp) _ _ r1))) (.ref (by rw [← sr1.len]; simp))
  · rw [if_neg hl] at h1; exact h1.elim
theorem fe_if (ht : FT X W c dt) (ha : FE X W a da) (hb : FE X W b db) : FE X W (.IfExp c a b pos) (eIf dt da db) := by
  refine PE_imp (pe_ifExp ht ha hb) fun σ H Q h => ?_
  obtain ⟨ρ, S, μ, er, sr, h⟩ := h
  refine tG_bind er sr h fun x v S1 μ1 H1 st1 sr1 r1 er1 h1 => ?_
  obtain rfl : x = v := r1
  cases x with
  | true => exact ⟨ρ, S1, μ1, er1, sr1, h1⟩
  | false => exact ⟨ρ, S1, μ1, er1, sr1, h1⟩
/-- a bool as a test -/
theorem ft_val (ha : FE X W a da) (he : ∀ whole, isTrue a X.env whole = (do let v ← whole; standAt a.pos; holding [v] (truthy v)) := by intro _; rfl) : FT X W a (tOfE da) := by
  refine PT_imp (pt_val ha he) fun σ H Q h => ?_
  obtain ⟨ρ, S, μ, er, sr, h⟩ := h
  refine tG_bind er sr h fun x v S1 μ1 H1 st1 sr1 r1 er1 h1 => ?_
  cases r1 with
  | bl b => exact ⟨b, rfl, h1 μ1 H1 b .refl sr1 rfl⟩
  | _ => exact h1.elim
theorem ft_cmp {op : CmpOp} {f : PV → PV → Sto → OP} (ho : OpR X (compareOp op) (k2 X f)) (ha : FE X W a da) (hb : FE X W b db) (h1 : behindInMarks op b = false := by first | exact nobehind _ (by decide) (by decide) | rfl) : FT X W (.Compare a [op] [b] pos) (tOfE (eBin f da db)) := by
  refine PT_imp (pt_cmpR ho ha hb h1) fun σ H Q h => ?_
  obtain ⟨ρ, S, μ, er, sr, h⟩ := h
  have h := h
  unfold tOfE eBin at h
  rw [Res.bind_assoc] at h
  refine tG_bind er sr h fun x v S1 μ1 H1 st1 sr1 r1 er1 h1 => ?_
  rw [Res.bind_assoc] at h1
  refine tG_bind er1 sr1 h1 fun y w S2 μ2 H2 st2 sr2 r2 er2 h2 => ?_
  refine ⟨x, y, S2, μ2, VR.mono sr1 st2 _ _ r1, r2, sr2, ?_⟩
  cases q : f x y S2 with
  | none => rw [q] at h2; exact h2
  | some p =>
    obtain ⟨z, S3⟩ := p
    rw [q] at h2
    intro μ' H' u st sr3 rz
    cases z with
    | bl k =>
      cases rz
      exact ⟨k, rfl, h2 μ' H' k st sr3 rfl⟩
    | _ => exact h2.elim
theorem fw_and1 (ha : FT X W a dt) : FW X W (.BoolOp .And [a] pos) dt := pw_and1 ha
theorem fw_or1 (ha : FT X W a dt) : FW X W (.BoolOp .Or [a] pos) dt := pw_or1 ha
theorem fw_and {rest : List Expr} {du : En → Sto → Res Bool} (ha : FT X W a dt) (hb : FW X W (.BoolOp .And (b :: rest) pos) du) : FW X W (.BoolOp .And (a :: b :: rest) pos) (tAnd2 dt du) := by
  refine PW_imp (pw_and ha hb) fun σ H Q h => ?_
  obtain ⟨ρ, S, μ, er, sr, h⟩ := h
  refine tG_bind er sr h fun x v S1 μ1 H1 st1 sr1 r1 er1 h1 => ?_
  obtain rfl : x = v := r1
  cases x with
  | true => exact ⟨ρ, S1, μ1, er1, sr1, h1⟩
  | false => exact h1 μ1 H1 false .refl sr1 rfl
theorem fw_or {rest : List Expr} {du : En → Sto → Res Bool} (ha : FT X W a dt) (hb : FW X W (.BoolOp .Or (b :: rest) pos) du) : FW X W (.BoolOp .Or (a :: b :: rest) pos) (tOr2 dt du) := by
  refine PW_imp (pw_or ha hb) fun σ H Q h => ?_
  obtain ⟨ρ, S, μ, er, sr, h⟩ := h
  refine tG_bind er sr h fun x v S1 μ1 H1 st1 sr1 r1 er1 h1 => ?_
  obtain rfl : x = v := r1
  cases x with
  | false => exact ⟨ρ, S1, μ1, er1, sr1, h1⟩
  | true => exact h1 μ1 H1 true .refl sr1 rfl
theorem ft_w (h : FW X W a dt) : FT X W a dt := h.pt
theorem ft_not (ha : FT X W a dt) : FT X W (.UnaryOp .Not a pos) (tNot1 dt) := by
  refine PT_imp (pt_not ha) fun σ H Q h => ?_
  obtain ⟨ρ, S, μ, er, sr, h⟩ := h
  refine tG_bind er sr h fun x v S1 μ1 H1 st1 sr1 r1 er1 h1 => ?_
  obtain rfl : x = v := r1
  exact h1 μ1 H1 _ .refl sr1 rfl
theorem fe_one {op} (h : FE X W a da) : FE X W (.BoolOp op [a] pos) da := pe_one h
theorem fe_and {rest : List Expr} (ha : FE X W a da) (hb : FE X W (.BoolOp .And (b :: rest) pos) db) : FE X W (.BoolOp .And (a :: b :: rest) pos) (eAnd2 da db) := by
  refine PE_imp (pe_and ha hb) fun σ H Q h => ?_
  obtain ⟨ρ, S, μ, er, sr, h⟩ := h
  refine tG_bind er sr h fun x v S1 μ1 H1 st1 sr1 r1 er1 h1 => ?_
  cases r1 with
  | bl k =>
    refine ⟨k, rfl, ?_⟩
    cases k with
    | true => exact ⟨ρ, S1, μ1, er1, sr1, h1⟩
    | false => exact h1 μ1 H1 _ .refl sr1 (.bl false)
  | _ => exact h1.elim
theorem fe_or {rest : List Expr} (ha : FE X W a da) (hb : FE X W (.BoolOp .Or (b :: rest) pos) db) : FE X W (.BoolOp .Or (a :: b :: rest) pos) (eOr2 da db) := by
  refine PE_imp (pe_or ha hb) fun σ H Q h => ?_
  obtain ⟨ρ, S, μ, er, sr, h⟩ := h
  refine tG_bind er sr h fun x v S1 μ1 H1 st1 sr1 r1 er1 h1 => ?_
  cases r1 with
  | bl k =>
    refine ⟨k, rfl, ?_⟩
    cases k with
    | false => exact ⟨ρ, S1, μ1, er1, sr1, h1⟩
    | true => exact h1 μ1 H1 _ .refl sr1 (.bl true)
  | _ => exact h1.elim
theorem fe_not (ha : FE X W a da) : FE X W (.UnaryOp .Not a pos) (eNot1 da) := by
  refine PE_imp (pe_not ha) fun σ H Q h => ?_
  obtain ⟨ρ, S, μ, er, sr, h⟩ := h
  refine tG_bind er sr h fun x v S1 μ1 H1 st1 sr1 r1 er1 h1 => ?_
  cases r1 with
  | bl k => exact ⟨k, rfl, h1 μ1 H1 _ .refl sr1 (.bl _)⟩
  | _ => exact h1.elim
/-- a built-in called by its name -/
theorem fe_callB {f : List PV → Sto → OP} {x : Str} {p : Pos} {id : String} (hc : CallR X (.builtin id) (kL X f)) (hg : Gl X x) (hm : X.mg x = none) (hv : bootBuiltins x = some (.builtin id)) (ha : FA X W (e :: es) dl) (hn : x ≠ "__name__" := by decide) (hdb : (x == ("__debug__" : Str)) = false := by decide)
    (he : starEach (e :: es) X.env = (false, eval e X.env) :: starEach es X.env := by rfl) (hpl : (backTo pos (starEach es X.env)).any (·.1) = false := by rfl) : FE X W (.Call (.Name x p) (e :: es) [] pos) (eCall f dl) := by
  refine PE_imp (pe_callB hc hg hm hv ha hn hdb he hpl) fun σ H Q h => ?_
  obtain ⟨ρ, S, μ, er, sr, h⟩ := h
  refine tG_bind er sr h fun xs vs S1 μ1 H1 st1 sr1 r1 er1 h1 => ?_
  exact ⟨xs, S1, μ1, r1, sr1, ofO_ex h1⟩
theorem fe_callTy {f : List PV → Sto → OP} {x : Str} {p : Pos} {T : String} (hc : CallR X (.type T) (kL X f)) (hg : Gl X x) (hm : X.mg x = none) (hv : bootBuiltins x = some (.type T)) (ha : FA X W (e :: es) dl) (hn : x ≠ "__name__" := by decide) (hdb : (x == ("__debug__" : Str)) = false := by decide)
    (he : starEach (e :: es) X.env = (false, eval e X.env) :: starEach es X.env := by rfl) (hpl : (backTo pos (starEach es X.env)).any (·.1) = false := by rfl) : FE X W (.Call (.Name x p) (e :: es) [] pos) (eCall f dl) := by
  refine PE_imp (pe_callTy hc hg hm hv ha hn hdb he hpl) fun σ H Q h => ?_
  obtain ⟨ρ, S, μ, er, sr, h⟩ := h
  refine tG_bind er sr h fun xs vs S1 μ1 H1 st1 sr1 r1 er1 h1 => ?_
  exact ⟨xs, S1, μ1, r1, sr1, ofO_ex h1⟩
end
end FL

/-! FLc: operations on values: arithmetic, comparisons, built-ins, items, slices. -/
namespace FL
open PySem PySem.Spec L2

/-! ### data -/
def mapO {α β : Type} (f : α → Option β) : List α → Option (List β)
  | [] => some []
  | x :: xs => match f x with
    | some y => match mapO f xs with
      | some ys => some (y :: ys)
      | none => none
    | none => none
def dataOf (S : Sto) : Nat → PV → Option PyData
  | 0, _ => none
  | _ + 1, .non => some .none
  | _ + 1, .bl b => some (.bool b)
  | _ + 1, .int i => some (.int i)
  | _ + 1, .str x => some (.str x)
  | k + 1, .tup xs => (mapO (dataOf S k) xs).map .tuple
  | k + 1, .kl xs => (mapO (dataOf S k) xs).map .list
  | k + 1, .fl xs => (mapO (dataOf S k) xs).map .list
  | k + 1, .ref n => match S[n]? with
    | some (.lst xs) => (mapO (dataOf S k) xs).map .list
    | _ => none
  | _ + 1, _ => none
abbrev dOf (S : Sto) (x : PV) : Option PyData := dataOf S 40 x
section
variable {K : PySem.W.Frag} {mg : Str → Option Value} {μ : List Addr} {S : Sto} {H : Hp}
theorem dpAll_of {f : PV → Option PyData} (ih : ∀ x v d, VR K mg μ H x v → f x = some d → Dp K H v d) : ∀ (xs : List PV) (vs : List V) (ds : List PyData), VRs K mg μ H xs vs → mapO f xs = some ds → DpAll K H vs ds
  | [], _, _, h, e => by
    cases h; cases e; exact .nil
  | x :: xs, _, ds, h, e => by
    cases h with
    | cons h1 h2 =>
      unfold mapO at e
      cases q : f x with
      | none => rw [q] at e; cases e
      | some d =>
        rw [q] at e
        cases q2 : mapO f xs with
        | none => rw [q2] at e; cases e
        | some es =>
          rw [q2] at e; cases e
          exact .cons (ih _ _ _ h1 q) (dpAll_of ih xs _ _ h2 q2)
theorem dp_of (sr : SR K mg μ S H) : ∀ (k : Nat) (x : PV) (v : V) (d : PyData), VR K mg μ H x v → dataOf S k x = some d → Dp K H v d
  | 0, _, _, _, _, e => by cases e
  | k + 1, x, v, d, h, e => by
    cases h with
    | non => cases e; exact .non
    | bl b => cases e; exact .bl b
    | int b => cases e; exact .int b
    | str b => cases e; exact .str b
    | ty n => cases e
    | glb q => cases e
    | obj _ _ _ _ _ => cases e
    | dctK _ _ _ _ => cases e
    | dctT _ _ _ _ => cases e
    | @tup a xs vs hs ha =>
      simp only [dataOf, Option.map_eq_some_iff] at e
      obtain ⟨ds, e1, rfl⟩ := e
      exact .tup hs (dpAll_of (fun x v d => dp_of sr k x v d) _ _ _ ha e1)
    | @fl a xs vs hs hn ha =>
      simp only [dataOf, Option.map_eq_some_iff] at e
      obtain ⟨ds, e1, rfl⟩ := e
      exact .lst (.of hs) (dpAll_of (fun x v d => dp_of sr k x v d) _ _ _ ha e1)
    | @kl a xs vs hs ha =>
      simp only [dataOf, Option.map_eq_some_iff] at e
      obtain ⟨ds, e1, rfl⟩ := e
      exact .lst hs.sq (dpAll_of (fun x v d => dp_of sr k x v d) _ _ _ ha e1)
    | @ref n a hn =>
      simp only [dataOf] at e
      cases q : S[n]? with
      | none => rw [q] at e; cases e
      | some o =>
        rw [q] at e
        have ho := sr.at_ n a o hn q
        cases ho with
        | lst h1 h2 =>
          simp only [Option.map_eq_some_iff] at e
          obtain ⟨ds, e1, rfl⟩ := e
          exact .lst (.of h1) (dpAll_of (fun x v d => dp_of sr k x v d) _ _ _ h2 e1)
        | dicK h1 h2 => cases e
        | dicT h1 h2 => cases e
        | ins h1 h2 h3 => cases e
theorem plainAll_of {f : PV → Option PyData} {k : Nat} (ih : ∀ x d, f x = some d → d.plain = true ∧ d.depth ≤ k) : ∀ (xs : List PV) (ds : List PyData), mapO f xs = some ds → PyData.plainAll ds = true ∧ PyData.depthAll ds ≤ k
  | [], _, e => by cases e; exact ⟨rfl, by simp [PyData.depthAll]⟩
  | x :: xs, ds, e => by
    unfold mapO at e
    cases q : f x with
    | none => rw [q] at e; cases e
    | some d =>
      rw [q] at e
      cases q2 : mapO f xs with
      | none => rw [q2] at e; cases e
      | some es =>
        rw [q2] at e; cases e
        obtain ⟨a, b⟩ := ih _ _ q
        obtain ⟨c, e⟩ := plainAll_of ih xs es q2
        refine ⟨by simp [PyData.plainAll, a, c], ?_⟩
        simp only [PyData.depthAll]
        omega
theorem plain_of (S : Sto) : ∀ (k : Nat) (x : PV) (d : PyData), dataOf S k x = some d → d.plain = true ∧ d.depth ≤ k
  | 0, _, _, e => by cases e
  | k + 1, x, d, e => by
    cases x with
    | non => cases e; exact ⟨rfl, by simp [PyData.depth]⟩
    | bl b => cases e; exact ⟨rfl, by simp [PyData.depth]⟩
    | int b => cases e; exact ⟨rfl, by simp [PyData.depth]⟩
    | str b => cases e; exact ⟨rfl, by simp [PyData.depth]⟩
    | ty n => cases e
    | glb q => cases e
    | obj _ _ _ => cases e
    | dct _ _ => cases e
    | tup xs =>
      simp only [dataOf, Option.map_eq_some_iff] at e
      obtain ⟨ds, e1, rfl⟩ := e
      obtain ⟨a, b⟩ := plainAll_of (plain_of S k) _ _ e1
      exact ⟨a, by simp only [PyData.depth]; omega⟩
    | fl xs =>
      simp only [dataOf, Option.map_eq_some_iff] at e
      obtain ⟨ds, e1, rfl⟩ := e
      obtain ⟨a, b⟩ := plainAll_of (plain_of S k) _ _ e1
      exact ⟨a, by simp only [PyData.depth]; omega⟩
    | kl xs =>
      simp only [dataOf, Option.map_eq_some_iff] at e
      obtain ⟨ds, e1, rfl⟩ := e
      obtain ⟨a, b⟩ := plainAll_of (plain_of S k) _ _ e1
      exact ⟨a, by simp only [PyData.depth]; omega⟩
    | ref n =>
      simp only [dataOf] at e
      cases q : S[n]? with
      | none => rw [q] at e; cases e
      | some o =>
        rw [q] at e
        cases o with
        | lst xs =>
          simp only [Option.map_eq_some_iff] at e
          obtain ⟨ds, e1, rfl⟩ := e
          obtain ⟨a, b⟩ := plainAll_of (plain_of S k) _ _ e1
          exact ⟨a, by simp only [PyData.depth]; omega⟩
        | dic _ => cases e
        | ins _ _ => cases e
end
/-! ### the functions -/
/-- a list that is made within -/
def lstL (S : Sto) : PV → Option (List PV)
  | .fl xs => some xs
  | .ref n => match S[n]? with
    | some (.lst xs) => some xs
    | _ => none
  | _ => none
def pAdd : PV → PV → Sto → OP
  | .int i, .int j, S => some (.int (i + j), S)
  | .str x, .str y, S => if x.length + y.length ≤ big then some (.str (x ++ y), S) else none
  | .tup xs, .tup ys, S => if xs.length + ys.length ≤ big then some (.tup (xs ++ ys), S) else none
  | x, y, S => match lstL S x, lstL S y with
    | some xs, some ys => if xs.length + ys.length ≤ big then some (.fl (xs ++ ys), S) else none
    | _, _ => none
def pSub : PV → PV → Sto → OP
  | .int i, .int j, S => some (.int (i - j), S)
  | _, _, _ => none
def pMul : PV → PV → Sto → OP
  | .int i, .int j, S => if i.natAbs.log2 + j.natAbs.log2 < 1000000 then some (.int (i * j), S) else none
  | x, .int k, S => match lstL S x with
    | some xs => if -1000 ≤ k ∧ k ≤ 1000 ∧ xs.length ≤ 100 then some (.fl (List.replicate k.toNat xs).flatten, S) else none
    | _ => none
  | _, _, _ => none
def pMod : PV → PV → Sto → OP
  | .int i, .int j, S => if 0 < j then some (.int (i % j), S) else none
  | _, _, _ => none
def pDiv : PV → PV → Sto → OP
  | .int i, .int j, S => if 0 < j ∧ j.natAbs.log2 < 9000 then some (.int (i / j), S) else none
  | _, _, _ => none
def pPow : PV → PV → Sto → OP
  | .int i, .int j, S => if 0 ≤ j ∧ j ≤ 1000000 ∧ i.natAbs < 2 ^ 64 then some (.int (i ^ j.toNat), S) else none
  | _, _, _ => none
def pXor : PV → PV → Sto → OP
  | .int i, .int j, S => some (.int (Builtin.bitXor i j), S)
  | _, _, _ => none
def pNeg : PV → Sto → OP
  | .int i, S => some (.int (-i), S)
  | _, _ => none
def pEq : PV → PV → Sto → OP := fun x y S => match dOf S x, dOf S y with
  | some d, some e => some (.bl (PyData.eqv d e), S)
  | _, _ => none
def pNe : PV → PV → Sto → OP := fun x y S => match dOf S x, dOf S y with
  | some d, some e => some (.bl (!PyData.eqv d e), S)
  | _, _ => none
def pOrd (f : PyData → PyData → Bool) : PV → PV → Sto → OP := fun x y S => match dOf S x, dOf S y with
  | some .none, _ => none
  | some d, some e => if PySem.W.alike d e then some (.bl (f d e), S) else none
  | _, _ => none
def pLt : PV → PV → Sto → OP
  | .int i, .int j, S => some (.bl (decide (i < j)), S)
  | x, y, S => pOrd (fun d e => PySem.W.dataLt d e) x y S
def pGt : PV → PV → Sto → OP
  | .int i, .int j, S => some (.bl (decide (j < i)), S)
  | x, y, S => pOrd (fun d e => PySem.W.dataLt e d) x y S
def pLe : PV → PV → Sto → OP
  | .int i, .int j, S => some (.bl (decide (i ≤ j)), S)
  | x, y, S => pOrd (fun d e => !PySem.W.dataLt e d) x y S
def pGe : PV → PV → Sto → OP
  | .int i, .int j, S => some (.bl (decide (j ≤ i)), S)
  | x, y, S => pOrd (fun d e => !PySem.W.dataLt d e) x y S
def pIn (neg : Bool) : PV → PV → Sto → OP := fun x y S => match dOf S x, dOf S y with
  | some d, some (.tuple ds) => some (.bl (neg ^^ ds.any fun z => PyData.eqv z d), S)
  | some d, some (.list ds) => some (.bl (neg ^^ ds.any fun z => PyData.eqv z d), S)
  | _, _ => none
def pIsN : PV → PV → Sto → OP
  | .non, .non, S => some (.bl true, S)
  | _, .non, S => some (.bl false, S)
  | _, _, _ => none
def pNotN : PV → PV → Sto → OP
  | .non, .non, S => some (.bl false, S)
  | _, .non, S => some (.bl true, S)
  | _, _, _ => none
def lstOf (S : Sto) : PV → Option (List PV)
  | .tup xs => some xs
  | .kl xs => some xs
  | .fl xs => some xs
  | .ref n => match S[n]? with
    | some (.lst xs) => some xs
    | _ => none
  | _ => none
def bLen : List PV → Sto → OP
  | [.str x], S => if x.length ≤ big then some (.int x.length, S) else none
  | [x], S => match lstOf S x with
    | some xs => some (.int xs.length, S)
    | none => none
  | _, _ => none
def bInt : List PV → Sto → OP
  | [.int i], S => some (.int i, S)
  | [.bl b], S => some (.int (if b then 1 else 0), S)
  | _, _ => none
def bAbs : List PV → Sto → OP
  | [.int i], S => some (.int (if i < 0 then -i else i), S)
  | _, _ => none
def bMax2 : List PV → Sto → OP
  | [.int i, .int j], S => some (.int (if j > i then j else i), S)
  | _, _ => none
def bMin2 : List PV → Sto → OP
  | [.int i, .int j], S => some (.int (if j < i then j else i), S)
  | _, _ => none
def bDivmod : List PV → Sto → OP
  | [.int i, .int j], S => if 0 < j ∧ j < 1073741824 then some (.tup [.int (i / j), .int (i % j)], S) else none
  | _, _ => none
def boolsOf : List PV → Option (List Bool) := mapO fun x => match x with
  | .bl b => some b
  | _ => none
def bAll : List PV → Sto → OP
  | [x], S => match lstL S x with
    | some xs => match boolsOf xs with
      | some bs => some (.bl (bs.all id), S)
      | none => none
    | none => none
  | _, _ => none
def bAny : List PV → Sto → OP
  | [x], S => match lstL S x with
    | some xs => match boolsOf xs with
      | some bs => some (.bl (bs.any id), S)
      | none => none
    | none => none
  | _, _ => none
def bTuple : List PV → Sto → OP
  | [x], S => match lstOf S x with
    | some xs => some (.tup xs, S)
    | none => none
  | _, _ => none
def bListK : List PV → Sto → OP
  | [x], S => match lstOf S x with
    | some xs => some (.fl xs, S)
    | none => none
  | _, _ => none
def bList : List PV → Sto → OP
  | [x], S => match lstOf S x with
    | some xs => some (.ref S.length, S ++ [.lst xs])
    | none => none
  | _, _ => none
def pIx : PV → PV → Sto → OP := fun x y S => match lstOf S x, y with
  | some xs, .int i => match atI xs i with
    | some z => some (z, S)
    | none => none
  | _, _ => none

section
variable {X : Cx} {W : WX}
/-- an operation that leaves the store -/
theorem VR.inv_int {K : PySem.W.Frag} {mg : Str → Option Value} {μ : List Addr} {H : Hp} {i : Int} {v : V} (h : VR K mg μ H (.int i) v) : v = .int i := by cases h; rfl
theorem k2_or {g : Value → Value → Sem Value} {r r' : R2} (h : OpR X g r) (h' : OpR X g r') : OpR X g (fun x y H Q => r x y H Q ∨ r' x y H Q) := fun pins s σ H x y v u Q I rx ry q => q.elim (h pins s σ H x y v u Q I rx ry) (h' pins s σ H x y v u Q I rx ry)
/-- to show an operation: by the hand layer's rules for each kind of values -/
theorem k2_of {g : Value → Value → Sem Value} {f : PV → PV → Sto → OP}
    (h : ∀ (pins : List (Addr × Obj)) (s : Shared) (σ : L2.St) (H : Hp) (x y : PV) (v w : V) (vv ww : Value) (S : Sto) (μ : List Addr) (z : PV) (S' : Sto) (Q : VK), Inv X pins σ H s → RelV v vv → RelV w ww → VR X.K X.mg μ H x v → VR X.K X.mg μ H y w → SR X.K X.mg μ S H → f x y S = some (z, S') →
      okG X.K X.mg (fun μ H => VR X.K X.mg μ H) μ H Q z S' → wpAny (model X.prog X.w) X.A (g vv ww) (EP X pins σ Q) X.xe s) : OpR X g (k2 X f) := by
  intro pins s σ H v w vv ww Q I rv rw' ⟨x, y, S, μ, hx, hy, sr, h1⟩
  cases q : f x y S with
  | none => rw [q] at h1; exact h1.elim
  | some p =>
    obtain ⟨z, S'⟩ := p
    rw [q] at h1
    exact h pins s σ H x y v w vv ww S μ z S' Q I rv rw' hx hy sr q h1
theorem VRs.app {K : PySem.W.Frag} {mg : Str → Option Value} {μ : List Addr} {H : Hp} : ∀ {xs ys : List PV} {vs ws : List V}, VRs K mg μ H xs vs → VRs K mg μ H ys ws → VRs K mg μ H (xs ++ ys) (vs ++ ws)
  | [], _, _, _, h1, h2 => by cases h1; exact h2
  | _ :: _, _, _, _, h1, h2 => by
    cases h1 with
    | cons p q => exact .cons p (VRs.app q h2)
theorem VRs.rep {K : PySem.W.Frag} {mg : Str → Option Value} {μ : List Addr} {H : Hp} {xs : List PV} {vs : List V} (h : VRs K mg μ H xs vs) : ∀ n : Nat, VRs K mg μ H (List.replicate n xs).flatten (List.replicate n vs).flatten
  | 0 => .nil
  | n + 1 => by
    rw [List.replicate_succ, List.replicate_succ, List.flatten_cons, List.flatten_cons]
    exact h.app (VRs.rep h n)
theorem VRs.get {K : PySem.W.Frag} {mg : Str → Option Value} {μ : List Addr} {H : Hp} : ∀ {xs : List PV} {vs : List V}, VRs K mg μ H xs vs → ∀ {i : Nat} {x : PV}, xs[i]? = some x → ∃ v, vs[i]? = some v ∧ VR K mg μ H x v
  | [], _, _, _, _, e => by simp at e
  | x :: xs, _, h, 0, _, e => by
    cases h with
    | cons p q => simp at e; subst e; exact ⟨_, rfl, p⟩
  | x :: xs, _, h, i + 1, _, e => by
    cases h with
    | cons p q =>
      obtain ⟨v, e1, r⟩ := VRs.get q (i := i) (by simpa using e)
      exact ⟨v, by simpa using e1, r⟩
theorem VRs.set {K : PySem.W.Frag} {mg : Str → Option Value} {μ : List Addr} {H : Hp} {x : PV} {v : V} (r : VR K mg μ H x v) : ∀ {xs : List PV} {vs : List V} (i : Nat), VRs K mg μ H xs vs → VRs K mg μ H (xs.set i x) (vs.set i v)
  | [], _, _, h => by cases h; exact .nil
  | _ :: _, _, 0, h => by
    cases h with
    | cons p q => exact .cons r q
  | _ :: _, _, i + 1, h => by
    cases h with
    | cons p q => exact .cons p (VRs.set r i q)
theorem VRs.take {K : PySem.W.Frag} {mg : Str → Option Value} {μ : List Addr} {H : Hp} : ∀ {xs : List PV} {vs : List V} (n : Nat), VRs K mg μ H xs vs → VRs K mg μ H (xs.take n) (vs.take n)
  | _, _, 0, _ => by simp; exact .nil
  | [], _, _ + 1, h => by cases h; exact .nil
  | _ :: _, _, n + 1, h => by
    cases h with
    | cons p q => exact .cons p (VRs.take n q)
theorem VRs.drop {K : PySem.W.Frag} {mg : Str → Option Value} {μ : List Addr} {H : Hp} : ∀ {xs : List PV} {vs : List V} (n : Nat), VRs K mg μ H xs vs → VRs K mg μ H (xs.drop n) (vs.drop n)
  | _, _, 0, h => h
  | [], _, _ + 1, h => by cases h; exact .nil
  | _ :: _, _, n + 1, h => by
    cases h with
    | cons p q => exact VRs.drop n q
theorem lstL_of {H : Hp} {S : Sto} {μ : List Addr} {x : PV} {v : V} {xs : List PV} (sr : SR X.K X.mg μ S H) (hx : VR X.K X.mg μ H x v) (e : lstL S x = some xs) : ∃ a vs, v = .ref a ∧ H a = some (.lst vs) ∧ VRs X.K X.mg μ H xs vs := by
  unfold lstL at e
  split at e
  · cases e
    cases hx with
    | fl h n ha => exact ⟨_, _, rfl, h, ha⟩
  · split at e
    · rename_i e1
      cases e
      cases hx with
      | ref hn =>
        cases sr.at_ _ _ _ hn e1 with
        | lst a1 a2 => exact ⟨_, _, rfl, a1, a2⟩
    · cases e
  · cases e
theorem o_add : OpR X (binaryOp .Add) (k2 X pAdd) := by
  refine k2_of fun pins s σ H x y v w vv ww S μ z S' Q I rv rw' hx hy sr e h => ?_
  unfold pAdd at e
  split at e
  · cases hx; cases hy; cases e
    exact op_add pins s σ H _ _ vv ww Q I rv rw' ⟨_, _, rfl, rfl, h μ H _ .refl sr (.int _)⟩
  · split at e
    · cases hx; cases hy; cases e
      exact op_add_str pins s σ H _ _ vv ww Q I rv rw' ⟨_, _, rfl, rfl, Nat.le_trans ‹_› big_le, h μ H _ .refl sr (.str _)⟩
    · cases e
  · split at e
    · cases hx with
      | tup hs1 ha1 =>
        cases hy with
        | tup hs2 ha2 =>
          cases e
          refine op_catA pins s σ H _ _ vv ww Q I rv rw' ⟨_, _, _, _, rfl, rfl, hs1, hs2, by rw [← ha1.length, ← ha2.length]; exact Nat.le_trans ‹_› big_le, fun e => ?_, fun _ e => ?_, fun _ _ p hp => ?_⟩
          · subst e; cases ha1; exact h μ H _ .refl sr (.tup hs2 ha2)
          · subst e; cases ha2; exact h μ H _ .refl sr (.tup hs1 (by rw [List.append_nil]; exact ha1))
          · exact h μ _ _ (Stp.fresh hp) (sr.fresh hp) (.tup (.of upd_same) ((VRs.mono sr (Stp.fresh hp) _ _ ha1).app (VRs.mono sr (Stp.fresh hp) _ _ ha2)))
    · cases e
  · split at e
    · rename_i e1 e2
      split at e
      · cases e
        obtain ⟨a, vs, rfl, a1, a2⟩ := lstL_of sr hx e1
        obtain ⟨b, ws, rfl, b1, b2⟩ := lstL_of sr hy e2
        refine op_cat pins s σ H _ _ vv ww Q I rv rw' ⟨_, _, _, _, rfl, rfl, a1, b1, by rw [← a2.length, ← b2.length]; exact Nat.le_trans ‹_› big_le, fun p hp => ?_⟩
        exact h μ _ _ (Stp.fresh hp) (sr.fresh hp) (sr.newL hp (a2.app b2))
      · cases e
    · cases e
theorem o_sub : OpR X (binaryOp .Sub) (k2 X pSub) := by
  refine k2_of fun pins s σ H x y v w vv ww S μ z S' Q I rv rw' hx hy sr e h => ?_
  unfold pSub at e
  split at e
  · cases hx; cases hy; cases e
    exact op_sub pins s σ H _ _ vv ww Q I rv rw' ⟨_, _, rfl, rfl, h μ H _ .refl sr (.int _)⟩
  · cases e
theorem o_mod : OpR X (binaryOp .Mod) (k2 X pMod) := by
  refine k2_of fun pins s σ H x y v w vv ww S μ z S' Q I rv rw' hx hy sr e h => ?_
  unfold pMod at e
  split at e
  · split at e
    · cases hx; cases hy; cases e
      exact op_mod pins s σ H _ _ vv ww Q I rv rw' ⟨_, _, rfl, rfl, ‹_›, h μ H _ .refl sr (.int _)⟩
    · cases e
  · cases e
theorem o_div : OpR X (binaryOp .FloorDiv) (k2 X pDiv) := by
  refine k2_of fun pins s σ H x y v w vv ww S μ z S' Q I rv rw' hx hy sr e h => ?_
  unfold pDiv at e
  split at e
  · split at e
    · cases hx; cases hy; cases e
      exact op_fdivW pins s σ H _ _ vv ww Q I rv rw' ⟨_, _, rfl, rfl, ‹_›, h μ H _ .refl sr (.int _)⟩
    · cases e
  · cases e
theorem o_pow : OpR X (binaryOp .Pow) (k2 X pPow) := by
  refine k2_of fun pins s σ H x y v w vv ww S μ z S' Q I rv rw' hx hy sr e h => ?_
  unfold pPow at e
  split at e
  · split at e
    · cases hx; cases hy; cases e
      exact op_pow pins s σ H _ _ vv ww Q I rv rw' ⟨_, _, rfl, rfl, ‹_›, h μ H _ .refl sr (.int _)⟩
    · cases e
  · cases e
theorem o_xor : OpR X (binaryOp .BitXor) (k2 X pXor) := by
  refine k2_of fun pins s σ H x y v w vv ww S μ z S' Q I rv rw' hx hy sr e h => ?_
  unfold pXor at e
  split at e
  · cases hx; cases hy; cases e
    exact op_xor pins s σ H _ _ vv ww Q I rv rw' ⟨_, _, rfl, rfl, h μ H _ .refl sr (.int _)⟩
  · cases e
theorem o_mul : OpR X (binaryOp .Mult) (k2 X pMul) := by
  refine k2_of fun pins s σ H x y v w vv ww S μ z S' Q I rv rw' hx hy sr e h => ?_
  unfold pMul at e
  split at e
  · split at e
    · cases hx; cases hy; cases e
      exact op_mulW pins s σ H _ _ vv ww Q I rv rw' ⟨_, _, rfl, rfl, ‹_›, h μ H _ .refl sr (.int _)⟩
    · cases e
  · split at e
    · rename_i e1
      split at e
      · rename_i hb
        cases hy
        cases e
        obtain ⟨a, vs, rfl, a1, a2⟩ := lstL_of sr hx e1
        refine op_rep pins s σ H _ _ vv ww Q I rv rw' ⟨_, _, _, rfl, rfl, a1, by omega, by omega, ?_, fun p hp => ?_⟩
        · rw [← a2.length]
          refine Nat.le_trans (Nat.mul_le_mul hb.2.2 (show _ ≤ 1000 by omega)) (by decide)
        · exact h μ _ _ (Stp.fresh hp) (sr.fresh hp) (sr.newL hp (VRs.rep a2 _))
      · cases e
    · cases e
  · cases e
theorem k1_of {g : Value → Sem Value} {f : PV → Sto → OP}
    (h : ∀ (pins : List (Addr × Obj)) (s : Shared) (σ : L2.St) (H : Hp) (x : PV) (v : V) (vv : Value) (S : Sto) (μ : List Addr) (z : PV) (S' : Sto) (Q : VK), Inv X pins σ H s → RelV v vv → VR X.K X.mg μ H x v → SR X.K X.mg μ S H → f x S = some (z, S') →
      okG X.K X.mg (fun μ H => VR X.K X.mg μ H) μ H Q z S' → wpAny (model X.prog X.w) X.A (g vv) (EP X pins σ Q) X.xe s) : UnR X g (k1 X f) := by
  intro pins s σ H v vv Q I rv ⟨x, S, μ, hx, sr, h1⟩
  cases q : f x S with
  | none => rw [q] at h1; exact h1.elim
  | some p =>
    obtain ⟨z, S'⟩ := p
    rw [q] at h1
    exact h pins s σ H x v vv S μ z S' Q I rv hx sr q h1
theorem o_neg : UnR X (unaryOp .USub) (k1 X pNeg) := by
  refine k1_of fun pins s σ H x v vv S μ z S' Q I rv hx sr e h => ?_
  unfold pNeg at e
  split at e
  · cases hx; cases e
    exact un_neg pins s σ H _ vv Q I rv ⟨_, rfl, h μ H _ .refl sr (.int _)⟩
  · cases e
/-- values that read as data -/
theorem reads_of {pins : List (Addr × Obj)} {s : Shared} {σ : L2.St} {H : Hp} {x : PV} {v : V} {vv : Value} {S : Sto} {μ : List Addr} {d : PyData} (I : Inv X pins σ H s) (rv : RelV v vv) (hx : VR X.K X.mg μ H x v) (sr : SR X.K X.mg μ S H) (e : dOf S x = some d) :
    (∃ as, Reads s.heap vv d as) ∧ d.plain = true ∧ d.depth ≤ 40 := ⟨Dp.reads I d v vv (dp_of sr 40 x v d hx e) rv, plain_of S 40 x d e⟩
theorem o_eq (hu : X.A.units + 64 < cLine) : OpR X (compareOp .Eq) (k2 X pEq) := by
  refine k2_of fun pins s σ H x y v w vv ww S μ z S' Q I rv rw' hx hy sr e h => ?_
  unfold pEq at e
  split at e
  · rename_i d1 d2 e1 e2
    obtain ⟨⟨as, r1⟩, p1, q1⟩ := reads_of I rv hx sr e1
    obtain ⟨⟨bs, r2⟩, p2, q2⟩ := reads_of I rw' hy sr e2
    cases e
    exact PySem.SeqAt.eq_plain r1 r2 p1 p2 (by omega) ⟨.bl _, H, I, rfl, h μ H _ .refl sr (.bl _)⟩
  · cases e
theorem o_ne (hu : X.A.units + 64 < cLine) : OpR X (compareOp .NotEq) (k2 X pNe) := by
  refine k2_of fun pins s σ H x y v w vv ww S μ z S' Q I rv rw' hx hy sr e h => ?_
  unfold pNe at e
  split at e
  · rename_i d1 d2 e1 e2
    obtain ⟨⟨as, r1⟩, p1, q1⟩ := reads_of I rv hx sr e1
    obtain ⟨⟨bs, r2⟩, p2, q2⟩ := reads_of I rw' hy sr e2
    cases e
    exact PySem.SeqAt.ne_plain r1 r2 p1 p2 (by omega) ⟨.bl _, H, I, rfl, h μ H _ .refl sr (.bl _)⟩
  · cases e
theorem ord_of {op : CmpOp} {f : PyData → PyData → Bool} (hu : X.A.units + 64 < cLine)
    (rule : ∀ (E : Value → Shared → Prop) (s : Shared) (a b : Value) (da db : PyData) (as bs : List Addr) (Q : Value → Shared → Prop), Reads s.heap a da as → Reads s.heap b db bs → PySem.W.alike da db = true → da ≠ .none → X.A.units + min da.depth db.depth < cLine → Q (.bool (f da db)) s → wpAny (model X.prog X.w) X.A (compareOp op a b) Q E s)
    {pins : List (Addr × Obj)} {s : Shared} {σ : L2.St} {H : Hp} {x y : PV} {v w : V} {vv ww : Value} {S : Sto} {μ : List Addr} {z : PV} {S' : Sto} {Q : VK} (I : Inv X pins σ H s) (rv : RelV v vv) (rw' : RelV w ww) (hx : VR X.K X.mg μ H x v) (hy : VR X.K X.mg μ H y w) (sr : SR X.K X.mg μ S H) (e : pOrd f x y S = some (z, S'))
      (h : okG X.K X.mg (fun μ H => VR X.K X.mg μ H) μ H Q z S') : wpAny (model X.prog X.w) X.A (compareOp op vv ww) (EP X pins σ Q) X.xe s := by
  unfold pOrd at e
  split at e
  · cases e
  · rename_i d1 d2 hn e1 e2
    split at e
    · rename_i ha
      obtain ⟨⟨as, r1⟩, p1, q1⟩ := reads_of I rv hx sr e1
      obtain ⟨⟨bs, r2⟩, p2, q2⟩ := reads_of I rw' hy sr e2
      cases e
      exact rule X.xe s vv ww d1 d2 as bs _ r1 r2 ha hn (by omega) ⟨.bl _, H, I, rfl, h μ H _ .refl sr (.bl _)⟩
    · cases e
  · cases e
theorem o_lt (hu : X.A.units + 64 < cLine) : OpR X (compareOp .Lt) (k2 X pLt) := by
  refine k2_of fun pins s σ H x y v w vv ww S μ z S' Q I rv rw' hx hy sr e h => ?_
  unfold pLt at e
  split at e
  · cases hx; cases hy; cases e
    exact op_lt pins s σ H _ _ vv ww Q I rv rw' ⟨_, _, rfl, rfl, h μ H _ .refl sr (.bl _)⟩
  · exact ord_of hu (fun E s a b da db as bs Q r1 r2 ha hn hu q => PySem.W.lt_data r1 r2 ha hn hu q) I rv rw' hx hy sr e h
theorem o_gt (hu : X.A.units + 64 < cLine) : OpR X (compareOp .Gt) (k2 X pGt) := by
  refine k2_of fun pins s σ H x y v w vv ww S μ z S' Q I rv rw' hx hy sr e h => ?_
  unfold pGt at e
  split at e
  · cases hx; cases hy; cases e
    exact op_gt pins s σ H _ _ vv ww Q I rv rw' ⟨_, _, rfl, rfl, h μ H _ .refl sr (.bl _)⟩
  · exact ord_of hu (fun E s a b da db as bs Q r1 r2 ha hn hu q => PySem.W.gt_data r1 r2 ha hn hu q) I rv rw' hx hy sr e h
theorem o_le (hu : X.A.units + 64 < cLine) : OpR X (compareOp .LtE) (k2 X pLe) := by
  refine k2_of fun pins s σ H x y v w vv ww S μ z S' Q I rv rw' hx hy sr e h => ?_
  unfold pLe at e
  split at e
  · cases hx; cases hy; cases e
    exact op_le pins s σ H _ _ vv ww Q I rv rw' ⟨_, _, rfl, rfl, h μ H _ .refl sr (.bl _)⟩
  · exact ord_of hu (fun E s a b da db as bs Q r1 r2 ha hn hu q => PySem.W.le_data r1 r2 ha hn hu q) I rv rw' hx hy sr e h
theorem o_ge (hu : X.A.units + 64 < cLine) : OpR X (compareOp .GtE) (k2 X pGe) := by
  refine k2_of fun pins s σ H x y v w vv ww S μ z S' Q I rv rw' hx hy sr e h => ?_
  unfold pGe at e
  split at e
  · cases hx; cases hy; cases e
    exact op_ge pins s σ H _ _ vv ww Q I rv rw' ⟨_, _, rfl, rfl, h μ H _ .refl sr (.bl _)⟩
  · exact ord_of hu (fun E s a b da db as bs Q r1 r2 ha hn hu q => PySem.W.ge_data r1 r2 ha hn hu q) I rv rw' hx hy sr e h
theorem o_in (hu : X.A.units + 64 < cLine) : OpR X (compareOp .In) (k2 X (pIn false)) := by
  refine k2_of fun pins s σ H x y v w vv ww S μ z S' Q I rv rw' hx hy sr e h => ?_
  unfold pIn at e
  split at e
  · rename_i d1 d2 e1 e2
    obtain ⟨⟨as, r1⟩, p1, q1⟩ := reads_of I rv hx sr e1
    obtain ⟨⟨bs, r2⟩, p2, q2⟩ := reads_of I rw' hy sr e2
    cases e
    rw [Bool.false_xor] at h
    exact PySem.SeqAt.in_tuple_data r2 r1 p2 p1 (by omega) ⟨.bl _, H, I, rfl, h μ H _ .refl sr (.bl _)⟩
  · rename_i d1 d2 e1 e2
    obtain ⟨⟨as, r1⟩, p1, q1⟩ := reads_of I rv hx sr e1
    obtain ⟨⟨bs, r2⟩, p2, q2⟩ := reads_of I rw' hy sr e2
    cases e
    rw [Bool.false_xor] at h
    exact PySem.SeqAt.in_list_data r2 r1 p2 p1 (by omega) ⟨.bl _, H, I, rfl, h μ H _ .refl sr (.bl _)⟩
  · cases e
theorem o_notin (hu : X.A.units + 64 < cLine) : OpR X (compareOp .NotIn) (k2 X (pIn true)) := by
  refine k2_of fun pins s σ H x y v w vv ww S μ z S' Q I rv rw' hx hy sr e h => ?_
  unfold pIn at e
  split at e
  · rename_i d1 d2 e1 e2
    obtain ⟨⟨as, r1⟩, p1, q1⟩ := reads_of I rv hx sr e1
    obtain ⟨⟨bs, r2⟩, p2, q2⟩ := reads_of I rw' hy sr e2
    cases e
    rw [Bool.true_xor] at h
    exact PySem.SeqAt.notIn_tuple_data r2 r1 p2 p1 (by omega) ⟨.bl _, H, I, rfl, h μ H _ .refl sr (.bl _)⟩
  · rename_i d1 d2 e1 e2
    obtain ⟨⟨as, r1⟩, p1, q1⟩ := reads_of I rv hx sr e1
    obtain ⟨⟨bs, r2⟩, p2, q2⟩ := reads_of I rw' hy sr e2
    cases e
    rw [Bool.true_xor] at h
    exact PySem.SeqAt.notIn_list_data r2 r1 p2 p1 (by omega) ⟨.bl _, H, I, rfl, h μ H _ .refl sr (.bl _)⟩
  · cases e
theorem VR.non_iff {K : PySem.W.Frag} {mg : Str → Option Value} {μ : List Addr} {H : Hp} {x : PV} {v : V} (h : VR K mg μ H x v) : v = .non ↔ x = .non := by
  cases h <;> simp
theorem o_isN : OpR X (compareOp .Is) (k2 X pIsN) := by
  refine k2_of fun pins s σ H x y v w vv ww S μ z S' Q I rv rw' hx hy sr e h => ?_
  unfold pIsN at e
  split at e
  · cases hx; cases hy; cases e
    exact op_isN pins s σ H _ _ vv ww Q I rv rw' ⟨rfl, h μ H _ .refl sr (.bl _)⟩
  · rename_i hn
    cases hy; cases e
    refine op_isN pins s σ H _ _ vv ww Q I rv rw' ⟨rfl, ?_⟩
    have : decide (v = V.non) = false := decide_eq_false fun z => hn (hx.non_iff.mp z)
    rw [this]
    exact h μ H _ .refl sr (.bl _)
  · cases e
theorem o_notN : OpR X (compareOp .IsNot) (k2 X pNotN) := by
  refine k2_of fun pins s σ H x y v w vv ww S μ z S' Q I rv rw' hx hy sr e h => ?_
  unfold pNotN at e
  split at e
  · cases hx; cases hy; cases e
    exact op_notN pins s σ H _ _ vv ww Q I rv rw' ⟨rfl, h μ H _ .refl sr (.bl _)⟩
  · rename_i hn
    cases hy; cases e
    refine op_notN pins s σ H _ _ vv ww Q I rv rw' ⟨rfl, ?_⟩
    have : decide (v = V.non) = false := decide_eq_false fun z => hn (hx.non_iff.mp z)
    rw [this]
    exact h μ H _ .refl sr (.bl _)
  · cases e
/-- built-ins -/
theorem kL_of {g : Value} {f : List PV → Sto → OP}
    (h : ∀ (pins : List (Addr × Obj)) (s : Shared) (σ : L2.St) (H : Hp) (xs : List PV) (vs : List V) (us : List Value) (S : Sto) (μ : List Addr) (z : PV) (S' : Sto) (Q : VK), Inv X pins σ H s → Vals vs us → VRs X.K X.mg μ H xs vs → SR X.K X.mg μ S H → f xs S = some (z, S') →
      okG X.K X.mg (fun μ H => VR X.K X.mg μ H) μ H Q z S' → wpAny (model X.prog X.w) X.A (call g us) (EP X pins σ Q) X.xe s) : CallR X g (kL X f) := by
  intro pins s σ H vs us Q I rv ⟨xs, S, μ, hx, sr, h1⟩
  cases q : f xs S with
  | none => rw [q] at h1; exact h1.elim
  | some p =>
    obtain ⟨z, S'⟩ := p
    rw [q] at h1
    exact h pins s σ H xs vs us S μ z S' Q I rv hx sr q h1
theorem seq_of {pins : List (Addr × Obj)} {s : Shared} {σ : L2.St} {H : Hp} {S : Sto} {μ : List Addr} {x : PV} {v : V} {xs : List PV} (sr : SR X.K X.mg μ S H) (hx : VR X.K X.mg μ H x v) (e : lstOf S x = some xs) :
    ∃ p vs, v = .ref p ∧ (SqL X.K H p vs ∨ SqT X.K H p vs) ∧ VRs X.K X.mg μ H xs vs ∧ ((∃ ys, x = PV.tup ys) → SqT X.K H p vs) ∧ ((∀ ys, x ≠ PV.tup ys) → SqL X.K H p vs) := by
  unfold lstOf at e
  split at e
  · cases e
    cases hx with
    | tup hs ha => exact ⟨_, _, rfl, .inr hs, ha, fun _ => hs, fun h => absurd rfl (h _)⟩
  · cases e
    cases hx with
    | kl hs ha => exact ⟨_, _, rfl, .inl hs.sq, ha, fun ⟨_, h⟩ => (by cases h), fun _ => hs.sq⟩
  · cases e
    cases hx with
    | fl hs hn ha => exact ⟨_, _, rfl, .inl (.of hs), ha, fun ⟨_, h⟩ => (by cases h), fun _ => .of hs⟩
  · split at e
    · rename_i e1
      cases e
      cases hx with
      | ref hn =>
        cases sr.at_ _ _ _ hn e1 with
        | lst a1 a2 => exact ⟨_, _, rfl, .inl (.of a1), a2, fun ⟨_, h⟩ => (by cases h), fun _ => .of a1⟩
    · cases e
  · cases e
theorem VRs.one {K : PySem.W.Frag} {mg : Str → Option Value} {μ : List Addr} {H : Hp} {x : PV} {vs : List V} (h : VRs K mg μ H [x] vs) : ∃ v, vs = [v] ∧ VR K mg μ H x v := by
  cases h with
  | cons p q => cases q; exact ⟨_, rfl, p⟩
theorem VRs.two {K : PySem.W.Frag} {mg : Str → Option Value} {μ : List Addr} {H : Hp} {x y : PV} {vs : List V} (h : VRs K mg μ H [x, y] vs) : ∃ v w, vs = [v, w] ∧ VR K mg μ H x v ∧ VR K mg μ H y w := by
  cases h with
  | cons p q => obtain ⟨w, rfl, r⟩ := q.one; exact ⟨_, _, rfl, p, r⟩
theorem b_len : CallR X (.builtin "len") (kL X bLen) := by
  refine kL_of fun pins s σ H xs vs us S μ z S' Q I rv hx sr e h => ?_
  unfold bLen at e
  split at e
  · split at e
    · cases e
      obtain ⟨v, rfl, hv⟩ := hx.one
      cases hv
      exact call_len_str pins s σ H _ us Q I rv ⟨_, rfl, Nat.le_trans ‹_› big_le, h μ H _ .refl sr (.int _)⟩
    · cases e
  · split at e
    · rename_i e1
      cases e
      obtain ⟨v, rfl, hv⟩ := hx.one
      obtain ⟨p, ws, rfl, hq, ha, _⟩ := seq_of (pins := pins) (s := s) (σ := σ) sr hv e1
      refine call_len_seq pins s σ H _ us Q I rv ⟨p, ws, rfl, hq, ?_⟩
      rw [← ha.length]
      exact h μ H _ .refl sr (.int _)
    · cases e
  · cases e
theorem b_int : CallR X (.type "int") (kL X bInt) := by
  refine kL_of fun pins s σ H xs vs us S μ z S' Q I rv hx sr e h => ?_
  unfold bInt at e
  split at e
  · cases e
    obtain ⟨v, rfl, hv⟩ := hx.one
    cases hv
    exact call_int1 pins s σ H _ us Q I rv (.inl ⟨_, rfl, h μ H _ .refl sr (.int _)⟩)
  · cases e
    obtain ⟨v, rfl, hv⟩ := hx.one
    cases hv
    exact call_int1 pins s σ H _ us Q I rv (.inr ⟨_, rfl, h μ H _ .refl sr (.int _)⟩)
  · cases e
theorem b_abs : CallR X (.builtin "abs") (kL X bAbs) := by
  refine kL_of fun pins s σ H xs vs us S μ z S' Q I rv hx sr e h => ?_
  unfold bAbs at e
  split at e
  · cases e
    obtain ⟨v, rfl, hv⟩ := hx.one
    cases hv
    exact call_abs pins s σ H _ us Q I rv ⟨_, rfl, h μ H _ .refl sr (.int _)⟩
  · cases e
theorem b_max2 (hc : X.calm = true) : CallR X (.builtin "max") (kL X bMax2) := by
  refine kL_of fun pins s σ H xs vs us S μ z S' Q I rv hx sr e h => ?_
  unfold bMax2 at e
  split at e
  · cases e
    obtain ⟨v, w, rfl, hv, hw⟩ := hx.two
    cases hv; cases hw
    exact call_max2 hc pins s σ H _ us Q I rv ⟨_, _, rfl, h μ H _ .refl sr (.int _)⟩
  · cases e
theorem b_min2 (hc : X.calm = true) : CallR X (.builtin "min") (kL X bMin2) := by
  refine kL_of fun pins s σ H xs vs us S μ z S' Q I rv hx sr e h => ?_
  unfold bMin2 at e
  split at e
  · cases e
    obtain ⟨v, w, rfl, hv, hw⟩ := hx.two
    cases hv; cases hw
    exact call_min2 hc pins s σ H _ us Q I rv ⟨_, _, rfl, h μ H _ .refl sr (.int _)⟩
  · cases e
theorem b_divmod : CallR X (.builtin "divmod") (kL X bDivmod) := by
  refine kL_of fun pins s σ H xs vs us S μ z S' Q I rv hx sr e h => ?_
  unfold bDivmod at e
  split at e
  · split at e
    · cases e
      obtain ⟨v, w, rfl, hv, hw⟩ := hx.two
      cases hv; cases hw
      exact call_divmod pins s σ H _ us Q I rv ⟨_, _, rfl, ‹_›, fun p hp => h μ _ _ (Stp.fresh hp) (sr.fresh hp) (.tup (.of upd_same) (.cons (.int _) (.cons (.int _) .nil)))⟩
    · cases e
  · cases e
theorem bools_of {K : PySem.W.Frag} {mg : Str → Option Value} {μ : List Addr} {H : Hp} : ∀ {xs : List PV} {vs : List V} {bs : List Bool}, VRs K mg μ H xs vs → boolsOf xs = some bs → vs = bs.map V.bl
  | [], _, _, h, e => by cases h; cases e; rfl
  | x :: xs, _, bs, h, e => by
    cases h with
    | cons h1 h2 =>
      unfold boolsOf mapO at e
      cases h1 with
      | bl b =>
        simp only at e
        split at e
        · rename_i q
          cases e
          rw [bools_of h2 q]
          rfl
        · cases e
      | _ => cases e
theorem b_all (hc : X.calm = true) : CallR X (.builtin "all") (kL X bAll) := by
  refine kL_of fun pins s σ H xs vs us S μ z S' Q I rv hx sr e h => ?_
  unfold bAll at e
  split at e
  · split at e
    · split at e
      · rename_i e1 _ _ e2
        cases e
        obtain ⟨v, rfl, hv⟩ := hx.one
        obtain ⟨a, ws, rfl, a1, a2⟩ := lstL_of sr hv e1
        have := bools_of a2 e2
        subst this
        exact cr_all hc pins s σ H _ us Q I rv ⟨_, _, rfl, .of a1, h μ H _ .refl sr (.bl _)⟩
      · cases e
    · cases e
  · cases e
theorem b_any (hc : X.calm = true) : CallR X (.builtin "any") (kL X bAny) := by
  refine kL_of fun pins s σ H xs vs us S μ z S' Q I rv hx sr e h => ?_
  unfold bAny at e
  split at e
  · split at e
    · split at e
      · rename_i e1 _ _ e2
        cases e
        obtain ⟨v, rfl, hv⟩ := hx.one
        obtain ⟨a, ws, rfl, a1, a2⟩ := lstL_of sr hv e1
        have := bools_of a2 e2
        subst this
        exact cr_any hc pins s σ H _ us Q I rv ⟨_, _, rfl, .of a1, h μ H _ .refl sr (.bl _)⟩
      · cases e
    · cases e
  · cases e
theorem b_tuple : CallR X (.type "tuple") (kL X bTuple) := by
  refine kL_of fun pins s σ H xs vs us S μ z S' Q I rv hx sr e h => ?_
  unfold bTuple at e
  split at e
  · rename_i x
    split at e
    · rename_i ys e1
      cases e
      obtain ⟨v, rfl, hv⟩ := hx.one
      obtain ⟨p, ws, rfl, hq, ha, h1, h2⟩ := seq_of (pins := pins) (s := s) (σ := σ) sr hv e1
      by_cases ht : ∃ ys, x = PV.tup ys
      · exact call_tuple_of pins s σ H _ us Q I rv ⟨p, ws, rfl, .inr ⟨h1 ht, h μ H _ .refl sr (.tup (h1 ht) ha)⟩⟩
      · exact call_tuple_of pins s σ H _ us Q I rv ⟨p, ws, rfl, .inl ⟨h2 fun ys z => ht ⟨ys, z⟩, fun l hl => h μ _ _ (Stp.fresh hl) (sr.fresh hl) (.tup (.of upd_same) (VRs.mono sr (Stp.fresh hl) _ _ ha))⟩⟩
    · cases e
  · cases e
theorem b_listK : CallR X (.type "list") (kL X bListK) := by
  refine kL_of fun pins s σ H xs vs us S μ z S' Q I rv hx sr e h => ?_
  unfold bListK at e
  split at e
  · rename_i x
    split at e
    · rename_i ys e1
      cases e
      obtain ⟨v, rfl, hv⟩ := hx.one
      obtain ⟨p, ws, rfl, hq, ha, h1, h2⟩ := seq_of (pins := pins) (s := s) (σ := σ) sr hv e1
      exact call_list_of pins s σ H _ us Q I rv ⟨p, ws, rfl, hq, fun l hl => h μ _ _ (Stp.fresh hl) (sr.fresh hl) (sr.newL hl ha)⟩
    · cases e
  · cases e
theorem b_list : CallR X (.type "list") (kL X bList) := by
  refine kL_of fun pins s σ H xs vs us S μ z S' Q I rv hx sr e h => ?_
  unfold bList at e
  split at e
  · rename_i x
    split at e
    · rename_i ys e1
      cases e
      obtain ⟨v, rfl, hv⟩ := hx.one
      obtain ⟨p, ws, rfl, hq, ha, h1, h2⟩ := seq_of (pins := pins) (s := s) (σ := σ) sr hv e1
      exact call_list_of pins s σ H _ us Q I rv ⟨p, ws, rfl, hq, fun l hl => h (μ ++ [l]) _ _ (Stp.newObj hl) (sr.newObj hl (.lst upd_same (VRs.mono sr (Stp.newObj hl) _ _ ha))) (.ref (by rw [← sr.len]; simp))⟩
    · cases e
  · cases e
/-- an item -/
theorem atI_len {α β : Type} {xs : List α} {ys : List β} (hl : xs.length = ys.length) {i : Int} {x : α} (e : atI xs i = some x) : ∃ j : Nat, ixN ys.length i = some j ∧ xs[j]? = some x := by
  unfold atI at e
  rw [hl] at e
  cases q : ixN ys.length i with
  | none => rw [q] at e; cases e
  | some j => rw [q] at e; exact ⟨j, rfl, e⟩
theorem x_seq : IxR X (k2 X pIx) := by
  intro a b pins s σ H v w vv ww Q I rv rw' ⟨x, y, S, μ, hx, hy, sr, h1⟩ hp
  unfold pIx at h1
  split at h1
  · rename_i xs i e1
    split at h1
    · rename_i z e2
      obtain ⟨p, ws, rfl, hq, ha, h3, h4⟩ := seq_of (pins := pins) (s := s) (σ := σ) sr hx e1
      cases hy
      obtain ⟨j, e3, e4⟩ := atI_len ha.length e2
      obtain ⟨u, e5, r5⟩ := ha.get e4
      have e6 : atI ws i = some u := by unfold atI; rw [e3]; exact e5
      have hQ : Q u H := h1 μ H _ .refl sr r5
      rcases hq with hq | hq
      · exact ix_list a b pins s σ H _ _ vv ww Q I rv rw' ⟨p, ws, i, u, rfl, rfl, hq, e6, hQ⟩ hp
      · exact ix_tup a b pins s σ H _ _ vv ww Q I rv rw' ⟨p, ws, i, u, rfl, rfl, hq, e6, hQ⟩ hp
    · exact h1.elim
  · exact h1.elim
end
end FL

/-! FLd: statements, targets, loops. -/
namespace FL
open PySem PySem.Spec L2
inductive Fl where
  | nx | rt (v : PV) | bk | ct
inductive SRes where
  | ok (f : Fl) (ρ : En) (S : Sto)
  | exc (C : Str) (fs : List (Str × PV)) (ρ : En) (S : Sto)
  | stk
def SOut (r : SRes) (k : Fl → En → Sto → Prop) (e : Str → List (Str × PV) → En → Sto → Prop) : Prop := match r with
  | .ok f ρ S => k f ρ S
  | .exc C fs ρ S => e C fs ρ S
  | .stk => False
theorem SOut.mono {r : SRes} {k k' : Fl → En → Sto → Prop} {e e' : Str → List (Str × PV) → En → Sto → Prop} (h : SOut r k e) (hk : ∀ f ρ S, k f ρ S → k' f ρ S) (he : ∀ C fs ρ S, e C fs ρ S → e' C fs ρ S) : SOut r k' e' := by
  cases r with
  | ok f ρ S => exact hk _ _ _ h
  | exc C fs ρ S => exact he _ _ _ _ h
  | stk => exact h
/-- the context's own facts -/
structure CxF (X : Cx) (W : WX) (k : Nat) : Prop where
  tk : Takes X W
  po : PassesOwn (model X.prog X.w) X.A X.env X.xe
  calm : X.calm = true
  hs : X.stack = X.env :: X.outer
  hf : X.env.frame = some X.env.locals
  room : Room k X.A
  nd : X.N.Nodup
theorem CxF.hu {X : Cx} {W : WX} {k : Nat} (F : CxF X W k) : X.A.units + 64 < cLine := F.room.units

section
variable (K : PySem.W.Frag) (mg : Str → Option Value)
def flK (D : Ends) (μ : List Addr) (H : Hp) (f : Fl) (σ : L2.St) : Prop := match f with
  | .nx => D.nx σ H
  | .rt v => ∀ v', VR K mg μ H v v' → D.rt v' H
  | .bk => D.bk σ H
  | .ct => D.ct σ H
def okS (D : Ends) (μ : List Addr) (H : Hp) : Fl → En → Sto → Prop := fun f ρ' S' =>
  ∀ (μ' : List Addr) (H' : Hp) (σ' : L2.St), Stp μ H μ' H' → ER K mg μ' H' ρ' σ' → SR K mg μ' S' H' → flK K mg D μ' H' f σ'
def exS (W : WX) (μ : List Addr) (H : Hp) : Str → List (Str × PV) → En → Sto → Prop := fun C fs ρ' S' =>
  ∀ (μ' : List Addr) (H' : Hp) (σ' : L2.St) (c : Value) (d : Option Addr), Stp μ H μ' H' → ER K mg μ' H' ρ' σ' → SR K mg μ' S' H' → XR K mg μ' H' C fs c d → W c d σ' H'
def tS (W : WX) (d : En → Sto → SRes) : TS := fun D σ H => ∃ (ρ : En) (S : Sto) (μ : List Addr), ER K mg μ H ρ σ ∧ SR K mg μ S H ∧ SOut (d ρ S) (okS K mg D μ H) (exS K mg W μ H)
def tGt (d : PV → En → Sto → Option (En × Sto)) : TG := fun v σ H Q => ∃ (x : PV) (ρ : En) (S : Sto) (μ : List Addr), VR K mg μ H x v ∧ ER K mg μ H ρ σ ∧ SR K mg μ S H ∧
  match d x ρ S with
  | some (ρ', S') => ∀ (μ' : List Addr) (H' : Hp) (σ' : L2.St), Stp μ H μ' H' → ER K mg μ' H' ρ' σ' → SR K mg μ' S' H' → Q σ' H'
  | none => False
def tGts (d : List PV → En → Sto → Option (En × Sto)) : TGs := fun vs σ H Q => ∃ (xs : List PV) (ρ : En) (S : Sto) (μ : List Addr), VRs K mg μ H xs vs ∧ ER K mg μ H ρ σ ∧ SR K mg μ S H ∧
  match d xs ρ S with
  | some (ρ', S') => ∀ (μ' : List Addr) (H' : Hp) (σ' : L2.St), Stp μ H μ' H' → ER K mg μ' H' ρ' σ' → SR K mg μ' S' H' → Q σ' H'
  | none => False
end
section
variable {K : PySem.W.Frag} {mg : Str → Option Value} {W : WX}
theorem okS.step {D : Ends} {μ μ1 : List Addr} {H H1 : Hp} {f : Fl} {ρ : En} {S : Sto} (h : okS K mg D μ H f ρ S) (st : Stp μ H μ1 H1) : okS K mg D μ1 H1 f ρ S :=
  fun μ' H' σ' s2 er sr => h μ' H' σ' (st.trans s2) er sr
theorem exS.step {μ μ1 : List Addr} {H H1 : Hp} {C : Str} {fs : List (Str × PV)} {ρ : En} {S : Sto} (h : exS K mg W μ H C fs ρ S) (st : Stp μ H μ1 H1) : exS K mg W μ1 H1 C fs ρ S :=
  fun μ' H' σ' c d s2 er sr r => h μ' H' σ' c d (st.trans s2) er sr r
end
theorem _root_.PySem.PS_imp {X : Cx} {e : Stmt} {t t' : TS} (h : PS X e t) (k : ∀ D σ H, t' D σ H → t D σ H) : PS X e t' := ⟨fun pins s σ H D I q => h.run pins s σ H D I (k D σ H q)⟩
theorem _root_.PySem.PSs_imp {X : Cx} {e : List Stmt} {t t' : TS} (h : PSs X e t) (k : ∀ D σ H, t' D σ H → t D σ H) : PSs X e t' := ⟨fun pins s σ H D I q => h.run pins s σ H D I (k D σ H q)⟩
theorem _root_.PySem.PG_imp {X : Cx} {e : Expr} {t t' : TG} (h : PG X e t) (k : ∀ v σ H Q, t' v σ H Q → t v σ H Q) : PG X e t' := ⟨fun pins s σ H v u Q I r q => h.run pins s σ H v u Q I r (k v σ H Q q)⟩
theorem _root_.PySem.PGs_imp {X : Cx} {e : List Expr} {t t' : TGs} (h : PGs X e t) (k : ∀ v σ H Q, t' v σ H Q → t v σ H Q) : PGs X e t' := ⟨fun pins s σ H v u Q I r q => h.run pins s σ H v u Q I r (k v σ H Q q)⟩

/-! ### the functions -/
def liftE {α : Type} (r : Res α) (ρ : En) (f : α → Sto → SRes) : SRes := match r with
  | .ok a S => f a S
  | .exc C fs S => .exc C fs ρ S
  | .stk => .stk
def sNop : En → Sto → SRes := fun ρ S => .ok .nx ρ S
def sBrk : En → Sto → SRes := fun ρ S => .ok .bk ρ S
def sCnt : En → Sto → SRes := fun ρ S => .ok .ct ρ S
def sSeq (a b : En → Sto → SRes) : En → Sto → SRes := fun ρ S => match a ρ S with
  | .ok .nx ρ1 S1 => b ρ1 S1
  | r => r
def sExp (da : En → Sto → Res PV) : En → Sto → SRes := fun ρ S => liftE (da ρ S) ρ fun _ S1 => .ok .nx ρ S1
def sRet (da : En → Sto → Res PV) : En → Sto → SRes := fun ρ S => liftE (da ρ S) ρ fun v S1 => .ok (.rt v) ρ S1
def sRetN : En → Sto → SRes := fun ρ S => .ok (.rt .non) ρ S
def sIf (dt : En → Sto → Res Bool) (a b : En → Sto → SRes) : En → Sto → SRes := fun ρ S => liftE (dt ρ S) ρ fun c S1 => if c then a ρ S1 else b ρ S1
abbrev Tgt := PV → En → Sto → Option (En × Sto)
def gNm (i : Nat) : Tgt := fun v ρ S => if i < ρ.length then some (ρ.set i (some v), S) else none
def gNil1 : List PV → En → Sto → Option (En × Sto) := fun xs ρ S => match xs with
  | [] => some (ρ, S)
  | _ => none
def gCons1 (t : Tgt) (u : List PV → En → Sto → Option (En × Sto)) : List PV → En → Sto → Option (En × Sto) := fun xs ρ S => match xs with
  | x :: r => match t x ρ S with
    | some (ρ1, S1) => u r ρ1 S1
    | none => none
  | [] => none
def gTp (n : Nat) (t : List PV → En → Sto → Option (En × Sto)) : Tgt := fun v ρ S => match v with
  | .tup xs => if xs.length = n then t xs ρ S else none
  | _ => none
/-- o[i] = v, a list -/
def setIx (o i v : PV) (S : Sto) : Option Sto := match o, i with
  | .ref n, .int k => match S[n]? with
    | some (.lst xs) => match ixN xs.length k with
      | some j => some (S.set n (.lst (xs.set j v)))
      | none => none
    | _ => none
  | _, _ => none
def gSb (st : PV → PV → PV → Sto → Option Sto) (to ti : En → Sto → Res PV) : Tgt := fun v ρ S => match to ρ S with
  | .ok o S1 => match ti ρ S1 with
    | .ok i S2 => match st o i v S2 with
      | some S3 => some (ρ, S3)
      | none => none
    | _ => none
  | _ => none
def sAsg (da : En → Sto → Res PV) (t : Tgt) : En → Sto → SRes := fun ρ S => liftE (da ρ S) ρ fun v S1 => match t v ρ S1 with
  | some (ρ1, S2) => .ok .nx ρ1 S2
  | none => .stk
def sAug (i : Nat) (f : PV → PV → Sto → OP) (da : En → Sto → Res PV) : En → Sto → SRes := fun ρ S => match ρ[i]? with
  | some (some x) => liftE (da ρ S) ρ fun y S1 => match f x y S1 with
    | some (z, S2) => .ok .nx (ρ.set i (some z)) S2
    | none => .stk
  | _ => .stk
inductive Wlk where
  | fix (xs : List PV) | live (n : Nat)
def itAt (it : Wlk) (S : Sto) (i : Nat) : Option (Option PV) := match it with
  | .fix xs => some xs[i]?
  | .live n => match S[n]? with
    | some (.lst xs) => some xs[i]?
    | _ => none
def itFuel (it : Wlk) (S : Sto) : Nat := match it with
  | .fix xs => xs.length + 1
  | .live n => match S[n]? with
    | some (.lst xs) => xs.length + 1
    | _ => 0
def forGo (it : Wlk) (tg : Tgt) (body : En → Sto → SRes) : Nat → Nat → En → Sto → SRes
  | 0, _, _, _ => .stk
  | k + 1, i, ρ, S => match itAt it S i with
    | none => .stk
    | some none => .ok .nx ρ S
    | some (some x) => match tg x ρ S with
      | none => .stk
      | some (ρ1, S1) => match body ρ1 S1 with
        | .ok .nx ρ2 S2 => forGo it tg body k (i + 1) ρ2 S2
        | .ok .ct ρ2 S2 => forGo it tg body k (i + 1) ρ2 S2
        | .ok .bk ρ2 S2 => .ok .nx ρ2 S2
        | .ok (.rt v) ρ2 S2 => .ok (.rt v) ρ2 S2
        | .exc C fs ρ2 S2 => .exc C fs ρ2 S2
        | .stk => .stk
def sFor (di : En → Sto → Res Wlk) (tg : Tgt) (body : En → Sto → SRes) : En → Sto → SRes := fun ρ S => liftE (di ρ S) ρ fun it S1 => forGo it tg body (itFuel it S1) 0 ρ S1
def whGo (c : En → Sto → Res Bool) (body : En → Sto → SRes) : Nat → En → Sto → SRes
  | 0, _, _ => .stk
  | k + 1, ρ, S => match c ρ S with
    | .ok true S1 => match body ρ S1 with
      | .ok .nx ρ2 S2 => whGo c body k ρ2 S2
      | .ok .ct ρ2 S2 => whGo c body k ρ2 S2
      | .ok .bk ρ2 S2 => .ok .nx ρ2 S2
      | .ok (.rt v) ρ2 S2 => .ok (.rt v) ρ2 S2
      | .exc C fs ρ2 S2 => .exc C fs ρ2 S2
      | .stk => .stk
    | .ok false S1 => .ok .nx ρ S1
    | .exc C fs S1 => .exc C fs ρ S1
    | .stk => .stk
def sWh (fuel : Nat) (c : En → Sto → Res Bool) (body : En → Sto → SRes) : En → Sto → SRes := fun ρ S => whGo c body fuel ρ S
/-- what is walked -/
def iSeq (da : En → Sto → Res PV) : En → Sto → Res Wlk := fun ρ S => (da ρ S).bind fun x S1 => match x with
  | .tup xs => .ok (.fix xs) S1
  | .kl xs => .ok (.fix xs) S1
  | .fl xs => .ok (.fix xs) S1
  | .ref n => match S1[n]? with
    | some (.lst _) => .ok (.live n) S1
    | _ => .stk
  | _ => .stk
def rangeL (lo : Int) (n : Nat) : List PV := (List.range n).map fun i => PV.int (lo + (i : Nat))
def iRg1 (da : En → Sto → Res (List PV)) : En → Sto → Res Wlk := fun ρ S => (da ρ S).bind fun xs S1 => match xs with
  | [.int j] => if -(2 ^ 62) ≤ j ∧ j < 2 ^ 62 then .ok (.fix (rangeL 0 j.toNat)) S1 else .stk
  | _ => .stk
def iRg2 (da : En → Sto → Res (List PV)) : En → Sto → Res Wlk := fun ρ S => (da ρ S).bind fun xs S1 => match xs with
  | [.int i, .int j] => if -(2 ^ 62) ≤ i ∧ i < 2 ^ 62 ∧ -(2 ^ 62) ≤ j ∧ j < 2 ^ 62 then .ok (.fix (rangeL i (j - i).toNat)) S1 else .stk
  | _ => .stk

/-! ### the rules -/
abbrev FS (X : Cx) (W : WX) (s : Stmt) (d : En → Sto → SRes) : Prop := PS X s (tS X.K X.mg W d)
abbrev FSs (X : Cx) (W : WX) (s : List Stmt) (d : En → Sto → SRes) : Prop := PSs X s (tS X.K X.mg W d)
abbrev FG (X : Cx) (e : Expr) (d : Tgt) : Prop := PG X e (tGt X.K X.mg d)
abbrev FGs (X : Cx) (es : List Expr) (d : List PV → En → Sto → Option (En × Sto)) : Prop := PGs X es (tGts X.K X.mg d)
section
variable {X : Cx} {W : WX} {e a b c : Expr} {es : List Expr} {pos : Pos} {da db : En → Sto → Res PV} {dl : En → Sto → Res (List PV)} {dt : En → Sto → Res Bool} {st : Stmt} {sts : List Stmt} {d1 d2 : En → Sto → SRes} {g : Tgt} {k : Nat}
/-- an expression first, then the rest of the statement -/
theorem tS_bind {α β : Type} {R : List Addr → Hp → α → β → Prop} {d : En → Sto → Res α} {f : α → Sto → SRes} {ρ : En} {S : Sto} {μ : List Addr} {σ : L2.St} {H : Hp} {D : Ends} {Q1 : β → Hp → Prop}
    (er : ER X.K X.mg μ H ρ σ) (sr : SR X.K X.mg μ S H) (h : SOut (liftE (d ρ S) ρ f) (okS X.K X.mg D μ H) (exS X.K X.mg W μ H))
    (k : ∀ (a : α) (b : β) (S1 : Sto) (μ1 : List Addr) (H1 : Hp), Stp μ H μ1 H1 → SR X.K X.mg μ1 S1 H1 → R μ1 H1 a b → ER X.K X.mg μ1 H1 ρ σ → SOut (f a S1) (okS X.K X.mg D μ1 H1) (exS X.K X.mg W μ1 H1) → Q1 b H1) : tG X.K X.mg R W d σ H Q1 := by
  refine ⟨ρ, S, μ, er, sr, ?_⟩
  unfold liftE at h
  cases q : d ρ S with
  | ok a S1 =>
    rw [q] at h
    intro μ1 H1 b st sr1 r
    exact k a b S1 μ1 H1 st sr1 r (er.mono sr st) (h.mono (fun _ _ _ q => q.step st) fun _ _ _ _ q => q.step st)
  | exc C fs S1 =>
    rw [q] at h
    intro μ1 H1 c d st sr1 r
    exact h μ1 H1 σ c d st (er.mono sr st) sr1 r
  | stk => rw [q] at h; exact h
theorem fs_nil : FSs X W [] sNop := by
  refine PSs_imp pss_nil fun D σ H h => ?_
  obtain ⟨ρ, S, μ, er, sr, h⟩ := h
  exact h μ H σ .refl er sr
theorem fs_cons (h1 : FS X W st d1) (h2 : FSs X W sts d2) : FSs X W (st :: sts) (sSeq d1 d2) := by
  refine PSs_imp (pss_cons h1 h2) fun D σ H h => ?_
  obtain ⟨ρ, S, μ, er, sr, h⟩ := h
  refine ⟨ρ, S, μ, er, sr, ?_⟩
  unfold sSeq at h
  cases q : d1 ρ S with
  | stk => rw [q] at h; exact h
  | exc C fs ρ1 S1 => rw [q] at h; exact h
  | ok f ρ1 S1 =>
    rw [q] at h
    cases f with
    | nx =>
      intro μ1 H1 σ1 st1 er1 sr1
      exact ⟨ρ1, S1, μ1, er1, sr1, h.mono (fun _ _ _ q => q.step st1) fun _ _ _ _ q => q.step st1⟩
    | rt v => exact fun μ1 H1 σ1 st1 er1 sr1 => h μ1 H1 σ1 st1 er1 sr1
    | bk => exact fun μ1 H1 σ1 st1 er1 sr1 => h μ1 H1 σ1 st1 er1 sr1
    | ct => exact fun μ1 H1 σ1 st1 er1 sr1 => h μ1 H1 σ1 st1 er1 sr1
theorem fs_one (h1 : FS X W st d1) : FSs X W [st] d1 := pss_one h1
theorem fs_pass : FS X W (.Pass pos) sNop := by
  refine PS_imp ps_pass fun D σ H h => ?_
  obtain ⟨ρ, S, μ, er, sr, h⟩ := h
  exact h μ H σ .refl er sr
theorem fs_brk : FS X W (.Break pos) sBrk := by
  refine PS_imp ps_break fun D σ H h => ?_
  obtain ⟨ρ, S, μ, er, sr, h⟩ := h
  exact h μ H σ .refl er sr
theorem fs_cnt : FS X W (.Continue pos) sCnt := by
  refine PS_imp ps_continue fun D σ H h => ?_
  obtain ⟨ρ, S, μ, er, sr, h⟩ := h
  exact h μ H σ .refl er sr
theorem fs_exp (he : FE X W e da) (hs : swapsWith e none pos.line X.env = pure false := by rfl) : FS X W (.Expr e pos) (sExp da) := by
  refine PS_imp (ps_expr he hs) fun D σ H h => ?_
  obtain ⟨ρ, S, μ, er, sr, h⟩ := h
  exact tS_bind er sr h fun x v S1 μ1 H1 st1 sr1 r1 er1 h1 => h1 μ1 H1 σ .refl er1 sr1
theorem fs_ret (he : FE X W e da) : FS X W (.Return (some e) pos) (sRet da) := by
  refine PS_imp (ps_ret he) fun D σ H h => ?_
  obtain ⟨ρ, S, μ, er, sr, h⟩ := h
  exact tS_bind er sr h fun x v S1 μ1 H1 st1 sr1 r1 er1 h1 => h1 μ1 H1 σ .refl er1 sr1 v r1
theorem fs_retN : FS X W (.Return none pos) sRetN := by
  refine PS_imp ps_retN fun D σ H h => ?_
  obtain ⟨ρ, S, μ, er, sr, h⟩ := h
  exact h μ H σ .refl er sr _ .non
theorem fs_if {s1 s2 : List Stmt} (hc : FT X W c dt) (h1 : FSs X W s1 d1) (h2 : FSs X W s2 d2) : FS X W (.If c s1 s2 pos) (sIf dt d1 d2) := by
  refine PS_imp (ps_if hc h1 h2) fun D σ H h => ?_
  obtain ⟨ρ, S, μ, er, sr, h⟩ := h
  refine tS_bind er sr h fun x v S1 μ1 H1 st1 sr1 r1 er1 h1 => ?_
  obtain rfl : x = v := r1
  cases x with
  | true => exact ⟨ρ, S1, μ1, er1, sr1, h1⟩
  | false => exact ⟨ρ, S1, μ1, er1, sr1, h1⟩
theorem ER.set {K : PySem.W.Frag} {mg : Str → Option Value} {μ : List Addr} {H : Hp} {ρ : En} {σ : L2.St} {i : Nat} {x : PV} {v : V} (er : ER K mg μ H ρ σ) (hi : i < ρ.length) (r : VR K mg μ H x v) : ER K mg μ H (ρ.set i (some x)) (σ.set i (some v)) := by
  refine ⟨by simp [er.1], fun j y e => ?_⟩
  by_cases hj : j = i
  · subst hj
    rw [List.getElem?_set_self hi] at e
    cases e
    exact ⟨v, List.getElem?_set_self (by rw [← er.1]; exact hi), r⟩
  · rw [List.getElem?_set_ne (Ne.symm hj)] at e
    obtain ⟨w, e1, r1⟩ := er.2 j y e
    exact ⟨w, by rw [List.getElem?_set_ne (Ne.symm hj)]; exact e1, r1⟩
/-! targets -/
theorem fg_name {i : Nat} {x : Str} (hN : X.N.Nodup) (hi : X.N[i]? = some x) (hx : Loc X.env.scope x) (hf : X.fn x = true ∨ X.env.scope.names.lookup x = some .local := by first | exact .inl rfl | exact .inr rfl | assumption) : FG X (.Name x pos) (gNm i) := by
  refine PG_imp (pg_name hN hi hx hf) fun v σ H Q h => ?_
  obtain ⟨x, ρ, S, μ, r, er, sr, h⟩ := h
  unfold gNm at h
  by_cases hl : i < ρ.length
  · rw [if_pos hl] at h
    exact h μ H _ .refl (er.set hl r) sr
  · rw [if_neg hl] at h; exact h.elim
theorem fg_nil : FGs X [] gNil1 := by
  refine PGs_imp pgs_nil fun vs σ H Q h => ?_
  obtain ⟨xs, ρ, S, μ, r, er, sr, h⟩ := h
  unfold gNil1 at h
  cases r with
  | nil => exact ⟨rfl, h μ H σ .refl er sr⟩
  | cons _ _ => exact h.elim
theorem fg_cons {u : List PV → En → Sto → Option (En × Sto)} (h1 : FG X e g) (h2 : FGs X es u)
    (hs : (assignEach (e :: es) X.env).map (·.2) = assign e X.env :: (assignEach es X.env).map (·.2) := by rfl) : FGs X (e :: es) (gCons1 g u) := by
  refine PGs_imp (pgs_cons h1 h2 hs) fun vs σ H Q h => ?_
  obtain ⟨xs, ρ, S, μ, r, er, sr, h⟩ := h
  unfold gCons1 at h
  cases r with
  | nil => exact h.elim
  | @cons x xs v vs r1 r2 =>
    refine ⟨v, vs, rfl, x, ρ, S, μ, r1, er, sr, ?_⟩
    simp only at h
    cases q : g x ρ S with
    | none => rw [q] at h; exact h.elim
    | some p =>
      obtain ⟨ρ1, S1⟩ := p
      rw [q] at h
      intro μ1 H1 σ1 st1 er1 sr1
      refine ⟨xs, ρ1, S1, μ1, VRs.mono sr st1 _ _ r2, er1, sr1, ?_⟩
      simp only at h
      cases q2 : u xs ρ1 S1 with
      | none => rw [q2] at h; exact h.elim
      | some p =>
        rw [q2] at h
        exact fun μ2 H2 σ2 st2 er2 sr2 => h μ2 H2 σ2 (st1.trans st2) er2 sr2
theorem fg_tup {x1 : Nat} {u : List PV → En → Sto → Option (En × Sto)} {n : Nat} (hc : X.calm = true) (h : FGs X es u) (hn : (assignEach es X.env).length = n := by rfl) (hst : (assignEach es X.env).findIdx? (·.1) = none := by rfl) : FG X (.Tuple es x1 pos) (gTp n u) := by
  refine PG_imp (pg_tup hc h hn hst) fun v σ H Q h => ?_
  obtain ⟨x, ρ, S, μ, r, er, sr, h⟩ := h
  unfold gTp at h
  cases r with
  | @tup a xs vs hs ha =>
    simp only at h
    by_cases hl : xs.length = n
    · rw [if_pos hl] at h
      exact ⟨_, _, rfl, hs, by rw [← ha.length]; exact hl, xs, ρ, S, μ, ha, er, sr, h⟩
    · rw [if_neg hl] at h; exact h.elim
  | _ => exact h.elim
/-- a store o[i] = v by values -/
def SetOk (X : Cx) (st : PV → PV → PV → Sto → Option Sto) : Prop := PSet X fun o i v H Q => ∃ (xo xi xv : PV) (S : Sto) (μ : List Addr), VR X.K X.mg μ H xo o ∧ VR X.K X.mg μ H xi i ∧ VR X.K X.mg μ H xv v ∧ SR X.K X.mg μ S H ∧
  match st xo xi xv S with
  | some S' => ∀ (μ' : List Addr) (H' : Hp), Stp μ H μ' H' → SR X.K X.mg μ' S' H' → Q H'
  | none => False
theorem set_ix : SetOk X setIx := by
  intro pins s σ H o i v ov iv u Q I ro ri rv ⟨xo, xi, xv, S, μ, hxo, hxi, hxv, sr, h⟩
  unfold setIx at h
  split at h
  · rename_i S' e
    split at e
    · split at e
      · rename_i e1
        split at e
        · rename_i j e2
          cases e
          cases hxi
          cases hxo with
          | ref hn =>
            cases sr.at_ _ _ _ hn e1 with
            | @lst _ _ vs a1 a2 =>
              refine set_list pins s σ H _ _ v ov iv u Q I ro ri rv ⟨_, vs, _, j, rfl, rfl, a1, by rw [← a2.length]; exact e2, ?_⟩
              exact h μ _ (Stp.put hn) (sr.put hn (.lst upd_same (VRs.set (VR.mono sr (Stp.put hn) _ _ hxv) j (VRs.mono sr (Stp.put hn) _ _ a2))))
        · cases e
      · cases e
    · cases e
  · exact h.elim
theorem fg_sub {o i : Expr} {to ti : En → Sto → Res PV} {t : PV → PV → PV → Sto → Option Sto} (ho : FE X (fun _ _ _ _ => False) o to) (hi : FE X (fun _ _ _ _ => False) i ti) (hs : SetOk X t)
    (ha : ∀ v, assign (.Subscript o i pos) X.env v = (do
      let ov ← holding [v] (eval o X.env)
      let iv ← holding [v, ov] (eval i X.env)
      standAt pos
      holding [v, ov, iv] (setItem ov iv v)
      release [v, ov, iv] []) := by intro _; rfl) : FG X (.Subscript o i pos) (gSb t to ti) := by
  refine PG_imp (pg_sub ho hi hs ha) fun v σ H Q h => ?_
  obtain ⟨x, ρ, S, μ, r, er, sr, h⟩ := h
  unfold gSb at h
  refine ⟨ρ, S, μ, er, sr, ?_⟩
  cases q : to ρ S with
  | stk => rw [q] at h; exact h
  | exc C fs S1 => rw [q] at h; exact h.elim
  | ok xo S1 =>
    rw [q] at h
    intro μ1 H1 vo st1 sr1 r1
    refine ⟨ρ, S1, μ1, er.mono sr st1, sr1, ?_⟩
    simp only at h
    cases q2 : ti ρ S1 with
    | stk => rw [q2] at h; exact h
    | exc C fs S1 => rw [q2] at h; exact h.elim
    | ok xi S2 =>
      rw [q2] at h
      intro μ2 H2 vi st2 sr2 r2
      refine ⟨xo, xi, x, S2, μ2, VR.mono sr1 st2 _ _ r1, r2, VR.mono sr (st1.trans st2) _ _ r, sr2, ?_⟩
      simp only at h
      cases q3 : t xo xi x S2 with
      | none => rw [q3] at h; exact h
      | some S3 =>
        rw [q3] at h
        exact fun μ3 H3 st3 sr3 => h μ3 H3 σ ((st1.trans st2).trans st3) (er.mono sr ((st1.trans st2).trans st3)) sr3
theorem fs_asg {tg : Expr} (he : FE X W e da) (hg : FG X tg g) (hs : swapsWithSole [tg] e pos.line X.env = pure false := by rfl) (hw : swappedStores [tg] e X.env = pure none := by rfl)
    (h1 : (assignEach [tg] X.env).map (·.2) = [assign tg X.env] := by rfl) : FS X W (.Assign [tg] e pos) (sAsg da g) := by
  refine PS_imp (ps_asg he hg hs hw h1) fun D σ H h => ?_
  obtain ⟨ρ, S, μ, er, sr, h⟩ := h
  refine tS_bind er sr h fun x v S1 μ1 H1 st1 sr1 r1 er1 h1 => ?_
  refine ⟨x, ρ, S1, μ1, r1, er1, sr1, ?_⟩
  cases q : g x ρ S1 with
  | none => rw [q] at h1; exact h1
  | some p =>
    obtain ⟨ρ2, S2⟩ := p
    rw [q] at h1
    exact fun μ2 H2 σ2 st2 er2 sr2 => h1 μ2 H2 σ2 st2 er2 sr2
theorem fs_set {i : Nat} {x : Str} {pos' : Pos} (hN : X.N.Nodup) (hi : X.N[i]? = some x) (hx : Loc X.env.scope x) (he : FE X W e da) (hs : swapsWith e (some (.Name x pos')) pos.line X.env = pure false := by rfl) (hf : X.fn x = true ∨ X.env.scope.names.lookup x = some .local := by first | exact .inl rfl | exact .inr rfl | assumption) :
    FS X W (.Assign [.Name x pos'] e pos) (sAsg da (gNm i)) := by
  refine PS_imp (ps_set hN hi hx he hs hf) fun D σ H h => ?_
  obtain ⟨ρ, S, μ, er, sr, h⟩ := h
  refine tS_bind er sr h fun x v S1 μ1 H1 st1 sr1 r1 er1 h1 => ?_
  unfold gNm at h1
  by_cases hl : i < ρ.length
  · rw [if_pos hl] at h1
    exact h1 μ1 H1 _ .refl (er1.set hl r1) sr1
  · rw [if_neg hl] at h1; exact h1.elim
theorem fs_aug {i : Nat} {x : Str} {op : Operator} {f : PV → PV → Sto → OP} {pos' : Pos} (hN : X.N.Nodup) (hi : X.N[i]? = some x) (hx : Loc X.env.scope x) (he : FE X W e da) (ho : OpR X (inplaceOp op) (k2 X f)) (hf : X.fn x = true ∨ X.env.scope.names.lookup x = some .local := by first | exact .inl rfl | exact .inr rfl | assumption) :
    FS X W (.AugAssign (.Name x pos') op e pos) (sAug i f da) := by
  refine PS_imp (ps_aug hN hi hx he (ti := k2 X f) ho hf) fun D σ H h => ?_
  obtain ⟨ρ, S, μ, er, sr, h⟩ := h
  unfold sAug at h
  split at h
  · rename_i y e1
    obtain ⟨v, e2, r⟩ := er.2 i y e1
    refine ⟨v, e2, ?_⟩
    refine tS_bind er sr h fun z w S1 μ1 H1 st1 sr1 r1 er1 h1 => ?_
    refine ⟨y, z, S1, μ1, VR.mono sr st1 _ _ r, r1, sr1, ?_⟩
    cases q : f y z S1 with
    | none => rw [q] at h1; exact h1
    | some p =>
      obtain ⟨z2, S2⟩ := p
      rw [q] at h1
      intro μ2 H2 u st2 sr2 r2
      have hl : i < ρ.length := (List.getElem?_eq_some_iff.mp e1).1
      exact h1 μ2 H2 _ st2 ((er1.mono sr1 st2).set hl r2) sr2
  · exact h.elim

/-! walks -/
def irAt (X : Cx) (J : It) (i : Nat) (μ' : List Addr) (S' : Sto) (H' : Hp) (o : Option (Option PV)) : Prop := match o with
  | none => True
  | some none => J.stop i H'
  | some (some x) => J.go i H' ∧ ∀ v H2, J.yld i H' v H2 → Stp μ' H' μ' H2 ∧ SR X.K X.mg μ' S' H2 ∧ VR X.K X.mg μ' H2 x v
def IR (X : Cx) (μ : List Addr) (H : Hp) (it : Wlk) (J : It) : Prop := ∀ (i : Nat) (μ' : List Addr) (S' : Sto) (H' : Hp), Stp μ H μ' H' → SR X.K X.mg μ' S' H' → irAt X J i μ' S' H' (itAt it S' i)
theorem _root_.PySem.PI_imp {X : Cx} {tg e : Expr} {t t' : TI} (h : PI X tg e t) (k : ∀ σ H Q, t' σ H Q → t σ H Q) : PI X tg e t' := ⟨fun pins s σ H Q I q => h.run pins s σ H Q I (k σ H Q q)⟩
abbrev FI (X : Cx) (W : WX) (tg e : Expr) (d : En → Sto → Res Wlk) : Prop := PI X tg e (tG X.K X.mg (IR X) W d)
theorem fs_for {tg iter : Expr} {body : List Stmt} {di : En → Sto → Res Wlk} {tb : En → Sto → SRes} (F : CxF X W k) (hi : FI X W tg iter di) (hg : FG X tg g) (hb : FSs X W body tb)
    (hs : ∀ x, foldedSetIterable iter X.env x = pure x := by intro _; rfl) : FS X W (.For tg iter body [] pos) (sFor di g tb) := by
  refine PS_imp (ps_for F.po F.calm hi hg hb hs) fun D σ H h => ?_
  obtain ⟨ρ, S, μ, er, sr, h⟩ := h
  refine tS_bind er sr h fun it J S1 μ1 H1 st1 sr1 r1 er1 h1 => ?_
  refine ⟨fun i m σ' H' => ∃ (ρ' : En) (S' : Sto) (μ' : List Addr), Stp μ1 H1 μ' H' ∧ ER X.K X.mg μ' H' ρ' σ' ∧ SR X.K X.mg μ' S' H' ∧ SOut (forGo it g tb m i ρ' S') (okS X.K X.mg D μ' H') (exS X.K X.mg W μ' H'), ⟨_, ρ, S1, μ1, .refl, er1, sr1, h1⟩, ?_⟩
  rintro i m σ2 H2 ⟨ρ2, S2, μ2, st2, er2, sr2, h2⟩
  cases m with
  | zero => exact h2.elim
  | succ m =>
    have rit := r1 i μ2 S2 H2 st2 sr2
    unfold forGo at h2
    cases q : itAt it S2 i with
    | none => rw [q] at h2; exact h2.elim
    | some o =>
      rw [q] at h2 rit
      cases o with
      | none => exact .inl ⟨rit, h2 μ2 H2 σ2 .refl er2 sr2⟩
      | some x =>
        refine .inr ⟨rit.1, fun σ' H' => ∃ (ρ' : En) (S' : Sto) (μ' : List Addr), Stp μ1 H1 μ' H' ∧ ER X.K X.mg μ' H' ρ' σ' ∧ SR X.K X.mg μ' S' H' ∧ SOut (forGo it g tb m (i + 1) ρ' S') (okS X.K X.mg D μ' H') (exS X.K X.mg W μ' H'), fun σ' H' n => ⟨m, Nat.lt_succ_self m, n⟩, fun v H3 hy => ?_⟩
        obtain ⟨st3, sr3, r3⟩ := rit.2 v H3 hy
        refine ⟨x, ρ2, S2, μ2, r3, er2.mono sr2 st3, sr3, ?_⟩
        simp only at h2
        cases q3 : g x ρ2 S2 with
        | none => rw [q3] at h2; exact h2
        | some p =>
          obtain ⟨ρ4, S4⟩ := p
          rw [q3] at h2
          intro μ4 H4 σ4 st4 er4 sr4
          refine ⟨ρ4, S4, μ4, er4, sr4, ?_⟩
          simp only at h2
          have st24 := st3.trans st4
          cases q5 : tb ρ4 S4 with
          | stk => rw [q5] at h2; exact h2
          | exc C fs ρ5 S5 =>
            rw [q5] at h2
            exact fun μ' H' σ' c d st er sr xr => h2 μ' H' σ' c d (st24.trans st) er sr xr
          | ok f ρ5 S5 =>
            rw [q5] at h2
            cases f with
            | nx => exact fun μ5 H5 σ5 st5 er5 sr5 => ⟨ρ5, S5, μ5, (st2.trans st24).trans st5, er5, sr5, h2.mono (fun _ _ _ q => q.step (st24.trans st5)) fun _ _ _ _ q => q.step (st24.trans st5)⟩
            | ct => exact fun μ5 H5 σ5 st5 er5 sr5 => ⟨ρ5, S5, μ5, (st2.trans st24).trans st5, er5, sr5, h2.mono (fun _ _ _ q => q.step (st24.trans st5)) fun _ _ _ _ q => q.step (st24.trans st5)⟩
            | bk => exact fun μ5 H5 σ5 st5 er5 sr5 => h2 μ5 H5 σ5 (st24.trans st5) er5 sr5
            | rt v => exact fun μ5 H5 σ5 st5 er5 sr5 => h2 μ5 H5 σ5 (st24.trans st5) er5 sr5
theorem fs_wh {body : List Stmt} {tb : En → Sto → SRes} (fuel : Nat) (F : CxF X W k) (hc : FT X W c dt) (hb : FSs X W body tb) : FS X W (.While c body [] pos) (sWh fuel dt tb) := by
  refine PS_imp (ps_while F.po hc hb) fun D σ H h => ?_
  obtain ⟨ρ, S, μ, er, sr, h⟩ := h
  refine ⟨fun m σ' H' => ∃ (ρ' : En) (S' : Sto) (μ' : List Addr), ER X.K X.mg μ' H' ρ' σ' ∧ SR X.K X.mg μ' S' H' ∧ SOut (whGo dt tb m ρ' S') (okS X.K X.mg D μ' H') (exS X.K X.mg W μ' H'), ⟨fuel, ρ, S, μ, er, sr, h⟩, ?_⟩
  rintro m σ2 H2 ⟨ρ2, S2, μ2, er2, sr2, h2⟩
  cases m with
  | zero => exact h2.elim
  | succ m =>
    unfold whGo at h2
    refine ⟨ρ2, S2, μ2, er2, sr2, ?_⟩
    cases q : dt ρ2 S2 with
    | stk => rw [q] at h2; exact h2
    | exc C fs S3 =>
      rw [q] at h2
      exact fun μ' H' c d st sr xr => h2 μ' H' σ2 c d st (er2.mono sr2 st) sr xr
    | ok b S3 =>
      rw [q] at h2
      intro μ3 H3 b' st3 sr3 eb
      obtain rfl : b = b' := eb
      have er3 := er2.mono sr2 st3
      cases b with
      | false => exact h2 μ3 H3 σ2 st3 er3 sr3
      | true =>
        refine ⟨fun σ' H' => ∃ (ρ' : En) (S' : Sto) (μ' : List Addr), ER X.K X.mg μ' H' ρ' σ' ∧ SR X.K X.mg μ' S' H' ∧ SOut (whGo dt tb m ρ' S') (okS X.K X.mg D μ' H') (exS X.K X.mg W μ' H'), fun σ' H' n => ⟨m, Nat.lt_succ_self m, n⟩, ρ2, S3, μ3, er3, sr3, ?_⟩
        simp only at h2
        cases q5 : tb ρ2 S3 with
        | stk => rw [q5] at h2; exact h2
        | exc C fs ρ5 S5 =>
          rw [q5] at h2
          exact fun μ' H' σ' c d st er sr xr => h2 μ' H' σ' c d (st3.trans st) er sr xr
        | ok f ρ5 S5 =>
          rw [q5] at h2
          cases f with
          | nx => exact fun μ5 H5 σ5 st5 er5 sr5 => ⟨ρ5, S5, μ5, er5, sr5, h2.mono (fun _ _ _ q => q.step (st3.trans st5)) fun _ _ _ _ q => q.step (st3.trans st5)⟩
          | ct => exact fun μ5 H5 σ5 st5 er5 sr5 => ⟨ρ5, S5, μ5, er5, sr5, h2.mono (fun _ _ _ q => q.step (st3.trans st5)) fun _ _ _ _ q => q.step (st3.trans st5)⟩
          | bk => exact fun μ5 H5 σ5 st5 er5 sr5 => h2 μ5 H5 σ5 (st3.trans st5) er5 sr5
          | rt v => exact fun μ5 H5 σ5 st5 er5 sr5 => h2 μ5 H5 σ5 (st3.trans st5) er5 sr5
theorem ir_list {μ : List Addr} {H : Hp} {n : Nat} {a : Addr} (hn : μ[n]? = some a) : IR X μ H (.live n) (Itl X.K a) := by
  intro i μ' S' H' st sr
  have hn' := prefix_get st.pre hn
  have go : ∀ {xs : List PV} {vs : List V}, SqL X.K H' a vs → VRs X.K X.mg μ' H' xs vs → irAt X (Itl X.K a) i μ' S' H' (some xs[i]?) := by
    intro xs vs hq hv
    cases q : xs[i]? with
    | none =>
      exact ⟨vs, hq, by rw [← hv.length]; exact List.getElem?_eq_none_iff.mp q⟩
    | some x =>
      obtain ⟨v, e, r⟩ := hv.get q
      refine ⟨⟨vs, v, hq, e⟩, fun w H2 hy => ?_⟩
      obtain ⟨e2, hy⟩ := hy
      subst e2
      have := hy vs hq
      rw [e] at this
      cases this
      exact ⟨.refl, sr, r⟩
  unfold itAt
  simp only
  cases q : S'[n]? with
  | none => trivial
  | some o =>
    cases sr.at_ n a o hn' q with
    | lst a1 a2 => exact go (.of a1) a2
    | dicK _ _ => trivial
    | dicT _ _ => trivial
    | ins _ _ _ => trivial
theorem ir_tup {μ : List Addr} {S : Sto} {H : Hp} {xs : List PV} {a : Addr} {vs : List V} (sr0 : SR X.K X.mg μ S H) (hs : SqT X.K H a vs) (hv : VRs X.K X.mg μ H xs vs) : IR X μ H (.fix xs) (Itt X.K a) := by
  intro i μ' S' H' st sr
  have hq := sr0.sqt st hs
  have hv := VRs.mono sr0 st _ _ hv
  unfold itAt
  simp only
  cases q : xs[i]? with
  | none => exact ⟨vs, hq, by rw [← hv.length]; exact List.getElem?_eq_none_iff.mp q⟩
  | some x =>
    obtain ⟨v, e, r⟩ := hv.get q
    refine ⟨⟨vs, v, hq, e⟩, fun w H2 hy => ?_⟩
    obtain ⟨e2, hy⟩ := hy
    subst e2
    have := hy vs hq
    rw [e] at this
    cases this
    exact ⟨.refl, sr, r⟩
theorem ir_kl {μ : List Addr} {S : Sto} {H : Hp} {xs : List PV} {a : Addr} {vs : List V} (sr0 : SR X.K X.mg μ S H) (hs : SqK X.K H a vs) (hv : VRs X.K X.mg μ H xs vs) : IR X μ H (.fix xs) (Itl X.K a) := by
  intro i μ' S' H' st sr
  have hq := (sr0.sqk st hs).sq
  have hv := VRs.mono sr0 st _ _ hv
  unfold itAt
  simp only
  cases q : xs[i]? with
  | none => exact ⟨vs, hq, by rw [← hv.length]; exact List.getElem?_eq_none_iff.mp q⟩
  | some x =>
    obtain ⟨v, e, r⟩ := hv.get q
    refine ⟨⟨vs, v, hq, e⟩, fun w H2 hy => ?_⟩
    obtain ⟨e2, hy⟩ := hy
    subst e2
    have := hy vs hq
    rw [e] at this
    cases this
    exact ⟨.refl, sr, r⟩
theorem ir_fl {μ : List Addr} {S : Sto} {H : Hp} {xs : List PV} {a : Addr} {vs : List V} (sr0 : SR X.K X.mg μ S H) (hs : H a = some (.lst vs)) (hn : a ∉ μ) (hv : VRs X.K X.mg μ H xs vs) : IR X μ H (.fix xs) (Itl X.K a) := by
  intro i μ' S' H' st sr
  have hq : SqL X.K H' a vs := .of (st.keep _ _ hs hn)
  have hv := VRs.mono sr0 st _ _ hv
  unfold itAt
  simp only
  cases q : xs[i]? with
  | none => exact ⟨vs, hq, by rw [← hv.length]; exact List.getElem?_eq_none_iff.mp q⟩
  | some x =>
    obtain ⟨v, e, r⟩ := hv.get q
    refine ⟨⟨vs, v, hq, e⟩, fun w H2 hy => ?_⟩
    obtain ⟨e2, hy⟩ := hy
    subst e2
    have := hy vs hq
    rw [e] at this
    cases this
    exact ⟨.refl, sr, r⟩
theorem ir_rng {μ : List Addr} {H : Hp} {lo : Int} {n : Nat} : IR X μ H (.fix (rangeL lo n)) (L2.Itr lo n) := by
  intro i μ' S' H' st sr
  unfold itAt rangeL
  simp only [List.getElem?_map]
  by_cases hi : i < n
  · rw [List.getElem?_range hi]
    refine ⟨hi, fun v H2 hy => ?_⟩
    obtain ⟨e1, e2⟩ := hy
    subst e1 e2
    exact ⟨.refl, sr, .int _⟩
  · rw [List.getElem?_eq_none_iff.mpr (by simp; omega)]
    exact Nat.le_of_not_lt hi
/-- a list or a tuple that is walked -/
theorem fi_seq {tg : Expr} (he : FE X W e da) : FI X W tg e (iSeq da) := by
  refine ⟨fun pins s σ H R I h => ?_⟩
  obtain ⟨ρ, S, μ, er, sr, h⟩ := h
  unfold iSeq at h
  cases q : da ρ S with
  | stk => rw [q] at h; exact h.elim
  | exc C fs S1 =>
    refine (pi_list he).run pins s σ H R I ⟨ρ, S, μ, er, sr, ?_⟩
    rw [q] at h ⊢
    exact h
  | ok x S1 =>
    have hd := h
    rw [q] at h
    simp only [Res.bind] at h
    split at h
    · rename_i xs
      refine (pi_tup he).run pins s σ H R I ⟨ρ, S, μ, er, sr, ?_⟩
      rw [q]
      intro μ1 H1 v st sr1 r
      cases r with
      | tup hs ha => exact ⟨_, rfl, ⟨_, hs⟩, h μ1 H1 _ st sr1 (ir_tup sr1 hs ha)⟩
    · rename_i xs
      refine (pi_list he).run pins s σ H R I ⟨ρ, S, μ, er, sr, ?_⟩
      rw [q]
      intro μ1 H1 v st sr1 r
      cases r with
      | kl hs ha => exact ⟨_, rfl, ⟨_, hs.sq⟩, h μ1 H1 _ st sr1 (ir_kl sr1 hs ha)⟩
    · rename_i xs
      refine (pi_list he).run pins s σ H R I ⟨ρ, S, μ, er, sr, ?_⟩
      rw [q]
      intro μ1 H1 v st sr1 r
      cases r with
      | fl hs hn ha => exact ⟨_, rfl, ⟨_, .of hs⟩, h μ1 H1 _ st sr1 (ir_fl sr1 hs hn ha)⟩
    · rename_i n
      refine (pi_list he).run pins s σ H R I ⟨ρ, S, μ, er, sr, ?_⟩
      rw [q]
      intro μ1 H1 v st sr1 r
      cases r with
      | ref hn =>
        split at h
        · rename_i e1
          cases sr1.at_ _ _ _ hn e1 with
          | lst a1 a2 => exact ⟨_, rfl, ⟨_, .of a1⟩, h μ1 H1 _ st sr1 (ir_list hn)⟩
        · exact h.elim
    · exact h.elim
theorem fi_rg1 {tg : Expr} {p : Pos} (hg : Gl X "range") (hm : X.mg "range" = none) (ha : FA X W [a] dl) (hs : starEach [a] X.env = [(false, eval a X.env)] := by rfl) : FI X W tg (.Call (.Name "range" p) [a] [] pos) (iRg1 dl) := by
  refine PI_imp (pi_range1 hg hm ha hs) fun σ H Q h => ?_
  obtain ⟨ρ, S, μ, er, sr, h⟩ := h
  refine tG_bind er sr h fun xs vs S1 μ1 H1 st1 sr1 r1 er1 h1 => ?_
  split at h1
  · split at h1
    · obtain ⟨v, rfl, r⟩ := r1.one
      cases r
      exact ⟨_, rfl, ‹_ ∧ _›.1, ‹_ ∧ _›.2, h1 μ1 H1 _ .refl sr1 ir_rng⟩
    · exact h1.elim
  · exact h1.elim
theorem fi_rg2 {tg : Expr} {p : Pos} (hg : Gl X "range") (hm : X.mg "range" = none) (ha : FA X W [a, b] dl) (hs : starEach [a, b] X.env = [(false, eval a X.env), (false, eval b X.env)] := by rfl) (hs2 : starEach [b] X.env = [(false, eval b X.env)] := by rfl) : FI X W tg (.Call (.Name "range" p) [a, b] [] pos) (iRg2 dl) := by
  refine PI_imp (pi_range2 hg hm ha hs hs2) fun σ H Q h => ?_
  obtain ⟨ρ, S, μ, er, sr, h⟩ := h
  refine tG_bind er sr h fun xs vs S1 μ1 H1 st1 sr1 r1 er1 h1 => ?_
  split at h1
  · split at h1
    · obtain ⟨v, w, rfl, r, r'⟩ := r1.two
      cases r; cases r'
      exact ⟨_, _, rfl, ‹_ ∧ _›, h1 μ1 H1 _ .refl sr1 ir_rng⟩
    · exact h1.elim
  · exact h1.elim
end
end FL

/-! FLe: comprehensions, calls of one's own defs, a def's body. -/
namespace FL
open PySem PySem.Spec L2
/-! ### list comprehensions -/
def wipeE (ρ : En) : List Nat → En
  | [] => ρ
  | v :: vs => (wipeE ρ vs).set v none
def dYes : En → Sto → Res Bool := fun _ S => .ok true S
def lcGo (it : Wlk) (dg : Tgt) (dt : En → Sto → Res Bool) (de : En → Sto → Res PV) (vs : List Nat) (ρ : En) (n : Nat) : Nat → Nat → Sto → Res Unit
  | 0, _, _ => .stk
  | k + 1, i, S => match itAt it S i with
    | none => .stk
    | some none => .ok () S
    | some (some x) => match dg x (wipeE ρ vs) S with
      | none => .stk
      | some (ρ2, S2) => match dt ρ2 S2 with
        | .ok true S3 => match de ρ2 S3 with
          | .ok y S4 => match S4[n]? with
            | some (.lst acc) => if acc.length < big then lcGo it dg dt de vs ρ n k (i + 1) (S4.set n (.lst (acc ++ [y]))) else .stk
            | _ => .stk
          | _ => .stk
        | .ok false S3 => lcGo it dg dt de vs ρ n k (i + 1) S3
        | _ => .stk
/-- the list is made in the store, and filled there -/
def eLc (di : En → Sto → Res Wlk) (dg : Tgt) (dt : En → Sto → Res Bool) (de : En → Sto → Res PV) (vs : List Nat) : En → Sto → Res PV := fun ρ S => (di ρ S).bind fun it S1 =>
  (lcGo it dg dt de vs ρ S1.length (itFuel it S1) 0 (S1 ++ [.lst []])).bind fun _ S2 => .ok (.ref S1.length) S2
abbrev W0 : WX := fun _ _ _ _ => False
/-- the hand layer's target g does dg, and touches no slot but vs -/
structure CT (K : PySem.W.Frag) (mg : Str → Option Value) (g : TG) (dg : Tgt) (vs : List Nat) : Prop where
  st : ∀ (x : PV) (ρ : En) (S : Sto) (ρ' : En) (S' : Sto), dg x ρ S = some (ρ', S') → S' = S
  run : ∀ (v : V) (σ : L2.St) (H : Hp) (Q : L2.St → Hp → Prop) (x : PV) (ρ : En) (S : Sto) (μ : List Addr) (ρ' : En) (S' : Sto),
    VR K mg μ H x v → ER K mg μ H ρ σ → SR K mg μ S H → dg x ρ S = some (ρ', S') → (∀ σ', ER K mg μ H ρ' σ' → wipe σ' vs = wipe σ vs → Q σ' H) → g v σ H Q
structure CTs (K : PySem.W.Frag) (mg : Str → Option Value) (g : TGs) (dg : List PV → En → Sto → Option (En × Sto)) (vs : List Nat) : Prop where
  st : ∀ (x : List PV) (ρ : En) (S : Sto) (ρ' : En) (S' : Sto), dg x ρ S = some (ρ', S') → S' = S
  run : ∀ (v : List V) (σ : L2.St) (H : Hp) (Q : L2.St → Hp → Prop) (x : List PV) (ρ : En) (S : Sto) (μ : List Addr) (ρ' : En) (S' : Sto),
    VRs K mg μ H x v → ER K mg μ H ρ σ → SR K mg μ S H → dg x ρ S = some (ρ', S') → (∀ σ', ER K mg μ H ρ' σ' → wipe σ' vs = wipe σ vs → Q σ' H) → g v σ H Q
section
variable {K : PySem.W.Frag} {mg : Str → Option Value}
theorem wipe_get {vs : List Nat} {σ : L2.St} {j : Nat} (hj : j ∉ vs) : (wipe σ vs)[j]? = σ[j]? := by
  induction vs with
  | nil => rfl
  | cons v vs ih =>
    unfold wipe
    rw [List.getElem?_set_ne (fun z => hj (by rw [z]; exact List.mem_cons_self))]
    exact ih fun z => hj (List.mem_cons_of_mem _ z)
theorem wipe_none {vs : List Nat} {σ : L2.St} {j : Nat} (hj : j ∈ vs) (hl : j < σ.length) : (wipe σ vs)[j]? = some none := by
  induction vs with
  | nil => cases hj
  | cons v vs ih =>
    unfold wipe
    by_cases e : v = j
    · subst e
      rw [List.getElem?_set_self (by rw [wipe_length]; exact hl)]
    · rw [List.getElem?_set_ne e]
      rcases List.mem_cons.mp hj with z | z
      · exact absurd z.symm e
      · exact ih z
theorem wipe_set {vs : List Nat} {σ : L2.St} {i : Nat} {v : Option V} (hi : i ∈ vs) : wipe (σ.set i v) vs = wipe σ vs := by
  apply List.ext_getElem?
  intro j
  by_cases hj : j ∈ vs
  · by_cases hl : j < σ.length
    · rw [wipe_none hj hl, wipe_none hj (by rw [List.length_set]; exact hl)]
    · rw [List.getElem?_eq_none (by rw [wipe_length, List.length_set]; omega), List.getElem?_eq_none (by rw [wipe_length]; omega)]
  · rw [wipe_get hj, wipe_get hj, List.getElem?_set_ne (fun z => hj (by rw [← z]; exact hi))]
theorem ct_name {i : Nat} {vs : List Nat} (hi : i ∈ vs) : CT K mg (gName i) (gNm i) vs := by
  refine ⟨fun x ρ S ρ' S' e => ?_, fun v σ H Q x ρ S μ ρ' S' r er sr e h => ?_⟩
  · unfold gNm at e
    split at e
    · cases e; rfl
    · cases e
  · unfold gNm at e
    split at e
    · cases e; exact h _ (er.set ‹_› r) (wipe_set hi)
    · cases e
theorem cts_nil {vs : List Nat} : CTs K mg L2.gNil gNil1 vs := by
  refine ⟨fun x ρ S ρ' S' e => ?_, fun v σ H Q x ρ S μ ρ' S' r er sr e h => ?_⟩
  · cases x with
    | nil => cases e; rfl
    | cons _ _ => cases e
  · cases r with
    | nil => cases e; exact ⟨rfl, h σ er rfl⟩
    | cons _ _ => cases e
theorem cts_cons {g : TG} {dg : Tgt} {u : TGs} {du : List PV → En → Sto → Option (En × Sto)} {vs : List Nat} (h1 : CT K mg g dg vs) (h2 : CTs K mg u du vs) : CTs K mg (L2.gCons g u) (gCons1 dg du) vs := by
  refine ⟨fun x ρ S ρ' S' e => ?_, fun v σ H Q x ρ S μ ρ' S' r er sr e h => ?_⟩
  · cases x with
    | nil => cases e
    | cons x xs =>
      unfold gCons1 at e
      simp only at e
      split at e
      · rename_i q
        rw [h2.st _ _ _ _ _ e, h1.st _ _ _ _ _ q]
      · cases e
  · cases r with
    | nil => cases e
    | @cons x xs v vr r1 r2 =>
      unfold gCons1 at e
      simp only at e
      split at e
      · rename_i ρ1 S1 q
        have e1 := h1.st _ _ _ _ _ q
        subst e1
        exact ⟨v, vr, rfl, h1.run v σ H _ x ρ S1 μ ρ1 S1 r1 er sr q fun σ1 er1 w1 => h2.run vr σ1 H Q xs ρ1 S1 μ ρ' S' r2 er1 sr e fun σ2 er2 w2 => h σ2 er2 (w2.trans w1)⟩
      · cases e
theorem ct_tup {n : Nat} {u : TGs} {du : List PV → En → Sto → Option (En × Sto)} {vs : List Nat} (h1 : CTs K mg u du vs) : CT K mg (L2.gTup K n u) (gTp n du) vs := by
  refine ⟨fun x ρ S ρ' S' e => ?_, fun v σ H Q x ρ S μ ρ' S' r er sr e h => ?_⟩
  · unfold gTp at e
    split at e
    · split at e
      · exact h1.st _ _ _ _ _ e
      · cases e
    · cases e
  · unfold gTp at e
    split at e
    · split at e
      · cases r with
        | tup hs ha => exact ⟨_, _, rfl, hs, by rw [← ha.length]; assumption, h1.run _ σ H Q _ ρ S μ ρ' S' ha er sr e h⟩
      · cases e
    · cases e
end
theorem ER.wipe {K : PySem.W.Frag} {mg : Str → Option Value} {μ : List Addr} {H : Hp} {ρ : En} {σ : L2.St} (er : ER K mg μ H ρ σ) : ∀ vs : List Nat, ER K mg μ H (wipeE ρ vs) (L2.wipe σ vs)
  | [] => er
  | v :: vs => by
    have ih := ER.wipe er vs
    unfold wipeE L2.wipe
    refine ⟨by simp [ih.1], fun i x e => ?_⟩
    by_cases hi : v = i
    · subst hi
      by_cases hl : v < (wipeE ρ vs).length
      · rw [List.getElem?_set_self hl] at e; cases e
      · rw [List.getElem?_eq_none (by rw [List.length_set]; omega)] at e; cases e
    · rw [List.getElem?_set_ne hi] at e
      obtain ⟨w, e1, r⟩ := ih.2 i x e
      exact ⟨w, by rw [List.getElem?_set_ne hi]; exact e1, r⟩
section
variable {X : Cx} {W : WX} {pos : Pos}
theorem fts_nil : PTs X [] (tT X.K X.mg W dYes) := ⟨fun pins s σ H Q I h => by
  obtain ⟨ρ, S, μ, er, sr, h⟩ := h
  exact pts_nil.run pins s σ H Q I (h μ H true .refl sr rfl)⟩
theorem fts_one {c : Expr} {dt : En → Sto → Res Bool} (h : FT X W c dt) : PTs X [c] (tT X.K X.mg W dt) := pts_one h
theorem VRs.snoc {K : PySem.W.Frag} {mg : Str → Option Value} {μ : List Addr} {H : Hp} {xs : List PV} {vs : List V} {x : PV} {v : V} (h : VRs K mg μ H xs vs) (r : VR K mg μ H x v) : VRs K mg μ H (xs ++ [x]) (vs ++ [v]) := h.app (.cons r .nil)
theorem lc_read {di : En → Sto → Res Wlk} {g : TG} {dg : Tgt} {dt : En → Sto → Res Bool} {de : En → Sto → Res PV} {vs : List Nat} (hct : CT X.K X.mg g dg vs) {σ : L2.St} {H : Hp} {Q : VK}
    (h : tE X.K X.mg W (eLc di dg dt de vs) σ H Q) : tLc (tG X.K X.mg (IR X) W di) g (tT X.K X.mg W0 dt) (tE X.K X.mg W0 de) vs σ H Q := by
  obtain ⟨ρ, S, μ, er, sr, h⟩ := h
  unfold eLc at h
  refine tG_bind er sr h fun it J S1 μ1 H1 st1 sr1 r1 er1 h1 => ?_
  intro D hD
  have h1 := h1.bind
  have stD : Stp μ1 H1 (μ1 ++ [D]) (upd H1 D (.lst [])) := Stp.newObj hD
  have srD : SR X.K X.mg (μ1 ++ [D]) (S1 ++ [.lst []]) (upd H1 D (.lst [])) := sr1.newObj hD (.lst upd_same .nil)
  have hn0 : (μ1 ++ [D])[S1.length]? = some D := by rw [← sr1.len]; simp
  refine ⟨fun i m H' => ∃ (S' : Sto) (μ' : List Addr), Stp μ1 H1 μ' H' ∧ μ'[S1.length]? = some D ∧ ER X.K X.mg μ' H' ρ σ ∧ SR X.K X.mg μ' S' H' ∧
    Out (lcGo it dg dt de vs ρ S1.length m i S') (fun _ SF => okG X.K X.mg (fun μ H => VR X.K X.mg μ H) μ1 H1 Q (.ref S1.length) SF) (exG X.K X.mg W σ μ1 H1), ⟨_, S1 ++ [.lst []], μ1 ++ [D], stD, hn0, er1.mono sr1 stD, srD, h1⟩, ?_⟩
  rintro i m H2 ⟨S2, μ2, st2, hn2, er2, sr2, h2⟩
  cases m with
  | zero => exact h2.elim
  | succ m =>
    have rit := r1 i μ2 S2 H2 st2 sr2
    unfold lcGo at h2
    cases q : itAt it S2 i with
    | none => rw [q] at h2; exact h2.elim
    | some o =>
      rw [q] at h2 rit
      cases o with
      | none => exact .inl ⟨rit, h2 μ2 H2 (.ref D) st2 sr2 (.ref hn2)⟩
      | some x =>
        refine .inr ⟨rit.1, fun H' => ∃ (S' : Sto) (μ' : List Addr), Stp μ1 H1 μ' H' ∧ μ'[S1.length]? = some D ∧ ER X.K X.mg μ' H' ρ σ ∧ SR X.K X.mg μ' S' H' ∧
          Out (lcGo it dg dt de vs ρ S1.length m (i + 1) S') (fun _ SF => okG X.K X.mg (fun μ H => VR X.K X.mg μ H) μ1 H1 Q (.ref S1.length) SF) (exG X.K X.mg W σ μ1 H1), fun H' n => ⟨m, Nat.lt_succ_self m, n⟩, fun v H3 hy => ?_⟩
        obtain ⟨st3, sr3, r3⟩ := rit.2 v H3 hy
        have er3 := er2.mono sr2 st3
        simp only at h2
        cases q3 : dg x (wipeE ρ vs) S2 with
        | none => rw [q3] at h2; exact h2.elim
        | some p =>
          obtain ⟨ρ4, S4⟩ := p
          have e4 := hct.st _ _ _ _ _ q3
          subst e4
          rw [q3] at h2
          refine hct.run v _ H3 _ x (wipeE ρ vs) S4 μ2 ρ4 S4 r3 (er3.wipe _) sr3 q3 fun σ4 er4 w4 => ?_
          have ww : L2.wipe (L2.wipe σ vs) vs = L2.wipe σ vs := by
            apply List.ext_getElem?
            intro j
            by_cases hj : j ∈ vs
            · by_cases hl : j < σ.length
              · rw [wipe_none hj hl, wipe_none hj (by rw [wipe_length]; exact hl)]
              · rw [List.getElem?_eq_none (by rw [wipe_length, wipe_length]; omega), List.getElem?_eq_none (by rw [wipe_length]; omega)]
            · rw [wipe_get hj]
          refine ⟨w4.trans ww, ρ4, S4, μ2, er4, sr3, ?_⟩
          simp only at h2
          cases q5 : dt ρ4 S4 with
          | stk => rw [q5] at h2; exact h2
          | exc C fs S5 => rw [q5] at h2; exact h2.elim
          | ok b S5 =>
            rw [q5] at h2
            intro μ5 H5 b' st5 sr5 eb
            obtain rfl : b = b' := eb
            have hn5 := prefix_get st5.pre hn2
            cases b with
            | false =>
              exact ⟨S5, μ5, (st2.trans st3).trans st5, hn5, er3.mono sr3 st5, sr5, h2⟩
            | true =>
              refine ⟨ρ4, S5, μ5, er4.mono sr3 st5, sr5, ?_⟩
              simp only at h2
              cases q6 : de ρ4 S5 with
              | stk => rw [q6] at h2; exact h2
              | exc C fs S6 => rw [q6] at h2; exact h2.elim
              | ok y S6 =>
                rw [q6] at h2
                simp only at h2
                intro μ6 H6 u st6 sr6 r6
                have hn6 := prefix_get st6.pre hn5
                cases q7 : S6[S1.length]? with
                | none => rw [q7] at h2; exact h2.elim
                | some o =>
                  rw [q7] at h2
                  cases o with
                  | dic _ => exact h2.elim
                  | ins _ _ => exact h2.elim
                  | lst acc =>
                    simp only at h2
                    by_cases hl : acc.length < big
                    · rw [if_pos hl] at h2
                      cases sr6.at_ _ _ _ hn6 q7 with
                      | @lst _ _ accV eD ra =>
                        have st26 := (st3.trans st5).trans st6
                        have stp : Stp μ6 H6 μ6 (upd H6 D (.lst (accV ++ [u]))) := Stp.put hn6
                        refine ⟨accV, eD, by rw [← ra.length]; exact Nat.lt_trans hl big_lt, S6.set S1.length (.lst (acc ++ [y])), μ6, (st2.trans st26).trans stp, hn6, (er2.mono sr2 st26).mono sr6 stp, sr6.put hn6 (.lst upd_same (VRs.mono sr6 stp _ _ (VRs.snoc ra r6))), h2⟩
                    · rw [if_neg hl] at h2; exact h2.elim
theorem fe_lc {elt tg iter : Expr} {ifs : List Expr} {scope : Scope} {own : List (Str × Nat)} {di : En → Sto → Res Wlk} {g : TG} {dg : Tgt} {dt : En → Sto → Res Bool} {de : En → Sto → Res PV} (hc : X.calm = true) (hN : X.N.Nodup) (hi : FI X W tg iter di) (ok : BlkOk X.N X.env.scope scope own)
    (hg : ∀ (s : Shared) (H : Hp) (C : Addr) (cl : List (Str × Addr)) (fp : List Addr), PG (X.blk s H scope (compEnvC scope cl C X.env) fp) tg g) (hct : CT X.K X.mg g dg (own.map (·.2)))
    (ht : ∀ (s : Shared) (H : Hp) (C : Addr) (cl : List (Str × Addr)) (fp : List Addr), PTs (X.blk s H scope (compEnvC scope cl C X.env) fp) ifs (tT X.K X.mg W0 dt))
    (he : ∀ (s : Shared) (H : Hp) (C : Addr) (cl : List (Str × Addr)) (fp : List Addr), FE (X.blk s H scope (compEnvC scope cl C X.env) fp) W0 elt de) (hs : ∀ x, foldedSetIterable iter X.env x = pure x := by intro _; rfl) :
    FE X W (.ListComp elt [⟨tg, iter, ifs, 0⟩] scope pos) (eLc di dg dt de (own.map (·.2))) :=
  PE_imp (pe_lc (te := tE X.K X.mg W0 de) hc hN hi ok hg ht he hs) fun σ H Q h => lc_read hct h
/-- y = [..] -/
theorem fs_setlc {i : Nat} {y : Str} {py spos : Pos} {elt tg iter : Expr} {ifs : List Expr} {scope : Scope} {own : List (Str × Nat)} {di : En → Sto → Res Wlk} {g : TG} {dg : Tgt} {dt : En → Sto → Res Bool} {de : En → Sto → Res PV} (hc : X.calm = true) (hN : X.N.Nodup) (hy : X.N[i]? = some y) (hyl : X.env.scope.names.lookup y = some .local)
    (hsw : swapsWith (.ListComp elt [⟨tg, iter, ifs, 0⟩] scope pos) (some (.Name y py)) spos.line X.env = pure true) (hi : FI X W tg iter di) (ok : BlkOk X.N X.env.scope scope own)
    (hg : ∀ (s : Shared) (H : Hp) (C : Addr) (cl : List (Str × Addr)) (fp : List Addr), PG (X.blk s H scope (compEnvC scope cl C X.env) fp) tg g) (hct : CT X.K X.mg g dg (own.map (·.2)))
    (ht : ∀ (s : Shared) (H : Hp) (C : Addr) (cl : List (Str × Addr)) (fp : List Addr), PTs (X.blk s H scope (compEnvC scope cl C X.env) fp) ifs (tT X.K X.mg W0 dt))
    (he : ∀ (s : Shared) (H : Hp) (C : Addr) (cl : List (Str × Addr)) (fp : List Addr), FE (X.blk s H scope (compEnvC scope cl C X.env) fp) W0 elt de) (hs : ∀ x, foldedSetIterable iter X.env x = pure x := by intro _; rfl) :
    FS X W (.Assign [.Name y py] (.ListComp elt [⟨tg, iter, ifs, 0⟩] scope pos) spos) (sAsg (eLc di dg dt de (own.map (·.2))) (gNm i)) := by
  refine PS_imp (ps_setLc (te := tE X.K X.mg W0 de) hc hN hy hyl hsw hi ok hg ht he hs) fun D σ H h => ?_
  obtain ⟨ρ, S, μ, er, sr, h⟩ := h
  refine lc_read (W := W) hct (tS_bind er sr h fun x v S1 μ1 H1 st1 sr1 r1 er1 h1 => ?_)
  unfold gNm at h1
  by_cases hl : i < ρ.length
  · rw [if_pos hl] at h1
    exact h1 μ1 H1 _ .refl (er1.set hl r1) sr1
  · rw [if_neg hl] at h1; exact h1.elim
end
end FL

/-! FLf: defs: their bodies as functions, calls of them, the law's end. -/
namespace FL
open PySem PySem.Spec L2
abbrev FF := List PV → Sto → Res PV
def exF (K : PySem.W.Frag) (mg : Str → Option Value) (E : XK) (μ : List Addr) (H : Hp) : Str → List (Str × PV) → Sto → Prop := fun C fs S' =>
  ∀ (μ' : List Addr) (H' : Hp) (c : Value) (d : Option Addr), Stp μ H μ' H' → SR K mg μ' S' H' → XR K mg μ' H' C fs c d → E c d H'
/-- the promise of a def: it computes f -/
def spF (K : PySem.W.Frag) (mg : Str → Option Value) (n : Nat) (f : FF) : Sp := fun vs H Q E => vs.length = n ∧ ∃ (xs : List PV) (S : Sto) (μ : List Addr), VRs K mg μ H xs vs ∧ SR K mg μ S H ∧
  Out (f xs S) (okG K mg (fun μ H => VR K mg μ H) μ H Q) (exF K mg E μ H)
def WF (E : XK) : WX := fun cls d _ H => E cls d H
/-- a body run upon arguments; N names in all -/
def runB (N : Nat) (D : En → Sto → SRes) : FF := fun xs S => match D (xs.map some ++ List.replicate (N - xs.length) none) S with
  | .ok (.rt v) _ S' => .ok v S'
  | .ok .nx _ S' => .ok .non S'
  | .ok _ _ _ => .stk
  | .exc C fs _ S' => .exc C fs S'
  | .stk => .stk
theorem er_start {K : PySem.W.Frag} {mg : Str → Option Value} {μ : List Addr} {H : Hp} {xs : List PV} {vs : List V} (h : VRs K mg μ H xs vs) (N : List Str) : ER K mg μ H (xs.map some ++ List.replicate (N.length - xs.length) none) (L2.start N vs) := by
  have hl := h.length
  refine ⟨by simp [L2.start, hl], fun i x e => ?_⟩
  by_cases hi : i < xs.length
  · rw [List.getElem?_append_left (by simpa using hi), List.getElem?_map] at e
    cases q : xs[i]? with
    | none => rw [q] at e; cases e
    | some y =>
      rw [q] at e
      cases e
      obtain ⟨v, e1, r⟩ := h.get q
      refine ⟨v, ?_, r⟩
      unfold L2.start
      rw [List.getElem?_append_left (by rw [List.length_map, ← hl]; exact hi), List.getElem?_map, e1]
      rfl
  · rw [List.getElem?_append_right (by simpa using hi)] at e
    obtain ⟨_, e⟩ := List.getElem?_eq_some_iff.mp e
    rw [List.getElem_replicate] at e
    cases e
section
variable {P : Program} {w : World} {K : PySem.W.Frag} {mg : Str → Option Value} {base : Heap}
abbrev cxL (P : Program) (w : World) (K : PySem.W.Frag) (mg : Str → Option Value) (base : Heap) (N : List Str) (qual : Str) (st : Stmt) (f : Addr) (cdv : Value) (A : Around) (outer : List Env) (s : Shared) (H : Hp) (E : XK) : Cx :=
  cxOf (L2.CX P w) P w K mg base N qual (defScope st) f cdv A outer s H E
theorem fn_fl {x qual : Str} {st : Stmt} {f : Addr} {fd : FuncData} {N ps : List Str} {k : Nat} {D : En → Sto → SRes} (F : Fun K x qual st f fd) (S : FnScope N ps (defScope st))
    (hb : ∀ (cdv : Value) (A : Around) (outer : List Env) (s : Shared) (H : Hp) (E : XK), CxF (cxL P w K mg base N qual st f cdv A outer s H E) (WF E) k → FSs (cxL P w K mg base N qual st f cdv A outer s H E) (WF E) (defBody st) D) :
    FnOk P w K mg base (L2.CX P w) (k + 1) f fd ps (spF K mg ps.length (runB N.length D)) := by
  refine F.okX S (fun vs H Q E h => h.1) fun cdv A outer s H vs Q E hr h => ?_
  have C : CxF (cxL P w K mg base N qual st f cdv A outer s H E) (WF E) k := ⟨takes_of rfl rfl rfl rfl, passes_of rfl, rfl, rfl, rfl, hr, S.nd⟩
  refine ⟨_, hb cdv A outer s H E C, ?_⟩
  obtain ⟨hl, xs, S0, μ, hv, sr, h⟩ := h
  refine ⟨_, S0, μ, er_start hv N, sr, ?_⟩
  unfold runB at h
  show SOut (D (xs.map some ++ List.replicate (N.length - xs.length) none) S0) _ _
  cases q : D (xs.map some ++ List.replicate (N.length - xs.length) none) S0 with
  | stk => rw [q] at h; exact h
  | exc C fs ρ1 S1 =>
    rw [q] at h
    exact fun μ' H' σ' c d st er sr xr => h μ' H' c d st sr xr
  | ok f ρ1 S1 =>
    rw [q] at h
    cases f with
    | nx => exact fun μ' H' σ' st er sr => h μ' H' _ st sr .non
    | rt v => exact fun μ' H' σ' st er sr v' r => h μ' H' v' st sr r
    | bk => exact h.elim
    | ct => exact h.elim
end
/-- a call -/
def eApp (f : FF) (dl : En → Sto → Res (List PV)) : En → Sto → Res PV := fun ρ S => (dl ρ S).bind f
def eAppD (f : FF) (dvs : List PV) (dl : En → Sto → Res (List PV)) : En → Sto → Res PV := fun ρ S => (dl ρ S).bind fun xs S1 => f (xs ++ dvs) S1
/-- the context of an expression: a body's, or a comprehension's in it -/
structure CxE (X : Cx) (W : WX) (k : Nat) : Prop where
  tk : Takes X W
  calm : X.calm = true
  room : Room k X.A
  nd : X.N.Nodup
theorem CxE.hu {X : Cx} {W : WX} {k : Nat} (F : CxE X W k) : X.A.units + 64 < cLine := F.room.units
theorem CxF.e {X : Cx} {W : WX} {k : Nat} (F : CxF X W k) : CxE X W k := ⟨F.tk, F.calm, F.room, F.nd⟩
/-- the comprehension's block -/
theorem CxE.blk {X : Cx} {W : WX} {k : Nat} (F : CxE X W k) (s : Shared) (H : Hp) (scope : Scope) (cenv : Env) (fp : List Addr) : CxE (X.blk s H scope cenv fp) W0 k := ⟨takes0, F.calm, F.room, F.nd⟩
section
variable {X : Cx} {W : WX} {k : Nat} {x : Str} {f : Addr} {fd : FuncData} {ps : List Str} {j : Nat} {ff : FF} {e : Expr} {es : List Expr} {dl : En → Sto → Res (List PV)} {p pos : Pos} {ds : List Value} {dvs : List PV} {dws : List V}
theorem exF_of {σ : L2.St} {μ : List Addr} {H : Hp} {C : Str} {fs : List (Str × PV)} {S : Sto} (h : exG X.K X.mg W σ μ H C fs S) : exF X.K X.mg (WE W σ) μ H C fs S := h
theorem fe_call (C : CxE X W k) (G : FnOk X.prog X.w X.K X.mg X.base (L2.CX X.prog X.w) j f fd ps (spF X.K X.mg ps.length ff)) (hj : j ≤ k) (hg : Gl X x) (hm : X.mg x = some (.ref f)) (hk : PySem.W.keepIn X.K (.ref f) = true) (hb : Binds X.K fd ps [])
    (ha : FA X W (e :: es) dl) (hl : (e :: es).length = ps.length := by rfl) (hdb : (x == ("__debug__" : Str)) = false := by decide) (he : starEach (e :: es) X.env = (false, eval e X.env) :: starEach es X.env := by rfl) (hpl : (backTo pos (starEach es X.env)).any (·.1) = false := by rfl)
    (hlen : ∀ ρ S xs S1, dl ρ S = .ok xs S1 → xs.length = ps.length) :
    FE X W (.Call (.Name x p) (e :: es) [] pos) (eApp ff dl) := by
  refine PE_imp (pe_callS G (C.room.mono hj) hg hm hk hb (fun σ => passAt C.tk σ) ha hdb he hpl) fun σ H Q h => ?_
  obtain ⟨ρ, S, μ, er, sr, h⟩ := h
  unfold eApp at h
  have hlen := hlen ρ S
  refine ⟨ρ, S, μ, er, sr, ?_⟩
  cases q : dl ρ S with
  | stk => rw [q] at h; exact h
  | exc C fs S1 => rw [q] at h; exact h
  | ok xs S1 =>
    rw [q] at h
    intro μ1 H1 vs st1 sr1 r1
    refine ⟨by rw [← r1.length]; exact hlen xs S1 q, xs, S1, μ1, r1, sr1, ?_⟩
    exact Out.mono h (fun _ _ q => q.step st1) fun _ _ _ q => exF_of (q.step st1)
theorem fe_callD (C : CxE X W k) (G : FnOk X.prog X.w X.K X.mg X.base (L2.CX X.prog X.w) j f fd ps (spF X.K X.mg ps.length ff)) (hj : j ≤ k) (hg : Gl X x) (hm : X.mg x = some (.ref f)) (hk : PySem.W.keepIn X.K (.ref f) = true) (hb : Binds X.K fd ps ds)
    (hd : Vals dws ds) (hdv : ∀ (μ : List Addr) (H : Hp), VRs X.K X.mg μ H dvs dws)
    (ha : FA X W (e :: es) dl) (hdb : (x == ("__debug__" : Str)) = false := by decide) (he : starEach (e :: es) X.env = (false, eval e X.env) :: starEach es X.env := by rfl) (hpl : (backTo pos (starEach es X.env)).any (·.1) = false := by rfl)
    (hlen : ∀ ρ S xs S1, dl ρ S = .ok xs S1 → (xs ++ dvs).length = ps.length) :
    FE X W (.Call (.Name x p) (e :: es) [] pos) (eAppD ff dvs dl) := by
  refine PE_imp (pe_callSD G (C.room.mono hj) hg hm hk hb hd (fun σ => passAt C.tk σ) ha hdb he hpl) fun σ H Q h => ?_
  obtain ⟨ρ, S, μ, er, sr, h⟩ := h
  unfold eAppD at h
  have hlen := hlen ρ S
  refine ⟨ρ, S, μ, er, sr, ?_⟩
  cases q : dl ρ S with
  | stk => rw [q] at h; exact h
  | exc C fs S1 => rw [q] at h; exact h
  | ok xs S1 =>
    rw [q] at h
    intro μ1 H1 vs st1 sr1 r1
    have r2 := r1.app (hdv μ1 H1)
    refine ⟨by rw [← r2.length]; exact hlen xs S1 q, xs ++ dvs, S1, μ1, r2, sr1, ?_⟩
    exact Out.mono h (fun _ _ q => q.step st1) fun _ _ _ q => exF_of (q.step st1)
theorem fe_call0 (C : CxE X W k) (G : FnOk X.prog X.w X.K X.mg X.base (L2.CX X.prog X.w) j f fd [] (spF X.K X.mg 0 ff)) (hj : j ≤ k) (hg : Gl X x) (hm : X.mg x = some (.ref f)) (hk : PySem.W.keepIn X.K (.ref f) = true) (hb : Binds X.K fd [] [])
    (hdb : (x == ("__debug__" : Str)) = false := by decide) : FE X W (.Call (.Name x p) [] [] pos) (eApp ff aNil) := by
  refine ⟨fun pins s σ H Q I h => ?_⟩
  obtain ⟨ρ, S, μ, er, sr, h⟩ := h
  refine wpAny_Call_Name_kw (ld_glob I hg hm ?_ hdb)
  refine PySem.W.callWith_K0 I.kIn hk (run_fnS (E := WE W) (vs := []) (us := []) G (C.room.mono hj) hb (passAt C.tk σ) I .nil ?_)
  exact ⟨rfl, [], S, μ, .nil, sr, Out.mono h (fun _ _ q => q) fun _ _ _ q => exF_of q⟩
abbrev FK (X : Cx) (W : WX) (kws : List Keyword) (d : En → Sto → Res (List PV)) : Prop := PK X kws (tA X.K X.mg W d)
theorem fk_nil : FK X W [] aNil := ⟨fun pos pins s σ H Q I h => by
  obtain ⟨ρ, S, μ, er, sr, h⟩ := h
  exact pk_nil.run pos pins s σ H Q I (h μ H [] .refl sr .nil)⟩
theorem fk_cons {da : En → Sto → Res PV} {kws : List Keyword} {nm : Option Str} {kpos : Pos} (ha : FE X W e da) (hr : FK X W kws dl) : FK X W (⟨nm, e, kpos⟩ :: kws) (aCons da dl) := ⟨fun pos pins s σ H Q I h => by
  obtain ⟨ρ, S, μ, er, sr, h⟩ := h
  refine (pk_cons ha hr).run pos pins s σ H Q I ?_
  refine tG_bind er sr h fun x v S1 μ1 H1 st1 sr1 r1 er1 h1 => ?_
  refine tG_bind er1 sr1 h1 fun xs vs S2 μ2 H2 st2 sr2 r2 er2 h2 => ?_
  exact h2 μ2 H2 _ .refl sr2 (.cons (VR.mono sr1 st2 _ _ r1) r2)⟩
end
/-! ### the law -/
def spLaw (K : PySem.W.Frag) : Sp := fun vs H Q _ => ∃ (a : Addr) (ns : List Int), vs = [.ref a] ∧ SqL K H a (ns.map V.int) ∧ ns.length ≤ 63 ∧ Only H ∧ ∀ H', Q (.bl true) H'
theorem vrs_ints {K : PySem.W.Frag} {mg : Str → Option Value} {μ : List Addr} {H : Hp} : ∀ ns : List Int, VRs K mg μ H (ns.map PV.int) (ns.map V.int)
  | [] => .nil
  | n :: ns => .cons (.int n) (vrs_ints ns)
theorem law_fl {P : Program} {w : World} {K : PySem.W.Frag} {mg : Str → Option Value} {base : Heap} {j : Nat} {f : Addr} {fd : FuncData} {x : Str} {F : FF} (G : FnOk P w K mg base (L2.CX P w) j f fd [x] (spF K mg 1 F))
    (hF : ∀ ns : List Int, ns.length ≤ 63 → ∃ S', F [.kl (ns.map PV.int)] [] = .ok (.bl true) S') : FnOk P w K mg base (L2.CX P w) j f fd [x] (spLaw K) := by
  refine G.imp fun vs H Q E h => ?_
  obtain ⟨a, ns, rfl, hq, hl, ho, k⟩ := h
  obtain ⟨S', e⟩ := hF ns hl
  have hk : SqK K H a (ns.map V.int) := by
    rcases hq with (h | ⟨o, h⟩) | h
    · rcases ho a with z | ⟨o, xs, z⟩
      · rw [z] at h; cases h
      · rw [z] at h; cases h
    · exact .inl ⟨o, h⟩
    · exact .inr h
  refine ⟨rfl, [.kl (ns.map PV.int)], [], [], .cons (.kl hk (vrs_ints ns)) .nil, ⟨rfl, by simp, fun n a o e => by simp at e⟩, ?_⟩
  rw [e]
  intro μ' H' v st sr r
  cases r
  exact k H'
theorem cxl_no {P : Program} {w : World} (H : Hp) (s : Shared) (e : Value) (s' : Shared) (h : L2.CX P w [] H s (fun _ _ _ => False) e s') : False := by
  obtain ⟨_, _, _, _, _, _, _, _, _, _, _, _, z⟩ := h
  exact z
end FL

/-! FLu: what a value does not name any more is left behind; lists, instances, dicts that stand still become values. -/
namespace FL
open PySem PySem.Spec L2
mutual
def below (n : Nat) : PV → Bool
  | .tup xs => belowL n xs
  | .kl xs => belowL n xs
  | .fl xs => belowL n xs
  | .obj _ _ vs => belowL n vs
  | .dct _ vs => belowL n vs
  | .ref m => decide (m < n)
  | .non => true
  | .bl _ => true
  | .int _ => true
  | .str _ => true
  | .glb _ => true
  | .ty _ => true
def belowL (n : Nat) : List PV → Bool
  | [] => true
  | x :: xs => below n x && belowL n xs
end
def belowO (n : Nat) : LO → Bool
  | .lst xs => belowL n xs
  | .dic kvs => belowL n (kvs.map (·.2))
  | .ins _ fs => belowL n (fs.map (·.2))
/-- from the store into the value -/
def frz (S : Sto) (n : Nat) : Nat → PV → Option PV
  | 0, _ => none
  | k + 1, x => if below n x = true then some x else match x with
    | .tup xs => (mapO (frz S n k) xs).map .tup
    | .kl xs => (mapO (frz S n k) xs).map .kl
    | .fl xs => (mapO (frz S n k) xs).map .fl
    | .obj C ns vs => (mapO (frz S n k) vs).map (.obj C ns)
    | .dct ks vs => (mapO (frz S n k) vs).map (.dct ks)
    | .ref m => match S[m]? with
      | some (.lst xs) => if belowL n xs = true then some (.fl xs) else (mapO (frz S n k) xs).map .fl
      | some (.ins C fs) => (mapO (frz S n k) (fs.map (·.2))).map (.obj C (fs.map (·.1)))
      | some (.dic kvs) => (mapO (frz S n k) (kvs.map (·.2))).map (.dct (kvs.map (·.1)))
      | none => none
    | _ => none
def Fits (S S' : Sto) : Prop := ∀ i, i < S.length → S'[i]? = S[i]? ∨ ∃ o, S'[i]? = some o ∧ belowO S.length o = true
open Classical in
noncomputable def gcR (S : Sto) : Res PV → Res PV
  | .ok v S' => if Fits S S' then (match frz S' S.length 12 v with
    | some y => .ok y (S'.take S.length)
    | none => .ok v S') else .ok v S'
  | .exc C fs S' => if Fits S S' then (if belowL S.length (fs.map (·.2)) = true then .exc C fs (S'.take S.length) else match mapO (frz S' S.length 12) (fs.map (·.2)) with
    | some ys => .exc C ((fs.map (·.1)).zip ys) (S'.take S.length)
    | none => .exc C fs S') else .exc C fs S'
  | .stk => .stk
noncomputable def eGc (d : En → Sto → Res PV) : En → Sto → Res PV := fun ρ S => gcR S (d ρ S)
noncomputable def gcF (f : FF) : FF := fun xs S => gcR S (f xs S)
section
variable {K : PySem.W.Frag} {mg : Str → Option Value} {μ μ' : List Addr} {S S' : Sto} {H H' : Hp}
theorem prefix_of {α : Type} {l l' : List α} (h : l <+: l') {n : Nat} {a : α} (e : l'[n]? = some a) (hn : n < l.length) : l[n]? = some a := by
  obtain ⟨t, rfl⟩ := h
  rw [List.getElem?_append_left hn] at e
  exact e
mutual
theorem VR.back (pf : μ <+: μ') : ∀ (x : PV) (v : V), VR K mg μ' H x v → below μ.length x = true → VR K mg μ H x v
  | .non, _, h, _ => by cases h; exact .non
  | .bl b, _, h, _ => by cases h; exact .bl b
  | .int i, _, h, _ => by cases h; exact .int i
  | .str x, _, h, _ => by cases h; exact .str x
  | .ty n, _, h, _ => by cases h; exact .ty n
  | .glb x, _, h, _ => by
    cases h with
    | glb e => exact .glb e
  | .tup xs, _, h, b => by
    cases h with
    | tup hs ha => exact .tup hs (VRs.back pf xs _ ha (by simpa only [below] using b))
  | .kl xs, _, h, b => by
    cases h with
    | kl hs ha => exact .kl hs (VRs.back pf xs _ ha (by simpa only [below] using b))
  | .fl xs, _, h, b => by
    cases h with
    | fl hs n ha => exact .fl hs (fun hm => n (pf.subset hm)) (VRs.back pf xs _ ha (by simpa only [below] using b))
  | .ref n, _, h, b => by
    cases h with
    | ref e => exact .ref (prefix_of pf e (by simpa only [below, decide_eq_true_eq] using b))
  | .obj C ns vs, _, h, b => by
    cases h with
    | obj m e n q ha => exact .obj m e (fun hm => n (pf.subset hm)) q (VRs.back pf vs _ ha (by simpa only [below] using b))
  | .dct ks vs, _, h, b => by
    cases h with
    | dctK e n q ha => exact .dctK e (fun hm => n (pf.subset hm)) q (VRs.back pf vs _ ha (by simpa only [below] using b))
    | dctT e n q ha => exact .dctT e (fun hm => n (pf.subset hm)) q (VRs.back pf vs _ ha (by simpa only [below] using b))
theorem VRs.back (pf : μ <+: μ') : ∀ (xs : List PV) (vs : List V), VRs K mg μ' H xs vs → belowL μ.length xs = true → VRs K mg μ H xs vs
  | [], _, h, _ => by cases h; exact .nil
  | x :: xs, _, h, b => by
    rw [belowL, Bool.and_eq_true] at b
    cases h with
    | cons h1 h2 => exact .cons (VR.back pf x _ h1 b.1) (VRs.back pf xs _ h2 b.2)
end
mutual
theorem VR.bel : ∀ (x : PV) (v : V), VR K mg μ H x v → below μ.length x = true
  | .non, _, _ => rfl
  | .bl b, _, _ => rfl
  | .int i, _, _ => rfl
  | .str x, _, _ => rfl
  | .ty n, _, _ => rfl
  | .glb x, _, _ => rfl
  | .tup xs, _, h => by
    cases h with
    | tup hs ha => simpa only [FL.below] using VRs.bel xs _ ha
  | .kl xs, _, h => by
    cases h with
    | kl hs ha => simpa only [FL.below] using VRs.bel xs _ ha
  | .fl xs, _, h => by
    cases h with
    | fl hs n ha => simpa only [FL.below] using VRs.bel xs _ ha
  | .ref n, _, h => by
    cases h with
    | ref e =>
      have := (List.getElem?_eq_some_iff.mp e).1
      simp only [FL.below, decide_eq_true_eq]
      exact this
  | .obj C ns vs, _, h => by
    cases h with
    | obj m e n q ha => simpa only [FL.below] using VRs.bel vs _ ha
  | .dct ks vs, _, h => by
    cases h with
    | dctK e n q ha => simpa only [FL.below] using VRs.bel vs _ ha
    | dctT e n q ha => simpa only [FL.below] using VRs.bel vs _ ha
theorem VRs.bel : ∀ (xs : List PV) (vs : List V), VRs K mg μ H xs vs → belowL μ.length xs = true
  | [], _, _ => rfl
  | x :: xs, _, h => by
    cases h with
    | cons h1 h2 =>
      rw [belowL, VR.bel x _ h1, VRs.bel xs _ h2]
      rfl
end
theorem FRs.vals {fs : List (Str × PV)} {gs : List (Str × V)} (h : FRs K mg μ H fs gs) : VRs K mg μ H (fs.map (·.2)) (gs.map (·.2)) ∧ gs.map (·.1) = fs.map (·.1) := by
  induction h with
  | nil => exact ⟨.nil, rfl⟩
  | cons r _ ih => exact ⟨.cons r ih.1, by simp [ih.2]⟩
theorem FRs.mk' : ∀ {ns : List Str} {vs : List PV} {gs : List (Str × V)}, VRs K mg μ H vs (gs.map (·.2)) → gs.map (·.1) = ns → FRs K mg μ H (ns.zip vs) gs
  | [], vs, [], h, _ => .nil
  | n :: ns, vs, g :: gs, h, e => by
    simp at e
    obtain ⟨rfl, e⟩ := e
    obtain ⟨a, b⟩ := g
    rw [List.map_cons] at h
    cases h with
    | cons h1 h2 => exact .cons h1 (FRs.mk' h2 e)
  | n :: ns, vs, [], h, e => by simp at e
  | [], vs, g :: gs, h, e => by simp at e
theorem zip_fst_snd {α β : Type} : ∀ l : List (α × β), (l.map (·.1)).zip (l.map (·.2)) = l
  | [] => rfl
  | (a, b) :: l => by simp [zip_fst_snd l]
theorem FRs.back (pf : μ <+: μ') {fs : List (Str × PV)} {gs : List (Str × V)} (h : FRs K mg μ' H fs gs) (b : belowL μ.length (fs.map (·.2)) = true) : FRs K mg μ H fs gs := by
  have q := FRs.mk' (VRs.back pf _ _ h.vals.1 b) h.vals.2
  rw [zip_fst_snd] at q
  exact q
theorem KRs.vals {fs : List (PV × PV)} {gs : List (Key × V)} (h : KRs K mg μ H fs gs) : VRs K mg μ H (fs.map (·.2)) (gs.map (·.2)) ∧ (fs.map (·.1)).map keyOf = gs.map fun e => some e.1 := by
  induction h with
  | nil => exact ⟨.nil, rfl⟩
  | cons e r _ ih => exact ⟨.cons r ih.1, by simp only [List.map_cons, e]; rw [ih.2]⟩
theorem TRs.vals {fs : List (PV × PV)} {gs : List (List Key × V)} (h : TRs K mg μ H fs gs) : VRs K mg μ H (fs.map (·.2)) (gs.map (·.2)) ∧ (fs.map (·.1)).map keysOf = gs.map fun e => some e.1 := by
  induction h with
  | nil => exact ⟨.nil, rfl⟩
  | cons e r _ ih => exact ⟨.cons r ih.1, by simp only [List.map_cons, e]; rw [ih.2]⟩
theorem KRs.mk' : ∀ {ks vs : List PV} {gs : List (Key × V)}, VRs K mg μ H vs (gs.map (·.2)) → ks.map keyOf = gs.map (fun e => some e.1) → KRs K mg μ H (ks.zip vs) gs
  | [], vs, [], h, _ => .nil
  | n :: ns, vs, g :: gs, h, e => by
    simp only [List.map_cons, List.cons.injEq] at e
    obtain ⟨a, b⟩ := g
    rw [List.map_cons] at h
    cases h with
    | cons h1 h2 => exact .cons e.1 h1 (KRs.mk' h2 e.2)
  | n :: ns, vs, [], h, e => by simp at e
  | [], vs, g :: gs, h, e => by simp at e
theorem TRs.mk' : ∀ {ks vs : List PV} {gs : List (List Key × V)}, VRs K mg μ H vs (gs.map (·.2)) → ks.map keysOf = gs.map (fun e => some e.1) → TRs K mg μ H (ks.zip vs) gs
  | [], vs, [], h, _ => .nil
  | n :: ns, vs, g :: gs, h, e => by
    simp only [List.map_cons, List.cons.injEq] at e
    obtain ⟨a, b⟩ := g
    rw [List.map_cons] at h
    cases h with
    | cons h1 h2 => exact .cons e.1 h1 (TRs.mk' h2 e.2)
  | n :: ns, vs, [], h, e => by simp at e
  | [], vs, g :: gs, h, e => by simp at e
theorem OR.bel {o : LO} {a : Addr} (h : OR K mg μ H o a) : belowO μ.length o = true := by
  cases h with
  | lst _ q => exact VRs.bel _ _ q
  | dicK _ q => exact VRs.bel _ _ q.vals.1
  | dicT _ q => exact VRs.bel _ _ q.vals.1
  | ins _ _ q => exact VRs.bel _ _ q.vals.1
theorem OR.back (pf : μ <+: μ') {o : LO} {a : Addr} (h : OR K mg μ' H o a) (b : belowO μ.length o = true) : OR K mg μ H o a := by
  cases h with
  | lst e q => exact .lst e (VRs.back pf _ _ q b)
  | dicK e q =>
    have z := KRs.mk' (VRs.back pf _ _ q.vals.1 b) q.vals.2
    rw [zip_fst_snd] at z
    exact .dicK e z
  | dicT e q =>
    have z := TRs.mk' (VRs.back pf _ _ q.vals.1 b) q.vals.2
    rw [zip_fst_snd] at z
    exact .dicT e z
  | ins c e q => exact .ins c e (q.back pf b)
theorem mapO_vrs {f : PV → Option PV} (ih : ∀ x y v, f x = some y → VR K mg μ' H x v → VR K mg μ H y v) : ∀ {xs ys : List PV} {vs : List V}, mapO f xs = some ys → VRs K mg μ' H xs vs → VRs K mg μ H ys vs
  | [], _, _, e, h => by cases e; cases h; exact .nil
  | x :: xs, ys, _, e, h => by
    cases h with
    | cons h1 h2 =>
      unfold mapO at e
      cases q : f x with
      | none => rw [q] at e; cases e
      | some y =>
        rw [q] at e
        cases q2 : mapO f xs with
        | none => rw [q2] at e; cases e
        | some zs =>
          rw [q2] at e
          cases e
          exact .cons (ih _ _ _ q h1) (mapO_vrs ih q2 h2)
theorem frz_ok (sr : SR K mg μ' S' H) (pf : μ <+: μ') : ∀ (k : Nat) (x y : PV) (v : V), frz S' μ.length k x = some y → VR K mg μ' H x v → VR K mg μ H y v
  | 0, _, _, _, e, _ => by cases e
  | k + 1, x, y, v, e, h => by
    have ih := frz_ok sr pf k
    unfold frz at e
    by_cases hb : below μ.length x = true
    · rw [if_pos hb] at e
      cases e
      exact VR.back pf _ _ h hb
    rw [if_neg hb] at e
    cases h with
    | non => cases e
    | bl b => cases e
    | int b => cases e
    | str b => cases e
    | ty n => cases e
    | glb q => cases e
    | tup hs ha =>
      simp only [Option.map_eq_some_iff] at e
      obtain ⟨ys, e1, rfl⟩ := e
      exact .tup hs (mapO_vrs ih e1 ha)
    | kl hs ha =>
      simp only [Option.map_eq_some_iff] at e
      obtain ⟨ys, e1, rfl⟩ := e
      exact .kl hs (mapO_vrs ih e1 ha)
    | fl e0 n ha =>
      simp only [Option.map_eq_some_iff] at e
      obtain ⟨ys, e1, rfl⟩ := e
      exact .fl e0 (fun hm => n (pf.subset hm)) (mapO_vrs ih e1 ha)
    | obj m e0 n q ha =>
      simp only [Option.map_eq_some_iff] at e
      obtain ⟨ys, e1, rfl⟩ := e
      exact .obj m e0 (fun hm => n (pf.subset hm)) q (mapO_vrs ih e1 ha)
    | dctK e0 n q ha =>
      simp only [Option.map_eq_some_iff] at e
      obtain ⟨ys, e1, rfl⟩ := e
      exact .dctK e0 (fun hm => n (pf.subset hm)) q (mapO_vrs ih e1 ha)
    | dctT e0 n q ha =>
      simp only [Option.map_eq_some_iff] at e
      obtain ⟨ys, e1, rfl⟩ := e
      exact .dctT e0 (fun hm => n (pf.subset hm)) q (mapO_vrs ih e1 ha)
    | @ref m a hn =>
      have hm : ¬ m < μ.length := by simpa only [below, decide_eq_true_eq] using hb
      have na : a ∉ μ := fun hz => by
        obtain ⟨i, hi, ei⟩ := List.getElem_of_mem hz
        have e1 : μ[i]? = some a := by rw [List.getElem?_eq_getElem hi, ei]
        exact hm (nodup_get sr.nd (prefix_get pf e1) hn ▸ hi)
      simp only at e
      cases q : S'[m]? with
      | none => rw [q] at e; cases e
      | some o =>
        rw [q] at e
        have ho := sr.at_ m a o hn q
        cases ho with
        | @lst _ xs _ e0 r =>
          simp only at e
          by_cases hl : belowL μ.length xs = true
          · rw [if_pos hl] at e
            cases e
            exact .fl e0 na (VRs.back pf _ _ r hl)
          · rw [if_neg hl] at e
            simp only [Option.map_eq_some_iff] at e
            obtain ⟨ys, e1, rfl⟩ := e
            exact .fl e0 na (mapO_vrs ih e1 r)
        | ins c e0 r =>
          simp only [Option.map_eq_some_iff] at e
          obtain ⟨ys, e1, rfl⟩ := e
          exact .obj c e0 na r.vals.2 (mapO_vrs ih e1 r.vals.1)
        | dicK e0 r =>
          simp only [Option.map_eq_some_iff] at e
          obtain ⟨ys, e1, rfl⟩ := e
          exact .dctK e0 na r.vals.2 (mapO_vrs ih e1 r.vals.1)
        | dicT e0 r =>
          simp only [Option.map_eq_some_iff] at e
          obtain ⟨ys, e1, rfl⟩ := e
          exact .dctT e0 na r.vals.2 (mapO_vrs ih e1 r.vals.1)
theorem SR.gc (sr : SR K mg μ S H) (st : Stp μ H μ' H') (sr' : SR K mg μ' S' H') (f : Fits S S') : SR K mg μ (S'.take S.length) H' ∧ Stp μ H μ H' := by
  have hle : S.length ≤ S'.length := by
    rw [← sr.len, ← sr'.len]
    exact st.pre.length_le
  refine ⟨⟨by rw [sr.len, List.length_take]; omega, sr.nd, fun i a o e1 e2 => ?_⟩, ⟨List.prefix_refl _, fun a h => .inl h, st.keep⟩⟩
  have hi : i < S.length := by
    rw [← sr.len]
    exact (List.getElem?_eq_some_iff.mp e1).1
  rw [List.getElem?_take_of_lt hi] at e2
  have ho := sr'.at_ i a o (prefix_get st.pre e1) e2
  refine ho.back st.pre ?_
  rcases f i hi with q | ⟨o', q, b⟩
  · rw [e2] at q
    exact (sr.at_ i a o e1 q.symm).bel
  · rw [e2] at q
    cases q
    rw [sr.len]
    exact b
theorem gc_ok {W : WX} {σ : L2.St} {Q : VK} (sr : SR K mg μ S H) {r : Res PV} (h : Out (gcR S r) (okG K mg (fun μ H => VR K mg μ H) μ H Q) (exG K mg W σ μ H)) : Out r (okG K mg (fun μ H => VR K mg μ H) μ H Q) (exG K mg W σ μ H) := by
  cases r with
  | stk => exact h
  | ok v S' =>
    unfold gcR at h
    simp only at h
    by_cases f : Fits S S'
    · rw [if_pos f] at h
      cases q : frz S' S.length 12 v with
      | none => simp only [q] at h; exact h
      | some y =>
        simp only [q] at h
        intro μ' H' b st sr' r
        obtain ⟨s2, t2⟩ := sr.gc st sr' f
        rw [← sr.len] at q
        exact h μ H' b t2 s2 (frz_ok sr' st.pre _ _ _ _ q r)
    · rw [if_neg f] at h; exact h
  | exc C fs S' =>
    unfold gcR at h
    simp only at h
    by_cases f : Fits S S'
    · rw [if_pos f] at h
      by_cases bl : belowL S.length (fs.map (·.2)) = true
      · rw [if_pos bl] at h
        intro μ' H' c d st sr' r
        obtain ⟨s2, t2⟩ := sr.gc st sr' f
        rw [← sr.len] at bl
        refine h μ H' c d t2 s2 ?_
        obtain ⟨m, ⟨rfl, rfl⟩ | ⟨dx, gs, rfl, e, r⟩⟩ := r
        · exact ⟨m, .inl ⟨rfl, rfl⟩⟩
        · exact ⟨m, .inr ⟨dx, gs, rfl, e, r.back st.pre bl⟩⟩
      · rw [if_neg bl] at h
        cases q : mapO (frz S' S.length 12) (fs.map (·.2)) with
        | none => simp only [q] at h; exact h
        | some ys =>
          simp only [q] at h
          intro μ' H' c d st sr' r
          obtain ⟨s2, t2⟩ := sr.gc st sr' f
          rw [← sr.len] at q
          refine h μ H' c d t2 s2 ?_
          obtain ⟨m, ⟨rfl, rfl⟩ | ⟨dx, gs, rfl, e, r⟩⟩ := r
          · cases q
            exact ⟨m, .inl ⟨rfl, rfl⟩⟩
          · exact ⟨m, .inr ⟨dx, gs, rfl, e, FRs.mk' (mapO_vrs (fun x y v => frz_ok sr' st.pre _ x y v) q r.vals.1) r.vals.2⟩⟩
    · rw [if_neg f] at h; exact h
end
theorem fe_gc {X : Cx} {W : WX} {e : Expr} {d : En → Sto → Res PV} (h : FE X W e d) : FE X W e (eGc d) := by
  refine PE_imp h fun σ H Q h => ?_
  obtain ⟨ρ, S, μ, er, sr, h⟩ := h
  exact ⟨ρ, S, μ, er, sr, gc_ok sr h⟩
theorem gc_tE {K : PySem.W.Frag} {mg : Str → Option Value} {W : WX} {d : En → Sto → Res PV} {σ : L2.St} {H : Hp} {Q : VK} (h : tE K mg W (eGc d) σ H Q) : tE K mg W d σ H Q := by
  obtain ⟨ρ, S, μ, er, sr, h⟩ := h
  exact ⟨ρ, S, μ, er, sr, gc_ok sr h⟩
theorem sp_gc {K : PySem.W.Frag} {mg : Str → Option Value} {n : Nat} {f : FF} {vs : List V} {H : Hp} {Q : VK} {E : XK} (h : spF K mg n (gcF f) vs H Q E) : spF K mg n f vs H Q E := by
  obtain ⟨hl, xs, S, μ, r, sr, h⟩ := h
  exact ⟨hl, xs, S, μ, r, sr, gc_ok (W := WF E) (σ := []) sr h⟩
theorem fn_gc {P : Program} {w : World} {K : PySem.W.Frag} {mg : Str → Option Value} {base : Heap} {k : Nat} {f : Addr} {fd : FuncData} {ps : List Str} {n : Nat} {F : FF} (G : FnOk P w K mg base (L2.CX P w) k f fd ps (spF K mg n F)) : FnOk P w K mg base (L2.CX P w) k f fd ps (spF K mg n (gcF F)) :=
  G.imp fun _ _ _ _ h => sp_gc h
end FL

/-! FLg: chains, isinstance of built-in types, slices, zip, append, pop, two names at once, comprehensions stored. -/
namespace FL
open PySem PySem.Spec L2
section
variable {X : Cx} {W : WX} {e a b c : Expr} {es : List Expr} {pos : Pos} {da db dc : En → Sto → Res PV} {dl : En → Sto → Res (List PV)} {k : Nat}
/-! a < b < c -/
def eChain (f f' : PV → PV → Sto → OP) (da db dc : En → Sto → Res PV) : En → Sto → Res PV := fun ρ S => (da ρ S).bind fun x S1 => (db ρ S1).bind fun y S2 => match f x y S2 with
  | some (.bl true, S3) => (dc ρ S3).bind fun z S4 => ofO (f' y z S4)
  | some (.bl false, S3) => .ok (.bl false) S3
  | _ => .stk
theorem fe_chain {op op' : CmpOp} {f f' : PV → PV → Sto → OP} (ho : OpR X (compareOp op) (k2 X f)) (ho' : OpR X (compareOp op') (k2 X f')) (ha : FE X W a da) (hb : FE X W b db) (hc : FE X W c dc)
    (hm : lastMarks [op, op'] [b, c] = false := by with_unfolding_all rfl) : FE X W (.Compare a [op, op'] [b, c] pos) (eChain f f' da db dc) := by
  refine PE_imp (pe_chain ho ho' ha hb hc hm) fun σ H Q h => ?_
  obtain ⟨ρ, S, μ, er, sr, h⟩ := h
  refine tG_bind er sr h fun x v S1 μ1 H1 st1 sr1 r1 er1 h1 => ?_
  refine tG_bind er1 sr1 h1 fun y w S2 μ2 H2 st2 sr2 r2 er2 h2 => ?_
  refine ⟨x, y, S2, μ2, VR.mono sr1 st2 _ _ r1, r2, sr2, ?_⟩
  split at h2
  · rename_i S3 q
    rw [q]
    intro μ3 H3 v3 st3 sr3 r3
    cases r3
    refine ⟨true, rfl, ?_⟩
    rw [if_pos rfl]
    have h3 := h2.mono (fun _ _ q => q.step st3) fun _ _ _ q => q.step st3
    refine tG_bind (er2.mono sr2 st3) sr3 h3 fun z u S4 μ4 H4 st4 sr4 r4 er4 h4 => ?_
    exact ⟨y, z, S4, μ4, VR.mono sr3 st4 _ _ (VR.mono sr2 st3 _ _ r2), r4, sr4, ofO_ex h4⟩
  · rename_i S3 q
    rw [q]
    intro μ3 H3 v3 st3 sr3 r3
    cases r3
    refine ⟨false, rfl, ?_⟩
    rw [if_neg Bool.false_ne_true]
    exact h2 μ3 H3 _ st3 sr3 (.bl false)
  · exact h2.elim
theorem ft_chain {op op' : CmpOp} {as : List Expr} (h : FE X W (.Compare a [op, op'] as pos) da) (he : ∀ whole, isTrue (.Compare a [op, op'] as pos) X.env whole = (do let v ← whole; standAt pos; holding [v] (truthy v)) := by intro _; rfl) : FT X W (.Compare a [op, op'] as pos) (tOfE da) := ft_val h he

/-! isinstance(x, a built-in type) -/
def tyN (S : Sto) : PV → Option String
  | .non => some "NoneType"
  | .bl _ => some "bool"
  | .int _ => some "int"
  | .str _ => some "str"
  | .tup _ => some "tuple"
  | .kl _ => some "list"
  | .fl _ => some "list"
  | .dct _ _ => some "dict"
  | .ref n => match S[n]? with
    | some (.lst _) => some "list"
    | some (.dic _) => some "dict"
    | _ => none
  | _ => none
def isiTab (T n : String) : Bool := T == n || (T == "int" && n == "bool")
def pIsi (T : String) : PV → Sto → OP := fun x S => match tyN S x with
  | some n => some (.bl (isiTab T n), S)
  | none => none
def IsiOk (T : String) : Prop := ∀ n ∈ ["NoneType", "bool", "int", "str", "tuple", "list", "dict"], kitB n T = some (isiTab T n)
theorem isi_int : IsiOk "int" := by unfold IsiOk; decide +kernel
theorem isi_bool : IsiOk "bool" := by unfold IsiOk; decide +kernel
theorem isi_tuple : IsiOk "tuple" := by unfold IsiOk; decide +kernel
theorem isi_str : IsiOk "str" := by unfold IsiOk; decide +kernel
theorem isi_list : IsiOk "list" := by unfold IsiOk; decide +kernel
theorem isi_dict : IsiOk "dict" := by unfold IsiOk; decide +kernel
theorem ty_of {K : PySem.W.Frag} {mg : Str → Option Value} {μ : List Addr} {S : Sto} {H : Hp} (sr : SR K mg μ S H) {x : PV} {v : V} {n : String} (r : VR K mg μ H x v) (e : tyN S x = some n) : TyX K H v (.type n) ∧ n ∈ ["NoneType", "bool", "int", "str", "tuple", "list", "dict"] := by
  cases r with
  | non => cases e; exact ⟨.base .non, by simp⟩
  | bl b => cases e; exact ⟨.base (.bl b), by simp⟩
  | int b => cases e; exact ⟨.base (.int b), by simp⟩
  | str b => cases e; exact ⟨.base (.str b), by simp⟩
  | ty n => cases e
  | glb q => cases e
  | obj _ _ _ _ _ => cases e
  | fl h _ _ => cases e; exact ⟨.base (.lst h), by simp⟩
  | dctK h _ _ _ => cases e; exact ⟨.base (.dK h), by simp⟩
  | dctT h _ _ _ => cases e; exact ⟨.base (.dT h), by simp⟩
  | tup hs ha =>
    cases e
    refine ⟨?_, by simp⟩
    rcases hs with (h | ⟨o, h⟩) | ⟨o, its, n, h1, h2, _⟩
    · exact .base (.tup h)
    · exact .fTuple h
    · exact .kTuple h1 h2
  | kl hs ha =>
    cases e
    refine ⟨?_, by simp⟩
    rcases hs with ⟨o, h⟩ | ⟨o, its, n, h1, h2, _⟩
    · exact .base (.frz h)
    · exact .kList h1 h2
  | ref hn =>
    simp only [tyN] at e
    split at e
    · rename_i q
      cases e
      cases sr.at_ _ _ _ hn q with
      | lst a1 _ => exact ⟨.base (.lst a1), by simp⟩
    · rename_i q
      cases e
      cases sr.at_ _ _ _ hn q with
      | dicK a1 _ => exact ⟨.base (.dK a1), by simp⟩
      | dicT a1 _ => exact ⟨.base (.dT a1), by simp⟩
    · cases e
theorem fe_isi {T : String} {x y : Str} {p q : Pos} (hg : Gl X x) (hm : X.mg x = none) (hg' : Gl X y) (hm' : X.mg y = none) (hv : bootBuiltins x = some (.builtin "isinstance")) (hv' : bootBuiltins y = some (.type T)) (ok : IsiOk T) (ha : FE X W e da)
    (hn : x ≠ "__name__" := by decide) (hdb : (x == ("__debug__" : Str)) = false := by decide) (hn' : y ≠ "__name__" := by decide) (hdb' : (y == ("__debug__" : Str)) = false := by decide)
    (he : starEach [e, .Name y q] X.env = (false, eval e X.env) :: starEach [.Name y q] X.env := by rfl) (he' : starEach [.Name y q] X.env = (false, eval (.Name y q) X.env) :: starEach [] X.env := by rfl)
    (hpl : (backTo pos (starEach [.Name y q] X.env)).any (·.1) = false := by rfl) : FE X W (.Call (.Name x p) [e, .Name y q] [] pos) (eUn (pIsi T) da) := by
  have hT : PE X (.Name y q) (tC (.ty T)) := pe_bltn hg' hm' hv' rfl hn' hdb'
  refine PE_imp (pe_callB call_isi hg hm hv (pa_cons ha (pa_cons hT pa_nil he') he) hn hdb he hpl) fun σ H Q h => ?_
  obtain ⟨ρ, S, μ, er, sr, h⟩ := h
  refine tG_bind er sr h fun x v S1 μ1 H1 st1 sr1 r1 er1 h1 => ?_
  unfold pIsi at h1
  cases q : tyN S1 x with
  | none => rw [q] at h1; exact h1.elim
  | some n =>
    rw [q] at h1
    obtain ⟨ht, hn⟩ := ty_of sr1 r1 q
    exact ⟨v, .ty T, .type n, .type T, isiTab T n, rfl, .ty T, ht, kit_ty (ok n hn), h1 μ1 H1 _ .refl sr1 (.bl _)⟩

/-! slices -/
abbrev OE := En → Sto → Res (Option Int)
def oNone : OE := fun _ S => .ok none S
def oSome (da : En → Sto → Res PV) : OE := fun ρ S => (da ρ S).bind fun x S1 => match x with
  | .int i => .ok (some i) S1
  | _ => .stk
def optR : List Addr → Hp → Option Int → Option Int → Prop := fun _ _ a b => a = b
abbrev FO (X : Cx) (W : WX) (e : Option Expr) (d : OE) : Prop := PO X e (tG X.K X.mg optR W d)
theorem fo_none : FO X W none oNone := ⟨fun pins s σ H Q I h => by
  obtain ⟨ρ, S, μ, er, sr, h⟩ := h
  exact po_none.run pins s σ H Q I (h μ H none .refl sr rfl)⟩
theorem fo_some (he : FE X W e da) : FO X W (some e) (oSome da) := ⟨fun pins s σ H Q I h => by
  obtain ⟨ρ, S, μ, er, sr, h⟩ := h
  refine (po_some he).run pins s σ H Q I ?_
  refine tG_bind er sr h fun x v S1 μ1 H1 st1 sr1 r1 er1 h1 => ?_
  cases r1 with
  | int i => exact ⟨i, rfl, h1 μ1 H1 _ .refl sr1 rfl⟩
  | _ => exact h1.elim⟩
def cutP (xs : List PV) (lo hi : Option Int) : List PV := (xs.drop (HT.sIx xs.length 0 lo)).take (HT.sIx xs.length xs.length hi - HT.sIx xs.length 0 lo)
def pSl (x : PV) (lo hi : Option Int) (S : Sto) : OP := match x with
  | .tup xs => some (.tup (cutP xs lo hi), S)
  | .str z => if z.length ≤ big then some (.str (cutS z lo hi), S) else none
  | x => match lstOf S x with
    | some xs => some (.fl (cutP xs lo hi), S)
    | none => none
def eSl (da : En → Sto → Res PV) (dlo dhi : OE) : En → Sto → Res PV := fun ρ S => (da ρ S).bind fun x S1 => (dlo ρ S1).bind fun lo S2 => (dhi ρ S2).bind fun hi S3 => ofO (pSl x lo hi S3)
def kSl (X : Cx) : V → Option Int → Option Int → Hp → VK → Prop := fun v lo hi H Q => ∃ (x : PV) (S : Sto) (μ : List Addr), VR X.K X.mg μ H x v ∧ SR X.K X.mg μ S H ∧ Out (ofO (pSl x lo hi S)) (okG X.K X.mg (fun μ H => VR X.K X.mg μ H) μ H Q) (fun _ _ _ => False)
theorem cut_whole {xs : List PV} {lo hi : Option Int} (h : HT.sIx xs.length 0 lo = 0 ∧ HT.sIx xs.length xs.length hi = xs.length) : cutP xs lo hi = xs := by
  unfold cutP
  rw [h.1, h.2]
  simp
theorem VRs.cut {K : PySem.W.Frag} {mg : Str → Option Value} {μ : List Addr} {H : Hp} {xs : List PV} {vs : List V} (h : VRs K mg μ H xs vs) (lo hi : Option Int) : VRs K mg μ H (cutP xs lo hi) (cutV vs lo hi) := by
  unfold cutP cutV
  rw [← h.length]
  exact (h.drop _).take _
theorem sl_any : SlR X (kSl X) := by
  intro pins s σ H v vv vl vu lo hi sl Q I rv hs pl pu ⟨x, S, μ, hx, sr, h⟩
  have lst : ∀ {xs : List PV}, lstOf S x = some xs → (∀ ys, x ≠ PV.tup ys) → okG X.K X.mg (fun μ H => VR X.K X.mg μ H) μ H Q (.fl (cutP xs lo hi)) S → ∃ T id, typeLookup (.type T) "__getitem__" = pure (some (.builtin id)) ∧ s.TypeIs vv T ∧ wpAny (model X.prog X.w) X.A (getItem vv (.ref sl)) (EP X pins σ Q) X.xe s := by
    intro xs e1 hn h
    obtain ⟨p, ws, rfl, _, ha, _, h4⟩ := seq_of (pins := pins) (s := s) (σ := σ) sr hx e1
    exact sl_list pins s σ H _ vv vl vu lo hi sl Q I rv hs pl pu ⟨p, ws, rfl, h4 hn, fun q hq => h μ _ _ (Stp.fresh hq) (sr.fresh hq) (sr.newL hq (ha.cut lo hi))⟩
  cases hx with
  | @tup a xs vs hq ha =>
    refine sl_tupA pins s σ H _ vv vl vu lo hi sl Q I rv hs pl pu ⟨a, vs, rfl, hq, fun hw => ?_, fun hw p hp => ?_⟩
    · rw [← ha.length] at hw
      have h := h μ H (.ref a) .refl sr
      rw [cut_whole hw] at h
      exact h (.tup hq ha)
    · exact h μ _ _ (Stp.fresh hp) (sr.fresh hp) (.tup (.of upd_same) (VRs.mono sr (Stp.fresh hp) _ _ (ha.cut lo hi)))
  | str z =>
    simp only [pSl] at h
    split at h
    · exact sl_str pins s σ H _ vv vl vu lo hi sl Q I rv hs pl pu ⟨z, rfl, Nat.le_trans ‹_› big_le, h μ H _ .refl sr (.str _)⟩
    · exact h.elim
  | kl hq ha => exact lst (xs := _) rfl (fun _ z => by cases z) h
  | fl hq hn ha => exact lst (xs := _) rfl (fun _ z => by cases z) h
  | @ref n a hn =>
    simp only [pSl] at h
    cases q : lstOf S (.ref n) with
    | none => rw [q] at h; exact h.elim
    | some xs => rw [q] at h; exact lst q (fun _ z => by cases z) h
  | non => exact h.elim
  | bl _ => exact h.elim
  | int _ => exact h.elim
  | ty _ => exact h.elim
  | glb _ => exact h.elim
  | obj _ _ _ _ _ => exact h.elim
  | dctK _ _ _ _ => exact h.elim
  | dctT _ _ _ _ => exact h.elim
theorem fe_sl {lo hi : Option Expr} {dlo dhi : OE} {p2 : Pos} (he : FE X W e da) (hl : FO X W lo dlo) (hu : FO X W hi dhi) : FE X W (.Subscript e (.Slice lo hi none p2) pos) (eSl da dlo dhi) := by
  refine PE_imp (pe_slice sl_any he hl hu) fun σ H Q h => ?_
  obtain ⟨ρ, S, μ, er, sr, h⟩ := h
  refine tG_bind er sr h fun x v S1 μ1 H1 st1 sr1 r1 er1 h1 => ?_
  refine tG_bind er1 sr1 h1 fun l l' S2 μ2 H2 st2 sr2 r2 er2 h2 => ?_
  obtain rfl : l = l' := r2
  refine tG_bind er2 sr2 h2 fun u u' S3 μ3 H3 st3 sr3 r3 er3 h3 => ?_
  obtain rfl : u = u' := r3
  exact ⟨x, S3, μ3, VR.mono sr2 st3 _ _ (VR.mono sr1 st2 _ _ r1), sr3, ofO_ex h3⟩
theorem fe_ix (ha : FE X W a da) (hb : FE X W b db) (hs : PlainIx b) : FE X W (.Subscript a b pos) (eBin pIx da db) := by
  refine PE_imp (pe_ix x_seq ha hb hs) fun σ H Q h => ?_
  obtain ⟨ρ, S, μ, er, sr, h⟩ := h
  refine tG_bind er sr h fun x v S1 μ1 H1 st1 sr1 r1 er1 h1 => ?_
  refine tG_bind er1 sr1 h1 fun y w S2 μ2 H2 st2 sr2 r2 er2 h2 => ?_
  exact ⟨x, y, S2, μ2, VR.mono sr1 st2 _ _ r1, r2, sr2, ofO_ex h2⟩

/-! zip of two tuples -/
def iZp (da : En → Sto → Res (List PV)) : En → Sto → Res Wlk := fun ρ S => (da ρ S).bind fun xs S1 => match xs with
  | [.tup xs, .tup ys] => .ok (.fix ((xs.zip ys).map fun p => .tup [p.1, p.2])) S1
  | _ => .stk
theorem sqt_inj {pins : List (Addr × Obj)} {s : Shared} {σ : L2.St} {H : Hp} {a : Addr} {xs ys : List V} (I : Inv X pins σ H s) (h : SqT X.K H a xs) (h' : SqT X.K H a ys) : xs = ys := I.tuple_inj h h'
theorem ir_zip {μ : List Addr} {S : Sto} {H : Hp} {xs ys : List PV} {a b : Addr} {vs ws : List V} (sr0 : SR X.K X.mg μ S H) (hs : SqT X.K H a vs) (hv : VRs X.K X.mg μ H xs vs) (hs' : SqT X.K H b ws) (hv' : VRs X.K X.mg μ H ys ws) :
    IR X μ H (.fix ((xs.zip ys).map fun p => .tup [p.1, p.2])) (RZ.ItzT X.K a b) := by
  intro i μ' S' H' st sr
  have hq := sr0.sqt st hs
  have hv := VRs.mono sr0 st _ _ hv
  have hq' := sr0.sqt st hs'
  have hv' := VRs.mono sr0 st _ _ hv'
  unfold itAt
  simp only [List.getElem?_map]
  cases q : (xs.zip ys)[i]? with
  | none =>
    refine ⟨vs, ws, hq, hq', ?_⟩
    have := List.getElem?_eq_none_iff.mp q
    rw [List.length_zip] at this
    rw [← hv.length, ← hv'.length]
    omega
  | some p =>
    obtain ⟨x, y⟩ := p
    obtain ⟨e1, e2⟩ := List.getElem?_zip_eq_some.mp q
    obtain ⟨v, f1, r1⟩ := hv.get e1
    obtain ⟨w, f2, r2⟩ := hv'.get e2
    refine ⟨⟨vs, ws, v, w, hq, hq', f1, f2⟩, fun u H2 hy => ?_⟩
    obtain ⟨T, x', y', rfl, hT, rfl, g1, g2⟩ := hy
    have g1 := g1 vs hq
    have g2 := g2 ws hq'
    rw [f1] at g1; cases g1
    rw [f2] at g2; cases g2
    exact ⟨Stp.fresh hT, sr.fresh hT, .tup (.of upd_same) (.cons (VR.mono sr (Stp.fresh hT) _ _ r1) (.cons (VR.mono sr (Stp.fresh hT) _ _ r2) .nil))⟩
theorem fi_zip {elts : List Expr} {kk : Nat} {tpos p : Pos} (hg : Gl X "zip") (hm : X.mg "zip" = none) (ha : FA X W [a, b] dl)
    (hs : starEach [a, b] X.env = (false, eval a X.env) :: starEach [b] X.env := by rfl) (hpl : (backTo pos (starEach [b] X.env)).any (·.1) = false := by rfl) : FI X W (.Tuple elts kk tpos) (.Call (.Name "zip" p) [a, b] [] pos) (iZp dl) := by
  refine PI_imp (RZ.pi_zipA hg hm ha hs hpl) fun σ H Q h => ?_
  obtain ⟨ρ, S, μ, er, sr, h⟩ := h
  refine tG_bind er sr h fun xs vs S1 μ1 H1 st1 sr1 r1 er1 h1 => ?_
  split at h1
  · obtain ⟨v, w, rfl, q1, q2⟩ := r1.two
    cases q1 with
    | tup a1 a2 =>
      cases q2 with
      | tup b1 b2 => exact ⟨_, _, _, _, rfl, .inr ⟨a1, b1, h1 μ1 H1 _ .refl sr1 (ir_zip sr1 a1 a2 b1 b2)⟩⟩
  · exact h1.elim

/-! methods of lists -/
def eMt (f : PV → List PV → Sto → OP) (da : En → Sto → Res PV) (dl : En → Sto → Res (List PV)) : En → Sto → Res PV := fun ρ S => (da ρ S).bind fun x S1 => match x with
  | .ref n => match S1[n]? with
    | some (.lst _) => (dl ρ S1).bind fun xs S2 => ofO (f x xs S2)
    | _ => .stk
  | _ => .stk
def eMt0 (f : PV → Sto → OP) (da : En → Sto → Res PV) : En → Sto → Res PV := fun ρ S => (da ρ S).bind fun x S1 => ofO (f x S1)
def mAppend : PV → List PV → Sto → OP := fun o xs S => match o, xs with
  | .ref n, [y] => match S[n]? with
    | some (.lst ys) => if ys.length < big then some (.non, S.set n (.lst (ys ++ [y]))) else none
    | _ => none
  | _, _ => none
def mPop : PV → Sto → OP := fun o S => match o with
  | .ref n => match S[n]? with
    | some (.lst ys) => match ys[ys.length - 1]? with
      | some y => some (y, S.set n (.lst ys.dropLast))
      | none => none
    | _ => none
  | _ => none
theorem VRs.dropLast {K : PySem.W.Frag} {mg : Str → Option Value} {μ : List Addr} {H : Hp} {xs : List PV} {vs : List V} (h : VRs K mg μ H xs vs) : VRs K mg μ H xs.dropLast vs.dropLast := by
  rw [List.dropLast_eq_take, List.dropLast_eq_take, h.length]
  exact h.take _
theorem fe_append {apos : Pos} (ho : FE X W a da) (hl : FA X W (e :: es) dl)
    (hbase : attributeBase a "append" X.env (eval a X.env) = eval a X.env := by rfl)
    (hfew : ((backTo pos (starEach (e :: es) X.env)).all (fun x => !x.1) && (backToKw pos (keywordEach [] X.env)).all (fun x => x.1.isSome)
      && decide ((e :: es).length + ([] : List Keyword).length + (if ([] : List Keyword).isEmpty then 0 else 1) < 30)) = true := by rfl)
    (hline : (apos.endLine == pos.line) = true := by rfl) (hs : starEach (e :: es) X.env = (false, eval e X.env) :: starEach es X.env := by rfl) (hplain : (backTo pos (starEach es X.env)).any (·.1) = false := by rfl) :
    FE X W (.Call (.Attribute a "append" apos) (e :: es) [] pos) (eMt mAppend da dl) := by
  refine PE_imp (pe_bm PySem.F.plainAttrs_list PySem.F.slot_list_append PySem.F.type_list_append mt_append ho hl hbase hfew hline hs hplain) fun σ H Q h => ?_
  obtain ⟨ρ, S, μ, er, sr, h⟩ := h
  refine tG_bind er sr h fun x v S1 μ1 H1 st1 sr1 r1 er1 h1 => ?_
  split at h1
  · split at h1
    · rename_i n _ q
      cases r1 with
      | ref hn =>
        cases sr1.at_ _ _ _ hn q with
        | lst a1 a2 =>
          refine ⟨.inl ⟨rfl, _, .of a1⟩, ?_⟩
          refine tG_bind er1 sr1 h1 fun xs vs S2 μ2 H2 st2 sr2 r2 er2 h2 => ?_
          unfold mAppend at h2
          split at h2
          · rename_i m y e1
            cases e1
            split at h2
            · rename_i ys q2
              split at h2
              · have hn2 := prefix_get st2.pre hn
                cases sr2.at_ _ _ _ hn2 q2 with
                | lst b1 b2 =>
                  obtain ⟨u, rfl, ru⟩ := r2.one
                  refine ⟨_, _, u, rfl, rfl, b1, by rw [← b2.length]; exact Nat.lt_trans ‹_› big_lt, ?_⟩
                  exact h2 μ2 _ _ (Stp.put hn2) (sr2.put hn2 (.lst upd_same (VRs.snoc (VRs.mono sr2 (Stp.put hn2) _ _ b2) (VR.mono sr2 (Stp.put hn2) _ _ ru)))) .non
              · exact h2.elim
            · exact h2.elim
          · exact h2.elim
    · exact h1.elim
  · exact h1.elim
theorem fe_pop {apos : Pos} (ho : FE X W a da) (hbase : attributeBase a "pop" X.env (eval a X.env) = eval a X.env := by rfl) (hline : (apos.endLine == pos.line) = true := by rfl) :
    FE X W (.Call (.Attribute a "pop" apos) [] [] pos) (eMt0 mPop da) := by
  refine PE_imp (pe_bm0 PySem.F.plainAttrs_list PySem.F.slot_list_pop PySem.F.type_list_pop mt_pop ho hbase hline) fun σ H Q h => ?_
  obtain ⟨ρ, S, μ, er, sr, h⟩ := h
  refine tG_bind er sr h fun x v S1 μ1 H1 st1 sr1 r1 er1 h1 => ?_
  unfold mPop at h1
  split at h1
  · split at h1
    · rename_i n ys q
      split at h1
      · rename_i y q2
        cases r1 with
        | ref hn =>
          cases sr1.at_ _ _ _ hn q with
          | lst a1 a2 =>
            obtain ⟨u, e2, ru⟩ := a2.get q2
            refine ⟨.inl ⟨rfl, _, .of a1⟩, _, _, u, rfl, rfl, a1, by rw [← a2.length]; exact e2, ?_⟩
            exact h1 μ1 _ _ (Stp.put hn) (sr1.put hn (.lst upd_same (VRs.mono sr1 (Stp.put hn) _ _ a2.dropLast))) (VR.mono sr1 (Stp.put hn) _ _ ru)
      · exact h1.elim
    · exact h1.elim
  · exact h1.elim

/-! a, b = x, y -/
def sPar (i j : Nat) (dl : En → Sto → Res (List PV)) : En → Sto → SRes := fun ρ S => liftE (dl ρ S) ρ fun xs S1 => match xs with
  | [x, y] => if i < ρ.length ∧ j < ρ.length then .ok .nx ((ρ.set i (some x)).set j (some y)) S1 else .stk
  | _ => .stk
theorem fs_par {i j : Nat} {x y : Str} {px py pt : Pos} {kt k2 : Nat} {pt2 : Pos} (hc : X.calm = true) (hN : X.N.Nodup) (hi : X.N[i]? = some x) (hj : X.N[j]? = some y) (hij : i ≠ j)
    (hx : X.env.scope.names.lookup x = some .local) (hy : X.env.scope.names.lookup y = some .local) (ha : FA X W [a, b] dl)
    (hw : swappedStores [.Tuple [.Name x px, .Name y py] kt pt] (.Tuple [a, b] k2 pt2) X.env = pure (some [x, y]))
    (hs : swapsWithSole [.Tuple [.Name x px, .Name y py] kt pt] (.Tuple [a, b] k2 pt2) pos.line X.env = pure false := by rfl) :
    FS X W (.Assign [.Tuple [.Name x px, .Name y py] kt pt] (.Tuple [a, b] k2 pt2) pos) (sPar i j dl) := by
  refine PS_imp (ps_par hc hN hi hj hij hx hy ha hw hs) fun D σ H h => ?_
  obtain ⟨ρ, S, μ, er, sr, h⟩ := h
  refine tS_bind er sr h fun xs vs S1 μ1 H1 st1 sr1 r1 er1 h1 => ?_
  split at h1
  · split at h1
    · rename_i hl
      obtain ⟨v, w, rfl, q1, q2⟩ := r1.two
      exact ⟨v, w, rfl, h1 μ1 H1 _ .refl ((er1.set hl.1 q1).set (by rw [List.length_set]; exact hl.2) q2) sr1⟩
    · exact h1.elim
  · exact h1.elim
/-! what is never reached -/
def sNev : En → Sto → SRes := fun _ _ => .stk
theorem fs_never {st : Stmt} : FS X W st sNev := PS_imp ps_never fun D σ H h => by
  obtain ⟨ρ, S, μ, er, sr, h⟩ := h
  exact h
end
end FL

/-! FLh: enumerate of a tuple or a list. -/
namespace FL
open PySem PySem.Spec L2
open Sem (wp)
abbrev tItO (t : Addr) : Obj := { cls := .type "tuple_iterator", data := .fields #[.ref t, .int 0 0] }
abbrev enO (p : Addr) : Obj := { cls := .type "enumerate", data := .fields #[.none, .bool false, .ref p, rawInt 0, .none, .none] }
set_option maxHeartbeats 1000000 in
theorem en_meets (t : Addr) (items : Array Value) :
    Meets (Builtin.«enumerate.__new__» ⟨[.type "enumerate", .ref t], []⟩)
      (fun _ R s => s.heap.IsTuple t items ∧
        R (.ok (.ret (.ref (s.heap.push (tItO t)).objs.size)))
          { s with heap := (s.heap.push (tItO t)).push (enO s.heap.objs.size) }) :=
  .of_wp fun prog w A R s hh => by
    obtain ⟨hp, g, d, tk, os⟩ := s
    obtain ⟨ht, hR⟩ := hh
    have hsub := sub_enumerate
    have it1 : ∀ {A' : Around} {E Q : Value → Shared → Prop},
        Q (.ref hp.objs.size) ⟨hp.push (tItO t), g, d, tk, os⟩ →
        wpAny (model prog w) A' (pyIter (.ref t)) Q E ⟨hp, g, d, tk, os⟩ :=
      fun q => (PySem.begins_tuple t items).iter prog w _ _ ⟨hp, g, d, tk, os⟩ _ ht q
    wp_walk using it1
    refine wpAny_stack_any fun _ => wpAny_pure ?_
    split
    · rename_i c _ _ _ _ _
      cases (c == Value.type "enumerate") <;>
        (wp_walk using it1; exact ⟨_, rfl, hR⟩)
    · wp_walk using it1
      exact ⟨_, rfl, hR⟩
section
variable {prog : Program} {w : World} {A : Around} {E : Value → Shared → Prop} {s : Shared}
theorem en_call {t : Addr} {items : Array Value} {Q : Value → Shared → Prop} (ht : s.heap.IsTuple t items)
    (k : ∀ h', IsEnum h' (s.heap.objs.size + 1) s.heap.objs.size 0 .none → h'.get? s.heap.objs.size = some (tItO t) →
      (∀ b o, s.heap.get? b = some o → h'.get? b = some o) → Q (.ref (s.heap.objs.size + 1)) { s with heap := h' }) :
    wpAny (model prog w) A (call (.type "enumerate") [.ref t]) Q E s := by
  refine callType_new F.called_enumerate (by decide) (F.typeCall_enumerate_1 _)
    (F.newCall_enumerate_1 _) (fun obj => F.args_object_init_2 obj _) F.entry_enumerate_new (en_meets t items) ⟨ht, ?_⟩
  have z : (s.heap.push (tItO t)).objs.size = s.heap.objs.size + 1 := Heap.size_push ..
  show _ ∧ _
  rw [z]
  have he : IsEnum ((s.heap.push (tItO t)).push (enO s.heap.objs.size)) (s.heap.objs.size + 1) s.heap.objs.size 0 .none := by
    have q := Heap.get?_push_size (s.heap.push (tItO t)) (o := enO s.heap.objs.size) rfl
    rw [z] at q
    exact q
  exact ⟨⟨_, he, rfl⟩, k _ he (Heap.get?_push_of_some _ (Heap.get?_push_size _ rfl)) fun b o x => Heap.get?_push_of_some _ (Heap.get?_push_of_some _ x)⟩
end
section
variable {prog : Program} {w : World} {A : Around} {E : Value → Shared → Prop} {s : Shared}
theorem en_end {e it t : Addr} {i : Nat} {items : Array Value} {old : Value} {Q : Option Value → Shared → Prop} (hh : A.handled = none) (he : IsEnum s.heap e it i old)
    (hit : s.heap.IsTupleIter it t i) (ht : s.heap.IsTuple t items) (hx : items[i]? = none) (k : ∀ h', Heap.ExtBut it s.heap h' → Q none { s with heap := h' }) :
    wpAny (model prog w) A (pyNext (.ref e)) Q E s := by
  have ty : s.TypeIs (.ref e) "enumerate" := ⟨_, he, rfl⟩
  have slot := PySem.F.slot_enumerate_next
  unfold pyNext
  refine wpAny_bind (wpAny_attempt
    (wpAny_callSpecial?_slot (name := Str.ofString "__next__") ty slot (wpAny_call_entry slot ty F.entry_enumerate_next ?_ (F.args_enumerate_next_1 _))))
  show wpAny _ _ (field (.ref e) 2 >>= _) _ _ _
  refine wpAny_bind (wpAny_field he rfl (x := .ref it) rfl (wpAny_bind ?_))
  refine PySem.wpAny_nextOf_tuple_end hh hit ht hx fun h' x hk ⟨o, ho, hc⟩ => ?_
  exact wpAny_bind (wpAny_isInstance (T := "StopIteration") (b := true) ⟨o, ho, hc⟩ isSubtype_stop (wpAny_pure (k _ hk)))
end
/-- the tuple at a, each item in a new pair with its place -/
def ItEn (K : PySem.W.Frag) (a : Addr) : It :=
  ⟨fun i H => ∃ (xs : List V) (x : V), SqT K H a xs ∧ xs[i]? = some x,
   fun i H v H' => ∃ T x, v = .ref T ∧ H T = none ∧ H' = upd H T (.tup [.int (i : Nat), x]) ∧ ∀ xs, SqT K H a xs → xs[i]? = some x,
   fun i H => ∃ xs : List V, SqT K H a xs ∧ xs.length ≤ i⟩
theorem en_turn {P : Program} {w : World} {K : PySem.W.Frag} {elts : List Expr} {kk : Nat} {tpos : Pos} (a e it : Addr) :
    Turn P w K (.Tuple elts kk tpos) (ItEn K a) [e, it] e
      (fun i h => (∃ old, IsEnum h e it ((i : Nat) : Int) old) ∧ h.IsTupleIter it a i ∧ e ≠ it) where
  mem := by simp
  obj := fun i h st b hb => by
    obtain ⟨⟨old, he⟩, ⟨o, ho, hc, hd⟩, _⟩ := st
    rcases (by simpa using hb : b = e ∨ b = it) with z | z
    · rw [z]
      exact ⟨_, he, fun v q => nomatch q⟩
    · rw [z]
      refine ⟨o, ho, fun v q => ?_⟩
      rw [hd] at q
      cases q
  keep := fun i h h' st k => by
    obtain ⟨⟨old, he⟩, hi, hne⟩ := st
    exact ⟨⟨old, k e (by simp) _ he⟩, hi.at fun o q => k it (by simp) o q, hne⟩
  item := by
    intro X hP hw hK hc i pins s σ H E I hf st hg
    subst hP hw hK
    obtain ⟨⟨old, he⟩, hit, hne⟩ := st
    obtain ⟨xs, x, hq, hx⟩ := hg
    obtain ⟨its, rv, p, hz⟩ := I.tuple hq
    obtain ⟨u, hu, ru⟩ := rv.get hx
    have hel : e < s.heap.objs.size := Heap.lt_size he
    have hil : it < s.heap.objs.size := by
      obtain ⟨_, q, _⟩ := hit
      exact Heap.lt_size q
    have hai : a ≠ it := by
      intro z
      subst z
      obtain ⟨o1, e1, c1, _⟩ := hit
      obtain ⟨o2, e2, c2, _⟩ := p
      rw [e1] at e2
      cases e2
      rw [c1] at c2
      injection c2 with z
      exact absurd z (by decide)
    have hae : e ∉ [it, a] := by
      intro z
      rcases List.mem_cons.mp z with z | z
      · exact hne z
      · rw [List.mem_singleton] at z
        subst z
        obtain ⟨o2, e2, c2, _⟩ := p
        rw [he] at e2
        cases e2
        injection c2 with z
        exact absurd z (by decide)
    have D := PySem.Draws.tuple (prog := X.prog) (w := X.w) (A := X.A.in1) (I.ok.hd hc) it a hai its.toArray
    have hlt : i < its.toArray.size := by
      have := (List.getElem?_eq_some_iff.mp hu).1
      simpa using this
    refine wpAny_pyNext_enum_itemC D he ⟨hit, p⟩ hlt hne hae fun y h' tk hP ho hs' hT hsz hk => ?_
    have hy : y = u := by
      have q : its[i]? = some y := by simpa using hP
      rw [hu] at q
      exact (Option.some.inj q).symm
    subst hy
    refine ⟨_, rfl, wpAny_letOwnedTupleGo_enum (s := { s with heap := h', toks := tk + 1 }) ho fun h'' he' sb => ?_⟩
    have hT2 : h''.get? s.heap.objs.size = some { cls := .type "tuple", data := .seq #[.int ((i : Nat) : Int) tk, y] } := (sb.2 _ (Nat.ne_of_gt hel)).trans hT
    have new : ObjOk X.prog X.w (upd H s.heap.objs.size (.tup [.int (i : Nat), x])) h'' s.heap.objs.size (.tup [.int (i : Nat), x]) :=
      ⟨by show 2 ≤ sizeLine; decide, [.int (i : Nat) tk, y], .cons ⟨_, rfl⟩ (.cons ru .nil), ⟨_, hT2, rfl, _, rfl⟩⟩
    have I1 : Inv X pins σ (upd H s.heap.objs.size (.tup [.int (i : Nat), x])) { s with heap := h'', toks := tk + 1 } :=
      I.turnedNew (ch := [e, it]) (fun b ob hb q => by
        have h1 : b ≠ e := fun z => hb (by simp [z])
        have h2 : b ≠ it := fun z => hb (by simp [z])
        exact (sb.2 b h1).trans (hk b ob h1 h2 q)) hf (Nat.le_refl _) new
    refine ⟨.ref s.heap.objs.size, _, I1, rfl, ⟨_, x, rfl, I.hok.fresh (Nat.le_refl _), rfl, fun ys hy => ?_⟩, ⟨⟨y, ?_⟩, hs'.1.at fun o q => (sb.2 it (Ne.symm hne)).trans q, hne⟩, fun b hb => ?_⟩
    · rw [I.tuple_inj hy hq]
      exact hx
    · have e1 : ((i + 1 : Nat) : Int) = (i : Int) + 1 := by omega
      rw [e1]
      exact he'
    · have hb' : b < s.heap.objs.size := by
        rcases (by simpa using hb : b = e ∨ b = it) with z | z
        · rw [z]; exact hel
        · rw [z]; exact hil
      rw [upd_ne (Nat.ne_of_lt hb')]
      exact (hf b hb).1
  done := by
    intro X hP hw hK hc i pins s σ H E I hf st hg
    subst hP hw hK
    obtain ⟨⟨old, he⟩, hit, hne⟩ := st
    obtain ⟨xs, hq, hx⟩ := hg
    obtain ⟨its, rv, p, hz⟩ := I.tuple hq
    obtain ⟨f0, f1, f2, f3, f4, f5⟩ := hf it (by simp)
    have hl := rv.length
    have hT : s.TypeIs (.ref e) "enumerate" := ⟨_, he, rfl⟩
    refine en_end (I.ok.hd hc) he hit p (by simp; omega) fun h' eb => ⟨rfl, I.turned (t' := s.toks) (fun b o hb q => eb b o hb q) f0 f1 f3 f4 f5⟩
  self := fun A i s Q E st h => by
    obtain ⟨⟨_, he⟩, _⟩ := st
    exact wpAny_pyIter_enum he h

def iEn (da : En → Sto → Res (List PV)) : En → Sto → Res Wlk := fun ρ S => (da ρ S).bind fun xs S1 => match xs with
  | [.tup xs] => .ok (.fix (xs.mapIdx fun i x => .tup [.int (i : Nat), x])) S1
  | _ => .stk
section
variable {X : Cx} {W : WX}
theorem pi_en {e : Expr} {ta : TA} {p pos tpos : Pos} {elts : List Expr} {kk : Nat} (hg : Gl X "enumerate") (hm : X.mg "enumerate" = none) (ha : PA X [e] ta)
    (hs : starEach [e] X.env = [(false, eval e X.env)] := by rfl) : PI X (.Tuple elts kk tpos) (.Call (.Name "enumerate" p) [e] [] pos)
      (fun σ H R => ta σ H fun vs H1 => ∃ a xs, vs = [.ref a] ∧ SqT X.K H1 a xs ∧ R (ItEn X.K a) H1) := by
  refine ⟨fun pins s σ H R I h => PyProof.Rows.Call_ (ld_blt I hg hm PyProof.Rows.boot_enumerate (PyProof.Rows.callWith_type1 ?_ hs rfl))⟩
  refine thn (ha.run pos pins s σ H _ I h) fun us s1 ⟨vs, H1, I1, r1, a, xs, ex, hq, q⟩ => ?_
  subst ex
  cases r1 with
  | cons r rr =>
    cases rr
    cases r
    obtain ⟨its, rv, tp, hz⟩ := I1.tuple hq
    refine en_call tp fun h' he hit hk => wpAny_pyIter_enum he ?_
    have I2 : Inv X pins σ H1 { s1 with heap := h' } := I1.kept (t' := s1.toks) hk
    refine ⟨s1.heap.objs.size + 1, [s1.heap.objs.size + 1, s1.heap.objs.size], _, _, H1, rfl, I2, en_turn a _ _, ⟨⟨.none, he⟩, ⟨_, hit, rfl, rfl⟩, Nat.succ_ne_self _⟩, fun b hb => ?_, q⟩
    have hle : s1.heap.objs.size ≤ b := by
      rcases (by simpa using hb : b = s1.heap.objs.size + 1 ∨ b = s1.heap.objs.size) with z | z
      · rw [z]; exact Nat.le_add_right _ _
      · rw [z]; exact Nat.le_refl _
    exact I1.fpOk hle (I1.hok.fresh hle)
theorem ir_en {μ : List Addr} {S : Sto} {H : Hp} {xs : List PV} {a : Addr} {vs : List V} (sr0 : SR X.K X.mg μ S H) (hs : SqT X.K H a vs) (hv : VRs X.K X.mg μ H xs vs) :
    IR X μ H (.fix (xs.mapIdx fun i x => .tup [.int (i : Nat), x])) (ItEn X.K a) := by
  intro i μ' S' H' st sr
  have hq := sr0.sqt st hs
  have hv := VRs.mono sr0 st _ _ hv
  unfold itAt
  simp only [List.getElem?_mapIdx]
  cases q : xs[i]? with
  | none => exact ⟨vs, hq, by rw [← hv.length]; exact List.getElem?_eq_none_iff.mp q⟩
  | some x =>
    obtain ⟨v, e, r⟩ := hv.get q
    refine ⟨⟨vs, v, hq, e⟩, fun u H2 hy => ?_⟩
    obtain ⟨T, y, rfl, hT, rfl, g⟩ := hy
    have g := g vs hq
    rw [e] at g
    cases g
    exact ⟨Stp.fresh hT, sr.fresh hT, .tup (.of upd_same) (.cons (.int _) (.cons (VR.mono sr (Stp.fresh hT) _ _ r) .nil))⟩
theorem fi_enum {e : Expr} {dl : En → Sto → Res (List PV)} {p pos tpos : Pos} {elts : List Expr} {kk : Nat} (hg : Gl X "enumerate") (hm : X.mg "enumerate" = none) (ha : FA X W [e] dl)
    (hs : starEach [e] X.env = [(false, eval e X.env)] := by rfl) : FI X W (.Tuple elts kk tpos) (.Call (.Name "enumerate" p) [e] [] pos) (iEn dl) := by
  refine PI_imp (pi_en hg hm ha hs) fun σ H Q h => ?_
  obtain ⟨ρ, S, μ, er, sr, h⟩ := h
  refine tG_bind er sr h fun xs vs S1 μ1 H1 st1 sr1 r1 er1 h1 => ?_
  split at h1
  · obtain ⟨v, rfl, q1⟩ := r1.one
    cases q1 with
    | tup a1 a2 => exact ⟨_, _, rfl, a1, h1 μ1 H1 _ .refl sr1 (ir_en sr1 a1 a2)⟩
  · exact h1.elim
end
end FL

/-! FLi: sorted lists. -/
namespace FL
open PySem PySem.Spec L2
open PySem.W (TotalLe sameRank sort_unique EachIs dataLe AllAlike Sortable alike)
section
variable {α : Type} {le : α → α → Bool}
def ins1 (le : α → α → Bool) (a : α) : List α → List α
  | [] => [a]
  | b :: l => if le a b = true then a :: b :: l else b :: ins1 le a l
def isort (le : α → α → Bool) : List α → List α
  | [] => []
  | a :: l => ins1 le a (isort le l)
theorem mem_ins1 {a x : α} : ∀ {l : List α}, x ∈ ins1 le a l ↔ x = a ∨ x ∈ l
  | [] => by simp [ins1]
  | b :: l => by
    unfold ins1
    split
    · simp
    · simp only [List.mem_cons, mem_ins1 (l := l)]
      constructor
      · rintro (h | h | h) <;> simp [h]
      · rintro (h | h | h) <;> simp [h]
theorem ins1_sorted (T : TotalLe le) {a : α} : ∀ {l : List α}, l.Pairwise (fun x y => le x y = true) → (ins1 le a l).Pairwise (fun x y => le x y = true)
  | [], _ => by simp [ins1]
  | b :: l, h => by
    obtain ⟨h1, h2⟩ := List.pairwise_cons.mp h
    unfold ins1
    split
    · rename_i hab
      refine List.pairwise_cons.mpr ⟨fun y hy => ?_, h⟩
      rcases List.mem_cons.mp hy with e | hy
      · rw [e]; exact hab
      · exact T.trans _ _ _ hab (h1 y hy)
    · rename_i hab
      have hba : le b a = true := (T.total a b).resolve_left hab
      refine List.pairwise_cons.mpr ⟨fun y hy => ?_, ins1_sorted T h2⟩
      rcases mem_ins1.mp hy with e | hy
      · rw [e]; exact hba
      · exact h1 y hy
theorem ins1_filter (T : TotalLe le) (c : α) {a : α} : ∀ {l : List α}, (ins1 le a l).filter (sameRank le c) = (a :: l).filter (sameRank le c)
  | [] => rfl
  | b :: l => by
    unfold ins1
    split
    · rfl
    · rename_i hab
      rw [List.filter_cons, ins1_filter T c (l := l), List.filter_cons (x := a), List.filter_cons (x := a), List.filter_cons (x := b)]
      by_cases ha : sameRank le c a = true
      · by_cases hb : sameRank le c b = true
        · exfalso
          unfold sameRank at ha hb
          rw [Bool.and_eq_true] at ha hb
          exact hab (T.trans _ _ _ ha.2 hb.1)
        · simp [ha, hb]
      · simp [ha]
theorem isort_eq (T : TotalLe le) (l : List α) : isort le l = l.mergeSort le := by
  refine sort_unique T ?_ fun c => ?_
  · induction l with
    | nil => exact .nil
    | cons a l ih => exact ins1_sorted T ih
  · induction l with
    | nil => rfl
    | cons a l ih =>
      show (ins1 le a (isort le l)).filter _ = _
      rw [ins1_filter T, List.filter_cons, List.filter_cons, ih]
end
def okSort (ds : List PyData) : Bool := (ds.all fun d => ds.all fun d' => alike d d') && ((ds.all fun d => match d with
  | .tuple (_ :: _) => true
  | _ => false) || ds.all fun d => match d with
  | .none => false
  | .tuple _ => false
  | _ => true)
theorem okSort_alike {ds : List PyData} (h : okSort ds = true) : AllAlike ds := by
  unfold okSort at h
  rw [Bool.and_eq_true] at h
  intro d hd d' hd'
  exact List.all_eq_true.mp (List.all_eq_true.mp h.1 d hd) d' hd'
theorem okSort_sortable {ds : List PyData} (h : okSort ds = true) : Sortable ds := by
  unfold okSort at h
  rw [Bool.and_eq_true, Bool.or_eq_true] at h
  rcases h.2 with h | h
  · refine .inl fun d hd => ?_
    have q := List.all_eq_true.mp h d hd
    split at q
    · exact ⟨_, _, rfl⟩
    · cases q
  · refine .inr fun d hd => ?_
    have q := List.all_eq_true.mp h d hd
    split at q
    · cases q
    · cases q
    · rename_i h1 h2
      exact ⟨h1, h2⟩
def leD : PV × PyData → PV × PyData → Bool := dataLe false fun p => p.2
theorem leD_total : TotalLe leD := by
  unfold leD dataLe
  exact PySem.W.sortLe_total _ _ _
def bSorted : List PV → Sto → OP
  | [.tup _], _ => none
  | [x], S => match lstOf S x with
    | some xs => match mapO (dOf S) xs with
      | some ds => if okSort ds && decide (xs.length ≤ big) then some (.fl ((isort leD (xs.zip ds)).map (·.1)), S) else none
      | none => none
    | none => none
  | _, _ => none
section
variable {X : Cx} {W : WX}
theorem each_of {K : PySem.W.Frag} {mg : Str → Option Value} {μ : List Addr} {S : Sto} {H : Hp} {P : Value → PyData → Prop} (hP : ∀ x v u d, VR K mg μ H x v → RelV v u → dOf S x = some d → P u d) : ∀ {xs : List PV} {vs : List V} {us : List Value} {ds : List PyData}, VRs K mg μ H xs vs → Vals vs us → mapO (dOf S) xs = some ds →
    EachIs (fun (u : Value) (b : PV × PyData) => ∃ v, RelV v u ∧ VR K mg μ H b.1 v) us (xs.zip ds) ∧ EachIs (fun (u : Value) (b : PV × PyData) => P u b.2) us (xs.zip ds) ∧ (xs.zip ds).map (·.2) = ds
  | [], _, _, _, h, r, e => by
    cases h; cases r; cases e
    exact ⟨.nil, .nil, rfl⟩
  | x :: xs, _, _, ds, h, r, e => by
    cases h with
    | cons h1 h2 =>
      cases r with
      | cons r1 r2 =>
        unfold mapO at e
        cases q : dOf S x with
        | none => rw [q] at e; cases e
        | some d =>
          rw [q] at e
          cases q2 : mapO (dOf S) xs with
          | none => rw [q2] at e; cases e
          | some es =>
            rw [q2] at e
            cases e
            obtain ⟨a, b, c⟩ := each_of hP h2 r2 q2
            exact ⟨.cons ⟨_, r1, h1⟩ a, .cons (hP _ _ _ _ h1 r1 q) b, by simpa using c⟩
theorem each_out {K : PySem.W.Frag} {mg : Str → Option Value} {μ : List Addr} {H : Hp} : ∀ {us : List Value} {bs : List (PV × PyData)}, EachIs (fun (u : Value) (b : PV × PyData) => ∃ v, RelV v u ∧ VR K mg μ H b.1 v) us bs → ∃ vs, Vals vs us ∧ VRs K mg μ H (bs.map (·.1)) vs
  | _, _, .nil => ⟨[], .nil, .nil⟩
  | _, _, .cons ⟨v, r, h⟩ t => by
    obtain ⟨vs, a, b⟩ := each_out t
    exact ⟨v :: vs, .cons r a, .cons h b⟩
theorem isort_length {α : Type} {le : α → α → Bool} : ∀ l : List α, (isort le l).length = l.length
  | [] => rfl
  | a :: l => by
    have : ∀ m : List α, (ins1 le a m).length = m.length + 1 := by
      intro m
      induction m with
      | nil => rfl
      | cons b m ih =>
        unfold ins1
        split
        · rfl
        · simp [ih]
    show (ins1 le a (isort le l)).length = _
    rw [this, isort_length l]
    rfl
theorem b_sorted (hu : X.A.units + 64 < cLine) : CallR X (.builtin "sorted") (kL X bSorted) := by
  refine kL_of fun pins s σ H xs vs us S μ z S' Q I rv hx sr e h => ?_
  unfold bSorted at e
  split at e
  · cases e
  · rename_i x hnt
    split at e
    · rename_i ys e1
      split at e
      · rename_i ds e2
        split at e
        · rename_i hok
          cases e
          rw [Bool.and_eq_true, decide_eq_true_eq] at hok
          obtain ⟨v, rfl, hv⟩ := hx.one
          obtain ⟨p, ws, rfl, _, ha, _, h4⟩ := seq_of (pins := pins) (s := s) (σ := σ) sr hv e1
          obtain ⟨its, rv2, pl, _⟩ := I.list (h4 hnt)
          have hP : ∀ x v u d, VR X.K X.mg μ H x v → RelV v u → dOf S x = some d → (∃ as, Reads s.heap u d as) ∧ d.depth ≤ 40 := fun x v u d r1 r2 q => by
            obtain ⟨q1, q2, q3⟩ := reads_of I r2 r1 sr q
            exact ⟨q1, q3⟩
          obtain ⟨ea, eb, ec⟩ := each_of hP ha rv2 e2
          rw [Vals.ref1 rv]
          have hlen : (ys.zip ds).length = ys.length := by
            have q := congrArg List.length ec
            have q2 := ea.length
            rw [List.length_map] at q
            have q3 := rv2.length
            have q4 := ha.length
            omega
          refine PySem.W.sorted_data (enc := fun p : PV × PyData => p.2) pl.isList ea (eb.mono fun _ _ q => q.1) (by rw [ec]; exact okSort_alike hok.1) (by rw [ec]; exact okSort_sortable hok.1) (by rw [hlen]; exact Nat.le_trans hok.2 big_le) (fun b hb => ?_) fun out ho eo => ?_
          · have : ∀ {us : List Value} {bs : List (PV × PyData)}, EachIs (fun (u : Value) (b : PV × PyData) => (∃ as, Reads s.heap u b.2 as) ∧ b.2.depth ≤ 40) us bs → b ∈ bs → b.2.depth ≤ 40 := by
              intro us bs q
              induction q with
              | nil => intro q; cases q
              | cons r _ ih =>
                intro q
                rcases List.mem_cons.mp q with z | z
                · rw [z]; exact r.2
                · exact ih z
            have := this eb hb
            omega
          · obtain ⟨vs', r1, r2⟩ := each_out eo
            obtain ⟨ep, he'⟩ := PyProof.Rows.sortedAll_at s.heap its out.toArray
            have hf : H (s.heap.objs.size + 1) = none := I.hok.fresh (Nat.le_succ _)
            have e3 : (isort leD (ys.zip ds)).map (·.1) = ((ys.zip ds).mergeSort (dataLe false fun p : PV × PyData => p.2)).map (·.1) := by
              rw [isort_eq leD_total]
              rfl
            have hl2 : vs'.length ≤ sizeLine := by
              rw [← r2.length, List.length_map, List.length_mergeSort, hlen]
              exact Nat.le_trans hok.2 big_le
            refine ⟨.ref _, upd H (s.heap.objs.size + 1) (.lst vs'), I.laid (t' := s.toks) (fun _ _ => PyProof.Rows.sortedAll_old) (Nat.le_succ _) ⟨hl2, out, ep, r1, he'⟩, rfl, ?_⟩
            rw [e3] at h
            exact h μ _ _ (Stp.fresh hf) (sr.fresh hf) (sr.newL hf r2)
        · cases e
      · cases e
    · cases e
  · cases e
/-! starred items -/
def aStar (da : En → Sto → Res PV) (dr : En → Sto → Res (List PV)) : En → Sto → Res (List PV) := fun ρ S => (da ρ S).bind fun x S1 => match lstOf S1 x with
  | some xs => (dr ρ S1).bind fun ys S2 => .ok (xs ++ ys) S2
  | none => .stk
theorem fa_star {e : Expr} {es : List Expr} {p : Pos} {da : En → Sto → Res PV} {dl : En → Sto → Res (List PV)} (ha : FE X W e da) (hr : FA X W es dl) (hs : starEach (.Starred e p :: es) X.env = (true, eval e X.env) :: starEach es X.env := by rfl) : FA X W (.Starred e p :: es) (aStar da dl) := by
  refine ⟨fun pos pins s σ H Q I h => ?_⟩
  obtain ⟨ρ, S, μ, er, sr, h⟩ := h
  refine (StX.pa_star ha hr hs).run pos pins s σ H Q I ?_
  unfold aStar at h
  refine tG_bind er sr h fun x v S1 μ1 H1 st1 sr1 r1 er1 h1 => ?_
  split at h1
  · rename_i xs e1
    obtain ⟨p, ws, rfl, hq, hv, _⟩ := seq_of (pins := pins) (s := s) (σ := σ) sr1 r1 e1
    refine ⟨p, ws, rfl, hq.symm, ?_⟩
    refine tG_bind er1 sr1 h1 fun ys vs S2 μ2 H2 st2 sr2 r2 er2 h2 => ?_
    exact h2 μ2 H2 _ .refl sr2 ((VRs.mono sr1 st2 _ _ hv).app r2)
  · exact h1.elim
end
end FL

/-! FLj: instances: attributes, making, methods, isinstance. -/
namespace FL
open PySem PySem.Spec L2
def putP (f : Str) (v : PV) : List (Str × PV) → List (Str × PV)
  | [] => [(f, v)]
  | (g, x) :: r => if g = f then (g, v) :: r else (g, x) :: putP f v r
def lookP (f : Str) : List (Str × PV) → Option PV
  | [] => none
  | (g, x) :: r => if g = f then some x else lookP f r
def eFld (Cs : List Str) (f : Str) (da : En → Sto → Res PV) : En → Sto → Res PV := fun ρ S => (da ρ S).bind fun x S1 => match x with
  | .ref n => match S1[n]? with
    | some (.ins C fs) => if C ∈ Cs then (match lookP f fs with
      | some v => .ok v S1
      | none => .stk) else .stk
    | _ => .stk
  | .obj C ns vs => if C ∈ Cs then (match lookP f (ns.zip vs) with
    | some v => .ok v S1
    | none => .stk) else .stk
  | _ => .stk
def sFldS (Cs : List Str) (f : Str) (dv da : En → Sto → Res PV) : En → Sto → SRes := fun ρ S => liftE (dv ρ S) ρ fun y S1 => liftE (da ρ S1) ρ fun x S2 => match x with
  | .ref n => match S2[n]? with
    | some (.ins C fs) => if C ∈ Cs ∧ fs.length < 1000 then .ok .nx ρ (S2.set n (.ins C (putP f y fs))) else .stk
    | _ => .stk
  | _ => .stk
/-- the classes Cs have no attribute f of their own -/
def AttrOk (K : PySem.W.Frag) (mg : Str → Option Value) (Cs : List Str) (f : Str) : Prop := ∀ C ∈ Cs, ∃ c, mg C = some (.ref c) ∧ Cls K c ∧ NoAttr K c f
theorem attr_nil {K : PySem.W.Frag} {mg : Str → Option Value} {f : Str} : AttrOk K mg [] f := fun _ h => nomatch h
theorem attr_cons {K : PySem.W.Frag} {mg : Str → Option Value} {f C : Str} {Cs : List Str} {c : Addr} (m : mg C = some (.ref c)) (cl : Cls K c) (n : NoAttr K c f) (h : AttrOk K mg Cs f) : AttrOk K mg (C :: Cs) f := fun D hD => by
  rcases List.mem_cons.mp hD with e | hD
  · rw [e]; exact ⟨c, m, cl, n⟩
  · exact h D hD
section
variable {K : PySem.W.Frag} {mg : Str → Option Value} {μ : List Addr} {H : Hp}
theorem FRs.look {fs : List (Str × PV)} {gs : List (Str × V)} (h : FRs K mg μ H fs gs) {f : Str} {x : PV} (e : lookP f fs = some x) : ∃ v, gs.lookup f = some v ∧ VR K mg μ H x v := by
  induction h with
  | nil => cases e
  | @cons g y v fs gs r _ ih =>
    unfold lookP at e
    by_cases hg : g = f
    · rw [if_pos hg] at e
      cases e
      subst hg
      exact ⟨v, by simp [List.lookup], r⟩
    · rw [if_neg hg] at e
      obtain ⟨w, e1, q⟩ := ih e
      refine ⟨w, ?_, q⟩
      have : (f == g) = false := beq_eq_false_iff_ne.mpr (Ne.symm hg)
      simp only [List.lookup, this]
      exact e1
theorem FRs.none {fs : List (Str × PV)} {gs : List (Str × V)} (h : FRs K mg μ H fs gs) {f : Str} (e : lookP f fs = none) : gs.lookup f = none := by
  induction h with
  | nil => rfl
  | @cons g y v fs gs r _ ih =>
    unfold lookP at e
    by_cases hg : g = f
    · rw [if_pos hg] at e; cases e
    · rw [if_neg hg] at e
      have : (f == g) = false := beq_eq_false_iff_ne.mpr (Ne.symm hg)
      simp only [List.lookup, this]
      exact ih e
theorem FRs.length {fs : List (Str × PV)} {gs : List (Str × V)} (h : FRs K mg μ H fs gs) : fs.length = gs.length := by
  induction h with
  | nil => rfl
  | cons _ _ ih => simp [ih]
theorem FRs.put {fs : List (Str × PV)} {gs : List (Str × V)} (h : FRs K mg μ H fs gs) {f : Str} {x : PV} {v : V} (r : VR K mg μ H x v) : FRs K mg μ H (putP f x fs) (putF f v gs) := by
  induction h with
  | nil => exact .cons r .nil
  | @cons g y w fs gs q h ih =>
    unfold putP putF
    by_cases hg : g = f
    · rw [if_pos hg, if_pos hg]
      exact .cons r h
    · rw [if_neg hg, if_neg hg]
      exact .cons q ih
end
section
variable {X : Cx} {W : WX} {e a o value : Expr} {es : List Expr} {f : Str} {pos pos' : Pos} {da dv : En → Sto → Res PV} {dl : En → Sto → Res (List PV)} {Cs : List Str}
theorem fe_fld (ok : AttrOk X.K X.mg Cs f) (he : FE X W e da) (hb : attributeBase e f X.env (eval e X.env) = eval e X.env := by rfl) : FE X W (.Attribute e f pos) (eFld Cs f da) := by
  refine PE_imp (pe_fld he hb) fun σ H Q h => ?_
  obtain ⟨ρ, S, μ, er, sr, h⟩ := h
  refine tG_bind er sr h fun x v S1 μ1 H1 st1 sr1 r1 er1 h1 => ?_
  split at h1
  · split at h1
    · rename_i q
      split at h1
      · rename_i hC
        split at h1
        · rename_i y e2
          cases r1 with
          | ref hn =>
            cases sr1.at_ _ _ _ hn q with
            | ins a1 a2 a3 =>
              obtain ⟨c, b1, b2, b3⟩ := ok _ hC
              rw [a1] at b1
              cases b1
              obtain ⟨u, e3, r3⟩ := a3.look e2
              exact ⟨_, _, _, _, u, rfl, a2, b2, b3, e3, h1 μ1 H1 _ .refl sr1 r3⟩
        · exact h1.elim
      · exact h1.elim
    · exact h1.elim
  · split at h1
    · rename_i hC
      split at h1
      · rename_i y e2
        cases r1 with
        | obj a1 a2 nm a3 a4 =>
          obtain ⟨c, b1, b2, b3⟩ := ok _ hC
          rw [a1] at b1
          cases b1
          obtain ⟨u, e3, r3⟩ := (FRs.mk' a4 a3).look e2
          exact ⟨_, _, _, _, u, rfl, a2, b2, b3, e3, h1 μ1 H1 _ .refl sr1 r3⟩
      · exact h1.elim
    · exact h1.elim
  · exact h1.elim
theorem fs_fld (ok : AttrOk X.K X.mg Cs f) (ha : FE X W o da) (hv : FE X W value dv) (hs : swapsWith value (some (.Attribute o f pos')) pos.line X.env = pure false := by rfl) : FS X W (.Assign [.Attribute o f pos'] value pos) (sFldS Cs f dv da) := by
  refine PS_imp (ps_fld ha hv hs) fun D σ H h => ?_
  obtain ⟨ρ, S, μ, er, sr, h⟩ := h
  refine tS_bind er sr h fun y v S1 μ1 H1 st1 sr1 r1 er1 h1 => ?_
  refine tS_bind er1 sr1 h1 fun x u S2 μ2 H2 st2 sr2 r2 er2 h2 => ?_
  split at h2
  · split at h2
    · rename_i q
      split at h2
      · rename_i hC
        cases r2 with
        | ref hn =>
          cases sr2.at_ _ _ _ hn q with
          | ins a1 a2 a3 =>
            obtain ⟨c, b1, b2, b3⟩ := ok _ hC.1
            rw [a1] at b1
            cases b1
            refine ⟨_, _, _, _, rfl, a2, b2, b3, by rw [← a3.length]; exact hC.2, ?_⟩
            exact h2 μ2 _ σ (Stp.put hn) (er2.mono sr2 (Stp.put hn)) (sr2.put hn (.ins a1 upd_same ((a3.mono sr2 (Stp.put hn)).put (VR.mono sr2 (Stp.put hn) _ _ (VR.mono sr1 st2 _ _ r1)))))
      · exact h2.elim
    · exact h2.elim
  · exact h2.elim
/-! C(..) -/
def eMake (C : Str) (f : FF) (dvs : List PV) (dl : En → Sto → Res (List PV)) : En → Sto → Res PV := fun ρ S => (dl ρ S).bind fun xs S1 => match f (.ref S1.length :: (xs ++ dvs)) (S1 ++ [.ins C []]) with
  | .ok .non S2 => .ok (.ref S1.length) S2
  | .ok _ _ => .stk
  | .exc D fs S2 => .exc D fs S2
  | .stk => .stk
section
variable {c f1 : Addr} {fd : FuncData} {ps : List Str} {sp : Sp} {j k : Nat} {ff : FF} {C : Str} {ds : List Value} {dvs : List PV} {dws : List V} {p : Pos} {E : XK}
theorem make_run {pins : List (Addr × Obj)} {σ : L2.St} {H : Hp} {s : Shared} {Q : VK} {us : List Value} {vs : List V} (M : Mk X.K c f1) (F : FnOk X.prog X.w X.K X.mg X.base (L2.CX X.prog X.w) j f1 fd ps sp) (hr : Room (j + 1) X.A) (hb : Binds X.K fd ps ds) (hd : Vals dws ds)
    (hx : Takes X W) (I : Inv X pins σ H s) (r : Vals vs us)
    (h : ∀ x dx, H x = none → H dx = none → dx ≠ x → sp (.ref x :: (vs ++ dws)) (upd (upd H dx (.own x)) x (.ins c dx [])) (fun v H2 => v = .non ∧ Q (.ref x) H2) (WE W σ)) :
    wpAny (model X.prog X.w) X.A (call (.ref c) us) (EP X pins σ Q) X.xe s := by
  generalize ex : s.heap.objs.size + 1 = x
  have fx : H x = none := I.hok.fresh (by rw [← ex]; exact Nat.le_succ _)
  have fd' : H s.heap.objs.size = none := I.hok.fresh (Nat.le_refl _)
  have hne : s.heap.objs.size ≠ x := by rw [← ex]; exact Nat.ne_of_lt (Nat.lt_succ_self _)
  have hq := h x s.heap.objs.size fx fd' hne
  have I2 := Inv.made (C := c) I
  rw [ex] at I2
  have r2 : Vals (V.ref x :: (vs ++ dws)) (Value.ref x :: (us ++ ds)) := .cons rfl (r.append hd)
  have hl : (Value.ref x :: us ++ ds).length = ps.length := (F.len _ _ _ _ hq ▸ r2.length).symm
  refine wpAny_call (make_map (f := f1) I.kIn M.makes M.init (beq_iff_eq.mp M.fn) ?_)
  rw [ex]
  have run := F.run _ X.stack _ _ ⟨Value.ref x :: us, []⟩ (Value.ref x :: (us ++ ds)) _ _ (WE W σ) (hr.make c us []) (I2.env0.make c us []) (hb _ (Value.ref x :: us) I2.kIn hl) r2 hq
  refine codeAny_mono run fun rr s' hq' => ?_
  cases rr with
  | error ee => exact passAt hx σ pins _ _ ee s' I2 hq'
  | ok fl =>
    cases fl with
    | ret u =>
      obtain ⟨v, H', I3, rv, ev, q3⟩ := I2.after hq'
      subst ev
      exact ⟨rv, V.ref x, H', I3, rfl, q3⟩
    | _ => exact False.elim hq'
theorem fe_make (Cx : CxE X W k) (M : Mk X.K c f1) (G : FnOk X.prog X.w X.K X.mg X.base (L2.CX X.prog X.w) j f1 fd ps (spF X.K X.mg ps.length ff)) (hj : j + 1 ≤ k) (hg : Gl X C) (hm : X.mg C = some (.ref c)) (hb : Binds X.K fd ps ds) (hd : Vals dws ds)
    (hdv : ∀ (μ : List Addr) (H : Hp), VRs X.K X.mg μ H dvs dws) (ha : FA X W (e :: es) dl) (hlen : ∀ ρ S xs S1, dl ρ S = .ok xs S1 → (PV.non :: (xs ++ dvs)).length = ps.length)
    (hdb : (C == ("__debug__" : Str)) = false := by decide) (he : starEach (e :: es) X.env = (false, eval e X.env) :: starEach es X.env := by rfl) (hpl : (backTo pos (starEach es X.env)).any (·.1) = false := by rfl) :
    FE X W (.Call (.Name C p) (e :: es) [] pos) (eMake C ff dvs dl) := by
  refine ⟨fun pins s σ H Q I h => ?_⟩
  obtain ⟨ρ, S, μ, er, sr, h⟩ := h
  have hlen := hlen ρ S
  have hA : tA X.K X.mg W dl σ H (fun vs H1 => ∀ x dx, H1 x = none → H1 dx = none → dx ≠ x → spF X.K X.mg ps.length ff (.ref x :: (vs ++ dws)) (upd (upd H1 dx (.own x)) x (.ins c dx [])) (fun v H2 => v = .non ∧ Q (.ref x) H2) (WE W σ)) := by
    unfold eMake at h
    refine ⟨ρ, S, μ, er, sr, ?_⟩
    cases q : dl ρ S with
    | stk => rw [q] at h; exact h
    | exc D fs S1 => rw [q] at h; exact h
    | ok xs S1 =>
      rw [q] at h
      intro μ1 H1 vs st1 sr1 r1 x dx hx hdx hne
      have hx' : upd H1 dx (.own x) x = none := by rw [upd_ne (Ne.symm hne)]; exact hx
      have sr2 := sr1.fresh (o := .own x) hdx
      have st2 : Stp μ1 H1 μ1 (upd H1 dx (.own x)) := Stp.fresh hdx
      have st3 : Stp μ1 (upd H1 dx (.own x)) (μ1 ++ [x]) (upd (upd H1 dx (.own x)) x (.ins c dx [])) := Stp.newObj hx'
      have sr3 := sr2.newObj hx' (o := .ins c dx []) (u := .ins C []) (.ins hm upd_same .nil)
      have st23 := st2.trans st3
      have rn : (μ1 ++ [x])[S1.length]? = some x := by rw [← sr1.len]; simp
      refine ⟨?_, .ref S1.length :: (xs ++ dvs), S1 ++ [.ins C []], μ1 ++ [x], .cons (.ref rn) ((VRs.mono sr1 st23 _ _ r1).app (hdv _ _)), sr3, ?_⟩
      · have q1 := hlen xs S1 q
        have q2 := r1.length
        have q3 := (hdv [] (fun _ => none)).length
        simp only [List.length_cons, List.length_append] at q1 ⊢
        omega
      · simp only [Res.bind] at h
        cases q2 : ff (.ref S1.length :: (xs ++ dvs)) (S1 ++ [.ins C []]) with
        | stk => rw [q2] at h; exact h
        | exc D fs S2 =>
          rw [q2] at h
          exact fun μ4 H4 c4 d4 st4 sr4 xr => h μ4 H4 c4 d4 ((st1.trans st23).trans st4) sr4 xr
        | ok v S2 =>
          rw [q2] at h
          intro μ4 H4 v4 st4 sr4 r4
          cases r4 with
          | non => exact ⟨rfl, h μ4 H4 _ ((st1.trans st23).trans st4) sr4 (.ref (prefix_get st4.pre rn))⟩
          | _ => exact h.elim
  refine wpAny_Call_Name_kw (ld_glob I hg hm ?_ hdb)
  refine PySem.W.callWith_K (h₀ := X.base) I.ok.mod.kin M.kp ?_ he hpl
  exact thn (ha.run pos pins s σ H _ I hA) fun us s1 ⟨vs, H1, I1, r, q⟩ => ⟨I1.kIn, make_run M G (Cx.room.mono hj) hb hd Cx.tk I1 r q⟩
end
/-! isinstance(x, a class of one's own) -/
/-- what is known of isinstance(.., C): the built-in types are none of it; the own classes Ds by the list -/
structure IsC (K : PySem.W.Frag) (mg : Str → Option Value) (c : Addr) (Ds : List (Str × Bool)) : Prop where
  ty : ∀ n ∈ ["NoneType", "bool", "int", "str", "tuple", "list", "dict"], PySem.W.kitOne K (.type n) (.ref c) = some false
  own : ∀ p ∈ Ds, ∃ d, mg p.1 = some (.ref d) ∧ PySem.W.kitOne K (.ref d) (.ref c) = some p.2 ∧ Cls K d ∧ PySem.W.findIn K (.ref d) "__class__" = some (some (.builtin "object.__class__")) ∧ PySem.W.mroIn K d (.type "object") = some true
  gt : PySem.W.specialIn K (.builtin "object.__class__") "__get__" = some (some (.builtin "getset_descriptor.__get__"))
  tk : PySem.W.takesIn K (.builtin "object.__class__") = some true
def pIsC (Ds : List (Str × Bool)) : PV → Sto → OP := fun x S => match x with
  | .ref n => match S[n]? with
    | some (.ins D _) => match Ds.lookup D with
      | some b => some (.bl b, S)
      | none => none
    | some _ => some (.bl false, S)
    | none => none
  | .obj D _ _ => match Ds.lookup D with
    | some b => some (.bl b, S)
    | none => none
  | .glb _ => none
  | .ty _ => none
  | _ => some (.bl false, S)
theorem mem_of_lookup {D : Str} {b : Bool} : ∀ {Ds : List (Str × Bool)}, Ds.lookup D = some b → (D, b) ∈ Ds
  | [], h => by cases h
  | (E, c) :: r, h => by
    by_cases e : D = E
    · subst e
      simp [List.lookup] at h
      subst h
      exact List.mem_cons_self
    · have : (D == E) = false := beq_eq_false_iff_ne.mpr e
      simp only [List.lookup, this] at h
      exact List.mem_cons_of_mem _ (mem_of_lookup h)
theorem fe_isc {x y : Str} {p q : Pos} {c : Addr} {Ds : List (Str × Bool)} (ok : IsC X.K X.mg c Ds) (hg : Gl X x) (hm : X.mg x = none) (hg' : Gl X y) (hm' : X.mg y = some (.ref c)) (hv : bootBuiltins x = some (.builtin "isinstance")) (ha : FE X W e da)
    (hn : x ≠ "__name__" := by decide) (hdb : (x == ("__debug__" : Str)) = false := by decide) (hdb' : (y == ("__debug__" : Str)) = false := by decide)
    (he : starEach [e, .Name y q] X.env = (false, eval e X.env) :: starEach [.Name y q] X.env := by rfl) (he' : starEach [.Name y q] X.env = (false, eval (.Name y q) X.env) :: starEach [] X.env := by rfl)
    (hpl : (backTo pos (starEach [.Name y q] X.env)).any (·.1) = false := by rfl) : FE X W (.Call (.Name x p) [e, .Name y q] [] pos) (eUn (pIsC Ds) da) := by
  have hT : PE X (.Name y q) (tC (.ref c)) := pe_glob hg' hm' rfl hdb'
  refine PE_imp (pe_callB call_isi hg hm hv (pa_cons ha (pa_cons hT pa_nil he') he) hn hdb he hpl) fun σ H Q h => ?_
  obtain ⟨ρ, S, μ, er, sr, h⟩ := h
  refine tG_bind er sr h fun x v S1 μ1 H1 st1 sr1 r1 er1 h1 => ?_
  have base : ∀ n, tyN S1 x = some n → Out (.ok (.bl false) S1) (okG X.K X.mg (fun μ H => VR X.K X.mg μ H) μ1 H1 Q) (exG X.K X.mg W σ μ1 H1) → rIsi X.K [v, .ref c] H1 Q := fun n e h => by
    obtain ⟨t1, t2⟩ := ty_of sr1 r1 e
    exact ⟨v, .ref c, .type n, .ref c, false, rfl, .own c, t1, ok.ty n t2, h μ1 H1 _ .refl sr1 (.bl _)⟩
  unfold pIsC at h1
  cases x with
  | non => exact base _ rfl h1
  | bl _ => exact base _ rfl h1
  | int _ => exact base _ rfl h1
  | str _ => exact base _ rfl h1
  | tup _ => exact base _ rfl h1
  | kl _ => exact base _ rfl h1
  | fl _ => exact base _ rfl h1
  | glb _ => exact h1.elim
  | ty _ => exact h1.elim
  | dct _ _ => exact base _ rfl h1
  | obj D ns vs =>
    simp only at h1
    cases q2 : Ds.lookup D with
    | none => rw [q2] at h1; exact h1.elim
    | some b =>
      rw [q2] at h1
      obtain ⟨d, b1, b2, b3, b4, b5⟩ := ok.own _ (mem_of_lookup q2)
      cases r1 with
      | obj a1 a2 nm a3 a4 =>
        rw [a1] at b1
        cases b1
        exact ⟨_, .ref c, .ref _, .ref c, b, rfl, .own c, .base (.ins a2 b3 b4 ok.gt ok.tk b5), b2, h1 μ1 H1 _ .refl sr1 (.bl _)⟩
  | ref n =>
    simp only at h1
    cases q1 : S1[n]? with
    | none => rw [q1] at h1; exact h1.elim
    | some u =>
      rw [q1] at h1
      cases u with
      | lst xs => exact base "list" (by simp [tyN, q1]) h1
      | dic xs => exact base "dict" (by simp [tyN, q1]) h1
      | ins D fs =>
        simp only at h1
        cases q2 : Ds.lookup D with
        | none => rw [q2] at h1; exact h1.elim
        | some b =>
          rw [q2] at h1
          obtain ⟨d, b1, b2, b3, b4, b5⟩ := ok.own _ (mem_of_lookup q2)
          cases r1 with
          | ref hnn =>
            cases sr1.at_ _ _ _ hnn q1 with
            | ins a1 a2 a3 =>
              rw [a1] at b1
              cases b1
              exact ⟨_, .ref c, .ref _, .ref c, b, rfl, .own c, .base (.ins a2 b3 b4 ok.gt ok.tk b5), b2, h1 μ1 H1 _ .refl sr1 (.bl _)⟩
end
end FL

/-! FLk: repr of data; defs that show (their surroundings show nothing yet); the law's end over these. -/
namespace FL
open PySem PySem.Spec L2
mutual
theorem plain_noDict : ∀ d : PyData, d.plain = true → d.hasDict = false
  | .none, _ => rfl
  | .bool _, _ => rfl
  | .int _, _ => rfl
  | .str _, _ => rfl
  | .list xs, h => by
    simp only [PyData.hasDict]
    exact plain_noDictAll xs (by simpa [PyData.plain] using h)
  | .tuple xs, h => by
    simp only [PyData.hasDict]
    exact plain_noDictAll xs (by simpa [PyData.plain] using h)
  | .dict _, h => nomatch h
theorem plain_noDictAll : ∀ xs : List PyData, PyData.plainAll xs = true → PyData.hasDictAll xs = false
  | [], _ => rfl
  | x :: xs, h => by
    have h' : x.plain = true ∧ PyData.plainAll xs = true := by simpa [PyData.plainAll] using h
    simp [PyData.hasDictAll, plain_noDict x h'.1, plain_noDictAll xs h'.2]
end
def bRepr : List PV → Sto → OP
  | [x], S => match dOf S x with
    | some d => if d.showable = true ∧ d.shown.length ≤ big then some (.str d.shown, S) else none
    | none => none
  | _, _ => none
section
variable {X : Cx} {W : WX}
theorem b_repr (hg : X.A.guards = some []) (hu : X.A.units + 64 < cLine) : CallR X (.builtin "repr") (kL X bRepr) := by
  refine kL_of fun pins s σ H xs vs us S μ z S' Q I rv hx sr e h => ?_
  unfold bRepr at e
  split at e
  · split at e
    · rename_i x _ _ d e1
      split at e
      · rename_i hc
        cases e
        obtain ⟨v, rfl, hv⟩ := hx.one
        obtain ⟨u, rfl, ru⟩ : ∃ u, us = [u] ∧ RelV v u := by
          cases rv with
          | cons p q => cases q; exact ⟨_, rfl, p⟩
        obtain ⟨⟨as, rd⟩, pl, dp⟩ := reads_of I ru hv sr e1
        have hl := Nat.le_trans hc.2 big_le
        have fin : ∀ tk tk', EP X pins σ Q (.str d.shown tk) { s with toks := tk' } := fun tk tk' => ⟨.str d.shown, H, I.tok _, ⟨_, rfl⟩, h μ H _ .refl sr (.str _)⟩
        cases v with
        | ref a =>
          obtain rfl : u = Value.ref a := ru
          refine PySem.repr_of_reads' rd hc.1 (fun q => ?_) hg (by omega) (fun _ _ q => q) (fun h' u' tk hk => ?_) hl
          · rw [plain_noDict d pl] at q; cases q
          · exact ⟨.str d.shown, H, I.kept (t' := tk) hk, ⟨_, rfl⟩, h μ H _ .refl sr (.str _)⟩
        | non =>
          obtain rfl : u = Value.none := ru
          cases rd
          exact PySem.P.repr_of_none (fin _ _)
        | bl b =>
          obtain rfl : u = Value.bool b := ru
          cases rd
          exact PySem.P.repr_of_bool (fin _ _)
        | int i =>
          obtain ⟨t, rfl⟩ := ru
          cases rd
          exact PySem.P.repr_of_int (of_decide_eq_true hc.1) (fin _ _)
        | str y =>
          obtain ⟨t, rfl⟩ := ru
          cases rd
          exact PySem.P.repr_of_str (fin _ _) hl
        | byt _ => obtain ⟨t, rfl⟩ := ru; cases rd
        | flt _ => obtain ⟨t, rfl⟩ := ru; cases rd
        | ty _ => cases ru; cases rd
      · cases e
    · cases e
  · cases e
end
/-! ### a def's promise where nothing is being shown -/
structure FnG (P : Program) (w : World) (K : PySem.W.Frag) (mg : Str → Option Value) (base : Heap) (k : Nat) (f : Addr) (fd : FuncData) (ps : List Str) (sp : Sp) : Prop where
  len : ∀ vs H Q E, sp vs H Q E → vs.length = ps.length
  run : ∀ (A : Around) (outer : List Env) (s : Shared) (H : Hp) (args : Args) (us : List Value) (vs : List V) (Q : VK) (E : XK), Room k A → A.guards = some [] → Env0 P w K mg base A outer s H →
    BindsTo s fd args (ps.zip us) → Vals vs us → sp vs H Q E → codeAny (model P w) A (.call (.ref f) args) (CR (L2.CX P w) outer P w H s Q E) s
theorem FnG.of {P : Program} {w : World} {K : PySem.W.Frag} {mg : Str → Option Value} {base : Heap} {k : Nat} {f : Addr} {fd : FuncData} {ps : List Str} {sp : Sp} (G : FnOk P w K mg base (L2.CX P w) k f fd ps sp) : FnG P w K mg base k f fd ps sp :=
  ⟨G.len, fun A outer s H args us vs Q E hr _ => G.run A outer s H args us vs Q E hr⟩
section
variable {P : Program} {w : World} {K : PySem.W.Frag} {mg : Str → Option Value} {base : Heap}
theorem fnG_fl {x qual : Str} {st : Stmt} {f : Addr} {fd : FuncData} {N ps : List Str} {k : Nat} {D : En → Sto → SRes} (F : Fun K x qual st f fd) (S : FnScope N ps (defScope st))
    (hb : ∀ (cdv : Value) (A : Around) (outer : List Env) (s : Shared) (H : Hp) (E : XK), A.guards = some [] → CxF (cxL P w K mg base N qual st f cdv A outer s H E) (WF E) k → FSs (cxL P w K mg base N qual st f cdv A outer s H E) (WF E) (defBody st) D) :
    FnG P w K mg base (k + 1) f fd ps (spF K mg ps.length (runB N.length D)) := by
  obtain ⟨oc, od, kV, doc, pm, an, cdv, ct, osl, rfl, lk, hcd⟩ := F.ex
  refine ⟨fun vs H Q E h => h.1, fun A outer s H args us vs Q E hr gd e0 hbd r hsp => ?_⟩
  have hl : vs.length = ps.length := hsp.1
  have kept := fun b o (e : base.get? b = some o) => (e0.bs b o e).1
  have KX : K.In s.heap := e0.mod.kin.keeps kept
  have par : ∀ y ∈ ps.zip us, (defScope st).names.lookup y.1 = some .local ∨ ((defScope st).names.lookup y.1 = some .cell ∧
      ((cellsFrom (s.heap.objs.size + 1) (defScope st).names []).lookup y.1).isSome = true) := by
    intro y hy
    rcases S.par y.1 (List.of_mem_zip (a := y.1) (b := y.2) hy).1 with q | q
    · exact .inl q
    · exact .inr ⟨q, PySem.W.cellsFrom_some _ _ _ (.inl q)⟩
  refine codeAny_call_function hr.depth (KX _ _ lk) rfl S.co S.gen rfl
    (PySem.W.codeRec_of KX hcd) (hbd _ _ _ _ (wpAny_newFunctionEnv_cells S.kind par fun env he s1 x => ?_))
  subst he
  refine ⟨(e0.mod.nolimit.keeps kept).keeps x.toInCall.keep, codeAny_func ?_⟩
  have C : CxF (cxL P w K mg base N qual st f cdv A outer s H E) (WF E) k := ⟨takes_of rfl rfl rfl rfl, passes_of rfl, rfl, rfl, rfl, hr.deeper _, S.nd⟩
  have body := hb cdv A outer s H E gd C
  have I : Inv (cxL P w K mg base N qual st f cdv A outer s H E) [] (L2.start N vs) H s1 := inv_start S hr.hd e0 hl r x
  obtain ⟨_, xs, S0, μ, hv, sr, h⟩ := hsp
  have done : ∀ {σ' : L2.St} {H' : Hp} {v : V} {u : Value} {s' : Shared}, Inv (cxL P w K mg base N qual st f cdv A outer s H E) [] σ' H' s' →
      RelV v u → Q v H' → CE outer P w H s Q u s' := fun {σ' H' v u s'} J rv q => ⟨v, H', J.os, J.bare, J.base, J.hok, rv, q⟩
  have hD : tS K mg (WF E) D { nx := fun _ H' => Q .non H', rt := Q } (L2.start N vs) H := by
    refine ⟨_, S0, μ, er_start hv N, sr, ?_⟩
    unfold runB at h
    cases q : D (xs.map some ++ List.replicate (N.length - xs.length) none) S0 with
    | stk => rw [q] at h; exact h
    | exc C fs ρ1 S1 =>
      rw [q] at h
      exact fun μ' H' σ' c d st er sr xr => h μ' H' c d st sr xr
    | ok f ρ1 S1 =>
      rw [q] at h
      cases f with
      | nx => exact fun μ' H' σ' st er sr => h μ' H' _ st sr .non
      | rt v => exact fun μ' H' σ' st er sr v' r => h μ' H' v' st sr r
      | bk => exact h.elim
      | ct => exact h.elim
  refine wpAny_mono (body.run [] s1 (L2.start N vs) H _ I hD) (fun fl s' hs => ?_) fun e s' hs => hs
  cases fl with
  | ret u => obtain ⟨v, σ', H', J, rv, q⟩ := hs; exact done J rv q
  | next => obtain ⟨σ', H', J, q⟩ := hs; exact done (v := V.non) (u := Value.none) J rfl q
  | brk => obtain ⟨_, _, _, q⟩ := hs; exact False.elim q
  | cont => obtain ⟨_, _, _, q⟩ := hs; exact False.elim q
end
section
variable {X : Cx} {W : WX} {k : Nat} {x : Str} {f : Addr} {fd : FuncData} {ps : List Str} {j : Nat} {ff : FF} {e : Expr} {es : List Expr} {dl : En → Sto → Res (List PV)} {p pos : Pos}
theorem runG {pins : List (Addr × Obj)} {σ : L2.St} {H : Hp} {s : Shared} {Q : VK} {us : List Value} {vs : List V} {sp : Sp} (F : FnG X.prog X.w X.K X.mg X.base j f fd ps sp) (hr : Room j X.A) (gd : X.A.guards = some []) (hb : Binds X.K fd ps []) (hx : Takes X W)
    (I : Inv X pins σ H s) (r : Vals vs us) (h : sp vs H Q (WE W σ)) : wpAny (model X.prog X.w) X.A (call (.ref f) us) (EP X pins σ Q) X.xe s := by
  have hl : (us ++ []).length = ps.length := by rw [List.append_nil, ← r.length]; exact F.len _ _ _ _ h
  have b := hb s us I.kIn hl
  rw [List.append_nil] at b
  have run := F.run X.A X.stack s H ⟨us, []⟩ us vs Q (WE W σ) hr gd I.env0 b r h
  refine wpAny_call (codeAny_mono run fun rr s' hq => ?_)
  cases rr with
  | error ee => exact passAt hx σ pins H s ee s' I hq
  | ok fl =>
    cases fl with
    | ret u => exact I.after hq
    | _ => exact False.elim hq
theorem fe_callG (C : CxE X W k) (gd : X.A.guards = some []) (G : FnG X.prog X.w X.K X.mg X.base j f fd ps (spF X.K X.mg ps.length ff)) (hj : j ≤ k) (hg : Gl X x) (hm : X.mg x = some (.ref f)) (hk : PySem.W.keepIn X.K (.ref f) = true) (hb : Binds X.K fd ps [])
    (ha : FA X W (e :: es) dl) (hdb : (x == ("__debug__" : Str)) = false := by decide) (he : starEach (e :: es) X.env = (false, eval e X.env) :: starEach es X.env := by rfl) (hpl : (backTo pos (starEach es X.env)).any (·.1) = false := by rfl)
    (hlen : ∀ ρ S xs S1, dl ρ S = .ok xs S1 → xs.length = ps.length) :
    FE X W (.Call (.Name x p) (e :: es) [] pos) (eApp ff dl) := by
  refine ⟨fun pins s σ H Q I h => ?_⟩
  obtain ⟨ρ, S, μ, er, sr, h⟩ := h
  have hlen := hlen ρ S
  unfold eApp at h
  have hA : tA X.K X.mg W dl σ H (fun vs H1 => spF X.K X.mg ps.length ff vs H1 Q (WE W σ)) := by
    refine ⟨ρ, S, μ, er, sr, ?_⟩
    cases q : dl ρ S with
    | stk => rw [q] at h; exact h
    | exc C fs S1 => rw [q] at h; exact h
    | ok xs S1 =>
      rw [q] at h
      intro μ1 H1 vs st1 sr1 r1
      refine ⟨by rw [← r1.length]; exact hlen xs S1 q, xs, S1, μ1, r1, sr1, ?_⟩
      exact Out.mono h (fun _ _ q => q.step st1) fun _ _ _ q => exF_of (q.step st1)
  refine wpAny_Call_Name_kw (ld_glob I hg hm ?_ hdb)
  refine PySem.W.callWith_K (h₀ := X.base) I.ok.mod.kin hk ?_ he hpl
  exact thn (ha.run pos pins s σ H _ I hA) fun us s1 ⟨vs, H1, I1, r, q⟩ => ⟨I1.kIn, runG G (C.room.mono hj) gd hb C.tk I1 r q⟩
/-! keywords: the values in the parameters' order by places -/
def perm {α : Type} (pi : List Nat) (l : List α) : List α := pi.filterMap fun i => l[i]?
theorem VRs.perm {K : PySem.W.Frag} {mg : Str → Option Value} {μ : List Addr} {H : Hp} {xs : List PV} {vs : List V} (h : VRs K mg μ H xs vs) : ∀ pi : List Nat, VRs K mg μ H (FL.perm pi xs) (FL.perm pi vs)
  | [] => .nil
  | i :: pi => by
    unfold FL.perm
    rw [List.filterMap_cons, List.filterMap_cons]
    cases q : xs[i]? with
    | none =>
      have : vs[i]? = none := List.getElem?_eq_none_iff.mpr (by rw [← h.length]; exact List.getElem?_eq_none_iff.mp q)
      rw [this]
      exact VRs.perm h pi
    | some x =>
      obtain ⟨v, e, r⟩ := h.get q
      rw [e]
      exact .cons r (VRs.perm h pi)
theorem vals_perm {vs : List V} {us : List Value} (h : Vals vs us) : ∀ pi : List Nat, Vals (FL.perm pi vs) (FL.perm pi us)
  | [] => .nil
  | i :: pi => by
    unfold FL.perm
    rw [List.filterMap_cons, List.filterMap_cons]
    cases q : vs[i]? with
    | none =>
      rw [h.none_of q]
      exact vals_perm h pi
    | some x =>
      obtain ⟨v, e, r⟩ := h.get q
      rw [e]
      exact .cons r (vals_perm h pi)
def eAppK (f : FF) (pi : List Nat) (dl dk : En → Sto → Res (List PV)) : En → Sto → Res PV := fun ρ S => (dl ρ S).bind fun xs S1 => (dk ρ S1).bind fun ys S2 => f (FL.perm pi (xs ++ ys)) S2
/-- how the keywords ks go with the parameters ps -/
def KwOk (fd : FuncData) (ps ks : List Str) (m : Nat) (pi : List Nat) : Prop := ∀ (s : Shared) (us ws : List Value), us.length = m → ws.length = ks.length → BindsTo s fd ⟨us, ks.zip ws⟩ (ps.zip (FL.perm pi (us ++ ws)))
theorem runK {pins : List (Addr × Obj)} {σ : L2.St} {H : Hp} {s : Shared} {Q : VK} {us ws : List Value} {vs zs : List V} {sp : Sp} {ks : List Str} {m : Nat} {pi : List Nat} (F : FnG X.prog X.w X.K X.mg X.base j f fd ps sp) (hr : Room j X.A) (gd : X.A.guards = some []) (hb : KwOk fd ps ks m pi) (hx : Takes X W)
    (I : Inv X pins σ H s) (r : Vals vs us) (rz : Vals zs ws) (hm : us.length = m) (hk : ws.length = ks.length) (h : sp (FL.perm pi (vs ++ zs)) H Q (WE W σ)) : wpAny (model X.prog X.w) X.A (call (.ref f) us (ks.zip ws)) (EP X pins σ Q) X.xe s := by
  have run := F.run X.A X.stack s H ⟨us, ks.zip ws⟩ (FL.perm pi (us ++ ws)) (FL.perm pi (vs ++ zs)) Q (WE W σ) hr gd I.env0 (hb s us ws hm hk) (vals_perm (r.append rz) pi) h
  refine wpAny_call (codeAny_mono run fun rr s' hq => ?_)
  cases rr with
  | error ee => exact passAt hx σ pins H s ee s' I hq
  | ok fl =>
    cases fl with
    | ret u => exact I.after hq
    | _ => exact False.elim hq
theorem kw_read {ks : List Str} {m : Nat} {pi : List Nat} {dk : En → Sto → Res (List PV)} {σ : L2.St} {H : Hp} {Q : VK} (hlm : ∀ ρ S xs S1, dl ρ S = .ok xs S1 → xs.length = m) (hlk : ∀ ρ S xs S1, dk ρ S = .ok xs S1 → xs.length = ks.length)
    (hpi : ∀ l : List V, l.length = m + ks.length → (FL.perm pi l).length = ps.length) (h : tE X.K X.mg W (eAppK ff pi dl dk) σ H Q) :
    tA X.K X.mg W dl σ H (fun vs H1 => tA X.K X.mg W dk σ H1 fun zs H2 => vs.length = m ∧ zs.length = ks.length ∧ spF X.K X.mg ps.length ff (FL.perm pi (vs ++ zs)) H2 Q (WE W σ)) := by
  obtain ⟨ρ, S, μ, er, sr, h⟩ := h
  unfold eAppK at h
  refine ⟨ρ, S, μ, er, sr, ?_⟩
  cases q : dl ρ S with
  | stk => rw [q] at h; exact h
  | exc C fs S1 => rw [q] at h; exact h
  | ok xs S1 =>
    rw [q] at h
    intro μ1 H1 vs st1 sr1 r1
    have er1 := er.mono sr st1
    refine ⟨ρ, S1, μ1, er1, sr1, ?_⟩
    simp only [Res.bind] at h
    cases q2 : dk ρ S1 with
    | stk => rw [q2] at h; exact h
    | exc C fs S2 =>
      rw [q2] at h
      exact fun μ2 H2 c d st2 sr2 xr => h μ2 H2 c d (st1.trans st2) sr2 xr
    | ok ys S2 =>
      rw [q2] at h
      intro μ2 H2 zs st2 sr2 r2
      have l1 : vs.length = m := by rw [← r1.length]; exact hlm _ _ _ _ q
      have l2 : zs.length = ks.length := by rw [← r2.length]; exact hlk _ _ _ _ q2
      refine ⟨l1, l2, hpi _ (by rw [List.length_append, l1, l2]), _, S2, μ2, ((VRs.mono sr1 st2 _ _ r1).app r2).perm pi, sr2, ?_⟩
      exact Out.mono h (fun _ _ q => q.step (st1.trans st2)) fun _ _ _ q => exF_of (q.step (st1.trans st2))
theorem fe_callK (C : CxE X W k) (gd : X.A.guards = some []) (G : FnG X.prog X.w X.K X.mg X.base j f fd ps (spF X.K X.mg ps.length ff)) (hj : j ≤ k) (hg : Gl X x) (hm : X.mg x = some (.ref f)) (hk : PySem.W.keepIn X.K (.ref f) = true)
    {ks : List Str} {m : Nat} {pi : List Nat} {kws : List Keyword} {dk : En → Sto → Res (List PV)} (hb : KwOk fd ps ks m pi) (hpi : ∀ l : List V, l.length = m + ks.length → (FL.perm pi l).length = ps.length)
    (ha : FA X W (e :: es) dl) (hkw : FK X W kws dk) (hlm : ∀ ρ S xs S1, dl ρ S = .ok xs S1 → xs.length = m) (hlk : ∀ ρ S xs S1, dk ρ S = .ok xs S1 → xs.length = ks.length)
    (hall : (backToKw pos (keywordEach kws X.env)).all (·.1.isSome) = true := by rfl) (hks : (backToKw pos (keywordEach kws X.env)).filterMap (·.1) = ks := by rfl)
    (hdb : (x == ("__debug__" : Str)) = false := by decide) (he : starEach (e :: es) X.env = (false, eval e X.env) :: starEach es X.env := by rfl)
    (hpl : ((backTo pos (starEach (e :: es) X.env)).any (·.1) || (backToKw pos (keywordEach kws X.env)).any (·.1.isNone)) = false := by rfl) :
    FE X W (.Call (.Name x p) (e :: es) kws pos) (eAppK ff pi dl dk) := by
  refine ⟨fun pins s σ H Q I h => ?_⟩
  have hA := kw_read hlm hlk hpi h
  refine wpAny_Call_Name_kw (ld_glob I hg hm ?_ hdb)
  refine PySem.W.callWith_KW (h₀ := X.base) I.ok.mod.kin hk hall ?_ hpl he
  refine thn (ha.run pos pins s σ H _ I hA) fun us s1 ⟨vs, H1, I1, r, q⟩ => ?_
  refine thn (hkw.run pos pins s1 σ H1 _ I1 q) fun ws s2 ⟨zs, H2, I2, rz, q1, q2, q3⟩ => ⟨I2.kIn, ?_⟩
  rw [hks]
  exact runK G (C.room.mono hj) gd hb C.tk I2 r rz (by show us.length = m; rw [← r.length]; exact q1) (by rw [← rz.length]; exact q2) q3
theorem fe_callK0 (C : CxE X W k) (gd : X.A.guards = some []) (G : FnG X.prog X.w X.K X.mg X.base j f fd ps (spF X.K X.mg ps.length ff)) (hj : j ≤ k) (hg : Gl X x) (hm : X.mg x = some (.ref f)) (hk : PySem.W.keepIn X.K (.ref f) = true)
    {ks : List Str} {pi : List Nat} {kws : List Keyword} {dk : En → Sto → Res (List PV)} (hb : KwOk fd ps ks 0 pi) (hpi : ∀ l : List V, l.length = 0 + ks.length → (FL.perm pi l).length = ps.length)
    (hkw : FK X W kws dk) (hlk : ∀ ρ S xs S1, dk ρ S = .ok xs S1 → xs.length = ks.length)
    (hall : (backToKw pos (keywordEach kws X.env)).all (·.1.isSome) = true := by rfl) (hks : (backToKw pos (keywordEach kws X.env)).filterMap (·.1) = ks := by rfl)
    (hdb : (x == ("__debug__" : Str)) = false := by decide)
    (hpl : ((backTo pos (starEach [] X.env)).any (·.1) || (backToKw pos (keywordEach kws X.env)).any (·.1.isNone)) = false := by rfl) :
    FE X W (.Call (.Name x p) [] kws pos) (eAppK ff pi aNil dk) := by
  refine ⟨fun pins s σ H Q I h => ?_⟩
  have hA := kw_read (dl := aNil) (m := 0) (fun _ _ _ _ q => by cases q; rfl) hlk hpi h
  refine wpAny_Call_Name_kw (ld_glob I hg hm ?_ hdb)
  refine PySem.W.callWith_KW0 (h₀ := X.base) I.ok.mod.kin hk hall ?_ hpl
  have hA2 := hA
  obtain ⟨ρ, S, μ, er, sr, q⟩ := hA2
  have q := q μ H [] .refl sr .nil
  refine thn (hkw.run pos pins s σ H _ I q) fun ws s2 ⟨zs, H2, I2, rz, q1, q2, q3⟩ => ⟨I2.kIn, ?_⟩
  rw [hks]
  exact runK (us := []) (vs := []) G (C.room.mono hj) gd hb C.tk I2 .nil rz rfl (by rw [← rz.length]; exact q2) q3
theorem len0 {ρ : En} {S : Sto} {xs : List PV} {S1 : Sto} (h : aNil ρ S = .ok xs S1) : xs.length = 0 := by cases h; rfl
theorem lenC {da : En → Sto → Res PV} {n : Nat} (hr : ∀ ρ S xs S1, dl ρ S = .ok xs S1 → xs.length = n) : ∀ ρ S xs S1, aCons da dl ρ S = .ok xs S1 → xs.length = n + 1 := by
  intro ρ S xs S1 h
  unfold aCons at h
  cases q : da ρ S with
  | stk => rw [q] at h; cases h
  | exc C fs S1 => rw [q] at h; cases h
  | ok x S2 =>
    rw [q] at h
    simp only [Res.bind] at h
    cases q2 : dl ρ S2 with
    | stk => rw [q2] at h; cases h
    | exc C fs S1 => rw [q2] at h; cases h
    | ok ys S3 =>
      rw [q2] at h
      cases h
      rw [List.length_cons, hr _ _ _ _ q2]
end
/-! ### the law -/
theorem lawG {P : Program} {w : World} {K : PySem.W.Frag} {mg mb : Str → Option Value} {k : Nat} {fa a : Addr} {fd : FuncData} {x : Str} {F : FF} {s₁ : Shared} {vs : List Value} {ns : List Int}
    (KX : K.In s₁.heap) (hns : s₁.heap.Ns mainGlobals mg) (hb : s₁.heap.Ns builtinsNs mb) (hbb : ∀ x : Str, x ≠ "__name__" → mb x = bootBuiltins x) (hlim : s₁.heap.NoLimit) (hg : s₁.gens = #[])
    (ha : s₁.heap.get? a = some { cls := .type "list", data := .seq vs.toArray }) (hi : PyProof.Rows.IntsAre vs ns) (hl : ns.length ≤ 63) (hr : Room k callerA)
    (G : ∀ base : Heap, K.In base → base.Ns mainGlobals mg → FnG P w K mg base k fa fd [x] (spF K mg 1 F)) (hbind : ∀ (s : Shared) (u : Value), BindsTo s fd ⟨[u], []⟩ [(x, u)])
    (hF : ∀ ns : List Int, ns.length ≤ 63 → ∃ S', F [.kl (ns.map PV.int)] [] = .ok (.bl true) S') :
    codeAny (model P w) callerA (.call (.ref fa) ⟨[.ref a], []⟩) (fun r s' => r = .ok (.ret (.bool true)) ∧ OldK s₁.heap s'.heap ∧ s'.os = s₁.os ∧ PyProof.Rows.AllBare s'.gens) s₁ := by
  have rv := vals_ints hi
  have len := hi.length
  have sz : ns.length ≤ sizeLine := Nat.le_trans hl (by decide)
  obtain ⟨S', eF⟩ := hF ns hl
  let o0 : Obj := { cls := .type "list", data := .seq vs.toArray }
  have go : ∀ H : Hp, (∀ b, H b = none ∨ (b = a ∧ H b = some (.frz o0 (.lst (ns.map V.int))))) → SqK K H a (ns.map V.int) →
      HOk P w H s₁.heap → (H a ≠ none → K.lookup a = none) →
      codeAny (model P w) callerA (.call (.ref fa) ⟨[.ref a], []⟩) (fun r s' => r = .ok (.ret (.bool true)) ∧ OldK s₁.heap s'.heap ∧ s'.os = s₁.os ∧ PyProof.Rows.AllBare s'.gens) s₁ := by
    intro H hO hS hok hK
    have at_a : ∀ {b : Addr} {u : HO}, H b = some u → b = a := fun {b u} e => by
      rcases hO b with z | ⟨z, _⟩
      · rw [z] at e; cases e
      · exact z
    let B := hidT s₁.heap H
    have toB : ∀ {b : Addr} {m : Str → Option Value}, s₁.heap.Ns b m → B.Ns b m := by
      intro b m hm
      obtain ⟨o, es, ep, e, d, r⟩ := hm
      refine ⟨o, es, ep, hidT_get e ?_, d, r⟩
      cases q : H b with
      | none => rfl
      | some u =>
        have := at_a q
        subst this
        rw [ha] at e
        cases e
        cases d
    have inB : K.In B := fun b o e => hidT_get (KX b o e) (by
      cases q : H b with
      | none => rfl
      | some u =>
        have := at_a q
        subst this
        have z := hK (by rw [q]; exact fun z => nomatch z)
        rw [z] at e
        cases e)
    have M : Mod K mg B := by
      obtain ⟨mc, l1, l2⟩ := hlim
      exact ⟨inB, toB hns, ⟨mb, toB hb, hbb⟩, ⟨mc, toB l1, l2⟩⟩
    have e0 : Env0 P w K mg B callerA [] s₁ H := by
      refine ⟨rfl, M, fun b o e => of_hidT e, Nat.le_of_eq (hidT_size _ _), trivial, fun b hb => ?_, hok, .of_eq hg⟩
      exact nomatch (show b ∈ ([] : List Addr) from hb)
    have sp : spF K mg 1 F [.ref a] H (fun v _ => v = .bl true) (fun _ _ _ => False) := by
      refine ⟨rfl, [.kl (ns.map PV.int)], [], [], .cons (.kl hS (vrs_ints ns)) .nil, ⟨rfl, by simp, fun n b o e => by simp at e⟩, ?_⟩
      rw [eF]
      intro μ' H' v st sr r
      cases r
      rfl
    have run := (G _ inB (toB hns)).run callerA [] s₁ H ⟨[.ref a], []⟩ [.ref a] [.ref a] _ _ hr rfl e0 (hbind s₁ (.ref a)) (.cons rfl .nil) sp
    refine codeAny_mono run fun rr s' h => ?_
    cases rr with
    | error e => exact (cxl_no H s₁ e s' h).elim
    | ok fl =>
      cases fl with
      | ret u =>
        obtain ⟨v, H', os, bare, un, hok', r', q⟩ := h
        have q : v = .bl true := q
        subst q
        obtain rfl : u = Value.bool true := r'
        refine ⟨rfl, OldK.of_keep fun b o e => ?_, os, bare⟩
        rcases hO b with z | ⟨z1, z2⟩
        · exact un.keep b o e z (fun m => nomatch (show b ∈ ([] : List Addr) from m)) (by simp)
        · obtain ⟨e1, _⟩ := hok b _ z2
          obtain ⟨e2, _⟩ := hok' b _ (un.frzs b _ _ z2)
          rw [e] at e1
          cases e1
          exact e2
      | _ => exact False.elim h
  have vk : Vals (ns.map V.int) vs := rv
  cases hk : K.lookup a with
  | some o =>
    have e := KX a o hk
    rw [ha] at e
    cases e
    refine go (fun _ => none) (fun _ => .inl rfl) (.inr ⟨_, vs.toArray, _, hk, rfl, rfl, rfl, by rw [List.size_toArray, len]; exact sz, by simpa using vk⟩) (fun b u z => nomatch z) fun z => absurd rfl z
  | none =>
    let H1 : Hp := fun b => if b = a then some (.frz o0 (.lst (ns.map V.int))) else none
    have h1 : H1 a = some (.frz o0 (.lst (ns.map V.int))) := if_pos rfl
    have h2 : ∀ b, b ≠ a → H1 b = none := fun b hb => if_neg hb
    refine go H1 (fun b => ?_) (.inl ⟨o0, h1⟩) (fun b u z => ?_) fun _ => hk
    · by_cases hb : b = a
      · subst hb; exact .inr ⟨rfl, h1⟩
      · exact .inl (h2 b hb)
    · by_cases hb : b = a
      · subst hb
        rw [h1] at z
        cases z
        exact ⟨ha, by rw [List.length_map]; exact sz, vs, _, vk, ha⟩
      · rw [h2 b hb] at z
        cases z
/-- the goal that k_head leaves -/
theorem walkG {l : PySem.W.OpenLaw} {k : Nat} {q : Program} {loose : List Str} {XP : (Str → Option Value) → Heap → Prop} {YP : World → Heap → Prop} {d : DefRec} {K : Params → PySem.W.Frag} {x : Str} {F : FF}
    (hn : l.most = some 63) (hdf : d.params.defaults = []) (hr : Room k callerA) (hY : ∀ (w : World) (h : Heap), YP w h → (K w.params).In h)
    (G : ∀ (w : World) (mg : Str → Option Value) (fa : Addr) (h : Heap), (K w.params).In h → h.Ns mainGlobals mg → mg d.name = some (.ref fa) →
      ∃ fd : FuncData, (∀ (s : Shared) (u : Value), BindsTo s fd ⟨[u], []⟩ [(x, u)]) ∧
        ∀ base : Heap, (K w.params).In base → base.Ns mainGlobals mg → FnG l.prog w (K w.params) mg base k fa fd [x] (spF (K w.params) mg 1 F))
    (hF : ∀ ns : List Int, ns.length ≤ 63 → ∃ S', F [.kl (ns.map PV.int)] [] = .ok (.bl true) S') :
    PySem.W.WalkO q loose XP YP l.row.toRowW d [] (fun f vs => PySem.call f vs) := by
  refine Att.attach_call hn hdf fun w s₀ s₁ mg mb fa o pm cd doc a vs ns T Y ho hd hcd hmg hobj hints hlen hg => ?_
  have KX := hY w _ Y
  obtain ⟨fd, hb, hG⟩ := G w mg fa _ KX T.T.g hmg
  exact lawG KX T.T.g T.T.b T.T.builtins T.T.nolimit hg hobj hints hlen hr hG hb hF
end FL

/-! FLl: what the top has left, by facts. -/
namespace FL
open PySem PySem.Spec L2
section
variable {K : PySem.W.Frag} {h : Heap} {mg : Str → Option Value}
theorem fn_top {x q : Str} {st : Stmt} {f : Addr} {oc : Value} {od an : Option Addr} {osl : Array (Option Value)} {kV doc pm cdv ct : Value} (X : K.In h) (G : h.Ns mainGlobals mg)
    (a : PySem.W.nsIn K mainGlobals x = some (some (.ref f))) (l : K.lookup f = some ⟨oc, od, .func (PySem.W.fnOf x q (defArgs st) (defBody st) (defScope st) .none kV doc pm an cdv ct), osl⟩)
    (c : PySem.W.codeIn K cdv q = true) (k : PySem.W.keepIn K (.ref f) = true) : ∃ (f : Addr) (fd : FuncData), mg x = some (.ref f) ∧ Fun K x q st f fd :=
  ⟨f, _, PySem.W.mg_of X G a, fun_mk l c k⟩
/-- a method m of the class at C -/
theorem me_top {m q : Str} {st : Stmt} {C f : Addr} {oc : Value} {od an : Option Addr} {osl : Array (Option Value)} {kV doc pm cdv ct : Value}
    (a : PySem.W.findIn K (.ref C) m = some (some (.ref f))) (i : PySem.W.isFn K (.ref f) = true) (l : K.lookup f = some ⟨oc, od, .func (PySem.W.fnOf m q (defArgs st) (defBody st) (defScope st) .none kV doc pm an cdv ct), osl⟩)
    (c : PySem.W.codeIn K cdv q = true) (k : PySem.W.keepIn K (.ref f) = true) : ∃ (f : Addr) (fd : FuncData), Meth K C m f ∧ Fun K m q st f fd :=
  ⟨f, _, ⟨a, i, k⟩, fun_mk l c k⟩
/-- .. with one default -/
theorem cls_top {x : Str} {C : Addr} (X : K.In h) (G : h.Ns mainGlobals mg) (a : PySem.W.nsIn K mainGlobals x = some (some (.ref C)))
    (pg : PySem.W.plainGet K C Str.empty = true) (hd : PySem.W.hasDictIn K C = true) (po : PySem.W.plainOver K C = true) (sa : PySem.W.findIn K (.ref C) "__setattr__" = some (some (.builtin "object.__setattr__")))
    (mk : PySem.W.makesIn K C = true) (kc : PySem.W.keepIn K (.ref C) = true) : ∃ C, mg x = some (.ref C) ∧ Cls K C ∧ PySem.W.makesIn K C = true ∧ PySem.W.keepIn K (.ref C) = true :=
  ⟨C, PySem.W.mg_of X G a, ⟨pg, hd, po, sa⟩, mk, kc⟩
theorem meD_top {m q : Str} {st : Stmt} {C f T T0 : Addr} {oc cl : Value} {od an dd : Option Addr} {osl sl : Array (Option Value)} {kV doc pm cdv ct : Value} {n : Nat}
    (a : PySem.W.findIn K (.ref C) m = some (some (.ref f))) (i : PySem.W.isFn K (.ref f) = true) (l : K.lookup f = some ⟨oc, od, .func (PySem.W.fnOf m q (defArgs st) (defBody st) (defScope st) (.ref T) kV doc pm an cdv ct), osl⟩)
    (c : PySem.W.codeIn K cdv q = true) (k : PySem.W.keepIn K (.ref f) = true) (lT : K.lookup T = some ⟨cl, dd, .seq #[.ref T0] n, sl⟩) : ∃ (f : Addr) (fd : FuncData) (T0 : Addr), Meth K C m f ∧ FunD K m q (defArgs st) (defBody st) (defScope st) [.ref T0] [] f fd :=
  ⟨f, _, T0, ⟨a, i, k⟩, ⟨⟨oc, od, .ref T, kV, doc, pm, an, cdv, ct, osl, rfl, l, c, .inr ⟨by simp, T, _, [.ref T0], n, rfl, lT, rfl, .cons rfl .nil⟩, .inl rfl⟩, k⟩⟩
theorem fnD_fl {P : Program} {w : World} {base : Heap} {x qual : Str} {st : Stmt} {f : Addr} {fd : FuncData} {N ps : List Str} {k : Nat} {D : En → Sto → SRes} {dvs : List V} {kws : List (Str × V)} (F : FunD K x qual (defArgs st) (defBody st) (defScope st) dvs kws f fd) (S : FnScope N ps (defScope st))
    (hb : ∀ (cdv : Value) (A : Around) (outer : List Env) (s : Shared) (H : Hp) (E : XK), CxF (cxL P w K mg base N qual st f cdv A outer s H E) (WF E) k → FSs (cxL P w K mg base N qual st f cdv A outer s H E) (WF E) (defBody st) D) :
    FnOk P w K mg base (L2.CX P w) (k + 1) f fd ps (spF K mg ps.length (runB N.length D)) := by
  refine F.ok S (fun vs H Q E h => h.1) fun cdv A outer s H vs Q E hr h => ?_
  have C : CxF (cxL P w K mg base N qual st f cdv A outer s H E) (WF E) k := ⟨takes_of rfl rfl rfl rfl, passes_of rfl, rfl, rfl, rfl, hr, S.nd⟩
  refine ⟨_, hb cdv A outer s H E C, ?_⟩
  obtain ⟨hl, xs, S0, μ, hv, sr, h⟩ := h
  refine ⟨_, S0, μ, er_start hv N, sr, ?_⟩
  unfold runB at h
  show SOut (D (xs.map some ++ List.replicate (N.length - xs.length) none) S0) _ _
  cases q : D (xs.map some ++ List.replicate (N.length - xs.length) none) S0 with
  | stk => rw [q] at h; exact h
  | exc C fs ρ1 S1 =>
    rw [q] at h
    exact fun μ' H' σ' c d st er sr xr => h μ' H' c d st sr xr
  | ok f ρ1 S1 =>
    rw [q] at h
    cases f with
    | nx => exact fun μ' H' σ' st er sr => h μ' H' _ st sr .non
    | rt v => exact fun μ' H' σ' st er sr v' r => h μ' H' v' st sr r
    | bk => exact h.elim
    | ct => exact h.elim
/-- all parameters are written -/
theorem bindsD {x qual : Str} {st : Stmt} {f : Addr} {fd : FuncData} {ps : List Str} {T0 : V} (F : FunD K x qual (defArgs st) (defBody st) (defScope st) [T0] [] f fd)
    (h : ∀ (T : Addr) (kV doc pm : Value) (an : Option Addr) (cdv ct : Value) (us its : List Value), us.length = ps.length → its.length = 1 →
      ∃ k, bindArgs (PySem.W.fnOf x qual (defArgs st) (defBody st) (defScope st) (.ref T) kV doc pm an cdv ct) ⟨us, []⟩ = seqItems? (.ref T) >>= k ∧ k (some its.toArray) = pure (ps.zip (us ++ its.drop 1))) : Binds K fd ps [] := by
  obtain ⟨ds, r, b⟩ := F.binds1 ps.length 1 (by simp) (by simp) h
  cases r
  exact b
theorem kwok {x qual : Str} {st : Stmt} {f : Addr} {fd : FuncData} {ps ks : List Str} {m : Nat} {pi : List Nat} (F : Fun K x qual st f fd)
    (h : ∀ (kV doc pm : Value) (an : Option Addr) (cdv ct : Value) (us ws : List Value), us.length = m → ws.length = ks.length → bindArgs (PySem.W.fnOf x qual (defArgs st) (defBody st) (defScope st) .none kV doc pm an cdv ct) ⟨us, ks.zip ws⟩ = pure (ps.zip (FL.perm pi (us ++ ws)))) : KwOk fd ps ks m pi := by
  obtain ⟨oc, od, kV, doc, pm, an, cdv, ct, osl, rfl, lk, hcd⟩ := F.ex
  exact fun s us ws h1 h2 => .of_eq (h kV doc pm an cdv ct us ws h1 h2)
theorem lenM {dl : En → Sto → Res (List PV)} {n : Nat} (h : ∀ ρ S xs S1, dl ρ S = .ok xs S1 → xs.length = n) : ∀ ρ S xs S1, dl ρ S = .ok xs S1 → (PV.non :: (xs ++ [])).length = n + 1 := fun ρ S xs S1 e => by
  rw [List.append_nil, List.length_cons, h ρ S xs S1 e]
end
section
variable {X : Cx} {W : WX} {pos : Pos} {k : Nat} {elt tg iter : Expr} {ifs : List Expr} {scope : Scope} {own : List (Str × Nat)} {di : En → Sto → Res Wlk} {g : TG} {dg : Tgt} {dt : En → Sto → Res Bool} {de : En → Sto → Res PV}
theorem fe_lcC (C : CxE X W k) (hi : FI X W tg iter di) (ok : BlkOk X.N X.env.scope scope own)
    (hg : ∀ (s : Shared) (H : Hp) (a : Addr) (cl : List (Str × Addr)) (fp : List Addr), CxE (X.blk s H scope (compEnvC scope cl a X.env) fp) W0 k → PG (X.blk s H scope (compEnvC scope cl a X.env) fp) tg g) (hct : CT X.K X.mg g dg (own.map (·.2)))
    (ht : ∀ (s : Shared) (H : Hp) (a : Addr) (cl : List (Str × Addr)) (fp : List Addr), CxE (X.blk s H scope (compEnvC scope cl a X.env) fp) W0 k → PTs (X.blk s H scope (compEnvC scope cl a X.env) fp) ifs (tT X.K X.mg W0 dt))
    (he : ∀ (s : Shared) (H : Hp) (a : Addr) (cl : List (Str × Addr)) (fp : List Addr), CxE (X.blk s H scope (compEnvC scope cl a X.env) fp) W0 k → FE (X.blk s H scope (compEnvC scope cl a X.env) fp) W0 elt de) (hs : ∀ x, foldedSetIterable iter X.env x = pure x := by intro _; rfl) :
    FE X W (.ListComp elt [⟨tg, iter, ifs, 0⟩] scope pos) (eLc di dg dt de (own.map (·.2))) :=
  fe_lc C.calm C.nd hi ok (fun s H a cl fp => hg s H a cl fp (C.blk s H _ _ fp)) hct (fun s H a cl fp => ht s H a cl fp (C.blk s H _ _ fp)) (fun s H a cl fp => he s H a cl fp (C.blk s H _ _ fp)) hs
theorem fs_setlcC {i : Nat} {y : Str} {py spos : Pos} (C : CxE X W k) (hy : X.N[i]? = some y) (hyl : X.env.scope.names.lookup y = some .local)
    (hsw : swapsWith (.ListComp elt [⟨tg, iter, ifs, 0⟩] scope pos) (some (.Name y py)) spos.line X.env = pure true) (hi : FI X W tg iter di) (ok : BlkOk X.N X.env.scope scope own)
    (hg : ∀ (s : Shared) (H : Hp) (a : Addr) (cl : List (Str × Addr)) (fp : List Addr), CxE (X.blk s H scope (compEnvC scope cl a X.env) fp) W0 k → PG (X.blk s H scope (compEnvC scope cl a X.env) fp) tg g) (hct : CT X.K X.mg g dg (own.map (·.2)))
    (ht : ∀ (s : Shared) (H : Hp) (a : Addr) (cl : List (Str × Addr)) (fp : List Addr), CxE (X.blk s H scope (compEnvC scope cl a X.env) fp) W0 k → PTs (X.blk s H scope (compEnvC scope cl a X.env) fp) ifs (tT X.K X.mg W0 dt))
    (he : ∀ (s : Shared) (H : Hp) (a : Addr) (cl : List (Str × Addr)) (fp : List Addr), CxE (X.blk s H scope (compEnvC scope cl a X.env) fp) W0 k → FE (X.blk s H scope (compEnvC scope cl a X.env) fp) W0 elt de) (hs : ∀ x, foldedSetIterable iter X.env x = pure x := by intro _; rfl) :
    FS X W (.Assign [.Name y py] (.ListComp elt [⟨tg, iter, ifs, 0⟩] scope pos) spos) (sAsg (eLc di dg dt de (own.map (·.2))) (gNm i)) :=
  fs_setlc C.calm C.nd hy hyl hsw hi ok (fun s H a cl fp => hg s H a cl fp (C.blk s H _ _ fp)) hct (fun s H a cl fp => ht s H a cl fp (C.blk s H _ _ fp)) (fun s H a cl fp => he s H a cl fp (C.blk s H _ _ fp)) hs
end
theorem kit_ty_own {K : PySem.W.Frag} {c : Addr} {cd : ClassData} {T : String} {b : Bool} (h1 : PySem.W.clsIn K c = some cd) (h2 : PySem.W.typeIn K (.ref c) = some (.type "type")) (h3 : PySem.W.subIn K (.type T) (.ref c) = some b) : PySem.W.kitOne K (.type T) (.ref c) = some b := by
  unfold PySem.W.kitOne PySem.W.kitCls
  rw [if_neg (by intro h; cases h)]
  simp only [h1, h2, h3]
  rfl
theorem kit_own_own {K : PySem.W.Frag} {c d : Addr} {cd : ClassData} {b : Bool} (h1 : PySem.W.clsIn K c = some cd) (h2 : PySem.W.typeIn K (.ref c) = some (.type "type")) (h3 : PySem.W.subIn K (.ref d) (.ref c) = some b) (hb : b = true ∨ (d == c) = false) : PySem.W.kitOne K (.ref d) (.ref c) = some b := by
  unfold PySem.W.kitOne PySem.W.kitCls
  by_cases h : ((Value.ref d == Value.ref c) = true)
  · rw [if_pos h]
    rcases hb with e | e
    · rw [e]
    · have : d = c := by simpa using h
      subst this
      simp at e
  · rw [if_neg h]
    simp only [h1, h2, h3]
    rfl
end FL

/-! FLm: how loops and comprehensions run, in plain Lean. -/
namespace FL
open PySem L2
/-- a for over items that stand: I holds at each turn; the body goes on, or returns a v with R -/
theorem for_run {xs : List PV} {tg : Tgt} {body : En → Sto → SRes} (I : Nat → En → Sto → Prop) (R : PV → En → Sto → Prop)
    (step : ∀ (i : Nat) (x : PV) (ρ : En) (S : Sto), xs[i]? = some x → I i ρ S → ∃ ρ1 S1, tg x ρ S = some (ρ1, S1) ∧
      ((∃ ρ2 S2, (body ρ1 S1 = .ok .nx ρ2 S2 ∨ body ρ1 S1 = .ok .ct ρ2 S2) ∧ I (i + 1) ρ2 S2) ∨ ∃ v ρ2 S2, body ρ1 S1 = .ok (.rt v) ρ2 S2 ∧ R v ρ2 S2)) :
    ∀ (k i : Nat) (ρ : En) (S : Sto), i + k = xs.length → I i ρ S →
      (∃ ρ' S', forGo (.fix xs) tg body (k + 1) i ρ S = .ok .nx ρ' S' ∧ I xs.length ρ' S') ∨ ∃ v ρ' S', forGo (.fix xs) tg body (k + 1) i ρ S = .ok (.rt v) ρ' S' ∧ R v ρ' S'
  | 0, i, ρ, S, hi, h => by
    have e : xs[i]? = none := List.getElem?_eq_none_iff.mpr (by omega)
    refine .inl ⟨ρ, S, ?_, ?_⟩
    · unfold forGo itAt
      simp only [e]
    · have : i = xs.length := by omega
      rw [← this]; exact h
  | k + 1, i, ρ, S, hi, h => by
    have hl : i < xs.length := by omega
    have e : xs[i]? = some xs[i] := List.getElem?_eq_getElem hl
    obtain ⟨ρ1, S1, h1, h2⟩ := step i _ ρ S e h
    rcases h2 with ⟨ρ2, S2, h2, h3⟩ | ⟨v, ρ2, S2, h2, h3⟩
    · have ih := for_run I R step k (i + 1) ρ2 S2 (by omega) h3
      have hgo : forGo (.fix xs) tg body (k + 1 + 1) i ρ S = forGo (.fix xs) tg body (k + 1) (i + 1) ρ2 S2 := by
        rw [forGo]
        unfold itAt
        rcases h2 with h2 | h2 <;> simp only [e, h1, h2]
      rw [hgo]
      exact ih
    · refine .inr ⟨v, ρ2, S2, ?_, h3⟩
      rw [forGo]
      unfold itAt
      simp only [e, h1, h2]
theorem sFor_run {xs : List PV} {di : En → Sto → Res Wlk} {tg : Tgt} {body : En → Sto → SRes} {ρ : En} {S S1 : Sto} (I : Nat → En → Sto → Prop) (R : PV → En → Sto → Prop) (hd : di ρ S = .ok (.fix xs) S1) (h0 : I 0 ρ S1)
    (step : ∀ (i : Nat) (x : PV) (ρ : En) (S : Sto), xs[i]? = some x → I i ρ S → ∃ ρ1 S1, tg x ρ S = some (ρ1, S1) ∧
      ((∃ ρ2 S2, (body ρ1 S1 = .ok .nx ρ2 S2 ∨ body ρ1 S1 = .ok .ct ρ2 S2) ∧ I (i + 1) ρ2 S2) ∨ ∃ v ρ2 S2, body ρ1 S1 = .ok (.rt v) ρ2 S2 ∧ R v ρ2 S2)) :
    (∃ ρ' S', sFor di tg body ρ S = .ok .nx ρ' S' ∧ I xs.length ρ' S') ∨ ∃ v ρ' S', sFor di tg body ρ S = .ok (.rt v) ρ' S' ∧ R v ρ' S' := by
  unfold sFor liftE
  rw [hd]
  exact for_run I R step xs.length 0 ρ S1 (by omega) h0
/-- .. that never returns -/
theorem sFor_all {xs : List PV} {di : En → Sto → Res Wlk} {tg : Tgt} {body : En → Sto → SRes} {ρ : En} {S S1 : Sto} (I : Nat → En → Sto → Prop) (hd : di ρ S = .ok (.fix xs) S1) (h0 : I 0 ρ S1)
    (step : ∀ (i : Nat) (x : PV) (ρ : En) (S : Sto), xs[i]? = some x → I i ρ S → ∃ ρ1 S1 ρ2 S2, tg x ρ S = some (ρ1, S1) ∧ body ρ1 S1 = .ok .nx ρ2 S2 ∧ I (i + 1) ρ2 S2) :
    ∃ ρ' S', sFor di tg body ρ S = .ok .nx ρ' S' ∧ I xs.length ρ' S' := by
  rcases sFor_run I (fun _ _ _ => False) hd h0 fun i x ρ S e h => by
    obtain ⟨ρ1, S1, ρ2, S2, a, b, c⟩ := step i x ρ S e h
    exact ⟨ρ1, S1, a, .inl ⟨ρ2, S2, .inl b, c⟩⟩ with h | ⟨_, _, _, _, h⟩
  · exact h
  · exact h.elim
/-- a while with a measure -/
theorem wh_run {c : En → Sto → Res Bool} {body : En → Sto → SRes} (I : En → Sto → Prop) (m : En → Sto → Nat)
    (step : ∀ (ρ : En) (S : Sto), I ρ S → ∃ b S1, c ρ S = .ok b S1 ∧ (b = true → ∃ ρ2 S2, (body ρ S1 = .ok .nx ρ2 S2 ∨ body ρ S1 = .ok .ct ρ2 S2) ∧ I ρ2 S2 ∧ m ρ2 S2 < m ρ S)) :
    ∀ (k : Nat) (ρ : En) (S : Sto), I ρ S → m ρ S < k → ∃ ρ' S0 S', whGo c body k ρ S = .ok .nx ρ' S' ∧ I ρ' S0 ∧ c ρ' S0 = .ok false S'
  | 0, _, _, _, hk => absurd hk (Nat.not_lt_zero _)
  | k + 1, ρ, S, h, hk => by
    obtain ⟨b, S1, h1, h2⟩ := step ρ S h
    cases b with
    | false =>
      refine ⟨ρ, S, S1, ?_, h, h1⟩
      unfold whGo
      simp only [h1]
    | true =>
      obtain ⟨ρ2, S2, h3, h4, h5⟩ := h2 rfl
      obtain ⟨ρ', S0, S', a, b, c'⟩ := wh_run I m step k ρ2 S2 h4 (by omega)
      refine ⟨ρ', S0, S', ?_, b, c'⟩
      rw [whGo]
      rcases h3 with h3 | h3 <;> simp only [h1, h3] <;> exact a
/-! a walk of a list that the body leaves -/
theorem for_gen {it : Wlk} {xs : List PV} {tg : Tgt} {body : En → Sto → SRes} (I : Nat → En → Sto → Prop) (hit : ∀ i ρ S, I i ρ S → itAt it S i = some xs[i]?)
    (step : ∀ (i : Nat) (x : PV) (ρ : En) (S : Sto), xs[i]? = some x → I i ρ S → ∃ ρ1 S1 ρ2 S2, tg x ρ S = some (ρ1, S1) ∧ body ρ1 S1 = .ok .nx ρ2 S2 ∧ I (i + 1) ρ2 S2) :
    ∀ (k i : Nat) (ρ : En) (S : Sto), i + k = xs.length → I i ρ S → ∃ ρ' S', forGo it tg body (k + 1) i ρ S = .ok .nx ρ' S' ∧ I xs.length ρ' S'
  | 0, i, ρ, S, hi, h => by
    have e : xs[i]? = none := List.getElem?_eq_none_iff.mpr (by omega)
    refine ⟨ρ, S, ?_, ?_⟩
    · unfold forGo
      rw [hit i ρ S h]
      simp only [e]
    · have : i = xs.length := by omega
      rw [← this]; exact h
  | k + 1, i, ρ, S, hi, h => by
    have hl : i < xs.length := by omega
    have e : xs[i]? = some xs[i] := List.getElem?_eq_getElem hl
    obtain ⟨ρ1, S1, ρ2, S2, h1, h2, h3⟩ := step i _ ρ S e h
    have ih := for_gen I hit step k (i + 1) ρ2 S2 (by omega) h3
    have hgo : forGo it tg body (k + 1 + 1) i ρ S = forGo it tg body (k + 1) (i + 1) ρ2 S2 := by
      rw [forGo, hit i ρ S h]
      simp only [e, h1, h2]
    rw [hgo]
    exact ih
theorem sFor_live {n : Nat} {xs : List PV} {di : En → Sto → Res Wlk} {tg : Tgt} {body : En → Sto → SRes} {ρ : En} {S S1 : Sto} (I : Nat → En → Sto → Prop) (hd : di ρ S = .ok (.live n) S1) (hn : S1[n]? = some (.lst xs)) (h0 : I 0 ρ S1) (hk : ∀ i ρ S, I i ρ S → S[n]? = some (.lst xs))
    (step : ∀ (i : Nat) (x : PV) (ρ : En) (S : Sto), xs[i]? = some x → I i ρ S → ∃ ρ1 S1 ρ2 S2, tg x ρ S = some (ρ1, S1) ∧ body ρ1 S1 = .ok .nx ρ2 S2 ∧ I (i + 1) ρ2 S2) :
    ∃ ρ' S', sFor di tg body ρ S = .ok .nx ρ' S' ∧ I xs.length ρ' S' := by
  unfold sFor liftE
  rw [hd]
  have hf : itFuel (.live n) S1 = xs.length + 1 := by
    simp only [itFuel, hn]
  show ∃ ρ' S', forGo (.live n) tg body (itFuel (.live n) S1) 0 ρ S1 = _ ∧ _
  rw [hf]
  refine for_gen I (fun i ρ S h => ?_) step xs.length 0 ρ S1 (by omega) h0
  simp only [itAt, hk i ρ S h]
end FL

/-! FLn: the functions unfolded by simp. -/
namespace FL
open PySem L2
section
variable (ρ : En) (S : Sto)
@[simp] theorem bind_ok {α β : Type} (a : α) (f : α → Sto → Res β) : (Res.ok a S).bind f = f a S := rfl
@[simp] theorem bind_stk {α β : Type} (f : α → Sto → Res β) : (Res.stk (α := α)).bind f = .stk := rfl
@[simp] theorem ofO_some {α : Type} (a : α) : ofO (some (a, S)) = .ok a S := rfl
@[simp] theorem ofO_none {α : Type} : ofO (α := α) none = .stk := rfl
@[simp] theorem liftE_ok {α : Type} (a : α) (f : α → Sto → SRes) : liftE (.ok a S) ρ f = f a S := rfl
@[simp] theorem eVar_ap (i : Nat) : eVar i ρ S = match ρ[i]? with
  | some (some x) => .ok x S
  | _ => .stk := rfl
@[simp] theorem eC_ap (v : PV) : eC v ρ S = .ok v S := rfl
@[simp] theorem eBin_ap (f : PV → PV → Sto → OP) (da db : En → Sto → Res PV) : eBin f da db ρ S = (da ρ S).bind fun x S1 => (db ρ S1).bind fun y S2 => ofO (f x y S2) := rfl
@[simp] theorem eUn_ap (f : PV → Sto → OP) (da : En → Sto → Res PV) : eUn f da ρ S = (da ρ S).bind fun x S1 => ofO (f x S1) := rfl
@[simp] theorem aNil_ap : aNil ρ S = .ok [] S := rfl
@[simp] theorem aCons_ap (da : En → Sto → Res PV) (dr : En → Sto → Res (List PV)) : aCons da dr ρ S = (da ρ S).bind fun x S1 => (dr ρ S1).bind fun xs S2 => .ok (x :: xs) S2 := rfl
@[simp] theorem eTup_ap (da : En → Sto → Res (List PV)) : eTup da ρ S = (da ρ S).bind fun xs S1 => if xs.length ≤ big then .ok (.tup xs) S1 else .stk := rfl
@[simp] theorem eLst_ap (da : En → Sto → Res (List PV)) : eLst da ρ S = (da ρ S).bind fun xs S1 => if xs.length ≤ big then .ok (.ref S1.length) (S1 ++ [.lst xs]) else .stk := rfl
@[simp] theorem eIf_ap (dt : En → Sto → Res Bool) (da db : En → Sto → Res PV) : eIf dt da db ρ S = (dt ρ S).bind fun b S1 => if b then da ρ S1 else db ρ S1 := rfl
@[simp] theorem tOfE_ap (da : En → Sto → Res PV) : tOfE da ρ S = (da ρ S).bind fun x S1 => match x with
  | .bl b => .ok b S1
  | _ => .stk := rfl
@[simp] theorem tAnd2_ap (da db : En → Sto → Res Bool) : tAnd2 da db ρ S = (da ρ S).bind fun b S1 => if b then db ρ S1 else .ok false S1 := rfl
@[simp] theorem tOr2_ap (da db : En → Sto → Res Bool) : tOr2 da db ρ S = (da ρ S).bind fun b S1 => if b then .ok true S1 else db ρ S1 := rfl
@[simp] theorem tNot1_ap (da : En → Sto → Res Bool) : tNot1 da ρ S = (da ρ S).bind fun b S1 => .ok (!b) S1 := rfl
@[simp] theorem eAnd2_ap (da db : En → Sto → Res PV) : eAnd2 da db ρ S = (da ρ S).bind fun x S1 => match x with
  | .bl b => if b then db ρ S1 else .ok (.bl false) S1
  | _ => .stk := rfl
@[simp] theorem eOr2_ap (da db : En → Sto → Res PV) : eOr2 da db ρ S = (da ρ S).bind fun x S1 => match x with
  | .bl b => if b then .ok (.bl true) S1 else db ρ S1
  | _ => .stk := rfl
@[simp] theorem eNot1_ap (da : En → Sto → Res PV) : eNot1 da ρ S = (da ρ S).bind fun x S1 => match x with
  | .bl b => .ok (.bl (!b)) S1
  | _ => .stk := rfl
@[simp] theorem eCall_ap (f : List PV → Sto → OP) (da : En → Sto → Res (List PV)) : eCall f da ρ S = (da ρ S).bind fun xs S1 => ofO (f xs S1) := rfl
@[simp] theorem eApp_ap (f : FF) (dl : En → Sto → Res (List PV)) : eApp f dl ρ S = (dl ρ S).bind f := rfl
@[simp] theorem eAppK_ap (f : FF) (pi : List Nat) (dl dk : En → Sto → Res (List PV)) : eAppK f pi dl dk ρ S = (dl ρ S).bind fun xs S1 => (dk ρ S1).bind fun ys S2 => f (FL.perm pi (xs ++ ys)) S2 := rfl
@[simp] theorem sNop_ap : sNop ρ S = .ok .nx ρ S := rfl
@[simp] theorem sSeq_ap (a b : En → Sto → SRes) : sSeq a b ρ S = match a ρ S with
  | .ok .nx ρ1 S1 => b ρ1 S1
  | r => r := rfl
@[simp] theorem sExp_ap (da : En → Sto → Res PV) : sExp da ρ S = liftE (da ρ S) ρ fun _ S1 => .ok .nx ρ S1 := rfl
@[simp] theorem sRet_ap (da : En → Sto → Res PV) : sRet da ρ S = liftE (da ρ S) ρ fun v S1 => .ok (.rt v) ρ S1 := rfl
@[simp] theorem sRetN_ap : sRetN ρ S = .ok (.rt .non) ρ S := rfl
@[simp] theorem sIf_ap (dt : En → Sto → Res Bool) (a b : En → Sto → SRes) : sIf dt a b ρ S = liftE (dt ρ S) ρ fun c S1 => if c then a ρ S1 else b ρ S1 := rfl
@[simp] theorem gNm_ap (i : Nat) (v : PV) : gNm i v ρ S = if i < ρ.length then some (ρ.set i (some v), S) else none := rfl
@[simp] theorem gTp_ap (n : Nat) (t : List PV → En → Sto → Option (En × Sto)) (xs : List PV) : gTp n t (.tup xs) ρ S = if xs.length = n then t xs ρ S else none := rfl
@[simp] theorem gNil1_ap : gNil1 [] ρ S = some (ρ, S) := rfl
@[simp] theorem gCons1_ap (t : Tgt) (u : List PV → En → Sto → Option (En × Sto)) (x : PV) (r : List PV) : gCons1 t u (x :: r) ρ S = match t x ρ S with
  | some (ρ1, S1) => u r ρ1 S1
  | none => none := rfl
@[simp] theorem gSb_ap (st : PV → PV → PV → Sto → Option Sto) (to ti : En → Sto → Res PV) (v : PV) : gSb st to ti v ρ S = match to ρ S with
  | .ok o S1 => match ti ρ S1 with
    | .ok i S2 => match st o i v S2 with
      | some S3 => some (ρ, S3)
      | none => none
    | _ => none
  | _ => none := rfl
@[simp] theorem sAsg_ap (da : En → Sto → Res PV) (t : Tgt) : sAsg da t ρ S = liftE (da ρ S) ρ fun v S1 => match t v ρ S1 with
  | some (ρ1, S2) => .ok .nx ρ1 S2
  | none => .stk := rfl
@[simp] theorem sPar_ap (i j : Nat) (dl : En → Sto → Res (List PV)) : sPar i j dl ρ S = liftE (dl ρ S) ρ fun xs S1 => match xs with
  | [x, y] => if i < ρ.length ∧ j < ρ.length then .ok .nx ((ρ.set i (some x)).set j (some y)) S1 else .stk
  | _ => .stk := rfl
@[simp] theorem eChain_ap (f f' : PV → PV → Sto → OP) (da db dc : En → Sto → Res PV) : eChain f f' da db dc ρ S = (da ρ S).bind fun x S1 => (db ρ S1).bind fun y S2 => match f x y S2 with
  | some (.bl true, S3) => (dc ρ S3).bind fun z S4 => ofO (f' y z S4)
  | some (.bl false, S3) => .ok (.bl false) S3
  | _ => .stk := rfl
@[simp] theorem eMt_ap (f : PV → List PV → Sto → OP) (da : En → Sto → Res PV) (dl : En → Sto → Res (List PV)) : eMt f da dl ρ S = (da ρ S).bind fun x S1 => match x with
  | .ref n => match S1[n]? with
    | some (.lst _) => (dl ρ S1).bind fun xs S2 => ofO (f x xs S2)
    | _ => .stk
  | _ => .stk := rfl
@[simp] theorem eMt0_ap (f : PV → Sto → OP) (da : En → Sto → Res PV) : eMt0 f da ρ S = (da ρ S).bind fun x S1 => ofO (f x S1) := rfl
@[simp] theorem dYes_ap : dYes ρ S = .ok true S := rfl
@[simp] theorem pAdd_int (i j : Int) : pAdd (.int i) (.int j) S = some (.int (i + j), S) := rfl
@[simp] theorem pSub_int (i j : Int) : pSub (.int i) (.int j) S = some (.int (i - j), S) := rfl
@[simp] theorem pMul_int (i j : Int) : pMul (.int i) (.int j) S = if i.natAbs.log2 + j.natAbs.log2 < 1000000 then some (.int (i * j), S) else none := rfl
@[simp] theorem pMod_int (i j : Int) : pMod (.int i) (.int j) S = if 0 < j then some (.int (i % j), S) else none := rfl
@[simp] theorem pDiv_int (i j : Int) : pDiv (.int i) (.int j) S = if 0 < j ∧ j.natAbs.log2 < 9000 then some (.int (i / j), S) else none := rfl
@[simp] theorem pLt_int (i j : Int) : pLt (.int i) (.int j) S = some (.bl (decide (i < j)), S) := rfl
@[simp] theorem pLe_int (i j : Int) : pLe (.int i) (.int j) S = some (.bl (decide (i ≤ j)), S) := rfl
@[simp] theorem pGt_int (i j : Int) : pGt (.int i) (.int j) S = some (.bl (decide (j < i)), S) := rfl
@[simp] theorem pGe_int (i j : Int) : pGe (.int i) (.int j) S = some (.bl (decide (j ≤ i)), S) := rfl
@[simp] theorem pEq_int (i j : Int) : pEq (.int i) (.int j) S = some (.bl (i == j), S) := rfl
@[simp] theorem pNe_int (i j : Int) : pNe (.int i) (.int j) S = some (.bl (!(i == j)), S) := rfl
@[simp] theorem pNe_bl (i j : Bool) : pNe (.bl i) (.bl j) S = some (.bl (!(i == j)), S) := rfl
@[simp] theorem bInt_int (i : Int) : bInt [.int i] S = some (.int i, S) := rfl
@[simp] theorem bAbs_int (i : Int) : bAbs [.int i] S = some (.int (if i < 0 then -i else i), S) := rfl
@[simp] theorem bMax2_int (i j : Int) : bMax2 [.int i, .int j] S = some (.int (if j > i then j else i), S) := rfl
@[simp] theorem bMin2_int (i j : Int) : bMin2 [.int i, .int j] S = some (.int (if j < i then j else i), S) := rfl
@[simp] theorem bDivmod_int (i j : Int) : bDivmod [.int i, .int j] S = if 0 < j ∧ j < 1073741824 then some (.tup [.int (i / j), .int (i % j)], S) else none := rfl
@[simp] theorem bLen_tup (xs : List PV) : bLen [.tup xs] S = some (.int xs.length, S) := rfl
@[simp] theorem bLen_kl (xs : List PV) : bLen [.kl xs] S = some (.int xs.length, S) := rfl
@[simp] theorem bTuple_tup (xs : List PV) : bTuple [.tup xs] S = some (.tup xs, S) := rfl
@[simp] theorem bLen_fl (xs : List PV) : bLen [.fl xs] S = some (.int xs.length, S) := rfl
@[simp] theorem bTuple_fl (xs : List PV) : bTuple [.fl xs] S = some (.tup xs, S) := rfl
@[simp] theorem pIx_fl (xs : List PV) (i : Int) : pIx (.fl xs) (.int i) S = match atI xs i with
  | some z => some (z, S)
  | none => none := rfl
theorem ixN_lt {n i : Nat} (h : i < n) : ixN n (i : Int) = some i := by
  unfold ixN
  rw [if_pos (by omega), if_pos (by omega)]
  simp
@[simp] theorem ixN_0 (n : Nat) : ixN (n + 1) 0 = some 0 := ixN_lt (i := 0) (by omega)
@[simp] theorem ixN_1 (n : Nat) : ixN (n + 1 + 1) 1 = some 1 := ixN_lt (i := 1) (by omega)
@[simp] theorem ixN_2 (n : Nat) : ixN (n + 1 + 1 + 1) 2 = some 2 := ixN_lt (i := 2) (by omega)
@[simp] theorem atI_0 {α : Type} (a : α) (l : List α) : atI (a :: l) 0 = some a := by
  unfold atI
  rw [List.length_cons, ixN_0]
  rfl
@[simp] theorem atI_1 {α : Type} (a b : α) (l : List α) : atI (a :: b :: l) 1 = some b := by
  unfold atI
  rw [List.length_cons, List.length_cons, ixN_1]
  rfl
@[simp] theorem atI_2 {α : Type} (a b c : α) (l : List α) : atI (a :: b :: c :: l) 2 = some c := by
  unfold atI
  rw [List.length_cons, List.length_cons, List.length_cons, ixN_2]
  rfl
theorem atI_lt {α : Type} {l : List α} {i : Nat} (h : i < l.length) : atI l (i : Int) = some l[i] := by
  unfold atI
  rw [ixN_lt h]
  exact List.getElem?_eq_getElem h
end
theorem bLen_ref {S : Sto} {n : Nat} {xs : List PV} (h : S[n]? = some (.lst xs)) : bLen [.ref n] S = some (.int xs.length, S) := by
  simp only [bLen, lstOf, h]
theorem bTuple_ref {S : Sto} {n : Nat} {xs : List PV} (h : S[n]? = some (.lst xs)) : bTuple [.ref n] S = some (.tup xs, S) := by
  simp only [bTuple, lstOf, h]
theorem pIx_ref {S : Sto} {n : Nat} {xs : List PV} (h : S[n]? = some (.lst xs)) (i : Int) : pIx (.ref n) (.int i) S = match atI xs i with
  | some z => some (z, S)
  | none => none := by
  simp only [pIx, lstOf, h]
  all_goals rfl
@[simp] theorem pIx_tup (xs : List PV) (i : Int) (S : Sto) : pIx (.tup xs) (.int i) S = match atI xs i with
  | some z => some (z, S)
  | none => none := rfl
@[simp] theorem pIx_kl (xs : List PV) (i : Int) (S : Sto) : pIx (.kl xs) (.int i) S = match atI xs i with
  | some z => some (z, S)
  | none => none := rfl
theorem setIx_ref {S : Sto} {n : Nat} {xs : List PV} (h : S[n]? = some (.lst xs)) (i : Int) (v : PV) : setIx (.ref n) (.int i) v S = match ixN xs.length i with
  | some j => some (S.set n (.lst (xs.set j v)))
  | none => none := by
  simp only [setIx, h]
  all_goals rfl
@[simp] theorem pIx_set {S : Sto} {p : Nat} {xs : List PV} {i : Int} (hp : p < S.length) : pIx (.ref p) (.int i) (S.set p (.lst xs)) = match atI xs i with
  | some z => some (z, S.set p (.lst xs))
  | none => none := pIx_ref (by rw [List.getElem?_set_self hp]) i
@[simp] theorem setIx_set {S : Sto} {p : Nat} {xs : List PV} {i : Int} {v : PV} (hp : p < S.length) : setIx (.ref p) (.int i) v (S.set p (.lst xs)) = match ixN xs.length i with
  | some j => some (S.set p (.lst (xs.set j v)))
  | none => none := by
  rw [setIx_ref (xs := xs) (by rw [List.getElem?_set_self hp])]
  cases ixN xs.length i with
  | none => rfl
  | some j => simp only [List.set_set]
theorem bAll_ref {S : Sto} {n : Nat} {xs : List PV} {bs : List Bool} (h : S[n]? = some (.lst xs)) (hb : xs = bs.map PV.bl) : bAll [.ref n] S = some (.bl (bs.all id), S) := by
  have : ∀ bs : List Bool, boolsOf (bs.map PV.bl) = some bs := by
    intro bs
    induction bs with
    | nil => rfl
    | cons b bs ih => simp only [boolsOf, List.map_cons, mapO] at ih ⊢; rw [ih]
  subst hb
  simp only [bAll, lstL, h, this]
theorem bAny_ref {S : Sto} {n : Nat} {xs : List PV} {bs : List Bool} (h : S[n]? = some (.lst xs)) (hb : xs = bs.map PV.bl) : bAny [.ref n] S = some (.bl (bs.any id), S) := by
  have : ∀ bs : List Bool, boolsOf (bs.map PV.bl) = some bs := by
    intro bs
    induction bs with
    | nil => rfl
    | cons b bs ih => simp only [boolsOf, List.map_cons, mapO] at ih ⊢; rw [ih]
  subst hb
  simp only [bAny, lstL, h, this]
end FL

/-! FLo: tuples of ints, pairs of ints, as data. -/
namespace FL
open PySem L2
open PySem.W (dataLt alike alikeAll dataLe)
abbrev tI (l : List Int) : PV := .tup (l.map PV.int)
abbrev wP (w : Int × Int) : PV := .tup [.int w.1, .int w.2]
abbrev wsP (W : List (Int × Int)) : PV := .tup (W.map wP)
theorem mapO_map {α β γ : Type} {f : β → Option γ} {g : α → β} {h : α → γ} (e : ∀ a, f (g a) = some (h a)) : ∀ l : List α, mapO f (l.map g) = some (l.map h)
  | [] => rfl
  | a :: l => by
    simp only [List.map_cons, mapO, e a, mapO_map e l]
@[simp] theorem dOf_int (S : Sto) (k : Nat) (i : Int) : dataOf S (k + 1) (.int i) = some (.int i) := rfl
@[simp] theorem dOf_tI (S : Sto) (k : Nat) (l : List Int) : dataOf S (k + 2) (tI l) = some (.tuple (l.map .int)) := by
  show (mapO (dataOf S (k + 1)) (l.map PV.int)).map PyData.tuple = _
  rw [mapO_map (f := dataOf S (k + 1)) (h := PyData.int) fun a => rfl]
  rfl
@[simp] theorem dOf_wP (S : Sto) (k : Nat) (w : Int × Int) : dataOf S (k + 2) (wP w) = some (.tuple [.int w.1, .int w.2]) := rfl
@[simp] theorem dOf_wsP (S : Sto) (k : Nat) (W : List (Int × Int)) : dataOf S (k + 3) (wsP W) = some (.tuple (W.map fun w => .tuple [.int w.1, .int w.2])) := by
  show (mapO (dataOf S (k + 2)) (W.map wP)).map PyData.tuple = _
  rw [mapO_map (f := dataOf S (k + 2)) (h := fun w : Int × Int => PyData.tuple [.int w.1, .int w.2]) fun a => rfl]
  rfl
theorem eqv_ints : ∀ l m : List Int, PyData.eqvAll (l.map .int) (m.map .int) = decide (l = m)
  | [], [] => by simp [PyData.eqvAll]
  | [], b :: m => by simp [PyData.eqvAll]
  | a :: l, [] => by simp [PyData.eqvAll]
  | a :: l, b :: m => by
    simp only [List.map_cons, PyData.eqvAll, PyData.eqv, eqv_ints l m]
    rw [Bool.eq_iff_iff]
    simp
theorem eqv_pair (w u : Int × Int) : PyData.eqv (.tuple [.int w.1, .int w.2]) (.tuple [.int u.1, .int u.2]) = decide (w = u) := by
  simp only [PyData.eqv, PyData.eqvAll]
  rw [Bool.eq_iff_iff]
  obtain ⟨a, b⟩ := w
  obtain ⟨c, d⟩ := u
  simp
theorem eqv_pairs : ∀ l m : List (Int × Int), PyData.eqvAll (l.map fun w => .tuple [.int w.1, .int w.2]) (m.map fun w => .tuple [.int w.1, .int w.2]) = decide (l = m)
  | [], [] => by simp [PyData.eqvAll]
  | [], b :: m => by simp [PyData.eqvAll]
  | a :: l, [] => by simp [PyData.eqvAll]
  | a :: l, b :: m => by
    simp only [List.map_cons, PyData.eqvAll, eqv_pair, eqv_pairs l m]
    rw [Bool.eq_iff_iff]
    simp
@[simp] theorem pEq_tI (S : Sto) (l m : List Int) : pEq (tI l) (tI m) S = some (.bl (decide (l = m)), S) := by
  unfold pEq
  simp only [dOf, dOf_tI S 38]
  show some (PV.bl (PyData.eqvAll _ _), S) = _
  rw [eqv_ints]
@[simp] theorem pNe_tI (S : Sto) (l m : List Int) : pNe (tI l) (tI m) S = some (.bl (!decide (l = m)), S) := by
  unfold pNe
  simp only [dOf, dOf_tI S 38]
  show some (PV.bl (!PyData.eqvAll _ _), S) = _
  rw [eqv_ints]
theorem any_int (p : Int) : ∀ l : List Int, ((l.map PyData.int).any fun z => PyData.eqv z (.int p)) = decide (p ∈ l)
  | [] => by simp
  | a :: l => by
    rw [List.map_cons, List.any_cons, any_int p l]
    show ((a == p) || decide (p ∈ l)) = _
    by_cases h : a = p
    · subst h; simp
    · have h2 : ¬ p = a := fun e => h e.symm
      simp [h, h2]
@[simp] theorem pIn_tI (neg : Bool) (S : Sto) (p : Int) (l : List Int) : pIn neg (.int p) (tI l) S = some (.bl (neg ^^ decide (p ∈ l)), S) := by
  unfold pIn
  simp only [dOf, dOf_tI S 38, dOf_int S 39]
  rw [any_int]
theorem pIn_list {neg : Bool} {S : Sto} {p : Int} {n : Nat} {l : List Int} (h : S[n]? = some (.lst (l.map PV.int))) : pIn neg (.int p) (.ref n) S = some (.bl (neg ^^ decide (p ∈ l)), S) := by
  have e : dOf S (.ref n) = some (.list (l.map .int)) := by
    show dataOf S 40 (.ref n) = _
    simp only [dataOf, h]
    rw [mapO_map (f := dataOf S 39) (h := PyData.int) fun a => rfl]
    rfl
  unfold pIn
  rw [e]
  simp only [dOf, dOf_int S 39]
  rw [any_int]
theorem any_pair (p : Int × Int) : ∀ l : List (Int × Int), ((l.map fun w => PyData.tuple [.int w.1, .int w.2]).any fun z => PyData.eqv z (.tuple [.int p.1, .int p.2])) = decide (p ∈ l)
  | [] => by simp
  | a :: l => by
    rw [List.map_cons, List.any_cons, any_pair p l, eqv_pair]
    by_cases h : a = p
    · subst h; simp
    · have h2 : ¬ p = a := fun e => h e.symm
      simp [h, h2]
@[simp] theorem pIn_wsP (neg : Bool) (S : Sto) (w : Int × Int) (W : List (Int × Int)) : pIn neg (wP w) (wsP W) S = some (.bl (neg ^^ decide (w ∈ W)), S) := by
  unfold pIn
  simp only [dOf, dOf_wsP S 37, dOf_wP S 38]
  rw [any_pair]
/-- p in a pair -/
@[simp] theorem pIn_wP (neg : Bool) (S : Sto) (p : Int) (w : Int × Int) : pIn neg (.int p) (wP w) S = some (.bl (neg ^^ decide (p = w.1 ∨ p = w.2)), S) := by
  have q := pIn_tI neg S p [w.1, w.2]
  have e : decide (p ∈ [w.1, w.2]) = decide (p = w.1 ∨ p = w.2) := by simp
  rw [e] at q
  exact q
/-! the order of pairs -/
def ltW (w u : Int × Int) : Bool := decide (w.1 < u.1 ∨ (w.1 = u.1 ∧ w.2 < u.2))
/-! sorted ints -/
def isI : List Int → List Int := isort fun a b => decide (a ≤ b)
theorem ins1_map {α β : Type} {le : α → α → Bool} {le' : β → β → Bool} {f : α → β} (h : ∀ a b, le' (f a) (f b) = le a b) (a : α) : ∀ l : List α, ins1 le' (f a) (l.map f) = (ins1 le a l).map f
  | [] => rfl
  | b :: l => by
    simp only [List.map_cons, ins1, h]
    split
    · rfl
    · rw [ins1_map h a l]; rfl
theorem isort_map {α β : Type} {le : α → α → Bool} {le' : β → β → Bool} {f : α → β} (h : ∀ a b, le' (f a) (f b) = le a b) : ∀ l : List α, isort le' (l.map f) = (isort le l).map f
  | [] => rfl
  | a :: l => by
    show ins1 le' (f a) (isort le' (l.map f)) = _
    rw [isort_map h l, ins1_map h]
    rfl
theorem ltW_data (w u : Int × Int) : dataLt (.tuple [.int w.1, .int w.2]) (.tuple [.int u.1, .int u.2]) = ltW w u := by
  have h1 : ∀ x y : Int, alike (.int x) (.int y) = true := fun _ _ => by simp [alike]
  rw [PySem.W.dataLt_pair (h1 _ _) (h1 _ _), PySem.W.dataLt_int, PySem.W.dataLt_int]
  obtain ⟨a, b⟩ := w
  obtain ⟨c, d⟩ := u
  unfold ltW
  by_cases e1 : a = c
  · subst e1
    by_cases e2 : b = d
    · subst e2; simp [PyData.eqv]
    · simp [PyData.eqv, e2]
  · simp [PyData.eqv, e1]
theorem okSort_ints (l : List Int) : okSort (l.map .int) = true := by
  unfold okSort
  rw [Bool.and_eq_true, Bool.or_eq_true]
  refine ⟨?_, .inr ?_⟩
  · simp [List.all_eq_true, alike]
  · simp [List.all_eq_true]
theorem zip_maps {α β γ : Type} (f : α → β) (g : α → γ) : ∀ l : List α, (l.map f).zip (l.map g) = l.map fun a => (f a, g a)
  | [] => rfl
  | a :: l => by simp [zip_maps f g l]
/-- sorted(xs) where the items' data are told -/
theorem bSorted_by {α : Type} {S : Sto} {x : PV} {l : List α} {g : α → PV} {d : α → PyData} {le : α → α → Bool} (hx : ∀ ys, x ≠ .tup ys) (h : lstOf S x = some (l.map g)) (hd : ∀ a, dOf S (g a) = some (d a)) (ok : okSort (l.map d) = true) (hl : l.length ≤ big)
    (hle : ∀ a b, (!dataLt (d b) (d a)) = le a b) : bSorted [x] S = some (.fl ((isort le l).map g), S) := by
  have e0 : bSorted [x] S = match lstOf S x with
    | some xs => match mapO (dOf S) xs with
      | some ds => if (okSort ds && decide (xs.length ≤ big)) = true then some (PV.fl ((isort leD (xs.zip ds)).map fun p : PV × PyData => p.1), S) else none
      | none => none
    | none => none := by
    cases x <;> first | rfl | exact absurd rfl (hx _)
  rw [e0, h]
  simp only
  rw [mapO_map (f := dOf S) (h := d) hd]
  simp only [ok, List.length_map, hl, decide_true, Bool.and_self, if_true]
  rw [zip_maps, isort_map (le := le)]
  · simp [Function.comp_def]
  · intro a b
    show dataLe false (fun p : PV × PyData => p.2) (g a, d a) (g b, d b) = _
    rw [PySem.W.dataLe_eq]
    exact hle a b
theorem bSorted_ints {S : Sto} {x : PV} {l : List Int} (hx : ∀ ys, x ≠ .tup ys) (h : lstOf S x = some (l.map PV.int)) (hl : l.length ≤ big) : bSorted [x] S = some (.fl ((isI l).map PV.int), S) :=
  bSorted_by hx h (fun a => rfl) (okSort_ints l) hl fun a b => by
    rw [PySem.W.dataLt_int, PySem.W.not_lt_int]
theorem bSorted_fl {S : Sto} {l : List Int} (hl : l.length ≤ big) : bSorted [.fl (l.map PV.int)] S = some (.fl ((isI l).map PV.int), S) := bSorted_ints (fun _ => nofun) rfl hl
end FL

/-! FLq: the text of data that is short; lists of ints that ascend. -/
namespace FL
open PySem L2
structure Brief (k : Nat) (d : PyData) : Prop where
  s : d.showable = true
  l : d.leavesShort 13 = true
  w : d.weight ≤ k
theorem log2_lt' {n k : Nat} (h : n < 2 ^ k) (hk : 0 < k) : n.log2 < k := by
  by_cases h0 : n = 0
  · rw [h0]; simpa using hk
  · exact (Nat.log2_lt h0).mpr h
theorem brief_int {i : Int} (h : i.natAbs < 1000000000000) : Brief 40 (.int i) := by
  have hl : i.natAbs.log2 < 40 := log2_lt' (by omega) (by decide)
  refine ⟨?_, ?_, ?_⟩
  · simp only [PyData.showable]
    exact decide_eq_true (by omega)
  · have e := PyData.shown_int_le (i := i) (by omega)
    simp only [PyData.leavesShort]
    exact decide_eq_true e
  · simp only [PyData.weight]
    split <;> omega
theorem brief_bool (b : Bool) : Brief 1 (.bool b) := ⟨by simp [PyData.showable], by simp [PyData.leavesShort], by simp [PyData.weight]⟩
theorem brief_none : Brief 1 .none := ⟨by simp [PyData.showable], by simp [PyData.leavesShort], by simp [PyData.weight]⟩
theorem brief_all {k : Nat} : ∀ {ds : List PyData}, (∀ d ∈ ds, Brief k d) → PyData.showableAll ds = true ∧ PyData.leavesShortAll 13 ds = true ∧ PyData.weightAll ds ≤ (k + 1) * ds.length
  | [], _ => ⟨rfl, rfl, by simp [PyData.weightAll]⟩
  | d :: ds, h => by
    obtain ⟨a, b, c⟩ := brief_all (ds := ds) fun d hd => h d (List.mem_cons_of_mem _ hd)
    have hd := h d (List.mem_cons_self ..)
    have hw := hd.w
    refine ⟨by simp [PyData.showableAll, hd.s, a], by simp [PyData.leavesShortAll, hd.l, b], ?_⟩
    have e : (k + 1) * (d :: ds).length = (k + 1) * ds.length + (k + 1) := by simp [Nat.mul_add]
    rw [e]
    simp only [PyData.weightAll]
    omega
theorem brief_list {k : Nat} {ds : List PyData} (h : ∀ d ∈ ds, Brief k d) : Brief ((k + 1) * ds.length) (.list ds) := by
  obtain ⟨a, b, c⟩ := brief_all h
  exact ⟨by simpa only [PyData.showable] using a, by simpa only [PyData.leavesShort] using b, by simpa only [PyData.weight] using c⟩
theorem brief_tup {k : Nat} {ds : List PyData} (h : ∀ d ∈ ds, Brief k d) : Brief ((k + 1) * ds.length) (.tuple ds) := by
  obtain ⟨a, b, c⟩ := brief_all h
  exact ⟨by simpa only [PyData.showable] using a, by simpa only [PyData.leavesShort] using b, by simpa only [PyData.weight] using c⟩
theorem Brief.mono {k k' : Nat} {d : PyData} (h : Brief k d) (e : k ≤ k') : Brief k' d := ⟨h.s, h.l, Nat.le_trans h.w e⟩
theorem repr_brief {S : Sto} {x : PV} {d : PyData} {k : Nat} (e : dOf S x = some d) (h : Brief k d) (hk : k ≤ 6000) : bRepr [x] S = some (.str d.shown, S) := by
  have q := PyData.shown_le 13 (by decide) d h.l
  have w := h.w
  have hl : d.shown.length ≤ big := by
    show _ ≤ 100000
    omega
  unfold bRepr
  simp only [e, h.s, hl, and_self, if_true]
/-- what a value without a store is as data, and how long its text may be -/
structure Sh (n k : Nat) (x : PV) (d : PyData) : Prop where
  data : ∀ (S : Sto) (j : Nat), n ≤ j → dataOf S j x = some d
  brief : Brief k d
theorem Sh.mono {n n' k k' : Nat} {x : PV} {d : PyData} (h : Sh n k x d) (hn : n ≤ n') (hk : k ≤ k') : Sh n' k' x d := ⟨fun S j e => h.data S j (by omega), h.brief.mono hk⟩
theorem Sh.repr {n k : Nat} {x : PV} {d : PyData} (h : Sh n k x d) (hn : n ≤ 40) (hk : k ≤ 6000) (S : Sto) : bRepr [x] S = some (.str d.shown, S) := repr_brief (h.data S 40 hn) h.brief hk
theorem sh_int {i : Int} (h : i.natAbs < 1000000000000) : Sh 1 40 (.int i) (.int i) := ⟨fun S j e => by cases j with
  | zero => omega
  | succ j => rfl, brief_int h⟩
theorem sh_bool (b : Bool) : Sh 1 1 (.bl b) (.bool b) := ⟨fun S j e => by cases j with
  | zero => omega
  | succ j => rfl, brief_bool b⟩
theorem sh_non : Sh 1 1 .non .none := ⟨fun S j e => by cases j with
  | zero => omega
  | succ j => rfl, brief_none⟩
theorem mapO_all {α β : Type} {f : α → Option β} {g : α → β} : ∀ {l : List α}, (∀ a ∈ l, f a = some (g a)) → mapO f l = some (l.map g)
  | [], _ => rfl
  | a :: l, h => by
    simp only [mapO, h a (List.mem_cons_self ..), mapO_all (l := l) fun b hb => h b (List.mem_cons_of_mem _ hb), List.map_cons]
theorem brief_map {α : Type} {k : Nat} {l : List α} {d : α → PyData} (h : ∀ a ∈ l, Brief k (d a)) : ∀ e ∈ l.map d, Brief k e := fun e he => by
  obtain ⟨a, ha, rfl⟩ := List.mem_map.mp he
  exact h a ha
theorem sh_tup {α : Type} {n k : Nat} {l : List α} {g : α → PV} {d : α → PyData} (h : ∀ a ∈ l, Sh n k (g a) (d a)) : Sh (n + 1) ((k + 1) * l.length) (.tup (l.map g)) (.tuple (l.map d)) := ⟨fun S j e => by
  cases j with
  | zero => omega
  | succ j =>
    show (mapO (dataOf S j) (l.map g)).map PyData.tuple = _
    have q : mapO (dataOf S j) (l.map g) = some (l.map d) := by
      have e : n ≤ j := by omega
      induction l with
      | nil => rfl
      | cons a l ih =>
        simp only [List.map_cons, mapO, (h a (List.mem_cons_self ..)).data S j e, ih fun b hb => h b (List.mem_cons_of_mem _ hb)]
    rw [q]
    rfl, by
  have := brief_tup (brief_map fun a ha => (h a ha).brief)
  rwa [List.length_map] at this⟩
theorem sh_fl {α : Type} {n k : Nat} {l : List α} {g : α → PV} {d : α → PyData} (h : ∀ a ∈ l, Sh n k (g a) (d a)) : Sh (n + 1) ((k + 1) * l.length) (.fl (l.map g)) (.list (l.map d)) := ⟨fun S j e => by
  cases j with
  | zero => omega
  | succ j =>
    show (mapO (dataOf S j) (l.map g)).map PyData.list = _
    have q : mapO (dataOf S j) (l.map g) = some (l.map d) := by
      have e : n ≤ j := by omega
      induction l with
      | nil => rfl
      | cons a l ih =>
        simp only [List.map_cons, mapO, (h a (List.mem_cons_self ..)).data S j e, ih fun b hb => h b (List.mem_cons_of_mem _ hb)]
    rw [q]
    rfl, by
  have := brief_list (brief_map fun a ha => (h a ha).brief)
  rwa [List.length_map] at this⟩
/-- rows of any values -/
inductive Shs (n k : Nat) : List PV → List PyData → Prop
  | nil : Shs n k [] []
  | cons {x : PV} {xs : List PV} {d : PyData} {ds : List PyData} : Sh n k x d → Shs n k xs ds → Shs n k (x :: xs) (d :: ds)
theorem Shs.data {n k : Nat} {xs : List PV} {ds : List PyData} (h : Shs n k xs ds) (S : Sto) (j : Nat) (e : n ≤ j) : mapO (dataOf S j) xs = some ds := by
  induction h with
  | nil => rfl
  | cons a _ ih => simp only [mapO, a.data S j e, ih]
theorem Shs.brief {n k : Nat} {xs : List PV} {ds : List PyData} (h : Shs n k xs ds) : ∀ d ∈ ds, Brief k d := by
  induction h with
  | nil => simp
  | cons a _ ih =>
    intro d hd
    rcases List.mem_cons.mp hd with rfl | hd
    · exact a.brief
    · exact ih d hd
theorem Shs.len {n k : Nat} {xs : List PV} {ds : List PyData} (h : Shs n k xs ds) : ds.length = xs.length := by
  induction h with
  | nil => rfl
  | cons _ _ ih => simp [ih]
theorem Shs.fl {n k : Nat} {xs : List PV} {ds : List PyData} (h : Shs n k xs ds) : Sh (n + 1) ((k + 1) * xs.length) (.fl xs) (.list ds) := ⟨fun S j e => by
  cases j with
  | zero => omega
  | succ j =>
    show (mapO (dataOf S j) xs).map PyData.list = _
    rw [h.data S j (by omega)]
    rfl, by rw [← h.len]; exact brief_list h.brief⟩
theorem Shs.tup {n k : Nat} {xs : List PV} {ds : List PyData} (h : Shs n k xs ds) : Sh (n + 1) ((k + 1) * xs.length) (.tup xs) (.tuple ds) := ⟨fun S j e => by
  cases j with
  | zero => omega
  | succ j =>
    show (mapO (dataOf S j) xs).map PyData.tuple = _
    rw [h.data S j (by omega)]
    rfl, by rw [← h.len]; exact brief_tup h.brief⟩
theorem sh_tI {l : List Int} (h : ∀ x ∈ l, x.natAbs < 1000000000000) : Sh 2 (41 * l.length) (tI l) (.tuple (l.map .int)) := sh_tup fun x hx => sh_int (h x hx)
@[simp] theorem pNe_str (S : Sto) (x : Str) : pNe (.str x) (.str x) S = some (.bl false, S) := by
  show (some (PV.bl (!PyData.eqv (.str x) (.str x)), S) : OP) = _
  rw [PyData.eqv]
  simp
/-- a list that ascends -/
abbrev Asc (l : List Int) : Prop := l.Pairwise (· < ·)
theorem mem_isI {x : Int} : ∀ {l : List Int}, x ∈ isI l ↔ x ∈ l
  | [] => by simp [isI, isort]
  | a :: l => by
    show x ∈ ins1 _ a (isI l) ↔ _
    rw [mem_ins1, mem_isI, List.mem_cons]
theorem leI_total : PySem.W.TotalLe fun a b : Int => decide (a ≤ b) where
  total a b := by simp; omega
  trans a b c h1 h2 := by simp at *; omega
theorem isI_perm : ∀ l : List Int, (isI l).Perm l
  | [] => .nil
  | a :: l => by
    have h : ∀ (a : Int) (l : List Int), (ins1 (fun a b : Int => decide (a ≤ b)) a l).Perm (a :: l) := by
      intro a l
      induction l with
      | nil => exact .refl _
      | cons b l ih =>
        unfold ins1
        split
        · exact .refl _
        · exact (List.Perm.cons b ih).trans (List.Perm.swap a b l)
    exact (h a _).trans ((isI_perm l).cons a)
theorem isI_asc {l : List Int} (h : l.Nodup) : Asc (isI l) := by
  have s : (isI l).Pairwise fun x y => decide (x ≤ y) = true := by
    clear h
    induction l with
    | nil => exact .nil
    | cons a l ih => exact ins1_sorted leI_total ih
  have n : (isI l).Nodup := (isI_perm l).nodup_iff.mpr h
  refine List.Pairwise.imp₂ (fun a b h1 h2 => ?_) s n
  simp at h1
  omega
theorem asc_nodup {l : List Int} (h : Asc l) : l.Nodup := h.imp fun h => by omega
theorem asc_ext : ∀ {l m : List Int}, Asc l → Asc m → (∀ x, x ∈ l ↔ x ∈ m) → l = m
  | [], [], _, _, _ => rfl
  | [], b :: m, _, _, h => absurd ((h b).mpr (List.mem_cons_self ..)) (by simp)
  | a :: l, [], _, _, h => absurd ((h a).mp (List.mem_cons_self ..)) (by simp)
  | a :: l, b :: m, h1, h2, h => by
    obtain ⟨p1, q1⟩ := List.pairwise_cons.mp h1
    obtain ⟨p2, q2⟩ := List.pairwise_cons.mp h2
    have e : a = b := by
      rcases List.mem_cons.mp ((h a).mp (List.mem_cons_self ..)) with e | e
      · exact e
      · rcases List.mem_cons.mp ((h b).mpr (List.mem_cons_self ..)) with e' | e'
        · exact e'.symm
        · have := p2 a e
          have := p1 b e'
          omega
    subst e
    rw [asc_ext q1 q2 fun x => ?_]
    have hx := h x
    rw [List.mem_cons, List.mem_cons] at hx
    constructor
    · intro hm
      rcases hx.mp (.inr hm) with e | e
      · have := p1 x hm; omega
      · exact e
    · intro hm
      rcases hx.mpr (.inr hm) with e | e
      · have := p2 x hm; omega
      · exact e
theorem isI_self {l : List Int} (h : Asc l) : isI l = l := asc_ext (isI_asc (asc_nodup h)) h fun _ => mem_isI
theorem asc_len {n : Int} : ∀ {l : List Int} {lo : Int}, Asc l → (∀ x ∈ l, lo ≤ x ∧ x < n) → l.length ≤ (n - lo).toNat
  | [], _, _, _ => Nat.zero_le _
  | a :: l, lo, h, b => by
    obtain ⟨p, q⟩ := List.pairwise_cons.mp h
    have ha := b a (List.mem_cons_self ..)
    have ih := asc_len (lo := a + 1) q fun x hx => by
      have h1 := p x hx
      have h2 := b x (List.mem_cons_of_mem _ hx)
      exact ⟨by omega, h2.2⟩
    have := b a (List.mem_cons_self ..)
    simp only [List.length_cons]
    omega
end FL

/-! FLs: a def that calls itself; xs turned round by a slice. -/
namespace FL
open PySem PySem.Spec L2 HT PyProof.Rows
/-- what is stuck promises nothing -/
theorem fn_stk {P : Program} {w : World} {K : PySem.W.Frag} {mg : Str → Option Value} {base : Heap} {k : Nat} {f : Addr} {fd : FuncData} {ps : List Str} : FnOk P w K mg base (L2.CX P w) k f fd ps (spF K mg ps.length fun _ _ => .stk) :=
  ⟨fun vs H Q E h => h.1, fun A outer s H args us vs Q E hr e0 hb r h => by
    obtain ⟨_, xs, S, μ, _, _, h⟩ := h
    exact h.elim⟩
section
variable {prog : Program} {w : World} {A : Around} {E : Value → Shared → Prop} {s : Shared}
theorem adjust_rev (n : Nat) : Builtin.Slice.sliceAdjust none none (-1) (n : Int) = ((n : Int) - 1, -1) := rfl
theorem places_rev (n : Nat) : Builtin.Slice.slicePlaces ((n : Int) - 1) (-1) (-1) = n := by
  unfold Builtin.Slice.slicePlaces
  have h1 : ¬ ((-1 : Int) > 0) := by decide
  rw [if_neg h1]
  by_cases h : (n : Int) - 1 > -1
  · rw [if_pos h, show (-(-1) : Int) = 1 by decide, Int.ediv_one]
    omega
  · rw [if_neg h]
    omega
theorem pick_rev (xs : Array Value) : ((List.range xs.size).filterMap fun (m : Nat) => xs[(((xs.size : Int) - 1) + (m : Int) * (-1)).toNat]?) = xs.toList.reverse := by
  have go : ∀ k, k ≤ xs.size → ((List.range k).filterMap fun (m : Nat) => xs[(((xs.size : Int) - 1) + (m : Int) * (-1)).toNat]?) = xs.toList.reverse.take k := by
    intro k
    induction k with
    | zero => intro _; rfl
    | succ k ih =>
      intro hk
      have hi : xs.size - 1 - k < xs.size := by omega
      have e : (((xs.size : Int) - 1) + (k : Int) * (-1)).toNat = xs.size - 1 - k := by omega
      rw [List.range_succ, List.filterMap_append, ih (by omega), List.take_add_one]
      congr 1
      rw [List.filterMap_cons, e, Array.getElem?_eq_getElem hi]
      have hr : k < xs.toList.reverse.length := by rw [List.length_reverse, Array.length_toList]; omega
      rw [List.getElem?_eq_getElem hr, List.getElem_reverse]
      simp
  have q := go xs.size (Nat.le_refl _)
  rw [q, List.take_of_length_le (by simp)]
theorem sliceApplied_rev {sl : Addr} {vs : Value} {n : Nat} {Q : Int × Int × Nat → Shared → Prop} (hs : s.heap.IsSliceOf sl .none .none vs) (p : IsPart vs (some (-1)))
    (h : Q ((n : Int) - 1, -1, n) s) : wpAny (model prog w) A (Builtin.Slice.sliceApplied (.ref sl) (pure (n : Int))) Q E s := by
  obtain ⟨os, hos, hcs, hds⟩ := id hs
  unfold Builtin.Slice.sliceApplied Builtin.Slice.sliceFields
  refine wpAny_bind (wpAny_bind (wpAny_field hos hds (x := .none) rfl (wpAny_bind (wpAny_field hos hds (x := .none) rfl (wpAny_bind (wpAny_field hos hds (x := vs) rfl (wpAny_pure ?_)))))))
  refine wpAny_bind (slicePart_ p ?_)
  show wpAny _ _ (if ((-1 : Int) == 0) = true then _ else _) _ _ s
  rw [if_neg (by decide)]
  refine wpAny_bind (slicePart_none (wpAny_bind (slicePart_none (wpAny_bind (wpAny_pure ?_)))))
  show wpAny _ _ (match Builtin.Slice.sliceAdjust none none (-1) (n : Int) with | (lo, hi) => pure (lo, (-1 : Int), Builtin.Slice.slicePlaces lo hi (-1))) _ _ s
  rw [adjust_rev]
  show wpAny _ _ (pure ((n : Int) - 1, (-1 : Int), Builtin.Slice.slicePlaces ((n : Int) - 1) (-1) (-1))) _ _ s
  rw [places_rev]
  exact wpAny_pure h
theorem getItem_tuple_rev {t sl : Addr} {items : Array Value} {vs : Value} {Q : Value → Shared → Prop} (ht : IsTup s.heap t items) (hs : s.heap.IsSliceOf sl .none .none vs) (p : IsPart vs (some (-1)))
    (h : Q (.ref s.heap.objs.size) { s with heap := s.heap.push { cls := .type "tuple", data := .seq items.toList.reverse.toArray } })
    (hsz : items.size ≤ sizeLine) : wpAny (model prog w) A (getItem (.ref t) (.ref sl)) Q E s := by
  have htake : sizeOk (.seq items.toList.reverse.toArray) := by
    show items.toList.reverse.toArray.size ≤ sizeLine
    rw [List.size_toArray, List.length_reverse, Array.length_toList]
    exact hsz
  obtain ⟨os, hos, hcs, hds⟩ := id hs
  have hTs : s.TypeIs (.ref sl) "slice" := ⟨os, hos, hcs⟩
  unfold getItem
  try with_reducible refine wpAny_holding ?_
  first | refine wpAny_bind (wpAny_pure ?_) | skip
  refine wpAny_bind (wpAny_sequenceKey ht.typeIs (by decide) ?_)
  refine wpAny_bind (wpAny_callSpecial?_slot (name := Str.ofString "__getitem__") ht.typeIs PyProof.Rows.slot_tuple_getitem
    (wpAny_call_entry PyProof.Rows.slot_tuple_getitem ht.typeIs entry_tuple_getitem ?_ (args_tuple_getitem _ _)))
  show wpAny _ _ (Builtin.Tuple.tupleItemsOf (.ref t) >>= _) _ _ s
  refine wpAny_bind (tupleItemsOf_ ht ?_)
  refine wpAny_bind (wpAny_typeOf hTs ?_)
  rw [if_pos (by decide)]
  refine wpAny_bind (sliceApplied_rev hs p ?_)
  have hno : ¬ (((items.size : Int) - 1 == 0 && (-1 : Int) == 1 && items.size == items.size) = true) := by
    intro q
    rw [Bool.and_eq_true, Bool.and_eq_true] at q
    exact absurd q.1.2 (by decide)
  show wpAny _ _ (if ((items.size : Int) - 1 == 0 && (-1 : Int) == 1 && items.size == items.size) = true then _ else _) _ _ s
  rw [if_neg hno, pick_rev]
  first
    | exact wpAny_bind (m := Builtin.Tuple.tupleExact _) (wpAny_newObj_type (wpAny_pure ⟨_, rfl, wpAny_pure h⟩) htake)
    | exact wpAny_bind (m := Builtin.Tuple.tupleExact _) (wpAny_newObj_type (wpAny_bind (wpAny_pure (wpAny_pure ⟨_, rfl, wpAny_pure h⟩))) htake)
    | exact wpAny_bind (wpAny_bind (m := Builtin.Tuple.tupleExact _) (wpAny_newObj_type (wpAny_pure (wpAny_pure ⟨_, rfl, wpAny_pure h⟩)) htake))
    | exact wpAny_bind (wpAny_bind (m := Builtin.Tuple.tupleExact _) (wpAny_newObj_type (wpAny_pure ⟨_, rfl, wpAny_pure h⟩) htake))
end
def tRevT (K : PySem.W.Frag) (te : TE) : TE := fun σ H Q => te σ H fun x H1 => ∃ a xs, x = .ref a ∧ SqT K H1 a xs ∧ ∀ p, H1 p = none → Q (.ref p) (upd H1 p (.tup xs.reverse))
section
variable {X : Cx} {W : WX}
theorem pe_revT {e : Expr} {te : TE} {k : Nat} {p1 p2 p3 pos : Pos} (he : PE X e te) : PE X (.Subscript e (.Slice none none (some (.UnaryOp .USub (.Constant (.int 1) k p1) p2)) p3) pos) (tRevT X.K te) := by
  refine ⟨fun pins s σ H Q I h => ?_⟩
  refine Subscript_ (thn (he.run pins s σ H _ I h) fun v s1 ⟨x, H1, I1, r1, q1⟩ => ?_)
  obtain ⟨a, xs, ex, hx, q⟩ := q1
  subst ex
  cases r1
  have hst : PO X (some (.UnaryOp .USub (.Constant (.int 1) k p1) p2)) (tPart (tUn (rU fun i => .int (-i)) (tC (.int 1)))) := po_some (pe_un un_neg pe_int)
  refine wpAny_Slice (thn (po_none.run pins s1 σ H1 (fun o H2 => o = none ∧ H2 = H1) I1 ⟨rfl, rfl⟩) fun vl s2 ⟨l, H2, I2, pl, el, e2⟩ => ?_)
  subst el e2
  refine thn (po_none.run pins s2 σ H2 (fun o H3 => o = none ∧ H3 = H2) I2 ⟨rfl, rfl⟩) fun vu s3 ⟨u, H3, I3, pu, eu, e3⟩ => ?_
  subst eu e3
  refine thn (hst.run pins s3 σ H3 (fun o H4 => o = some (-1) ∧ H4 = H3) I3 ⟨1, rfl, -1, rfl, rfl, rfl⟩) fun vs s4 ⟨o, H4, I4, ps, eo, e4⟩ => ?_
  subst eo e4
  cases pl
  cases pu
  have I5 : Inv X pins σ H4 { s4 with heap := s4.heap.push { cls := .type "slice", data := .fields #[.none, .none, vs] } } := I4.kept (t' := s4.toks) fun b ob q => Heap.get?_push_of_some _ q
  obtain ⟨its, r, ht, hz⟩ := I5.tuple hx
  have hlen := r.length
  show wpAny (model X.prog X.w) X.A (subscriptTail e (.Slice none none (some (.UnaryOp .USub (.Constant (.int 1) k p1) p2)) p3) (.ref a) (.ref s4.heap.objs.size)) (EP X pins σ Q) X.xe { s4 with heap := s4.heap.push { cls := .type "slice", data := .fields #[.none, .none, vs] } }
  refine tail_any (ops := [.ref a, .ref s4.heap.objs.size]) ht.typeIs PyProof.Rows.slot_tuple_getitem.lookup ?_ (by with_unfolding_all rfl)
  refine getItem_tuple_rev ht (Heap.IsSliceOf.new _ .none .none vs) ps ?_ (by rw [List.size_toArray]; omega)
  exact ⟨.ref _, _, I5.laid (t' := s4.toks) (o := .tup xs.reverse) (fun b ob q => Heap.get?_push_of_some _ q) (Nat.le_refl _) ⟨by rw [List.length_reverse]; exact hz, _, r.reverse, IsTup.new _ _⟩, rfl, q _ (I5.hok.fresh (Nat.le_refl _))⟩
theorem VRs.reverse {K : PySem.W.Frag} {mg : Str → Option Value} {μ : List Addr} {H : Hp} : ∀ {xs : List PV} {vs : List V}, VRs K mg μ H xs vs → VRs K mg μ H xs.reverse vs.reverse
  | [], _, h => by cases h; exact .nil
  | x :: xs, _, h => by
    cases h with
    | cons p q =>
      rw [List.reverse_cons, List.reverse_cons]
      exact q.reverse.app (.cons p .nil)
/-- a tuple turned round -/
def pRevS : PV → Sto → OP := fun x S => match x with
  | .tup xs => some (.tup xs.reverse, S)
  | _ => none
theorem fe_rev {e : Expr} {da : En → Sto → Res PV} {k : Nat} {p1 p2 p3 pos : Pos} (he : FE X W e da) : FE X W (.Subscript e (.Slice none none (some (.UnaryOp .USub (.Constant (.int 1) k p1) p2)) p3) pos) (eUn pRevS da) := by
  refine PE_imp (pe_revT he) fun σ H Q h => ?_
  obtain ⟨ρ, S, μ, er, sr, h⟩ := h
  refine tG_bind er sr h fun x v S1 μ1 H1 st1 sr1 r1 er1 h1 => ?_
  cases r1 with
  | @tup a xs vs hq ha => exact ⟨a, vs, rfl, hq, fun p hp => h1 μ1 _ _ (Stp.fresh hp) (sr1.fresh hp) (.tup (.of upd_same) (VRs.mono sr1 (Stp.fresh hp) _ _ ha.reverse))⟩
  | _ => exact h1.elim
end
end FL

/-! FLt: sorted(set(xs)), xs a list of ints. -/
namespace FL
open PySem PySem.Spec L2 PyProof.Rows
open PySem.W (TotalLe)
abbrev nS (w : World) : Obj := { cls := .type "set", dict := none, data := .set #[] 0 (.fresh 0 0 (!w.params.followText "set-order")) }
section
variable {P : Program} {w : World} {A : Around} {E : Value → Shared → Prop} {s : Shared}
/-- what set.__init__ leaves -/
abbrev Filled (w : World) (s : Shared) (ns : List Int) (s₂ : Shared) : Prop := ∃ h' tk c, s₂ = { s with heap := h', toks := tk } ∧ SetR w h' s.heap.objs.size (fun j => decide (j ∈ ns)) c ∧ c ≤ ns.length ∧ ∀ b o, s.heap.get? b = some o → h'.get? b = some o
set_option maxHeartbeats 3200000 in
theorem set_fill {l : Addr} {items : Array Value} {ns : List Int} (hA : A.handled = none) (hl : s.heap.IsList l items) (hit : IntsAre items.toList ns) (hb : ns.length + 1 < scanBound) :
    codeAny (model P w) A (.call (.builtin "set.__init__") ⟨[.ref s.heap.objs.size, .ref l], []⟩) (wants (fun r s₂ => r = .none ∧ Filled w s ns s₂) E) { s with heap := s.heap.push (nS w) } := by
  have new : (s.heap.push (nS w)).get? s.heap.objs.size = some (nS w) := Heap.get?_push_size _ rfl
  have isT : Shared.TypeIs { s with heap := s.heap.push (nS w) } (.ref s.heap.objs.size) "set" := ⟨_, new, rfl⟩
  have isz : items.size = ns.length := (Array.length_toList (xs := items)).symm.trans (IntsAre.length hit)
  refine codeAny_call_builtin F.called_set.init.plain F.entry_set_init (check_set_init_1 isT ?_)
  obtain ⟨⟨ocls, odict, odata, oslots⟩, hol, hcl, nl, hdl⟩ := hl
  simp only at hcl hdl
  subst hcl hdl
  have old : (s.heap.push (nS w)).get? l = some { cls := .type "list", dict := odict, data := .seq items nl, slots := oslots } := Heap.get?_push_of_some _ hol
  have n1 := F.sub_list_set
  have n2 := F.sub_list_frozenset
  have n3 : (Value.type "list" == Value.type "dict") = false := by decide
  have onl : (s.heap.push (nS w)).IsList l items := ⟨_, old, rfl, nl, rfl⟩
  unfold Builtin.«set.__init__» noKeywords Builtin.Frozenset.updateFrom
  generalize hPI : pyIter = PI
  wp_walk
  subst hPI
  refine wpAny_pyIter_list onl (wpAny_bind (wpAny_runValue ?_))
  have lt : l < s.heap.objs.size := Heap.lt_size hol
  have hA3 : A.in1.in1.handled = none := by simp [hA]
  have sz : (s.heap.push (nS w)).objs.size = s.heap.objs.size + 1 := Heap.size_push ..
  have neI : l ≠ (s.heap.push (nS w)).objs.size := by rw [sz]; exact Nat.ne_of_lt (Nat.lt_succ_of_lt lt)
  have out : s.heap.objs.size ∉ [(s.heap.push (nS w)).objs.size, l] := by
    rw [sz]
    intro z
    rcases List.mem_cons.mp z with z | z
    · exact Nat.ne_of_lt (Nat.lt_succ_self _) z
    · exact Nat.ne_of_gt lt (List.mem_singleton.mp z)
  have val : ∀ (i : Nat) (v : Value), items[i]? = some v → ∃ k t, ns[i]? = some k ∧ v = .int k t := by
    intro i v hv
    have hi : i < ns.length := isz ▸ (Array.getElem?_eq_some_iff.mp hv).1
    obtain ⟨t, e⟩ := PyProof.Rows.IntsAre.int_at hit i v ((Array.getElem?_toList).trans hv)
    refine ⟨ns[i], t, List.getElem?_eq_getElem hi, e.trans ?_⟩
    rw [List.getD_eq_getElem?_getD, List.getElem?_eq_getElem hi]
    rfl
  have first : ((s.heap.push (nS w)).push { cls := .type "list_iterator", data := .fields #[.ref l, .int 0 0] }).get? s.heap.objs.size = some (nS w) := Heap.get?_push_of_some _ new
  refine set_update_ints ((Walks.list hA3 _ l neI items).toS) s.heap.objs.size out ns isz hb val (items.size - 0) 0 _ (by omega) (Nat.zero_le _) ?zs ?z0 ?z1
  · exact ⟨⟨_, Heap.get?_push_size _ rfl, rfl, rfl⟩, onl.push _⟩
  · exact ⟨0, Nat.le_refl 0, setR_new_at (w := w) first⟩
  intro s' c' hm hc' hS'
  obtain ⟨h', g2, d', tk', os'⟩ := s'
  obtain rfl : g2 = s.gens := hm.gens
  obtain rfl : d' = s.drawn := hm.drawn
  obtain rfl : os' = s.os := hm.os
  refine wpAny_pure (wpAny_pure ⟨rfl, h', tk', c', rfl, hS', isz ▸ hc', fun b o e => ?_⟩)
  have hb0 : b < s.heap.objs.size := Heap.lt_size e
  refine hm.heap b o ?_ (Heap.get?_push_of_some _ (Heap.get?_push_of_some _ e))
  rw [sz]
  intro z
  rcases List.mem_cons.mp z with z | z
  · exact Nat.ne_of_lt hb0 z
  · exact Nat.ne_of_lt (Nat.lt_succ_of_lt hb0) (List.mem_singleton.mp z)
set_option maxHeartbeats 3200000 in
/-- set(xs) of a list of ints -/
theorem set_list {l : Addr} {items : Array Value} {ns : List Int} {Q : Value → Shared → Prop} (hA : A.handled = none) (hl : s.heap.IsList l items) (hit : IntsAre items.toList ns) (hb : ns.length + 1 < scanBound)
    (h : ∀ s₂, Filled w s ns s₂ → Q (.ref s.heap.objs.size) s₂) : wpAny (model P w) A (call (.type "set") [.ref l]) Q E s := by
  obtain ⟨c, tl, hmro⟩ := F.called_set.mro
  have m1 := F.called_set.made
  have m2 := F.called_set.sub
  refine wpAny_call (codeAny_of_tree (show wpAny _ _ (callAny (.type "set") _) _ _ _ from ?_))
  refine wpAny_pure ⟨Code.quiet_builtin _ (by decide +kernel), codeAny_builtin F.entry_type_call ?_⟩
  rw [Around.under_plain (weight_type_call_type "set" [.ref l] []) rfl]
  have m3 := F.called_set.notType
  have m4 := F.called_set.canCreate
  have m5 := F.typeCall_set_1 (.ref l)
  repeat (any_goals (first | assumption | wp_step))
  refine codeAny_mono (code_set_led1 (.ref l) (E := E) (Q₁ := fun obj s₁ => obj = .ref s.heap.objs.size ∧ s₁ = { s with heap := s.heap.push (nS w) }) ⟨rfl, rfl⟩) fun r s₁ hr => ?_
  match r, hr with
  | .error e, hr => exact hr
  | .ok (.ret obj), hr =>
    obtain ⟨rfl, rfl⟩ := hr
    have new : (s.heap.push (nS w)).get? s.heap.objs.size = some (nS w) := Heap.get?_push_size _ rfl
    have isT : Shared.TypeIs { s with heap := s.heap.push (nS w) } (.ref s.heap.objs.size) "set" := ⟨_, new, rfl⟩
    have m6 := F.called_set.init.lookup
    have m7 := F.called_set.init.bind (.ref s.heap.objs.size)
    repeat (any_goals (first | assumption | wp_step))
    refine codeAny_mono (set_fill (E := E) ?_ hl hit hb) fun r₂ s₂ hr₂ => ?_
    · simp [hA]
    match r₂, hr₂ with
    | .error e, hr₂ => exact hr₂
    | .ok (.ret r), hr₂ =>
      obtain ⟨rfl, hf⟩ := hr₂
      have hq := h s₂ hf
      repeat (any_goals (first | assumption | wp_step))
    | .ok .next, hr₂ => exact hr₂.elim
    | .ok .brk, hr₂ => exact hr₂.elim
    | .ok .cont, hr₂ => exact hr₂.elim
  | .ok .next, hr => exact hr.elim
  | .ok .brk, hr => exact hr.elim
  | .ok .cont, hr => exact hr.elim
end
/-- set(xs) of a list of ints, as a call -/
def rSetI (K : PySem.W.Frag) (w : World) : List V → Hp → VK → Prop := fun xs H Q => ∃ (l : Addr) (ns : List Int), xs = [V.ref l] ∧ SqL K H l (ns.map V.int) ∧ ns.length + 1 < scanBound ∧
  ∀ (p : Addr) (c : Nat), H p = none → c ≤ ns.length → Q (.ref p) (upd H p (SetO w p (fun j => decide (j ∈ ns)) c))
section
variable {X : Cx} {W : WX}
theorem cr_setI (hc : X.calm = true) : CallR X (.type "set") (rSetI X.K X.w) := by
  intro pins s σ H xs us Q I r h
  obtain ⟨l, ns, rfl, hl, hb, q⟩ := h
  rw [Vals.ref1 r]
  obtain ⟨its, rv, pl, hz⟩ := I.list hl
  refine set_list (ns := ns) (I.ok.hd hc) pl.isList (by simpa using intsAre_of rv) hb fun s₂ ⟨h', tk, c, e, R, hn, k⟩ => ?_
  subst e
  exact ⟨.ref s.heap.objs.size, upd H s.heap.objs.size (SetO X.w s.heap.objs.size (fun j => decide (j ∈ ns)) c), I.laid (t' := tk) k (Nat.le_refl _) (setO_new R), rfl, q _ c (I.hok.fresh (Nat.le_refl _)) hn⟩
def dedupI : List Int → List Int
  | [] => []
  | a :: l => if a ∈ l then dedupI l else a :: dedupI l
theorem mem_dedupI {x : Int} : ∀ {l : List Int}, x ∈ dedupI l ↔ x ∈ l
  | [] => Iff.rfl
  | a :: l => by
    unfold dedupI
    split
    · rename_i h
      rw [mem_dedupI, List.mem_cons]
      exact ⟨.inr, fun q => q.elim (fun e => e ▸ h) id⟩
    · rw [List.mem_cons, List.mem_cons, mem_dedupI]
theorem dedupI_nodup : ∀ l : List Int, (dedupI l).Nodup
  | [] => .nil
  | a :: l => by
    unfold dedupI
    split
    · exact dedupI_nodup l
    · rename_i h
      exact List.nodup_cons.mpr ⟨fun q => h (mem_dedupI.mp q), dedupI_nodup l⟩
/-- the members, ascending -/
def usort (l : List Int) : List Int := isI (dedupI l)
theorem usort_asc (l : List Int) : Asc (usort l) := isI_asc (dedupI_nodup l)
theorem mem_usort {x : Int} {l : List Int} : x ∈ usort l ↔ x ∈ l := mem_isI.trans mem_dedupI
theorem dedupI_len : ∀ l : List Int, (dedupI l).length ≤ l.length
  | [] => Nat.le_refl _
  | a :: l => by
    unfold dedupI
    have := dedupI_len l
    split
    · simp; omega
    · simp; omega
theorem usort_len (l : List Int) : (usort l).length ≤ l.length := by
  have := (isI_perm (dedupI l)).length_eq
  have := dedupI_len l
  unfold usort
  omega
def intsOf : List PV → Option (List Int) := mapO fun x => match x with
  | .int i => some i
  | _ => none
theorem ints_vals {K : PySem.W.Frag} {mg : Str → Option Value} {μ : List Addr} {H : Hp} : ∀ {xs : List PV} {vs : List V} {ns : List Int}, VRs K mg μ H xs vs → intsOf xs = some ns → vs = ns.map V.int
  | [], _, _, h, e => by cases h; cases e; rfl
  | x :: xs, _, ns, h, e => by
    cases h with
    | cons h1 h2 =>
      unfold intsOf mapO at e
      cases x with
      | int i =>
        cases q : mapO (fun x => match x with
          | PV.int i => some i
          | _ => none) xs with
        | none => simp only [q] at e; cases e
        | some ms =>
          simp only [q] at e
          cases e
          rw [h1.inv_int, ints_vals h2 q]
          rfl
      | _ => simp at e
theorem vals_ints {K : PySem.W.Frag} {mg : Str → Option Value} {μ : List Addr} {H : Hp} : ∀ ns : List Int, VRs K mg μ H (ns.map PV.int) (ns.map V.int)
  | [] => .nil
  | n :: ns => .cons (.int n) (vals_ints ns)
theorem intsOf_map (ns : List Int) : intsOf (ns.map PV.int) = some ns := by
  unfold intsOf
  rw [mapO_map (h := id)]
  · simp
  · intro a; rfl
/-- sorted(set(xs)) -/
def bSortSet : List PV → Sto → OP
  | [.tup _], _ => none
  | [x], S => match lstOf S x with
    | some xs => match intsOf xs with
      | some ns => if ns.length < 60 then some (.fl ((usort ns).map PV.int), S) else none
      | none => none
    | none => none
  | _, _ => none
theorem bSortSet_ints {S : Sto} {n : Nat} {l : List Int} (h : S[n]? = some (.lst (l.map PV.int))) (hl : l.length < 60) : bSortSet [.ref n] S = some (.fl ((usort l).map PV.int), S) := by
  have e1 : lstOf S (.ref n) = some (l.map PV.int) := by simp only [lstOf, h]
  simp only [bSortSet, e1, intsOf_map, hl, if_true]
theorem seq_at {H : Hp} {S : Sto} {μ : List Addr} {x : PV} {v : V} {xs : List PV} (sr : SR X.K X.mg μ S H) (hx : VR X.K X.mg μ H x v) (e : lstOf S x = some xs) :
    ∃ p vs, v = .ref p ∧ (SqL X.K H p vs ∨ SqT X.K H p vs) ∧ VRs X.K X.mg μ H xs vs ∧ ((∃ ys, x = PV.tup ys) → SqT X.K H p vs) ∧ ((∀ ys, x ≠ PV.tup ys) → SqL X.K H p vs) := by
  unfold lstOf at e
  split at e
  · cases e
    cases hx with
    | tup hs ha => exact ⟨_, _, rfl, .inr hs, ha, fun _ => hs, fun h => absurd rfl (h _)⟩
  · cases e
    cases hx with
    | kl hs ha => exact ⟨_, _, rfl, .inl hs.sq, ha, fun ⟨_, h⟩ => (by cases h), fun _ => hs.sq⟩
  · cases e
    cases hx with
    | fl hs hn ha => exact ⟨_, _, rfl, .inl (.of hs), ha, fun ⟨_, h⟩ => (by cases h), fun _ => .of hs⟩
  · split at e
    · rename_i e1
      cases e
      cases hx with
      | ref hn =>
        cases sr.at_ _ _ _ hn e1 with
        | lst a1 a2 => exact ⟨_, _, rfl, .inl (.of a1), a2, fun ⟨_, h⟩ => (by cases h), fun _ => .of a1⟩
    · cases e
  · cases e
theorem fe_sortset {k : Nat} {e : Expr} {dl : En → Sto → Res (List PV)} {p p2 pos pos2 : Pos} (C : CxE X W k) (hg : Gl X "sorted") (hm : X.mg "sorted" = none) (hg2 : Gl X "set") (hm2 : X.mg "set" = none) (ha : FA X W [e] dl)
    (hs : starEach [.Call (.Name "set" p2) [e] [] pos2] X.env = [(false, eval (.Call (.Name "set" p2) [e] [] pos2) X.env)] := by rfl) (hs2 : starEach [e] X.env = [(false, eval e X.env)] := by rfl) :
    FE X W (.Call (.Name "sorted" p) [.Call (.Name "set" p2) [e] [] pos2] [] pos) (eCall bSortSet dl) := by
  have inner := pe_callTy (pos := pos2) (p := p2) (cr_setI C.calm) hg2 hm2 (by decide +kernel) ha (he := hs2)
  refine PE_imp (pe_callB (p := p) (pos := pos) (cr_sortedSet C.calm) hg hm (by decide +kernel) (pa_cons inner pa_nil hs) (he := hs)) fun σ H Q h => ?_
  obtain ⟨ρ, S, μ, er, sr, h⟩ := h
  refine tG_bind er sr h fun xs vs S1 μ1 H1 st1 sr1 r1 er1 h1 => ?_
  have go : ∀ {x : PV} {xs : List PV} {ns : List Int}, VRs X.K X.mg μ1 H1 [x] vs → (∀ ys, x ≠ PV.tup ys) → lstOf S1 x = some xs → intsOf xs = some ns → ns.length < 60 → okG X.K X.mg (fun μ H => VR X.K X.mg μ H) μ1 H1 Q (.fl ((usort ns).map PV.int)) S1 →
      rSetI X.K X.w vs H1 fun v H2 => (tNil σ H2 fun ws H3 => rSortedSet X.w (v :: ws) H3 Q) := by
    intro x xs ns r1 hx e1 e2 hl h1
    obtain ⟨v, rfl, hv⟩ := r1.one
    obtain ⟨a, ws, rfl, _, hw, _, h4⟩ := seq_at sr1 hv e1
    obtain rfl := ints_vals hw e2
    refine ⟨a, ns, rfl, h4 hx, by unfold scanBound; omega, fun q c hq hc => ?_⟩
    refine ⟨q, _, c, rfl, upd_same, by omega, fun ms r hms hmem hlen hr => ?_⟩
    have em : ms = usort ns := asc_ext hms (usort_asc ns) fun k => by
      rw [mem_usort, hmem k]
      simp
    rw [em]
    have sr2 := sr1.fresh (o := SetO X.w q (fun j => decide (j ∈ ns)) c) hq
    exact h1 μ1 _ _ ((Stp.fresh hq).trans (Stp.fresh hr)) (sr2.fresh hr) (sr2.newL hr (vals_ints _))
  unfold bSortSet at h1
  split at h1
  · exact h1.elim
  · rename_i hx
    split at h1
    · rename_i e1
      split at h1
      · rename_i e2
        split at h1
        · rename_i hl
          exact go r1 (fun ys z => hx ys z) e1 e2 hl h1
        · exact h1.elim
      · exact h1.elim
    · exact h1.elim
  · exact h1.elim
end
end FL

/-! FLv: further rules: lists displayed that stand still; stored comprehensions; defs whose leavings are dropped. -/
namespace FL
open PySem PySem.Spec L2
theorem fnG_gc {P : Program} {w : World} {K : PySem.W.Frag} {mg : Str → Option Value} {base : Heap} {k : Nat} {f : Addr} {fd : FuncData} {ps : List Str} {n : Nat} {F : FF} (G : FnG P w K mg base k f fd ps (spF K mg n F)) : FnG P w K mg base k f fd ps (spF K mg n (gcF F)) :=
  ⟨fun vs H Q E h => G.len vs H Q E (sp_gc h), fun A outer s H args us vs Q E hr gd e0 hb r h => G.run A outer s H args us vs Q E hr gd e0 hb r (sp_gc h)⟩
def eLstK (da : En → Sto → Res (List PV)) : En → Sto → Res PV := fun ρ S => (da ρ S).bind fun xs S1 => if xs.length ≤ big then .ok (.fl xs) S1 else .stk
section
variable {X : Cx} {W : WX} {pos : Pos} {k : Nat} {elt tg iter : Expr} {es ifs : List Expr} {scope : Scope} {own : List (Str × Nat)} {di : En → Sto → Res Wlk} {g : TG} {dg : Tgt} {dt : En → Sto → Res Bool} {de : En → Sto → Res PV} {dl : En → Sto → Res (List PV)}
theorem fe_lstK (h : FA X W es dl) : FE X W (.List es pos) (eLstK dl) := by
  refine PE_imp (pe_lst h) fun σ H Q h => ?_
  obtain ⟨ρ, S, μ, er, sr, h⟩ := h
  refine tG_bind er sr h fun xs vs S1 μ1 H1 st1 sr1 r1 er1 h1 => ?_
  by_cases hl : xs.length ≤ big
  · rw [if_pos hl] at h1
    refine ⟨by rw [← r1.length]; exact Nat.le_trans hl big_le, fun p hp => ?_⟩
    exact h1 μ1 _ _ (Stp.fresh hp) (sr1.fresh hp) (sr1.newL hp r1)
  · rw [if_neg hl] at h1; exact h1.elim
theorem fs_setlcG {i : Nat} {y : Str} {py spos : Pos} (C : CxE X W k) (hy : X.N[i]? = some y) (hyl : X.env.scope.names.lookup y = some .local)
    (hsw : swapsWith (.ListComp elt [⟨tg, iter, ifs, 0⟩] scope pos) (some (.Name y py)) spos.line X.env = pure true) (hi : FI X W tg iter di) (ok : BlkOk X.N X.env.scope scope own)
    (hg : ∀ (s : Shared) (H : Hp) (a : Addr) (cl : List (Str × Addr)) (fp : List Addr), CxE (X.blk s H scope (compEnvC scope cl a X.env) fp) W0 k → PG (X.blk s H scope (compEnvC scope cl a X.env) fp) tg g) (hct : CT X.K X.mg g dg (own.map (·.2)))
    (ht : ∀ (s : Shared) (H : Hp) (a : Addr) (cl : List (Str × Addr)) (fp : List Addr), CxE (X.blk s H scope (compEnvC scope cl a X.env) fp) W0 k → PTs (X.blk s H scope (compEnvC scope cl a X.env) fp) ifs (tT X.K X.mg W0 dt))
    (he : ∀ (s : Shared) (H : Hp) (a : Addr) (cl : List (Str × Addr)) (fp : List Addr), CxE (X.blk s H scope (compEnvC scope cl a X.env) fp) W0 k → FE (X.blk s H scope (compEnvC scope cl a X.env) fp) W0 elt de) (hs : ∀ x, foldedSetIterable iter X.env x = pure x := by intro _; rfl) :
    FS X W (.Assign [.Name y py] (.ListComp elt [⟨tg, iter, ifs, 0⟩] scope pos) spos) (sAsg (eGc (eLc di dg dt de (own.map (·.2)))) (gNm i)) := by
  refine PS_imp (ps_setLc (te := tE X.K X.mg W0 de) C.calm C.nd hy hyl hsw hi ok (fun s H a cl fp => hg s H a cl fp (C.blk s H _ _ fp)) (fun s H a cl fp => ht s H a cl fp (C.blk s H _ _ fp)) (fun s H a cl fp => he s H a cl fp (C.blk s H _ _ fp)) hs) fun D σ H h => ?_
  obtain ⟨ρ, S, μ, er, sr, h⟩ := h
  refine lc_read (W := W) hct (gc_tE (tS_bind er sr h fun x v S1 μ1 H1 st1 sr1 r1 er1 h1 => ?_))
  unfold gNm at h1
  by_cases hl : i < ρ.length
  · rw [if_pos hl] at h1
    exact h1 μ1 H1 _ .refl (er1.set hl r1) sr1
  · rw [if_neg hl] at h1; exact h1.elim
end
end FL

/-! FLw: what a run comes to, forward, in plain Lean. -/
namespace FL
open PySem L2
abbrev NoX : Str → List (Str × PV) → Sto → Prop := fun _ _ _ => False
section
variable {α β : Type} {Q Q' : α → Sto → Prop} {E E' : Str → List (Str × PV) → Sto → Prop} {k : Fl → En → Sto → Prop} {e : Str → List (Str × PV) → En → Sto → Prop}
theorem Out_congr {r r' : Res α} (h : r = r') : Out r Q E = Out r' Q E := by rw [h]
theorem SOut_congr {r r' : SRes} (h : r = r') : SOut r k e = SOut r' k e := by rw [h]
theorem bind_congr {r r' : Res α} {f : α → Sto → Res β} (h : r = r') : r.bind f = r'.bind f := by rw [h]
theorem liftE_congr {r r' : Res α} {ρ : En} {f : α → Sto → SRes} (h : r = r') : liftE r ρ f = liftE r' ρ f := by rw [h]
def OutG (o : Option (En × Sto)) (Q : En → Sto → Prop) : Prop := match o with
  | some (ρ, S) => Q ρ S
  | none => False
theorem OutG_congr {o o' : Option (En × Sto)} {Q : En → Sto → Prop} (h : o = o') : OutG o Q = OutG o' Q := by rw [h]
theorem OutG_some {ρ : En} {S : Sto} {Q : En → Sto → Prop} : OutG (some (ρ, S)) Q = Q ρ S := rfl
theorem Out_ok {a : α} {S : Sto} : Out (.ok a S) Q E = Q a S := rfl
theorem Out_exc {C : Str} {fs : List (Str × PV)} {S : Sto} : Out (.exc C fs S : Res α) Q E = E C fs S := rfl
theorem Out_bind {r : Res α} {f : α → Sto → Res β} {Q : β → Sto → Prop} : Out (r.bind f) Q E = Out r (fun a S => Out (f a S) Q E) E := by cases r <;> rfl
theorem SOut_ok {f : Fl} {ρ : En} {S : Sto} : SOut (.ok f ρ S) k e = k f ρ S := rfl
theorem SOut_exc {C : Str} {fs : List (Str × PV)} {ρ : En} {S : Sto} : SOut (.exc C fs ρ S) k e = e C fs ρ S := rfl
theorem SOut_lift {r : Res α} {ρ : En} {f : α → Sto → SRes} : SOut (liftE r ρ f) k e = Out r (fun a S => SOut (f a S) k e) (fun C fs S => e C fs ρ S) := by cases r <;> rfl
def seqK (b : En → Sto → SRes) (k : Fl → En → Sto → Prop) (e : Str → List (Str × PV) → En → Sto → Prop) : Fl → En → Sto → Prop := fun f ρ S => match f with
  | .nx => SOut (b ρ S) k e
  | f => k f ρ S
theorem SOut_seq {a b : En → Sto → SRes} {ρ : En} {S : Sto} : SOut (sSeq a b ρ S) k e = SOut (a ρ S) (seqK b k e) e := by
  unfold sSeq
  cases a ρ S with
  | ok f ρ1 S1 => cases f <;> rfl
  | exc C fs ρ1 S1 => rfl
  | stk => rfl
theorem seqK_nx {b : En → Sto → SRes} {ρ : En} {S : Sto} : seqK b k e .nx ρ S = SOut (b ρ S) k e := rfl
theorem seqK_rt {b : En → Sto → SRes} {ρ : En} {S : Sto} {v : PV} : seqK b k e (.rt v) ρ S = k (.rt v) ρ S := rfl
theorem seqK_bk {b : En → Sto → SRes} {ρ : En} {S : Sto} : seqK b k e .bk ρ S = k .bk ρ S := rfl
theorem seqK_ct {b : En → Sto → SRes} {ρ : En} {S : Sto} : seqK b k e .ct ρ S = k .ct ρ S := rfl
/-- a def's end -/
def retK (Q : PV → Sto → Prop) : Fl → En → Sto → Prop := fun f _ S => match f with
  | .rt v => Q v S
  | .nx => Q .non S
  | _ => False
theorem retK_rt {Q : PV → Sto → Prop} {v : PV} {ρ : En} {S : Sto} : retK Q (.rt v) ρ S = Q v S := rfl
theorem retK_nx {Q : PV → Sto → Prop} {ρ : En} {S : Sto} : retK Q .nx ρ S = Q .non S := rfl
def dropE (E : Str → List (Str × PV) → Sto → Prop) : Str → List (Str × PV) → En → Sto → Prop := fun C fs _ S => E C fs S
theorem Out_run {N : Nat} {D : En → Sto → SRes} {xs : List PV} {S : Sto} {Q : PV → Sto → Prop} : Out (runB N D xs S) Q E = SOut (D (xs.map some ++ List.replicate (N - xs.length) none) S) (retK Q) (dropE E) := by
  unfold runB
  cases D (xs.map some ++ List.replicate (N - xs.length) none) S with
  | ok f ρ1 S1 => cases f <;> rfl
  | exc C fs ρ1 S1 => rfl
  | stk => rfl
theorem Out.use {r : Res α} (h : Out r Q NoX) (k : ∀ a S, Q a S → Q' a S) : Out r Q' E := h.mono k fun _ _ _ z => z.elim
theorem Out.eq {r : Res α} {a : α} {S : Sto} (h : Out r (fun b T => b = a ∧ T = S) NoX) : r = .ok a S := by
  cases r with
  | ok b T =>
    obtain ⟨rfl, rfl⟩ : b = a ∧ T = S := h
    rfl
  | exc _ _ _ => exact h.elim
  | stk => exact h.elim
/-! what is left behind -/
def gcK (S : Sto) (Q : PV → Sto → Prop) : PV → Sto → Prop := fun v S' => ∃ y T, gcR S (.ok v S') = .ok y T ∧ Q y T
def gcX (S : Sto) (E : Str → List (Str × PV) → Sto → Prop) : Str → List (Str × PV) → Sto → Prop := fun C fs S' => Out (gcR S (.exc C fs S')) (fun _ _ => False) E
theorem out_gcR {S : Sto} {r : Res PV} {Q : PV → Sto → Prop} (h : Out r (gcK S Q) (gcX S E)) : Out (gcR S r) Q E := by
  cases r with
  | ok v S' =>
    obtain ⟨y, T, e, q⟩ := h
    rw [e]; exact q
  | exc C fs S' =>
    have h : Out (gcR S (.exc C fs S')) (fun _ _ => False) E := h
    exact h.mono (fun _ _ z => z.elim) fun _ _ _ z => z
  | stk => exact h
theorem out_gcF {f : FF} {xs : List PV} {S : Sto} {Q : PV → Sto → Prop} (h : Out (f xs S) (gcK S Q) (gcX S E)) : Out (gcF f xs S) Q E := out_gcR h
theorem out_eGc {d : En → Sto → Res PV} {ρ : En} {S : Sto} {Q : PV → Sto → Prop} (h : Out (d ρ S) (gcK S Q) (gcX S E)) : Out (eGc d ρ S) Q E := out_gcR h
theorem take_app (S G : Sto) : (S ++ G).take S.length = S := by simp
theorem Fits.app (S G : Sto) : Fits S (S ++ G) := fun i hi => .inl (List.getElem?_append_left hi)
theorem frz_of {S : Sto} {n k : Nat} {v : PV} (b : below n v = true) : frz S n (k + 1) v = some v := by
  unfold frz
  rw [if_pos b]
theorem gcK_fits {S S' T : Sto} {Q : PV → Sto → Prop} {v : PV} (f : Fits S S') (t : S'.take S.length = T) (b : below S.length v = true) (h : Q v T) : gcK S Q v S' := by
  refine ⟨v, T, ?_, h⟩
  unfold gcR
  simp only [if_pos f, frz_of b, t]
theorem gcK_grow {S G : Sto} {Q : PV → Sto → Prop} {v : PV} (b : below S.length v = true) (h : Q v S) : gcK S Q v (S ++ G) := gcK_fits (Fits.app S G) (take_app S G) b h
theorem gcK_same {S : Sto} {Q : PV → Sto → Prop} {v : PV} (b : below S.length v = true) (h : Q v S) : gcK S Q v S := by
  have := gcK_grow (G := []) b h
  rwa [List.append_nil] at this
theorem gcK_pre {S S' : Sto} {Q : PV → Sto → Prop} {v : PV} (x : S <+: S') (b : below S.length v = true) (h : Q v S) : gcK S Q v S' := by
  obtain ⟨G, rfl⟩ := x
  exact gcK_grow b h
theorem gcK_frz {S S' T : Sto} {Q : PV → Sto → Prop} {v y : PV} (f : Fits S S') (t : S'.take S.length = T) (z : frz S' S.length 12 v = some y) (h : Q y T) : gcK S Q v S' := by
  refine ⟨y, T, ?_, h⟩
  unfold gcR
  simp only [if_pos f, z, t]
/-- a list that was made within -/
theorem frz_ref {S : Sto} {n m k : Nat} {xs : List PV} (hm : n ≤ m) (e : S[m]? = some (.lst xs)) (b : belowL n xs = true) : frz S n (k + 1) (.ref m) = some (.fl xs) := by
  have hb : ¬ below n (.ref m) = true := by simp only [below, decide_eq_true_eq]; omega
  unfold frz
  rw [if_neg hb]
  simp only [e, if_pos b]
theorem gcK_list {S : Sto} {G : Sto} {Q : PV → Sto → Prop} {xs : List PV} (b : belowL S.length xs = true) (h : Q (.fl xs) S) : gcK S Q (.ref S.length) (S ++ .lst xs :: G) :=
  gcK_frz (Fits.app S _) (take_app S _) (frz_ref (Nat.le_refl _) (by simp) b) h
end
theorem eLstK_ap {da : En → Sto → Res (List PV)} {ρ : En} {S : Sto} : eLstK da ρ S = (da ρ S).bind fun xs S1 => if xs.length ≤ big then .ok (.fl xs) S1 else .stk := rfl
theorem iSeq_ap {da : En → Sto → Res PV} {ρ : En} {S : Sto} : iSeq da ρ S = (da ρ S).bind fun x S1 => match x with
  | .tup xs => .ok (.fix xs) S1
  | .kl xs => .ok (.fix xs) S1
  | .fl xs => .ok (.fix xs) S1
  | .ref n => match S1[n]? with
    | some (.lst _) => .ok (.live n) S1
    | _ => .stk
  | _ => .stk := rfl
theorem sWh_ap {fuel : Nat} {c : En → Sto → Res Bool} {body : En → Sto → SRes} {ρ : En} {S : Sto} : sWh fuel c body ρ S = whGo c body fuel ρ S := rfl
theorem perm_ap {α : Type} {pi : List Nat} {l : List α} : FL.perm pi l = pi.filterMap fun i => l[i]? := rfl
/-! loops -/
def loopK (I : En → Sto → Prop) (k : Fl → En → Sto → Prop) : Fl → En → Sto → Prop := fun f ρ S => match f with
  | .nx => I ρ S
  | .ct => I ρ S
  | .bk => k .nx ρ S
  | .rt v => k (.rt v) ρ S
section
variable {I : En → Sto → Prop} {k : Fl → En → Sto → Prop} {e : Str → List (Str × PV) → En → Sto → Prop} {ρ : En} {S : Sto}
theorem loopK_nx : loopK I k .nx ρ S = I ρ S := rfl
theorem loopK_ct : loopK I k .ct ρ S = I ρ S := rfl
theorem loopK_bk : loopK I k .bk ρ S = k .nx ρ S := rfl
theorem loopK_rt {v : PV} : loopK I k (.rt v) ρ S = k (.rt v) ρ S := rfl
end
section
variable {k : Fl → En → Sto → Prop} {e : Str → List (Str × PV) → En → Sto → Prop} {ρ : En} {S : Sto} {tg : Tgt} {body : En → Sto → SRes}
theorem SOut_for {di : En → Sto → Res Wlk} : SOut (sFor di tg body ρ S) k e = Out (di ρ S) (fun it S1 => SOut (forGo it tg body (itFuel it S1) 0 ρ S1) k e) (fun C fs S => e C fs ρ S) := SOut_lift
theorem for_gen2 {it : Wlk} {xs : List PV} (I : Nat → En → Sto → Prop) (hit : ∀ i ρ S, I i ρ S → itAt it S i = some xs[i]?)
    (step : ∀ (i : Nat) (x : PV) (ρ : En) (S : Sto), xs[i]? = some x → I i ρ S → OutG (tg x ρ S) fun ρ1 S1 => SOut (body ρ1 S1) (loopK (I (i + 1)) k) e) (done : ∀ ρ S, I xs.length ρ S → k .nx ρ S) :
    ∀ (m i : Nat) (ρ : En) (S : Sto), i + m = xs.length → I i ρ S → SOut (forGo it tg body (m + 1) i ρ S) k e
  | 0, i, ρ, S, hi, h => by
    have e0 : xs[i]? = none := List.getElem?_eq_none_iff.mpr (by omega)
    have : i = xs.length := by omega
    unfold forGo
    rw [hit i ρ S h]
    simp only [e0]
    exact done ρ S (this ▸ h)
  | m + 1, i, ρ, S, hi, h => by
    have hl : i < xs.length := by omega
    have e0 : xs[i]? = some xs[i] := List.getElem?_eq_getElem hl
    have h1 := step i _ ρ S e0 h
    rw [forGo, hit i ρ S h]
    simp only [e0]
    cases q : tg xs[i] ρ S with
    | none => rw [q] at h1; exact h1.elim
    | some p =>
      obtain ⟨ρ1, S1⟩ := p
      rw [q] at h1
      have h1 : SOut (body ρ1 S1) (loopK (I (i + 1)) k) e := h1
      simp only
      cases q2 : body ρ1 S1 with
      | stk => rw [q2] at h1; exact h1.elim
      | exc C fs ρ2 S2 => rw [q2] at h1; exact h1
      | ok f ρ2 S2 =>
        rw [q2] at h1
        cases f with
        | nx => exact for_gen2 I hit step done m (i + 1) ρ2 S2 (by omega) h1
        | ct => exact for_gen2 I hit step done m (i + 1) ρ2 S2 (by omega) h1
        | bk => exact h1
        | rt v => exact h1
/-- over items that stand -/
theorem w_for {xs : List PV} {n : Nat} (I : Nat → En → Sto → Prop) (h0 : I 0 ρ S)
    (step : ∀ (i : Nat) (x : PV) (ρ : En) (S : Sto), xs[i]? = some x → I i ρ S → OutG (tg x ρ S) fun ρ1 S1 => SOut (body ρ1 S1) (loopK (I (i + 1)) k) e) (done : ∀ ρ S, I xs.length ρ S → k .nx ρ S) :
    SOut (forGo (.fix xs) tg body (itFuel (.fix xs) S) 0 ρ S) k e :=
  for_gen2 I (fun _ _ _ _ => rfl) step done xs.length 0 ρ S (by omega) h0
theorem w_forM {α : Type} {l : List α} {g : α → PV} (I : Nat → En → Sto → Prop) (h0 : I 0 ρ S)
    (step : ∀ (i : Nat) (a : α) (ρ : En) (S : Sto), l[i]? = some a → I i ρ S → OutG (tg (g a) ρ S) fun ρ1 S1 => SOut (body ρ1 S1) (loopK (I (i + 1)) k) e) (done : ∀ ρ S, I l.length ρ S → k .nx ρ S) :
    SOut (forGo (.fix (l.map g)) tg body (itFuel (.fix (l.map g)) S) 0 ρ S) k e :=
  w_for (n := 0) I h0 (fun i x ρ S hx hI => by
    rw [List.getElem?_map] at hx
    cases q : l[i]? with
    | none => rw [q] at hx; cases hx
    | some a => rw [q] at hx; cases hx; exact step i a ρ S q hI) fun ρ S h => done ρ S (by rwa [List.length_map] at h)
theorem w_forR {n : Nat} (I : Nat → En → Sto → Prop) (h0 : I 0 ρ S)
    (step : ∀ (i : Nat) (ρ : En) (S : Sto), i < n → I i ρ S → OutG (tg (.int (i : Nat)) ρ S) fun ρ1 S1 => SOut (body ρ1 S1) (loopK (I (i + 1)) k) e) (done : ∀ ρ S, I n ρ S → k .nx ρ S) :
    SOut (forGo (.fix (rangeL 0 n)) tg body (itFuel (.fix (rangeL 0 n)) S) 0 ρ S) k e :=
  w_for (n := 0) I h0 (fun i x ρ S hx hI => by
    have hx' := hx
    unfold rangeL at hx'
    rw [List.getElem?_map] at hx'
    by_cases hi : i < n
    · rw [List.getElem?_range hi] at hx'
      cases hx'
      have h := step i ρ S hi hI
      rw [← Int.zero_add ((i : Nat) : Int)] at h
      exact h
    · rw [List.getElem?_eq_none_iff.mpr (by simp; omega)] at hx'
      cases hx') fun ρ S h => done ρ S (by have e : (rangeL 0 n).length = n := by simp [rangeL]
                                           rwa [e] at h)
/-- over a list of the store that the body leaves -/
theorem w_forL {xs : List PV} {n : Nat} (I : Nat → En → Sto → Prop) (hn : S[n]? = some (.lst xs)) (h0 : I 0 ρ S) (hk : ∀ i ρ S, I i ρ S → S[n]? = some (.lst xs))
    (step : ∀ (i : Nat) (x : PV) (ρ : En) (S : Sto), xs[i]? = some x → I i ρ S → OutG (tg x ρ S) fun ρ1 S1 => SOut (body ρ1 S1) (loopK (I (i + 1)) k) e) (done : ∀ ρ S, I xs.length ρ S → k .nx ρ S) :
    SOut (forGo (.live n) tg body (itFuel (.live n) S) 0 ρ S) k e := by
  have hf : itFuel (.live n) S = xs.length + 1 := by simp only [itFuel, hn]
  rw [hf]
  exact for_gen2 I (fun i ρ S h => by simp only [itAt, hk i ρ S h]) step done xs.length 0 ρ S (by omega) h0
/-- while, with a measure -/
theorem w_wh {c : En → Sto → Res Bool} (I : Nat → En → Sto → Prop)
    (step : ∀ (m : Nat) (ρ : En) (S : Sto), I m ρ S → Out (c ρ S) (fun b S1 => if b = true then SOut (body ρ S1) (loopK (fun ρ2 S2 => ∃ m', m' < m ∧ I m' ρ2 S2) k) e else k .nx ρ S1) (fun C fs S => e C fs ρ S)) :
    ∀ (fuel m : Nat) (ρ : En) (S : Sto), I m ρ S → m < fuel → SOut (whGo c body fuel ρ S) k e
  | 0, _, _, _, _, hm => absurd hm (Nat.not_lt_zero _)
  | fuel + 1, m, ρ, S, h, hm => by
    have h1 := step m ρ S h
    rw [whGo]
    cases q : c ρ S with
    | stk => rw [q] at h1; exact h1.elim
    | exc C fs S1 => rw [q] at h1; exact h1
    | ok b S1 =>
      rw [q] at h1
      cases b with
      | false => exact h1
      | true =>
        have h1 : SOut (body ρ S1) (loopK (fun ρ2 S2 => ∃ m', m' < m ∧ I m' ρ2 S2) k) e := h1
        simp only
        cases q2 : body ρ S1 with
        | stk => rw [q2] at h1; exact h1.elim
        | exc C fs ρ2 S2 => rw [q2] at h1; exact h1
        | ok f ρ2 S2 =>
          rw [q2] at h1
          cases f with
          | nx =>
            obtain ⟨m', lt, hI⟩ := h1
            exact w_wh I step fuel m' ρ2 S2 hI (by omega)
          | ct =>
            obtain ⟨m', lt, hI⟩ := h1
            exact w_wh I step fuel m' ρ2 S2 hI (by omega)
          | bk => exact h1
          | rt v => exact h1
end
/-! comprehensions -/
section
variable {dg : Tgt} {dt : En → Sto → Res Bool} {de : En → Sto → Res PV} {vs : List Nat} {ρ : En}
/-- one turn: the test, then what is laid into the list at n -/
def LcW (dg : Tgt) (dt : En → Sto → Res Bool) (de : En → Sto → Res PV) (ρw : En) (x : PV) (T : Sto) (yes : PV → Sto → Prop) (no : Sto → Prop) : Prop :=
  OutG (dg x ρw T) fun ρ2 T2 => Out (dt ρ2 T2) (fun b T3 => if b = true then Out (de ρ2 T3) yes NoX else no T3) NoX
theorem lc_gen2 {it : Wlk} {xs : List PV} {n : Nat} (I : Nat → List PV → Sto → Prop) (hit : ∀ i acc S, I i acc S → itAt it S i = some xs[i]?) (hn : ∀ i acc S, I i acc S → S[n]? = some (.lst acc))
    (step : ∀ (i : Nat) (x : PV) (acc : List PV) (S : Sto), xs[i]? = some x → I i acc S → LcW dg dt de (wipeE ρ vs) x S (fun y S4 => S4[n]? = some (.lst acc) ∧ acc.length < big ∧ I (i + 1) (acc ++ [y]) (S4.set n (.lst (acc ++ [y])))) (I (i + 1) acc)) :
    ∀ (k i : Nat) (acc : List PV) (S : Sto), i + k = xs.length → I i acc S → ∃ acc' S', lcGo it dg dt de vs ρ n (k + 1) i S = .ok () S' ∧ S'[n]? = some (.lst acc') ∧ I xs.length acc' S'
  | 0, i, acc, S, hi, h => by
    have e : xs[i]? = none := List.getElem?_eq_none_iff.mpr (by omega)
    refine ⟨acc, S, ?_, hn i acc S h, ?_⟩
    · unfold lcGo
      rw [hit i acc S h]
      simp only [e]
    · have : i = xs.length := by omega
      rw [← this]; exact h
  | k + 1, i, acc, S, hi, h => by
    have hl : i < xs.length := by omega
    have e : xs[i]? = some xs[i] := List.getElem?_eq_getElem hl
    have h1 := step i _ acc S e h
    unfold LcW at h1
    rw [lcGo, hit i acc S h]
    simp only [e]
    cases q : dg xs[i] (wipeE ρ vs) S with
    | none => rw [q] at h1; exact h1.elim
    | some p =>
      obtain ⟨ρ2, S2⟩ := p
      rw [q] at h1
      have h1 : Out (dt ρ2 S2) (fun b T3 => if b = true then Out (de ρ2 T3) _ NoX else I (i + 1) acc T3) NoX := h1
      simp only
      cases q2 : dt ρ2 S2 with
      | stk => rw [q2] at h1; exact h1.elim
      | exc _ _ _ => rw [q2] at h1; exact h1.elim
      | ok b S3 =>
        rw [q2] at h1
        cases b with
        | false => exact lc_gen2 I hit hn step k (i + 1) acc S3 (by omega) h1
        | true =>
          have h1 : Out (de ρ2 S3) _ NoX := h1
          simp only
          cases q3 : de ρ2 S3 with
          | stk => rw [q3] at h1; exact h1.elim
          | exc _ _ _ => rw [q3] at h1; exact h1.elim
          | ok y S4 =>
            rw [q3] at h1
            obtain ⟨e4, hb, hI⟩ := h1
            simp only [e4, if_pos hb]
            exact lc_gen2 I hit hn step k (i + 1) (acc ++ [y]) _ (by omega) hI
theorem Out_lc {di : En → Sto → Res Wlk} {S : Sto} {Q : PV → Sto → Prop} {E : Str → List (Str × PV) → Sto → Prop} : Out (eLc di dg dt de vs ρ S) Q E = Out (di ρ S) (fun it S1 => Out (lcGo it dg dt de vs ρ S1.length (itFuel it S1) 0 (S1 ++ [.lst []])) (fun _ S2 => Q (.ref S1.length) S2) E) E := by
  unfold eLc
  rw [Out_bind]
  congr 1
  funext it S1
  rw [Out_bind]
  rfl
theorem get_end {S : Sto} {o : LO} : (S ++ [o])[S.length]? = some o := by simp
theorem set_end {S : Sto} {o p : LO} : (S ++ [o]).set S.length p = S ++ [p] := by simp
/-- over items that stand, each turn leaving the store -/
theorem lc_pure {l : List PV} {S : Sto} (t : PV → Bool) (f : PV → PV) (hl : l.length ≤ big)
    (step : ∀ x ∈ l, ∀ T : Sto, LcW dg dt de (wipeE ρ vs) x T (fun y T' => t x = true ∧ y = f x ∧ T' = T) (fun T' => t x = false ∧ T' = T)) :
    lcGo (.fix l) dg dt de vs ρ S.length (itFuel (.fix l) S) 0 (S ++ [.lst []]) = .ok () (S ++ [.lst ((l.filter t).map f)]) := by
  obtain ⟨acc, S', e, h1, h2, h3⟩ := lc_gen2 (it := .fix l) (xs := l) (n := S.length) (dg := dg) (dt := dt) (de := de) (vs := vs) (ρ := ρ) (fun i acc T => acc = ((l.take i).filter t).map f ∧ T = S ++ [.lst acc]) (fun _ _ _ _ => rfl) (fun i acc T h => by rw [h.2]; exact get_end) (by
    rintro i x acc T hx ⟨ha, rfl⟩
    obtain ⟨hi, _⟩ := List.getElem?_eq_some_iff.mp hx
    have ht : l.take (i + 1) = l.take i ++ [x] := by rw [List.take_add_one, hx]; rfl
    have h := step x (List.mem_of_getElem? hx) (S ++ [.lst acc])
    unfold LcW at h ⊢
    cases q : dg x (wipeE ρ vs) (S ++ [.lst acc]) with
    | none => rw [q] at h; exact h
    | some p =>
      obtain ⟨ρ2, S2⟩ := p
      rw [q] at h
      refine Out.mono (r := dt ρ2 S2) h (fun b T3 hb => ?_) fun _ _ _ z => z
      cases b with
      | false =>
        obtain ⟨h1, rfl⟩ := hb
        refine ⟨?_, rfl⟩
        rw [ht, List.filter_append, List.map_append, ← ha]
        simp [h1]
      | true =>
        refine Out.mono (r := de ρ2 T3) hb (fun y T4 hy => ?_) fun _ _ _ z => z
        obtain ⟨h1, rfl, rfl⟩ := hy
        refine ⟨get_end, ?_, ?_, set_end⟩
        · rw [ha, List.length_map]
          have := List.length_filter_le t (l.take i)
          rw [List.length_take] at this
          omega
        · rw [ht, List.filter_append, List.map_append, ← ha]
          simp [h1]) l.length 0 [] (S ++ [.lst []]) (by omega) ⟨by simp, rfl⟩
  rw [List.take_length] at h2
  rw [← h2, ← h3]
  exact e
theorem belowL_all {n : Nat} : ∀ {xs : List PV}, belowL n xs = true ↔ ∀ x ∈ xs, below n x = true
  | [] => by simp [belowL]
  | x :: xs => by rw [belowL, Bool.and_eq_true, belowL_all]; simp
mutual
theorem below_mono {n m : Nat} (h : n ≤ m) : ∀ x : PV, below n x = true → below m x = true
  | .non, _ => rfl
  | .bl _, _ => rfl
  | .int _, _ => rfl
  | .str _, _ => rfl
  | .ty _, _ => rfl
  | .glb _, _ => rfl
  | .tup xs, e => by rw [below] at e ⊢; exact belowL_mono h xs e
  | .kl xs, e => by rw [below] at e ⊢; exact belowL_mono h xs e
  | .fl xs, e => by rw [below] at e ⊢; exact belowL_mono h xs e
  | .obj _ _ xs, e => by rw [below] at e ⊢; exact belowL_mono h xs e
  | .dct _ xs, e => by rw [below] at e ⊢; exact belowL_mono h xs e
  | .ref k, e => by
    simp only [below, decide_eq_true_eq] at e ⊢
    omega
theorem belowL_mono {n m : Nat} (h : n ≤ m) : ∀ xs : List PV, belowL n xs = true → belowL m xs = true
  | [], _ => rfl
  | x :: xs, e => by
    rw [belowL, Bool.and_eq_true] at e ⊢
    exact ⟨below_mono h x e.1, belowL_mono h xs e.2⟩
end
end
/-! the words of simp -/
theorem retK_bk {Q : PV → Sto → Prop} {ρ : En} {S : Sto} : retK Q .bk ρ S = False := rfl
theorem below_tup {n : Nat} {xs : List PV} : below n (.tup xs) = belowL n xs := by rw [below]
theorem below_fl {n : Nat} {xs : List PV} : below n (.fl xs) = belowL n xs := by rw [below]
theorem below_obj {n : Nat} {C : Str} {ns : List Str} {xs : List PV} : below n (.obj C ns xs) = belowL n xs := by rw [below]
theorem below_int {n : Nat} {i : Int} : below n (.int i) = true := by rw [below]
theorem below_bl {n : Nat} {i : Bool} : below n (.bl i) = true := by rw [below]
theorem below_str {n : Nat} {i : Str} : below n (.str i) = true := by rw [below]
theorem below_non {n : Nat} : below n .non = true := by rw [below]
theorem below_ref {n m : Nat} : below n (.ref m) = decide (m < n) := by rw [below]
theorem belowL_nil {n : Nat} : belowL n [] = true := by rw [belowL]
theorem belowL_cons {n : Nat} {x : PV} {xs : List PV} : belowL n (x :: xs) = (below n x && belowL n xs) := by rw [belowL]
theorem belowL_map {α : Type} {n : Nat} {f : α → PV} {l : List α} (h : ∀ a ∈ l, below n (f a) = true) : belowL n (l.map f) = true := belowL_all.mpr fun x hx => by
  obtain ⟨a, ha, rfl⟩ := List.mem_map.mp hx
  exact h a ha
@[simp] theorem belowL_int {n : Nat} {l : List Int} : belowL n (l.map PV.int) = true := belowL_map fun _ _ => below_int
@[simp] theorem below_tI {n : Nat} {l : List Int} : below n (tI l) = true := by rw [below_tup, belowL_int]
@[simp] theorem below_wP {n : Nat} {w : Int × Int} : below n (wP w) = true := by simp only [below_tup, belowL_cons, below_int, belowL_nil, Bool.and_self]
@[simp] theorem belowL_wP {n : Nat} {W : List (Int × Int)} : belowL n (W.map wP) = true := belowL_map fun _ _ => below_wP
@[simp] theorem below_wsP {n : Nat} {W : List (Int × Int)} : below n (wsP W) = true := by rw [below_tup, belowL_wP]
theorem big_is : big = 100000 := rfl
end FL

/-! FLx: what common parts come to, as equations. -/
namespace FL
open PySem L2
def rgK (xs : List PV) (S : Sto) : Res Wlk := match xs with
  | [.int j] => if -(2 ^ 62) ≤ j ∧ j < 2 ^ 62 then .ok (.fix (rangeL 0 j.toNat)) S else .stk
  | _ => .stk
theorem iRg1_ap {da : En → Sto → Res (List PV)} {ρ : En} {S : Sto} : iRg1 da ρ S = (da ρ S).bind rgK := rfl
theorem rgK_int {j : Int} {S : Sto} (h0 : -1000000 < j) (h1 : j < 1000000) : rgK [.int j] S = .ok (.fix (rangeL 0 j.toNat)) S := by
  have e : (2 : Int) ^ 62 = 4611686018427387904 := by simp
  have c : -(2 ^ 62) ≤ j ∧ j < 2 ^ 62 := by rw [e]; omega
  unfold rgK
  simp only [if_pos c]
theorem rgK_nat {n : Nat} {S : Sto} (h : n < 1000000) : rgK [.int n] S = .ok (.fix (rangeL 0 n)) S := by
  rw [rgK_int (by omega) (by omega), Int.toNat_natCast]
theorem iEn_ap {da : En → Sto → Res (List PV)} {ρ : En} {S : Sto} : iEn da ρ S = (da ρ S).bind fun xs S1 => match xs with
  | [.tup xs] => .ok (.fix (xs.mapIdx fun i x => .tup [.int (i : Nat), x])) S1
  | _ => .stk := rfl
theorem iZp_ap {da : En → Sto → Res (List PV)} {ρ : En} {S : Sto} : iZp da ρ S = (da ρ S).bind fun xs S1 => match xs with
  | [.tup xs, .tup ys] => .ok (.fix ((xs.zip ys).map fun p => .tup [p.1, p.2])) S1
  | _ => .stk := rfl
theorem oNone_ap {ρ : En} {S : Sto} : oNone ρ S = .ok none S := rfl
theorem oSome_ap {da : En → Sto → Res PV} {ρ : En} {S : Sto} : oSome da ρ S = (da ρ S).bind fun x S1 => match x with
  | .int i => .ok (some i) S1
  | _ => .stk := rfl
theorem eSl_ap {da : En → Sto → Res PV} {dlo dhi : OE} {ρ : En} {S : Sto} : eSl da dlo dhi ρ S = (da ρ S).bind fun x S1 => (dlo ρ S1).bind fun lo S2 => (dhi ρ S2).bind fun hi S3 => ofO (pSl x lo hi S3) := rfl
theorem pSl_tup {xs : List PV} {lo hi : Option Int} {S : Sto} : pSl (.tup xs) lo hi S = some (.tup (cutP xs lo hi), S) := rfl
theorem pSl_fl {xs : List PV} {lo hi : Option Int} {S : Sto} : pSl (.fl xs) lo hi S = some (.fl (cutP xs lo hi), S) := rfl
theorem cutP_from {xs : List PV} {n : Nat} : cutP xs (some (n : Int)) none = xs.drop n := by
  unfold cutP
  have e1 : HT.sIx xs.length 0 (some (n : Int)) = min n xs.length := HT.sIx_nat xs.length 0 n
  have e2 : HT.sIx xs.length xs.length none = xs.length := rfl
  rw [e1, e2]
  by_cases h : n ≤ xs.length
  · rw [Nat.min_eq_left h]
    exact List.take_of_length_le (by simp)
  · rw [Nat.min_eq_right (by omega), List.drop_eq_nil_of_le (Nat.le_refl _), List.drop_eq_nil_of_le (by omega)]
    simp
theorem cutP_to {xs : List PV} {n : Nat} : cutP xs none (some (n : Int)) = xs.take n := by
  unfold cutP
  have e1 : HT.sIx xs.length xs.length (some (n : Int)) = min n xs.length := HT.sIx_nat xs.length _ n
  have e2 : HT.sIx xs.length 0 none = 0 := rfl
  rw [e1, e2, List.drop_zero, Nat.sub_zero]
  by_cases h : n ≤ xs.length
  · rw [Nat.min_eq_left h]
  · rw [Nat.min_eq_right (by omega), List.take_of_length_le (by omega), List.take_of_length_le (by omega)]
@[simp] theorem isi_tup {T : String} {xs : List PV} {S : Sto} : pIsi T (.tup xs) S = some (.bl (isiTab T "tuple"), S) := rfl
@[simp] theorem isi_i {T : String} {i : Int} {S : Sto} : pIsi T (.int i) S = some (.bl (isiTab T "int"), S) := rfl
@[simp] theorem isi_b {T : String} {i : Bool} {S : Sto} : pIsi T (.bl i) S = some (.bl (isiTab T "bool"), S) := rfl
@[simp] theorem isi_s {T : String} {i : Str} {S : Sto} : pIsi T (.str i) S = some (.bl (isiTab T "str"), S) := rfl
@[simp] theorem isi_n {T : String} {S : Sto} : pIsi T .non S = some (.bl (isiTab T "NoneType"), S) := rfl
@[simp] theorem isi_f {T : String} {xs : List PV} {S : Sto} : pIsi T (.fl xs) S = some (.bl (isiTab T "list"), S) := rfl
@[simp] theorem isi_d {T : String} {xs ys : List PV} {S : Sto} : pIsi T (.dct xs ys) S = some (.bl (isiTab T "dict"), S) := rfl
theorem it_ii : isiTab "int" "int" = true := by decide
theorem it_ib : isiTab "int" "bool" = true := by decide
theorem it_it : isiTab "int" "tuple" = false := by decide
theorem it_is : isiTab "int" "str" = false := by decide
theorem it_in : isiTab "int" "NoneType" = false := by decide
theorem it_il : isiTab "int" "list" = false := by decide
theorem it_id : isiTab "int" "dict" = false := by decide
theorem it_bi : isiTab "bool" "int" = false := by decide
theorem it_bb : isiTab "bool" "bool" = true := by decide
theorem it_bt : isiTab "bool" "tuple" = false := by decide
theorem it_bs : isiTab "bool" "str" = false := by decide
theorem it_bn : isiTab "bool" "NoneType" = false := by decide
theorem it_bl : isiTab "bool" "list" = false := by decide
theorem it_bd : isiTab "bool" "dict" = false := by decide
theorem it_tt : isiTab "tuple" "tuple" = true := by decide
theorem it_ti : isiTab "tuple" "int" = false := by decide
theorem it_tb : isiTab "tuple" "bool" = false := by decide
theorem it_ts : isiTab "tuple" "str" = false := by decide
theorem it_tn : isiTab "tuple" "NoneType" = false := by decide
theorem it_tl : isiTab "tuple" "list" = false := by decide
theorem it_td : isiTab "tuple" "dict" = false := by decide
theorem boolsOf_map {α : Type} {f : α → Bool} : ∀ l : List α, boolsOf (l.map fun a => PV.bl (f a)) = some (l.map f)
  | [] => rfl
  | a :: l => by
    have ih := boolsOf_map (f := f) l
    unfold boolsOf at ih ⊢
    simp only [List.map_cons, mapO, ih]
theorem bAll_fl {α : Type} {f : α → Bool} {l : List α} {S : Sto} : bAll [.fl (l.map fun a => PV.bl (f a))] S = some (.bl (l.all f), S) := by
  unfold bAll lstL
  simp only [boolsOf_map, List.all_map]
  rfl
theorem bAny_fl {α : Type} {f : α → Bool} {l : List α} {S : Sto} : bAny [.fl (l.map fun a => PV.bl (f a))] S = some (.bl (l.any f), S) := by
  unfold bAny lstL
  simp only [boolsOf_map, List.any_map]
  rfl
section
variable {α : Type} {dg : Tgt} {dt : En → Sto → Res Bool} {de : En → Sto → Res PV} {vs : List Nat} {ρ : En} {di : En → Sto → Res Wlk} {S : Sto}
/-- a comprehension over what a Lean list gives, each turn leaving the store -/
theorem lc_map (l : List α) (g : α → PV) (t : α → Bool) (f : α → PV) (hd : di ρ S = .ok (.fix (l.map g)) S) (hl : l.length ≤ big) (hb : ∀ a ∈ l, below S.length (f a) = true)
    (step : ∀ a ∈ l, ∀ T : Sto, LcW dg dt de (wipeE ρ vs) (g a) T (fun y T' => t a = true ∧ y = f a ∧ T' = T) (fun T' => t a = false ∧ T' = T)) :
    eGc (eLc di dg dt de vs) ρ S = .ok (.fl ((l.filter t).map f)) S := by
  have key : ∃ acc S', lcGo (.fix (l.map g)) dg dt de vs ρ S.length (itFuel (.fix (l.map g)) S) 0 (S ++ [.lst []]) = .ok () S' ∧ S'[S.length]? = some (.lst acc) ∧ acc = (l.filter t).map f ∧ S' = S ++ [.lst acc] := by
    obtain ⟨acc, S', e, h1, h2, h3⟩ := lc_gen2 (it := .fix (l.map g)) (xs := l.map g) (n := S.length) (dg := dg) (dt := dt) (de := de) (vs := vs) (ρ := ρ) (fun i acc T => acc = ((l.take i).filter t).map f ∧ T = S ++ [.lst acc]) (fun _ _ _ _ => rfl) (fun i acc T h => by rw [h.2]; exact get_end) (by
      rintro i x acc T hx ⟨ha, rfl⟩
      rw [List.getElem?_map] at hx
      cases q : l[i]? with
      | none => rw [q] at hx; cases hx
      | some a =>
        rw [q] at hx; cases hx
        obtain ⟨hi, _⟩ := List.getElem?_eq_some_iff.mp q
        have ht : l.take (i + 1) = l.take i ++ [a] := by rw [List.take_add_one, q]; rfl
        have h := step a (List.mem_of_getElem? q) (S ++ [.lst acc])
        unfold LcW at h ⊢
        cases q : dg (g a) (wipeE ρ vs) (S ++ [.lst acc]) with
        | none => rw [q] at h; exact h
        | some p =>
          obtain ⟨ρ2, S2⟩ := p
          rw [q] at h
          refine Out.mono (r := dt ρ2 S2) h (fun b T3 hb => ?_) fun _ _ _ z => z
          cases b with
          | false =>
            obtain ⟨h1, rfl⟩ := hb
            refine ⟨?_, rfl⟩
            rw [ht, List.filter_append, List.map_append, ← ha]
            simp [h1]
          | true =>
            refine Out.mono (r := de ρ2 T3) hb (fun y T4 hy => ?_) fun _ _ _ z => z
            obtain ⟨h1, rfl, rfl⟩ := hy
            refine ⟨get_end, ?_, ?_, set_end⟩
            · rw [ha, List.length_map]
              have := List.length_filter_le t (l.take i)
              rw [List.length_take] at this
              omega
            · rw [ht, List.filter_append, List.map_append, ← ha]
              simp [h1]) (l.map g).length 0 [] (S ++ [.lst []]) (by omega) ⟨by simp, rfl⟩
    refine ⟨acc, S', e, h1, ?_, h3⟩
    rw [h2, List.length_map, List.take_length]
  obtain ⟨acc, S', e, _, rfl, rfl⟩ := key
  refine Out.eq (out_eGc ?_)
  rw [Out_lc, hd, Out_ok, e]
  exact gcK_list (belowL_map fun a ha => hb a (List.mem_filter.mp ha).1) ⟨rfl, rfl⟩
/-- .. without a test -/
theorem lc_all (l : List α) (g : α → PV) (f : α → PV) (hd : di ρ S = .ok (.fix (l.map g)) S) (hl : l.length ≤ big) (hb : ∀ a ∈ l, below S.length (f a) = true)
    (step : ∀ a ∈ l, ∀ T : Sto, OutG (dg (g a) (wipeE ρ vs) T) fun ρ2 T2 => Out (de ρ2 T2) (fun y T' => y = f a ∧ T' = T) NoX) :
    eGc (eLc di dg dYes de vs) ρ S = .ok (.fl (l.map f)) S := by
  have e := lc_map (dg := dg) (dt := dYes) (de := de) (vs := vs) l g (fun _ => true) f hd hl hb fun a ha T => by
    have h := step a ha T
    unfold LcW
    cases q : dg (g a) (wipeE ρ vs) T with
    | none => rw [q] at h; exact h.elim
    | some p =>
      rw [q] at h
      exact Out.mono (r := de p.1 p.2) (k' := fun y T' => true = true ∧ y = f a ∧ T' = T) (e' := NoX) h (fun y T' z => ⟨rfl, z⟩) fun _ _ _ z => z
  rwa [List.filter_eq_self.mpr fun _ _ => rfl] at e
/-- .. whose turns write the store at will; the list stands at the end -/
theorem lc_inv {xs : List PV} (I : Nat → List PV → Sto → Prop) {Q : PV → Sto → Prop} {E : Str → List (Str × PV) → Sto → Prop} {S1 : Sto}
    (h0 : I 0 [] (S1 ++ [.lst []])) (hn : ∀ i acc T, I i acc T → T[S1.length]? = some (.lst acc))
    (step : ∀ (i : Nat) (x : PV) (acc : List PV) (T : Sto), xs[i]? = some x → I i acc T → LcW dg dt de (wipeE ρ vs) x T (fun y T4 => T4[S1.length]? = some (.lst acc) ∧ acc.length < big ∧ I (i + 1) (acc ++ [y]) (T4.set S1.length (.lst (acc ++ [y])))) (I (i + 1) acc))
    (done : ∀ acc T, T[S1.length]? = some (.lst acc) → I xs.length acc T → Q (.ref S1.length) T) :
    Out (lcGo (.fix xs) dg dt de vs ρ S1.length (itFuel (.fix xs) S1) 0 (S1 ++ [.lst []])) (fun _ S2 => Q (.ref S1.length) S2) E := by
  obtain ⟨acc, S', e, h1, h2⟩ := lc_gen2 (it := .fix xs) (xs := xs) (n := S1.length) (dg := dg) (dt := dt) (de := de) (vs := vs) (ρ := ρ) I (fun _ _ _ _ => rfl) hn step xs.length 0 [] (S1 ++ [.lst []]) (by omega) h0
  show Out (lcGo (.fix xs) dg dt de vs ρ S1.length (xs.length + 1) 0 (S1 ++ [.lst []])) _ _
  rw [e]
  exact done acc S' h1 h2
end
theorem rangeL_map (n : Nat) : rangeL 0 n = (List.range n).map fun i : Nat => PV.int (i : Int) := by
  unfold rangeL
  congr 1
  funext i
  rw [Int.zero_add]
theorem rangeL_len (n : Nat) : (rangeL 0 n).length = n := by simp [rangeL]
theorem rangeL_at {n i : Nat} {x : PV} (h : (rangeL 0 n)[i]? = some x) : i < n ∧ x = .int (i : Nat) := by
  unfold rangeL at h
  rw [List.getElem?_map] at h
  by_cases hi : i < n
  · rw [List.getElem?_range hi] at h
    refine ⟨hi, (Option.some.inj h).symm.trans ?_⟩
    show PV.int (0 + (i : Int)) = _
    rw [Int.zero_add]
  · rw [List.getElem?_eq_none_iff.mpr (by simp; omega)] at h
    cases h
theorem wipeE_nil {ρ : En} : wipeE ρ [] = ρ := rfl
theorem wipeE_cons {ρ : En} {v : Nat} {vs : List Nat} : wipeE ρ (v :: vs) = (wipeE ρ vs).set v none := rfl
theorem rep0 {α : Type} {a : α} : List.replicate 0 a = [] := rfl
theorem rep1 {α : Type} {a : α} {n : Nat} : List.replicate (n + 1) a = a :: List.replicate n a := rfl
/-- the steps, all in one -/
def wpL := (And.intro (And.intro (And.intro (And.intro (And.intro (And.intro (And.intro (@FL.bind_ok) (@FL.bind_stk)) (And.intro (@FL.ofO_some) (And.intro (@FL.ofO_none) (@FL.liftE_ok)))) (And.intro (And.intro (@FL.eVar_ap) (@FL.eC_ap)) (And.intro (@FL.eBin_ap) (And.intro (@FL.eUn_ap) (@FL.aNil_ap))))) (And.intro (And.intro (And.intro (@FL.aCons_ap) (@FL.eTup_ap)) (And.intro (@FL.eLst_ap) (And.intro (@FL.eLstK_ap) (@FL.eIf_ap)))) (And.intro (And.intro (@FL.tOfE_ap) (And.intro (@FL.tAnd2_ap) (@FL.tOr2_ap))) (And.intro (@FL.tNot1_ap) (And.intro (@FL.eAnd2_ap) (@FL.eOr2_ap)))))) (And.intro (And.intro (And.intro (And.intro (@FL.eNot1_ap) (@FL.eCall_ap)) (And.intro (@FL.eApp_ap) (And.intro (@FL.eAppK_ap) (@FL.sNop_ap)))) (And.intro (And.intro (@FL.sExp_ap) (@FL.sRet_ap)) (And.intro (@FL.sRetN_ap) (And.intro (@FL.sIf_ap) (@FL.gNm_ap))))) (And.intro (And.intro (And.intro (@FL.gTp_ap) (@FL.gNil1_ap)) (And.intro (@FL.gCons1_ap) (And.intro (@FL.gSb_ap) (@FL.sAsg_ap)))) (And.intro (And.intro (@FL.sPar_ap) (And.intro (@FL.eChain_ap) (@FL.eMt_ap))) (And.intro (@FL.eMt0_ap) (And.intro (@FL.dYes_ap) (@FL.pAdd_int))))))) (And.intro (And.intro (And.intro (And.intro (And.intro (@FL.pSub_int) (@FL.pMul_int)) (And.intro (@FL.pMod_int) (And.intro (@FL.pDiv_int) (@FL.pLt_int)))) (And.intro (And.intro (@FL.pLe_int) (@FL.pGt_int)) (And.intro (@FL.pGe_int) (And.intro (@FL.pEq_int) (@FL.pNe_int))))) (And.intro (And.intro (And.intro (@FL.pNe_bl) (@FL.bInt_int)) (And.intro (@FL.bAbs_int) (And.intro (@FL.bMax2_int) (@FL.bMin2_int)))) (And.intro (And.intro (@FL.bDivmod_int) (And.intro (@FL.bLen_tup) (@FL.bLen_kl))) (And.intro (@FL.bLen_fl) (And.intro (@FL.bTuple_tup) (@FL.bTuple_fl)))))) (And.intro (And.intro (And.intro (And.intro (@FL.pIx_tup) (@FL.pIx_kl)) (And.intro (@FL.pIx_fl) (And.intro (@FL.atI_0) (@FL.atI_1)))) (And.intro (And.intro (@FL.atI_2) (@FL.pEq_tI)) (And.intro (@FL.pNe_tI) (And.intro (@FL.pIn_tI) (@FL.pIn_wP))))) (And.intro (And.intro (And.intro (@FL.pIn_wsP) (@FL.iSeq_ap)) (And.intro (@FL.iRg1_ap) (And.intro (@FL.rgK_int) (@FL.iEn_ap)))) (And.intro (And.intro (@FL.iZp_ap) (And.intro (@FL.eSl_ap) (@FL.oNone_ap))) (And.intro (@FL.oSome_ap) (And.intro (@FL.pSl_tup) (@FL.pSl_fl)))))))) (And.intro (And.intro (And.intro (And.intro (And.intro (And.intro (@FL.isi_tup) (@FL.isi_i)) (And.intro (@FL.isi_b) (And.intro (@FL.isi_s) (@FL.isi_n)))) (And.intro (And.intro (@FL.isi_f) (@FL.isi_d)) (And.intro (@FL.it_ii) (And.intro (@FL.it_ib) (@FL.it_it))))) (And.intro (And.intro (And.intro (@FL.it_is) (@FL.it_in)) (And.intro (@FL.it_il) (And.intro (@FL.it_id) (@FL.it_bi)))) (And.intro (And.intro (@FL.it_bb) (And.intro (@FL.it_bt) (@FL.it_bs))) (And.intro (@FL.it_bn) (And.intro (@FL.it_bl) (@FL.it_bd)))))) (And.intro (And.intro (And.intro (And.intro (@FL.it_tt) (@FL.it_ti)) (And.intro (@FL.it_tb) (And.intro (@FL.it_ts) (@FL.it_tn)))) (And.intro (And.intro (@FL.it_tl) (@FL.it_td)) (And.intro (@FL.sWh_ap) (And.intro (@FL.perm_ap) (@FL.Out_ok))))) (And.intro (And.intro (And.intro (@FL.Out_exc) (@FL.Out_bind)) (And.intro (@FL.SOut_ok) (And.intro (@FL.SOut_exc) (@FL.SOut_lift)))) (And.intro (And.intro (@FL.SOut_seq) (And.intro (@FL.seqK_nx) (@FL.seqK_rt))) (And.intro (@FL.seqK_bk) (And.intro (@FL.seqK_ct) (@FL.retK_rt))))))) (And.intro (And.intro (And.intro (And.intro (And.intro (@FL.retK_nx) (@FL.loopK_nx)) (And.intro (@FL.loopK_ct) (And.intro (@FL.loopK_bk) (@FL.loopK_rt)))) (And.intro (And.intro (@FL.SOut_for) (@FL.OutG_some)) (And.intro (@FL.Out_lc) (And.intro (@List.getElem?_cons_zero.{0}) (@List.getElem?_cons_succ.{0}))))) (And.intro (And.intro (And.intro (@List.length_cons.{0}) (@List.length_nil.{0})) (And.intro (@List.set_cons_zero.{0}) (And.intro (@List.set_cons_succ.{0}) (@List.map_cons.{0, 0})))) (And.intro (And.intro (@List.map_nil.{0, 0}) (And.intro (@List.length_map.{0, 0}) (@List.nil_append.{0}))) (And.intro (@List.cons_append.{0}) (And.intro (@List.filterMap_cons.{0, 0}) (@List.filterMap_nil.{0, 0})))))) (And.intro (And.intro (And.intro (And.intro (@Nat.zero_add) (@if_true.{1})) (And.intro (@if_false.{1}) (And.intro (@Bool.not_true) (@Bool.not_false)))) (And.intro (And.intro (@Bool.false_eq_true) (And.intro (@decide_eq_true_eq) (@Bool.true_and))) (And.intro (@Bool.and_true) (And.intro (@Bool.false_and) (@Bool.and_false))))) (And.intro (And.intro (And.intro (@Bool.true_or) (@Bool.or_true)) (And.intro (@Bool.false_or) (And.intro (@Bool.or_false) (@Bool.false_xor)))) (And.intro (And.intro (@Bool.true_xor) (And.intro (@and_self) (@FL.wipeE_nil))) (And.intro (@FL.wipeE_cons) (And.intro (@FL.rep0) (@FL.rep1)))))))))
end FL


namespace Law
open PySem PySem.Spec L2 FL
def top (i : Nat) : Stmt := PySem.Challenge.pw_bothvanish_k21_whole_worths_added.main.body.getD i (.Pass ⟨0, 0, 0, 0⟩)
abbrev s_sum_of : Stmt := top 15
abbrev N_sum_of : List Str := ["one", "other", "number"]
abbrev ps_sum_of : List Str := ["one", "other"]
abbrev s_added : Stmt := top 16
abbrev N_added : List Str := ["worths", "total", "each"]
abbrev ps_added : List Str := ["worths"]
abbrev s_is_between : Stmt := top 5
abbrev N_is_between : List Str := ["value", "low", "high"]
abbrev ps_is_between : List Str := ["value", "low", "high"]
abbrev s_is_worth : Stmt := top 13
abbrev N_is_worth : List Str := ["value", "one", "other", "number"]
abbrev ps_is_worth : List Str := ["value"]
abbrev s_together : Stmt := top 17
abbrev N_together : List Str := ["worths", "index", "each"]
abbrev ps_together : List Str := ["worths"]
abbrev s__law_scoop : Stmt := top 22
abbrev N__law_scoop : List Str := ["_law_pail_here", "_law_many", "_law_digit"]
abbrev ps__law_scoop : List Str := ["_law_pail_here", "_law_many"]
abbrev s_word_of : Stmt := top 18
abbrev N_word_of : List Str := ["worth"]
abbrev ps_word_of : List Str := ["worth"]
abbrev s_check_worth : Stmt := top 14
abbrev N_check_worth : List Str := ["value"]
abbrev ps_check_worth : List Str := ["value"]
abbrev s_outcome_of : Stmt := top 19
abbrev N_outcome_of : List Str := ["worth"]
abbrev ps_outcome_of : List Str := ["worth"]
abbrev s__law_told : Stmt := top 26
abbrev N__law_told : List Str := ["_law_value_here"]
abbrev ps__law_told : List Str := ["_law_value_here"]
abbrev s__law_sum : Stmt := top 24
abbrev N__law_sum : List Str := ["_law_a", "_law_b", "_law_k", "_law_found", "_law_place"]
abbrev ps__law_sum : List Str := ["_law_a", "_law_b"]
abbrev s__law_add : Stmt := top 25
abbrev N__law_add : List Str := ["_law_one_here", "_law_two", "_law_number"]
abbrev ps__law_add : List Str := ["_law_one_here", "_law_two"]
abbrev s__law_one : Stmt := top 23
abbrev N__law_one : List Str := ["_law_pail_here", "_law_things"]
abbrev ps__law_one : List Str := ["_law_pail_here", "_law_things"]
abbrev s__law_value : Stmt := top 27
abbrev N__law_value : List Str := ["_law_pail_here", "_law_top", "_law_k"]
abbrev ps__law_value : List Str := ["_law_pail_here"]
abbrev s__law_right : Stmt := top 28
abbrev N__law_right : List Str := ["_law_pail_here", "_law_again", "_law_some", "_law_total", "_law_each", "_law_number", "_law_k"]
abbrev ps__law_right : List Str := ["_law_pail_here"]
abbrev s__law_pail : Stmt := top 21
abbrev N__law_pail : List Str := ["_law_script", "_law_k", "_law_own", "_law_mixed", "_law_entry"]
abbrev ps__law_pail : List Str := ["_law_script", "_law_k"]
abbrev s_law : Stmt := top 29
abbrev N_law : List Str := ["_law_script", "_law_k"]
abbrev ps_law : List Str := ["_law_script"]
noncomputable def B_sum_of (f : FF) : En → Sto → SRes :=
  sSeq (sIf (tAnd2 (tOfE (eUn (pIsi "tuple") (eVar 0))) (tOfE (eUn (pIsi "tuple") (eVar 1)))) (sRet (eTup (aNil))) (sNop))
  (sSeq (sIf (tOfE (eUn (pIsi "tuple") (eVar 0))) (sRet (eCall bTuple (aCons (eCall bSorted (aCons (eGc (eLc (iSeq (eVar 0)) (gNm 2) (dYes) (eBin pXor (eVar 2) (eVar 1)) [2])) (aNil))) (aNil)))) (sNop))
  (sSeq (sIf (tOfE (eUn (pIsi "tuple") (eVar 1))) (sRet (eApp f (aCons (eVar 1) (aCons (eVar 0) (aNil))))) (sNop))
  (sRet (eBin pXor (eVar 0) (eVar 1)))))
noncomputable def F_sum_of : Nat → FF
  | 0 => fun _ _ => .stk
  | k + 1 => gcF (runB 3 (B_sum_of (F_sum_of k)))
noncomputable def B_added : En → Sto → SRes :=
  sSeq (sAsg (eC (.int 0)) (gNm 1))
  (sSeq (sFor (iSeq (eVar 0)) (gNm 2) (sAsg (eApp (F_sum_of 3) (aCons (eVar 1) (aCons (eVar 2) (aNil)))) (gNm 1)))
  (sRet (eVar 1)))
noncomputable def F_added : FF := gcF (runB 3 B_added)
noncomputable def B_is_between : En → Sto → SRes :=
  sRet (eAnd2 (eUn (pIsi "int") (eVar 0)) (eAnd2 (eNot1 (eUn (pIsi "bool") (eVar 0))) (eChain pLe pLe (eVar 1) (eVar 0) (eVar 2))))
noncomputable def F_is_between : FF := gcF (runB 3 B_is_between)
noncomputable def B_is_worth : En → Sto → SRes :=
  sSeq (sIf (tNot1 (tOfE (eUn (pIsi "tuple") (eVar 0)))) (sRet (eApp F_is_between (aCons (eVar 0) (aCons (eC (.int 0)) (aCons (eC (.int 1048575)) (aNil)))))) (sNop))
  (sSeq (sIf (tOr2 (tOfE (eBin pGt (eCall bLen (aCons (eVar 0) (aNil))) (eC (.int 256)))) (tNot1 (tOfE (eCall bAll (aCons (eGc (eLc (iSeq (eVar 0)) (gNm 3) (dYes) (eApp F_is_between (aCons (eVar 3) (aCons (eC (.int 0)) (aCons (eC (.int 1048575)) (aNil))))) [3])) (aNil)))))) (sRet (eC (.bl false))) (sNop))
  (sRet (eCall bAll (aCons (eGc (eLc (iZp (aCons (eVar 0) (aCons (eSl (eVar 0) (oSome (eC (.int 1))) (oNone)) (aNil)))) (gTp 2 (gCons1 (gNm 1) (gCons1 (gNm 2) (gNil1)))) (dYes) (eBin pLt (eVar 1) (eVar 2)) [1, 2])) (aNil)))))
noncomputable def F_is_worth : FF := gcF (runB 4 B_is_worth)
noncomputable def B_together : En → Sto → SRes :=
  sSeq (sIf (tOr2 (tNot1 (tOfE (eUn (pIsi "tuple") (eVar 0)))) (tOfE (eBin pGt (eCall bLen (aCons (eVar 0) (aNil))) (eC (.int 20))))) (sNev) (sNop))
  (sSeq (sFor (iEn (aCons (eVar 0) (aNil))) (gTp 2 (gCons1 (gNm 1) (gCons1 (gNm 2) (gNil1)))) (sIf (tNot1 (tOfE (eApp F_is_worth (aCons (eVar 2) (aNil))))) (sNev) (sNop)))
  (sRet (eApp F_added (aCons (eVar 0) (aNil)))))
noncomputable def F_together : FF := gcF (runB 3 B_together)
noncomputable def B__law_scoop : En → Sto → SRes :=
  sSeq (sAsg (eBin pAdd (eBin pIx (eVar 0) (eC (.int 2))) (eC (.int 2))) (gSb setIx (eVar 0) (eC (.int 2))))
  (sSeq (sIf (tOfE (eBin pGt (eBin pIx (eVar 0) (eC (.int 1))) (eC (.int 0)))) (sSeq (sAsg (eCall bDivmod (aCons (eCall bInt (aCons (eBin pIx (eVar 0) (eC (.int 1))) (aNil))) (aCons (eVar 1) (aNil)))) (gTp 2 (gCons1 (gSb setIx (eVar 0) (eC (.int 1))) (gCons1 (gNm 2) (gNil1)))))
  (sRet (eVar 2))) (sNop))
  (sSeq (sAsg (eBin pMod (eCall bInt (aCons (eBin pAdd (eBin pAdd (eBin pMul (eBin pIx (eVar 0) (eC (.int 0))) (eC (.int 46021))) (eBin pMul (eBin pIx (eVar 0) (eC (.int 2))) (eC (.int 90023)))) (eBin pMul (eBin pDiv (eBin pIx (eVar 0) (eC (.int 0))) (eC (.int 7001))) (eC (.int 53)))) (aNil))) (eC (.int 1999999649))) (gSb setIx (eVar 0) (eC (.int 0))))
  (sRet (eBin pMod (eCall bInt (aCons (eBin pDiv (eBin pIx (eVar 0) (eC (.int 0))) (eC (.int 347))) (aNil))) (eVar 1)))))
noncomputable def F__law_scoop : FF := gcF (runB 3 B__law_scoop)
noncomputable def B_word_of : En → Sto → SRes :=
  sSeq (sIf (tOfE (eUn (pIsi "tuple") (eVar 0))) (sRet (eIf (tOfE (eBin (pIn false) (eC (.int 0)) (eVar 0))) (eC (.str "won")) (eC (.str "drawn")))) (sNop))
  (sRet (eIf (tOfE (eBin pEq (eVar 0) (eC (.int 0)))) (eC (.str "lost")) (eC (.str "won"))))
noncomputable def F_word_of : FF := gcF (runB 1 B_word_of)
noncomputable def B_check_worth : En → Sto → SRes :=
  sIf (tNot1 (tOfE (eApp F_is_worth (aCons (eVar 0) (aNil))))) (sNev) (sNop)
noncomputable def F_check_worth : FF := gcF (runB 1 B_check_worth)
noncomputable def B_outcome_of : En → Sto → SRes :=
  sSeq (sExp (eApp F_check_worth (aCons (eVar 0) (aNil))))
  (sRet (eApp F_word_of (aCons (eVar 0) (aNil))))
noncomputable def F_outcome_of : FF := gcF (runB 1 B_outcome_of)
noncomputable def B__law_told : En → Sto → SRes :=
  sSeq (sIf (tOfE (eUn (pIsi "tuple") (eVar 0))) (sRet (eIf (tOfE (eBin (pIn false) (eC (.int 0)) (eVar 0))) (eC (.str "won")) (eC (.str "drawn")))) (sNop))
  (sRet (eIf (tOfE (eBin pEq (eVar 0) (eC (.int 0)))) (eC (.str "lost")) (eC (.str "won"))))
noncomputable def F__law_told : FF := gcF (runB 1 B__law_told)
noncomputable def B__law_sum : En → Sto → SRes :=
  sSeq (sAsg (eTup (aCons (eC (.int 0)) (aCons (eC (.int 1)) (aNil)))) (gTp 2 (gCons1 (gNm 3) (gCons1 (gNm 4) (gNil1)))))
  (sSeq (sFor (iRg1 (aCons (eC (.int 21)) (aNil))) (gNm 2) (sSeq (sAsg (eBin pAdd (eVar 3) (eBin pMul (eVar 4) (eBin pMod (eCall bInt (aCons (eBin pAdd (eBin pDiv (eVar 0) (eVar 4)) (eBin pDiv (eVar 1) (eVar 4))) (aNil))) (eC (.int 2))))) (gNm 3))
  (sAsg (eBin pMul (eVar 4) (eC (.int 2))) (gNm 4))))
  (sRet (eVar 3)))
noncomputable def F__law_sum : FF := gcF (runB 5 B__law_sum)
noncomputable def B__law_add (f : FF) : En → Sto → SRes :=
  sSeq (sIf (tAnd2 (tOfE (eUn (pIsi "tuple") (eVar 0))) (tOfE (eUn (pIsi "tuple") (eVar 1)))) (sRet (eTup (aNil))) (sNop))
  (sSeq (sIf (tOfE (eUn (pIsi "tuple") (eVar 0))) (sRet (eCall bTuple (aCons (eCall bSorted (aCons (eGc (eLc (iSeq (eVar 0)) (gNm 2) (dYes) (eApp F__law_sum (aCons (eVar 2) (aCons (eVar 1) (aNil)))) [2])) (aNil))) (aNil)))) (sNop))
  (sRet (eIf (tOfE (eUn (pIsi "tuple") (eVar 1))) (eApp f (aCons (eVar 1) (aCons (eVar 0) (aNil)))) (eApp F__law_sum (aCons (eVar 0) (aCons (eVar 1) (aNil)))))))
noncomputable def F__law_add : Nat → FF
  | 0 => fun _ _ => .stk
  | k + 1 => gcF (runB 3 (B__law_add (F__law_add k)))
noncomputable def B__law_one : En → Sto → SRes :=
  sRet (eBin pIx (eVar 1) (eApp F__law_scoop (aCons (eVar 0) (aCons (eCall bLen (aCons (eVar 1) (aNil))) (aNil)))))
noncomputable def F__law_one : FF := gcF (runB 2 B__law_one)
noncomputable def B__law_value : En → Sto → SRes :=
  sSeq (sAsg (eApp F__law_one (aCons (eVar 0) (aCons (eLstK (aCons (eC (.int 4)) (aCons (eC (.int 16)) (aCons (eBin pPow (eC (.int 2)) (eC (.int 20))) (aNil))))) (aNil)))) (gNm 1))
  (sSeq (sIf (tOfE (eBin pGt (eApp F__law_scoop (aCons (eVar 0) (aCons (eC (.int 3)) (aNil)))) (eC (.int 0)))) (sRet (eApp F__law_scoop (aCons (eVar 0) (aCons (eVar 1) (aNil))))) (sNop))
  (sRet (eCall bTuple (aCons (eCall bSortSet (aCons (eGc (eLc (iRg1 (aCons (eApp F__law_scoop (aCons (eVar 0) (aCons (eC (.int 6)) (aNil)))) (aNil))) (gNm 2) (dYes) (eApp F__law_scoop (aCons (eVar 0) (aCons (eVar 1) (aNil)))) [2])) (aNil))) (aNil)))))
noncomputable def F__law_value : FF := gcF (runB 3 B__law_value)
noncomputable def B__law_right : En → Sto → SRes :=
  sSeq (sFor (iRg1 (aCons (eC (.int 4)) (aNil))) (gNm 1) (sSeq (sAsg (eCall bTuple (aCons (eGc (eLc (iRg1 (aCons (eApp F__law_one (aCons (eVar 0) (aCons (eLstK (aCons (eC (.int 0)) (aCons (eC (.int 1)) (aCons (eC (.int 2)) (aCons (eC (.int 3)) (aCons (eC (.int 20)) (aNil))))))) (aNil)))) (aNil))) (gNm 6) (dYes) (eApp F__law_value (aCons (eVar 0) (aNil))) [6])) (aNil))) (gNm 2))
  (sSeq (sAsg (eC (.int 0)) (gNm 3))
  (sSeq (sFor (iSeq (eVar 2)) (gNm 4) (sAsg (eApp (F__law_add 3) (aCons (eVar 3) (aCons (eVar 4) (aNil)))) (gNm 3)))
  (sSeq (sIf (tOfE (eBin pNe (eCall bRepr (aCons (eLstK (aCons (eApp F_together (aCons (eVar 2) (aNil))) (aCons (eAppK F_together [0] (aNil) (aCons (eVar 2) (aNil))) (aCons (eApp F_together (aCons (eUn pRevS (eVar 2)) (aNil))) (aNil))))) (aNil))) (eCall bRepr (aCons (eBin pMul (eLstK (aCons (eVar 3) (aNil))) (eC (.int 3))) (aNil))))) (sRet (eC (.bl false))) (sNop))
  (sSeq (sIf (tOfE (eBin pNe (eCall bRepr (aCons (eLstK (aCons (eApp F_outcome_of (aCons (eVar 3) (aNil))) (aCons (eAppK F_outcome_of [0] (aNil) (aCons (eVar 3) (aNil))) (aNil)))) (aNil))) (eCall bRepr (aCons (eBin pMul (eLstK (aCons (eApp F__law_told (aCons (eVar 3) (aNil))) (aNil))) (eC (.int 2))) (aNil))))) (sRet (eC (.bl false))) (sNop))
  (sSeq (sAsg (eApp F__law_scoop (aCons (eVar 0) (aCons (eBin pPow (eC (.int 2)) (eC (.int 20))) (aNil)))) (gNm 5))
  (sSeq (sIf (tOfE (eBin pNe (eCall bRepr (aCons (eApp F_together (aCons (eBin pAdd (eSl (eVar 2) (oNone) (oSome (eC (.int 18)))) (eTup (aCons (eVar 5) (aCons (eVar 5) (aNil))))) (aNil))) (aNil))) (eCall bRepr (aCons (eApp F_together (aCons (eSl (eVar 2) (oNone) (oSome (eC (.int 18)))) (aNil))) (aNil))))) (sRet (eC (.bl false))) (sNop))
  (sIf (tOr2 (tOfE (eBin pNe (eApp F_together (aCons (eTup (aCons (eVar 5) (aCons (eC (.int 0)) (aNil)))) (aNil))) (eVar 5))) (tOr2 (tOfE (eBin pNe (eApp F_together (aCons (eTup (aCons (eTup (aCons (eVar 5) (aNil))) (aCons (eVar 5) (aNil)))) (aNil))) (eTup (aCons (eC (.int 0)) (aNil))))) (tOfE (eBin pNe (eApp F_together (aCons (eTup (aCons (eTup (aNil)) (aCons (eVar 5) (aNil)))) (aNil))) (eTup (aNil)))))) (sRet (eC (.bl false))) (sNop))))))))))
  (sRet (eAnd2 (eBin pEq (eApp F_together (aCons (eTup (aNil)) (aNil))) (eC (.int 0))) (eBin pEq (eApp F_together (aCons (eTup (aCons (eBin pSub (eBin pPow (eC (.int 2)) (eC (.int 20))) (eC (.int 1))) (aCons (eBin pPow (eC (.int 2)) (eC (.int 19))) (aNil)))) (aNil))) (eBin pSub (eBin pPow (eC (.int 2)) (eC (.int 19))) (eC (.int 1))))))
noncomputable def F__law_right : FF := gcF (runB 7 B__law_right)
noncomputable def B__law_pail : En → Sto → SRes :=
  sSeq (sAsg (eIf (tOfE (eBin pLt (eVar 1) (eCall bLen (aCons (eVar 0) (aNil))))) (eCall bInt (aCons (eBin pIx (eVar 0) (eVar 1)) (aNil))) (eBin pAdd (eBin pMul (eC (.int 61)) (eVar 1)) (eC (.int 43)))) (gNm 2))
  (sSeq (sAsg (eBin pAdd (eC (.int 40009)) (eBin pMul (eC (.int 1621)) (eVar 1))) (gNm 3))
  (sSeq (sFor (iSeq (eSl (eVar 0) (oNone) (oSome (eC (.int 14))))) (gNm 4) (sAsg (eBin pMod (eCall bInt (aCons (eBin pAdd (eBin pMul (eVar 3) (eC (.int 42017))) (eBin pMod (eCall bInt (aCons (eVar 4) (aNil))) (eC (.int 1999999649)))) (aNil))) (eC (.int 1999999649))) (gNm 3)))
  (sRet (eLst (aCons (eBin pMod (eCall bInt (aCons (eBin pAdd (eBin pMul (eVar 3) (eC (.int 31))) (eBin pMod (eVar 2) (eC (.int 1999999649)))) (aNil))) (eC (.int 1999999649))) (aCons (eIf (tOr2 (tOfE (eBin pLt (eVar 2) (eC (.int 0)))) (tOfE (eBin pGe (eVar 2) (eBin pPow (eC (.int 10)) (eC (.int 14)))))) (eCall bAbs (aCons (eVar 2) (aNil))) (eC (.int 0))) (aCons (eC (.int 5)) (aNil))))))))
noncomputable def F__law_pail : FF := runB 5 B__law_pail
noncomputable def B_law : En → Sto → SRes :=
  sRet (eCall bAll (aCons (eGc (eLc (iRg1 (aCons (eCall bMax2 (aCons (eC (.int 2)) (aCons (eCall bMin2 (aCons (eCall bLen (aCons (eVar 0) (aNil))) (aCons (eC (.int 5)) (aNil)))) (aNil)))) (aNil))) (gNm 1) (dYes) (eApp F__law_right (aCons (eApp F__law_pail (aCons (eVar 0) (aCons (eVar 1) (aNil)))) (aNil))) [1])) (aNil)))
noncomputable def F_law : FF := gcF (runB 2 B_law)
end Law

namespace Law
open PySem PySem.Spec L2 FL
/-! pails: a row of three numbers that a script gives, from which bounded draws are scooped -/
abbrev MOD : Int := 1999999649
/-- at p stands a pail, scooped n times -/
def Pail (S : Sto) (p n : Nat) : Prop := ∃ a b c : Int, S[p]? = some (.lst [.int a, .int b, .int c]) ∧ 0 ≤ a ∧ a < MOD ∧ 0 ≤ b ∧ 0 ≤ c ∧ c ≤ 5 + 2 * n
theorem Pail.lt {S : Sto} {p n : Nat} (h : Pail S p n) : p < S.length := by
  obtain ⟨a, b, c, e, _⟩ := h
  exact (List.getElem?_eq_some_iff.mp e).1
theorem Pail.mono {S : Sto} {p n m : Nat} (h : Pail S p n) (e : n ≤ m) : Pail S p m := by
  obtain ⟨a, b, c, e1, a0, a1, b0, c0, c1⟩ := h
  exact ⟨a, b, c, e1, a0, a1, b0, c0, by omega⟩
theorem Pail.of {S S' : Sto} {p n : Nat} (h : Pail S p n) (e : S'[p]? = S[p]?) : Pail S' p n := by
  obtain ⟨a, b, c, e1, r⟩ := h
  exact ⟨a, b, c, e.trans e1, r⟩
theorem Pail.app {S : Sto} {p n : Nat} {o : LO} (h : Pail S p n) : Pail (S ++ [o]) p n := h.of (List.getElem?_append_left h.lt)
/-- all but the place p stands as before -/
structure Kp (p : Nat) (S S' : Sto) : Prop where
  len : S'.length = S.length
  at_ : ∀ i, i ≠ p → S'[i]? = S[i]?
/-- .. and there may be more behind -/
structure Kg (p : Nat) (S S' : Sto) : Prop where
  len : S.length ≤ S'.length
  at_ : ∀ i, i < S.length → i ≠ p → S'[i]? = S[i]?
theorem Kp.refl {p : Nat} {S : Sto} : Kp p S S := ⟨rfl, fun _ _ => rfl⟩
theorem Kp.trans {p : Nat} {S S' S'' : Sto} (h : Kp p S S') (h' : Kp p S' S'') : Kp p S S'' := ⟨h'.len.trans h.len, fun i n => (h'.at_ i n).trans (h.at_ i n)⟩
theorem Kp.set {p : Nat} {S : Sto} {x : LO} : Kp p S (S.set p x) := ⟨List.length_set .., fun i n => List.getElem?_set_ne (Ne.symm n)⟩
theorem Kp.g {p : Nat} {S S' : Sto} (h : Kp p S S') : Kg p S S' := ⟨Nat.le_of_eq h.len.symm, fun i _ n => h.at_ i n⟩
theorem Kg.refl {p : Nat} {S : Sto} : Kg p S S := Kp.refl.g
theorem Kg.trans {p : Nat} {S S' S'' : Sto} (h : Kg p S S') (h' : Kg p S' S'') : Kg p S S'' := ⟨Nat.le_trans h.len h'.len, fun i l n => (h'.at_ i (Nat.lt_of_lt_of_le l h.len) n).trans (h.at_ i l n)⟩
theorem Kg.app {p : Nat} {S G : Sto} : Kg p S (S ++ G) := ⟨by simp, fun i l _ => List.getElem?_append_left l⟩
/-- a place behind is written -/
theorem Kg.set {p q : Nat} {S S' : Sto} {x : LO} (h : Kg p S S') (hq : S.length ≤ q) : Kg p S (S'.set q x) := ⟨by rw [List.length_set]; exact h.len, fun i l n => by
  rw [List.getElem?_set_ne (by omega)]; exact h.at_ i l n⟩
theorem Pail.below {S : Sto} {p n : Nat} (h : Pail S p n) (m : Nat) : ∃ o, S[p]? = some o ∧ belowO m o = true := by
  obtain ⟨a, b, c, e, _⟩ := h
  exact ⟨_, e, by simp only [belowO, belowL_cons, below_int, belowL_nil, Bool.and_self]⟩
theorem Kg.fits {p n : Nat} {S S' : Sto} (h : Kg p S S') (P : Pail S' p n) : Fits S S' := fun i hi => by
  by_cases e : i = p
  · subst e
    exact .inr (P.below _)
  · exact .inl (h.at_ i hi e)
theorem Kg.take {p : Nat} {S S' : Sto} (h : Kg p S S') : Kp p S (S'.take S.length) := ⟨by rw [List.length_take]; have := h.len; omega, fun i n => by
  by_cases l : i < S.length
  · rw [List.getElem?_take_of_lt l]
    exact h.at_ i l n
  · rw [List.getElem?_eq_none (by rw [List.length_take]; omega), List.getElem?_eq_none (by omega)]⟩
/-- what was drawn within a def: the rest is left behind -/
theorem gcK_pail {p n : Nat} {S S' : Sto} {Q : PV → Sto → Prop} {v : PV} (hp : p < S.length) (h : Kg p S S') (P : Pail S' p n) (b : below S.length v = true) (k : ∀ T, Kp p S T → Pail T p n → Q v T) : gcK S Q v S' :=
  gcK_fits (h.fits P) rfl b (k _ h.take (P.of (List.getElem?_take_of_lt hp)))
theorem gcK_pailF {p n m : Nat} {xs : List PV} {S S' : Sto} {Q : PV → Sto → Prop} (hp : p < S.length) (h : Kg p S S') (P : Pail S' p n) (hm : S.length ≤ m) (e : S'[m]? = some (.lst xs)) (b : belowL S.length xs = true) (k : ∀ T, Kp p S T → Pail T p n → Q (.fl xs) T) : gcK S Q (.ref m) S' :=
  gcK_frz (h.fits P) rfl (frz_ref hm e b) (k _ h.take (P.of (List.getElem?_take_of_lt hp)))
theorem log2_le {i : Int} {k : Nat} (h : i.natAbs < 2 ^ k) (hk : 0 < k) : i.natAbs.log2 < k := by
  by_cases h0 : i.natAbs = 0
  · rw [h0]; simpa using hk
  · exact (Nat.log2_lt h0).mpr h
theorem mul_ok {i j : Int} {a b : Nat} (h1 : i.natAbs < 2 ^ a) (h2 : j.natAbs < 2 ^ b) (h3 : a + b ≤ 1000000) (ha : 0 < a) (hb : 0 < b) : i.natAbs.log2 + j.natAbs.log2 < 1000000 := by
  have q1 := log2_le h1 ha
  have q2 := log2_le h2 hb
  omega
theorem mul60 {i j : Int} (h1 : i.natAbs < 2 ^ 60) (h2 : j.natAbs < 2 ^ 60) : i.natAbs.log2 + j.natAbs.log2 < 1000000 := mul_ok h1 h2 (by decide) (by decide) (by decide)
theorem div60 {j : Int} (h0 : 0 < j) (h1 : j.natAbs < 2 ^ 60) : 0 < j ∧ j.natAbs.log2 < 9000 := ⟨h0, Nat.lt_trans (log2_le h1 (by decide)) (by decide)⟩
/-- one scoop -/
theorem scoop {S : Sto} {p n : Nat} {m : Int} (h : Pail S p n) (hm : 0 < m) (hm2 : m < 1073741824) (hn : n < 2 ^ 40) :
    Out (F__law_scoop [.ref p, .int m] S) (fun v T => ∃ d, v = .int d ∧ 0 ≤ d ∧ d < m ∧ Kp p S T ∧ Pail T p (n + 1)) NoX := by
  have hp := h.lt
  obtain ⟨a, b, c, e, a0, a1, b0, c0, c1⟩ := h
  refine out_gcF ?_
  rw [Out_run]
  unfold B__law_scoop
  have hd : 0 < m ∧ m < 1073741824 := ⟨hm, hm2⟩
  try simp only [FL.wpL, Nat.reduceAdd, Nat.reduceLT, Nat.reduceSub, Int.reduceLT, Int.reduceNeg, Int.reduceToNat, reduceIte, List.replicate, List.cons_append, List.nil_append, pIx_ref e, setIx_ref e, ixN_0, ixN_1, ixN_2, pIx_set hp, setIx_set hp, List.getElem?_set_self hp, List.set_set]
  by_cases hb : 0 < b
  · try simp only [FL.wpL, Nat.reduceAdd, Nat.reduceLT, Nat.reduceSub, Int.reduceLT, Int.reduceNeg, Int.reduceToNat, reduceIte, hb, decide_true, hd, setIx_set hp, ixN_1, pIx_set hp]
    exact gcK_pail (n := n + 1) hp Kp.set.g ⟨a, b / m, c + 2, List.getElem?_set_self hp, a0, a1, Int.ediv_nonneg b0 (by omega), by omega, by push_cast; omega⟩ below_int fun T k P => ⟨_, rfl, Int.emod_nonneg _ (by omega), Int.emod_lt_of_pos _ hm, k, P⟩
  · have hb0 : b = 0 := by omega
    subst hb0
    have a1' : a < 1999999649 := a1
    have l1 : a.natAbs.log2 + (46021 : Int).natAbs.log2 < 1000000 := mul60 (by omega) (by decide)
    have l2 : (c + 2).natAbs.log2 + (90023 : Int).natAbs.log2 < 1000000 := mul60 (by omega) (by decide)
    have l3 : (a / 7001).natAbs.log2 + (53 : Int).natAbs.log2 < 1000000 := mul60 (by omega) (by decide)
    have l4 := div60 (j := 7001) (by decide) (by decide)
    have l5 := div60 (j := 347) (by decide) (by decide)
    have M0 : (0 : Int) < 1999999649 := by decide
    try simp only [FL.wpL, Nat.reduceAdd, Nat.reduceLT, Nat.reduceSub, Int.reduceLT, Int.reduceNeg, Int.reduceToNat, reduceIte, decide_false, hb, l1, l2, l3, l4, l5, M0, hm, pIx_set hp, setIx_set hp, ixN_0]
    generalize ea : (a * 46021 + (c + 2) * 90023 + a / 7001 * 53) % 1999999649 = a'
    have h1 : 0 ≤ a' := by rw [← ea]; exact Int.emod_nonneg _ (by decide)
    have h2 : a' < MOD := by rw [← ea]; exact Int.emod_lt_of_pos _ (by decide)
    exact gcK_pail (n := n + 1) hp Kp.set.g ⟨a', 0, c + 2, List.getElem?_set_self hp, h1, h2, by decide, by omega, by push_cast; omega⟩ below_int fun T k P => ⟨_, rfl, Int.emod_nonneg _ (by omega), Int.emod_lt_of_pos _ hm, k, P⟩
theorem lstOf_set {S : Sto} {p q : Nat} {x : LO} {ys : List PV} (h : S[q]? = some (.lst ys)) (hq : q ≠ p) : lstOf (S.set p x) (.ref q) = some ys := by
  simp only [lstOf, List.getElem?_set_ne (Ne.symm hq), h]
/-- one thing of a list that stands still -/
theorem one_fl {S : Sto} {p n : Nat} {xs : List PV} (h : Pail S p n) (h1 : xs ≠ []) (h2 : xs.length < 1000000) (hn : n < 2 ^ 40) (hb : ∀ x ∈ xs, below S.length x = true) :
    Out (F__law_one [.ref p, .fl xs] S) (fun v T => v ∈ xs ∧ Kp p S T ∧ Pail T p (n + 1)) NoX := by
  have hl : 0 < xs.length := List.length_pos_iff.mpr h1
  refine out_gcF ?_
  rw [Out_run]
  unfold B__law_one
  try simp only [FL.wpL, Nat.reduceAdd, Nat.reduceLT, Nat.reduceSub, Int.reduceLT, Int.reduceNeg, Int.reduceToNat, reduceIte, List.replicate, List.cons_append, List.nil_append]
  refine (scoop h (m := (xs.length : Int)) (by omega) (by omega) hn).use ?_
  rintro _ T ⟨d, rfl, d0, d1, k, P⟩
  obtain ⟨i, rfl⟩ := Int.eq_ofNat_of_zero_le d0
  have hi : i < xs.length := by omega
  try simp only [FL.wpL, Nat.reduceAdd, Nat.reduceLT, Nat.reduceSub, Int.reduceLT, Int.reduceNeg, Int.reduceToNat, reduceIte, atI_lt hi]
  exact gcK_pail h.lt k.g P (hb _ (List.getElem_mem hi)) fun T' k P => ⟨List.getElem_mem hi, k, P⟩
theorem one_tup {S : Sto} {p n : Nat} {xs : List PV} (h : Pail S p n) (h1 : xs ≠ []) (h2 : xs.length < 1000000) (hn : n < 2 ^ 40) (hb : ∀ x ∈ xs, below S.length x = true) :
    Out (F__law_one [.ref p, .tup xs] S) (fun v T => v ∈ xs ∧ Kp p S T ∧ Pail T p (n + 1)) NoX := by
  have hl : 0 < xs.length := List.length_pos_iff.mpr h1
  refine out_gcF ?_
  rw [Out_run]
  unfold B__law_one
  try simp only [FL.wpL, Nat.reduceAdd, Nat.reduceLT, Nat.reduceSub, Int.reduceLT, Int.reduceNeg, Int.reduceToNat, reduceIte, List.replicate, List.cons_append, List.nil_append]
  refine (scoop h (m := (xs.length : Int)) (by omega) (by omega) hn).use ?_
  rintro _ T ⟨d, rfl, d0, d1, k, P⟩
  obtain ⟨i, rfl⟩ := Int.eq_ofNat_of_zero_le d0
  have hi : i < xs.length := by omega
  try simp only [FL.wpL, Nat.reduceAdd, Nat.reduceLT, Nat.reduceSub, Int.reduceLT, Int.reduceNeg, Int.reduceToNat, reduceIte, atI_lt hi]
  exact gcK_pail h.lt k.g P (hb _ (List.getElem_mem hi)) fun T' k P => ⟨List.getElem_mem hi, k, P⟩
theorem cutP_ints (ns : List Int) (lo hi : Option Int) : ∃ ms : List Int, cutP (ns.map PV.int) lo hi = ms.map PV.int := by
  unfold cutP
  rw [← List.map_drop, ← List.map_take]
  exact ⟨_, rfl⟩
/-- a pail drawn from the script -/
theorem pail_of {S : Sto} {ns : List Int} {k : Nat} (hk : k < 64) : Out (F__law_pail [.kl (ns.map PV.int), .int (k : Int)] S) (fun v T => v = .ref S.length ∧ (∃ x, T = S ++ [x]) ∧ Pail T S.length 0) NoX := by
  obtain ⟨ms, em⟩ := cutP_ints ns none (some 14)
  have M0 : (0 : Int) < 1999999649 := by decide
  have q1 : (61 : Int).natAbs.log2 + (k : Int).natAbs.log2 < 1000000 := mul60 (by decide) (by omega)
  have q2 : (1621 : Int).natAbs.log2 + (k : Int).natAbs.log2 < 1000000 := mul60 (by decide) (by omega)
  obtain ⟨own, e0⟩ : ∃ own : Int, eIf (tOfE (eBin pLt (eVar 1) (eCall bLen (aCons (eVar 0) (aNil))))) (eCall bInt (aCons (eBin pIx (eVar 0) (eVar 1)) (aNil))) (eBin pAdd (eBin pMul (eC (.int 61)) (eVar 1)) (eC (.int 43))) [some (.kl (ns.map PV.int)), some (.int (k : Int)), none, none, none] S = .ok (.int own) S := by
    by_cases h : k < ns.length
    · have hk' : k < (ns.map PV.int).length := by simpa using h
      have h' : (k : Int) < ns.length := by omega
      exact ⟨ns[k], by try simp only [FL.wpL, Nat.reduceAdd, Nat.reduceLT, Nat.reduceSub, Int.reduceLT, Int.reduceNeg, Int.reduceToNat, reduceIte, atI_lt hk', h', List.getElem_map]⟩
    · have h' : ¬ (k : Int) < ns.length := by omega
      exact ⟨61 * k + 43, by try simp only [FL.wpL, Nat.reduceAdd, Nat.reduceLT, Nat.reduceSub, Int.reduceLT, Int.reduceNeg, Int.reduceToNat, reduceIte, h', q1]⟩
  unfold F__law_pail
  rw [Out_run]
  unfold B__law_pail
  have hsl : pSl (.kl (ns.map PV.int)) none (some 14) S = some (.fl (ms.map PV.int), S) := by
    show some (PV.fl (cutP (ns.map PV.int) none (some 14)), S) = _
    rw [em]
  show SOut (sSeq _ _ [some (.kl (ns.map PV.int)), some (.int (k : Int)), none, none, none] S) _ _
  rw [SOut_seq, sAsg_ap, e0]
  try simp only [FL.wpL, Nat.reduceAdd, Nat.reduceLT, Nat.reduceSub, Int.reduceLT, Int.reduceNeg, Int.reduceToNat, reduceIte, q2, hsl]
  refine w_forM (fun i ρ T => T = S ∧ ∃ (m : Int) (y : Option PV), ρ = [some (.kl (ns.map PV.int)), some (.int (k : Int)), some (.int own), some (.int m), y] ∧ 0 ≤ m ∧ m < 1999999649) ⟨rfl, 40009 + 1621 * (k : Int), none, rfl, by omega, by omega⟩ ?_ ?_
  · rintro i a ρ T _ ⟨rfl, m, y, rfl, m0, m1⟩
    have l1 : m.natAbs.log2 + (42017 : Int).natAbs.log2 < 1000000 := mul60 (by omega) (by decide)
    try simp only [FL.wpL, Nat.reduceAdd, Nat.reduceLT, Nat.reduceSub, Int.reduceLT, Int.reduceNeg, Int.reduceToNat, reduceIte, l1, M0]
    exact ⟨trivial, _, _, rfl, Int.emod_nonneg _ (by decide), Int.emod_lt_of_pos _ (by decide)⟩
  · rintro ρ T ⟨rfl, m, y, rfl, m0, m1⟩
    have l1 : m.natAbs.log2 + (31 : Int).natAbs.log2 < 1000000 := mul60 (by omega) (by decide)
    have hp : pPow (.int 10) (.int 14) T = some (.int 100000000000000, T) := by
      show (if (0 : Int) ≤ 14 ∧ (14 : Int) ≤ 1000000 ∧ (10 : Int).natAbs < 2 ^ 64 then some (PV.int (10 ^ (14 : Int).toNat), T) else none) = _
      rw [if_pos (by decide)]
      rfl
    have hb : (3 : Nat) ≤ big := by decide
    have e0 : 0 ≤ (m * 31 + own % 1999999649) % 1999999649 := Int.emod_nonneg _ (by decide)
    have e1 : (m * 31 + own % 1999999649) % 1999999649 < MOD := Int.emod_lt_of_pos _ (by decide)
    by_cases h1 : own < 0
    · try simp only [FL.wpL, Nat.reduceAdd, Nat.reduceLT, Nat.reduceSub, Int.reduceLT, Int.reduceNeg, Int.reduceToNat, reduceIte, l1, hp, h1, hb, M0, decide_true]
      exact ⟨trivial, ⟨_, rfl⟩, _, _, 5, get_end, e0, e1, by omega, by decide, by decide⟩
    · by_cases h2 : 100000000000000 ≤ own
      · try simp only [FL.wpL, Nat.reduceAdd, Nat.reduceLT, Nat.reduceSub, Int.reduceLT, Int.reduceNeg, Int.reduceToNat, reduceIte, l1, hp, h1, h2, hb, M0, decide_true, decide_false]
        exact ⟨trivial, ⟨_, rfl⟩, _, _, 5, get_end, e0, e1, by omega, by decide, by decide⟩
      · try simp only [FL.wpL, Nat.reduceAdd, Nat.reduceLT, Nat.reduceSub, Int.reduceLT, Int.reduceNeg, Int.reduceToNat, reduceIte, l1, hp, h1, h2, hb, M0, decide_false]
        exact ⟨trivial, ⟨_, rfl⟩, _, 0, 5, get_end, e0, e1, by omega, by decide, by decide⟩
/-- a comprehension whose turns draw -/
theorem lc_draw {xs : List PV} {dg : Tgt} {de : En → Sto → Res PV} {vs : List Nat} {ρ : En} {p N c : Nat} {S0 S1 : Sto} {Q : PV → Sto → Prop} {E : Str → List (Str × PV) → Sto → Prop} (R : PV → Prop) (hk : Kp p S0 S1) (P : Pail S1 p N) (hx : xs.length < 100000) (hR : ∀ y, R y → below S0.length y = true)
    (step : ∀ x ∈ xs, ∀ (T : Sto) (n : Nat), Pail T p n → n ≤ N + c * xs.length → OutG (dg x (wipeE ρ vs) T) fun ρ2 T2 => Out (de ρ2 T2) (fun y T' => R y ∧ Kp p T T' ∧ Pail T' p (n + c)) NoX)
    (done : ∀ ys T, ys.length = xs.length → (∀ y ∈ ys, R y) → Kp p S0 T → Pail T p (N + c * xs.length) → Q (.fl ys) T) :
    Out (lcGo (.fix xs) dg dYes de vs ρ S1.length (itFuel (.fix xs) S1) 0 (S1 ++ [.lst []])) (fun _ S2 => gcK S0 Q (.ref S1.length) S2) E := by
  have hp := P.lt
  refine lc_inv (fun i acc T => Kp p (S1 ++ [.lst []]) (T.set S1.length (.lst [])) ∧ T[S1.length]? = some (.lst acc) ∧ (∀ y ∈ acc, R y) ∧ acc.length = i ∧ Pail T p (N + c * i)) ⟨by rw [set_end]; exact .refl, get_end, by simp, rfl, P.app⟩ (fun i acc T h => h.2.1) ?_ ?_
  · rintro i x acc T hi ⟨kT, eT, q1, q2, q3⟩
    have hl := (List.getElem?_eq_some_iff.mp hi).1
    have hne : S1.length ≠ p := by omega
    have h := step x (List.mem_of_getElem? hi) T _ q3 (by have := Nat.mul_le_mul_left c (Nat.le_of_lt hl); omega)
    unfold LcW
    cases q : dg x (wipeE ρ vs) T with
    | none => rw [q] at h; exact h.elim
    | some pr =>
      obtain ⟨ρ2, T2⟩ := pr
      rw [q] at h
      show Out (de ρ2 T2) _ NoX
      refine Out.mono (r := de ρ2 T2) h (fun y T4 hy => ?_) fun _ _ _ z => z
      obtain ⟨ry, k4, P4⟩ := hy
      have e4 : T4[S1.length]? = some (.lst acc) := (k4.at_ _ hne).trans eT
      have lt4 := (List.getElem?_eq_some_iff.mp e4).1
      refine ⟨e4, by show _ < 100000; omega, ?_, List.getElem?_set_self lt4, ?_, by simp [q2], ?_⟩
      · rw [List.set_set]
        refine kT.trans ⟨by rw [List.length_set, List.length_set, k4.len], fun j hj => ?_⟩
        by_cases e : j = S1.length
        · subst e
          rw [List.getElem?_set_self lt4, List.getElem?_set_self (by rw [← k4.len]; exact lt4)]
        · rw [List.getElem?_set_ne (Ne.symm e), List.getElem?_set_ne (Ne.symm e)]
          exact k4.at_ j hj
      · intro z hz
        rcases List.mem_append.mp hz with z' | z'
        · exact q1 z z'
        · rw [List.mem_singleton] at z'; subst z'; exact ry
      · exact (P4.of (List.getElem?_set_ne hne)).mono (by rw [Nat.mul_add]; omega)
  · rintro acc T _ ⟨kT, eT, q1, q2, q3⟩
    have kg : Kg p S0 T := by
      have l0 := hk.len
      refine ⟨?_, fun j hj hne => ?_⟩
      · have := kT.len
        rw [List.length_set, List.length_append] at this
        omega
      · have := kT.at_ j hne
        rw [List.getElem?_set_ne (by omega), List.getElem?_append_left (by omega)] at this
        rw [this]
        exact hk.at_ j hne
    exact gcK_pailF (by rw [← hk.len]; exact hp) kg q3 (by rw [hk.len]; exact Nat.le_refl _) eT (belowL_all.mpr fun x hx => hR x (q1 x hx)) fun T' k' P' => done acc T' q2 q1 k' P'
theorem ints_below {n : Nat} {ns : List Int} : ∀ x ∈ ns.map PV.int, below n x = true := fun x hx => by
  obtain ⟨i, _, rfl⟩ := List.mem_map.mp hx
  exact below_int
theorem one_int {S : Sto} {p n : Nat} {ns : List Int} (h : Pail S p n) (h1 : ns ≠ []) (h2 : ns.length < 1000) (hn : n < 2 ^ 40) :
    Out (F__law_one [.ref p, .fl (ns.map PV.int)] S) (fun v T => ∃ d, v = .int d ∧ d ∈ ns ∧ Kp p S T ∧ Pail T p (n + 1)) NoX :=
  (one_fl h (by simpa using h1) (by rw [List.length_map]; omega) hn ints_below).use fun v T ⟨m, k, P⟩ => by
    obtain ⟨i, hi, rfl⟩ := List.mem_map.mp m
    exact ⟨i, rfl, hi, k, P⟩
theorem ints_of : ∀ {ys : List PV} {R : Int → Prop}, (∀ y ∈ ys, ∃ i, y = .int i ∧ R i) → ∃ ds : List Int, ys = ds.map PV.int ∧ ∀ d ∈ ds, R d
  | [], _, _ => ⟨[], rfl, by simp⟩
  | y :: ys, R, h => by
    obtain ⟨i, rfl, r⟩ := h y (List.mem_cons_self ..)
    obtain ⟨ds, rfl, q⟩ := ints_of fun z hz => h z (List.mem_cons_of_mem _ hz)
    exact ⟨i :: ds, rfl, fun d hd => by
      rcases List.mem_cons.mp hd with rfl | hd
      · exact r
      · exact q d hd⟩
theorem vals_of {α : Type} {g : α → PV} : ∀ {ys : List PV} {R : α → Prop}, (∀ y ∈ ys, ∃ i, y = g i ∧ R i) → ∃ ds : List α, ys = ds.map g ∧ ∀ d ∈ ds, R d
  | [], _, _ => ⟨[], rfl, by simp⟩
  | y :: ys, R, h => by
    obtain ⟨i, rfl, r⟩ := h y (List.mem_cons_self ..)
    obtain ⟨ds, rfl, q⟩ := vals_of fun z hz => h z (List.mem_cons_of_mem _ hz)
    exact ⟨i :: ds, rfl, fun d hd => by
      rcases List.mem_cons.mp hd with rfl | hd
      · exact r
      · exact q d hd⟩
/-! numbers added digit by digit, worths -/
def xr (x y : Int) : Int := Builtin.bitXor x y
abbrev In20 (x : Int) : Prop := 0 ≤ x ∧ x < 1048576
theorem xr_nat (a b : Nat) : xr (a : Int) (b : Int) = ((a ^^^ b : Nat) : Int) := by
  unfold xr
  rw [Bits.bitXor_pp (by omega) (by omega), Int.toNat_natCast, Int.toNat_natCast]
theorem In20.nat {x : Int} (h : In20 x) : ∃ a : Nat, x = a ∧ a < 2 ^ 20 := by
  obtain ⟨a, rfl⟩ := Int.eq_ofNat_of_zero_le h.1
  have := h.2
  exact ⟨a, rfl, by omega⟩
theorem xr_in {x y : Int} (hx : In20 x) (hy : In20 y) : In20 (xr x y) := by
  obtain ⟨a, rfl, ha⟩ := hx.nat
  obtain ⟨b, rfl, hb⟩ := hy.nat
  have := Nat.xor_lt_two_pow ha hb
  rw [xr_nat]
  exact ⟨by omega, by omega⟩
theorem xr_comm {x y : Int} (hx : In20 x) (hy : In20 y) : xr x y = xr y x := by
  obtain ⟨a, rfl, ha⟩ := hx.nat
  obtain ⟨b, rfl, hb⟩ := hy.nat
  rw [xr_nat, xr_nat, Nat.xor_comm]
theorem xr_assoc {x y z : Int} (hx : In20 x) (hy : In20 y) (hz : In20 z) : xr (xr x y) z = xr x (xr y z) := by
  obtain ⟨a, rfl, ha⟩ := hx.nat
  obtain ⟨b, rfl, hb⟩ := hy.nat
  obtain ⟨c, rfl, hc⟩ := hz.nat
  rw [xr_nat, xr_nat, xr_nat, xr_nat, Nat.xor_assoc]
theorem xr_self {x : Int} (hx : In20 x) : xr x x = 0 := by
  obtain ⟨a, rfl, ha⟩ := hx.nat
  rw [xr_nat, Nat.xor_self]
  rfl
theorem in0 : In20 0 := ⟨by decide, by decide⟩
theorem xr_zero {x : Int} (hx : In20 x) : xr x 0 = x := by
  obtain ⟨a, rfl, ha⟩ := hx.nat
  have := xr_nat a 0
  rw [Nat.xor_zero] at this
  exact this
theorem zero_xr {x : Int} (hx : In20 x) : xr 0 x = x := by rw [xr_comm in0 hx, xr_zero hx]
theorem xr_cancel {x y : Int} (hx : In20 x) (hy : In20 y) : xr (xr x y) y = x := by rw [xr_assoc hx hy hy, xr_self hy, xr_zero hx]
inductive Wt where
  | n (i : Int)
  | s (l : List Int)
def Wt.pv : Wt → PV
  | .n i => .int i
  | .s l => tI l
def OkT : Wt → Prop
  | .n i => In20 i
  | .s l => Asc l ∧ (∀ x ∈ l, In20 x) ∧ l.length ≤ 5
def sx (l : List Int) (i : Int) : List Int := isI (l.map fun x => xr x i)
def wsum : Wt → Wt → Wt
  | .n i, .n j => .n (xr i j)
  | .s l, .n j => .s (sx l j)
  | .n i, .s l => .s (sx l i)
  | .s _, .s _ => .s []
theorem mem_sx {l : List Int} {i x : Int} : x ∈ sx l i ↔ ∃ y ∈ l, xr y i = x := by
  unfold sx
  rw [mem_isI, List.mem_map]
theorem sx_asc {l : List Int} {i : Int} (h : Asc l) (hl : ∀ x ∈ l, In20 x) (hi : In20 i) : Asc (sx l i) := by
  refine isI_asc ?_
  rw [List.Nodup, List.pairwise_map]
  refine List.Pairwise.imp_of_mem (fun {a b} ha hb hab => ?_) h
  intro z
  have e : xr (xr a i) i = xr (xr b i) i := by rw [z]
  rw [xr_cancel (hl a ha) hi, xr_cancel (hl b hb) hi] at e
  omega
theorem sx_in {l : List Int} {i : Int} (hl : ∀ x ∈ l, In20 x) (hi : In20 i) : ∀ x ∈ sx l i, In20 x := fun x hx => by
  obtain ⟨y, hy, rfl⟩ := mem_sx.mp hx
  exact xr_in (hl y hy) hi
theorem sx_len (l : List Int) (i : Int) : (sx l i).length = l.length := by
  unfold sx
  rw [(isI_perm _).length_eq, List.length_map]
theorem sx_sx {l : List Int} {i j : Int} (h : Asc l) (hl : ∀ x ∈ l, In20 x) (hi : In20 i) (hj : In20 j) : sx (sx l i) j = sx l (xr i j) := by
  refine asc_ext (sx_asc (sx_asc h hl hi) (sx_in hl hi) hj) (sx_asc h hl (xr_in hi hj)) fun x => ?_
  rw [mem_sx, mem_sx]
  constructor
  · rintro ⟨y, hy, rfl⟩
    obtain ⟨z, hz, rfl⟩ := mem_sx.mp hy
    exact ⟨z, hz, (xr_assoc (hl z hz) hi hj).symm⟩
  · rintro ⟨z, hz, rfl⟩
    exact ⟨xr z i, mem_sx.mpr ⟨z, hz, rfl⟩, xr_assoc (hl z hz) hi hj⟩
theorem sx_zero {l : List Int} (h : Asc l) (hl : ∀ x ∈ l, In20 x) : sx l 0 = l := by
  refine asc_ext (sx_asc h hl in0) h fun x => ?_
  rw [mem_sx]
  constructor
  · rintro ⟨y, hy, rfl⟩
    rw [xr_zero (hl y hy)]; exact hy
  · intro hx
    exact ⟨x, hx, xr_zero (hl x hx)⟩
theorem wsum_ok {a b : Wt} (ha : OkT a) (hb : OkT b) : OkT (wsum a b) := by
  cases a with
  | n i => cases b with
    | n j => exact xr_in ha hb
    | s l => exact ⟨sx_asc hb.1 hb.2.1 ha, sx_in hb.2.1 ha, by rw [sx_len]; exact hb.2.2⟩
  | s l => cases b with
    | n j => exact ⟨sx_asc ha.1 ha.2.1 hb, sx_in ha.2.1 hb, by rw [sx_len]; exact ha.2.2⟩
    | s m => exact ⟨.nil, by simp, by simp⟩
theorem wsum_comm {a b : Wt} (ha : OkT a) (hb : OkT b) : wsum a b = wsum b a := by
  cases a with
  | n i => cases b with
    | n j => show Wt.n _ = Wt.n _; rw [xr_comm ha hb]
    | s l => rfl
  | s l => cases b with
    | n j => rfl
    | s m => rfl
theorem wsum_assoc {a b c : Wt} (ha : OkT a) (hb : OkT b) (hc : OkT c) : wsum (wsum a b) c = wsum a (wsum b c) := by
  cases a with
  | n i => cases b with
    | n j => cases c with
      | n k => show Wt.n _ = Wt.n _; rw [xr_assoc ha hb hc]
      | s m => show Wt.s _ = Wt.s _; rw [sx_sx hc.1 hc.2.1 hb ha, xr_comm hb ha]
    | s l => cases c with
      | n k => show Wt.s _ = Wt.s _; rw [sx_sx hb.1 hb.2.1 ha hc, sx_sx hb.1 hb.2.1 hc ha, xr_comm ha hc]
      | s m => rfl
  | s l => cases b with
    | n j => cases c with
      | n k => show Wt.s _ = Wt.s _; rw [sx_sx ha.1 ha.2.1 hb hc]
      | s m => rfl
    | s l2 => cases c with
      | n k => rfl
      | s m => rfl
theorem wsum_zero {a : Wt} (ha : OkT a) : wsum (.n 0) a = a := by
  cases a with
  | n i => show Wt.n _ = _; rw [zero_xr ha]
  | s l => show Wt.s _ = _; rw [sx_zero ha.1 ha.2.1]
abbrev wall (ws : List Wt) : Wt := ws.foldl wsum (.n 0)
theorem okz : OkT (.n 0) := in0
theorem okn {i : Int} (h : In20 i) : OkT (.n i) := h
theorem fold_ok : ∀ {ws : List Wt} {a : Wt}, OkT a → (∀ w ∈ ws, OkT w) → OkT (ws.foldl wsum a)
  | [], _, ha, _ => ha
  | w :: ws, a, ha, h => fold_ok (ws := ws) (wsum_ok ha (h w (List.mem_cons_self ..))) fun x hx => h x (List.mem_cons_of_mem _ hx)
theorem fold_from : ∀ {ws : List Wt} {a : Wt}, OkT a → (∀ w ∈ ws, OkT w) → ws.foldl wsum a = wsum a (wall ws)
  | [], a, ha, _ => by
    show a = wsum a (.n 0)
    rw [wsum_comm ha okz, wsum_zero ha]
  | w :: ws, a, ha, h => by
    have hw := h w (List.mem_cons_self ..)
    have hs := fun x hx => h x (List.mem_cons_of_mem w hx)
    show ws.foldl wsum (wsum a w) = wsum a (ws.foldl wsum (wsum (.n 0) w))
    rw [fold_from (wsum_ok ha hw) hs, wsum_zero hw, fold_from hw hs, wsum_assoc ha hw (fold_ok okz hs)]
theorem wall_app {us ws : List Wt} (h1 : ∀ w ∈ us, OkT w) (h2 : ∀ w ∈ ws, OkT w) : wall (us ++ ws) = wsum (wall us) (wall ws) := by
  unfold wall
  rw [List.foldl_append]
  exact fold_from (fold_ok okz h1) h2
theorem wall_rev : ∀ {ws : List Wt}, (∀ w ∈ ws, OkT w) → wall ws.reverse = wall ws
  | [], _ => rfl
  | w :: ws, h => by
    have hw := h w (List.mem_cons_self ..)
    have hs := fun x hx => h x (List.mem_cons_of_mem w hx)
    rw [List.reverse_cons, wall_app (fun x hx => hs x (List.mem_reverse.mp hx)) (by simpa using hw), wall_rev hs]
    have e : wall [w] = w := wsum_zero hw
    have e2 : wall (w :: ws) = wsum w (wall ws) := by
      show ws.foldl wsum (wsum (.n 0) w) = _
      rw [wsum_zero hw, fold_from hw hs]
    rw [e, e2, wsum_comm (fold_ok okz hs) hw]
/-- twice the same number is nothing -/
theorem wsum_twice {a : Wt} {i : Int} (ha : OkT a) (hi : In20 i) : wsum (wsum a (.n i)) (.n i) = a := by
  rw [wsum_assoc ha (okn hi) (okn hi)]
  have e : wsum (.n i) (.n i) = .n 0 := by show Wt.n _ = _; rw [xr_self hi]
  rw [e, wsum_comm ha okz, wsum_zero ha]
/-- the law's own adding -/
theorem digit (a b k : Nat) : (a ^^^ b) % 2 ^ (k + 1) = (a ^^^ b) % 2 ^ k + 2 ^ k * ((a / 2 ^ k + b / 2 ^ k) % 2) := by
  have e : ∀ x y : Nat, (x ^^^ y) % 2 = (x + y) % 2 := by
    intro x y
    have q := Nat.xor_mod_two_pow (a := x) (b := y) (n := 1)
    rw [Nat.pow_one] at q
    rw [q, Nat.add_mod]
    rcases Nat.mod_two_eq_zero_or_one x with h1 | h1 <;> rcases Nat.mod_two_eq_zero_or_one y with h2 | h2 <;> rw [h1, h2] <;> rfl
  rw [Nat.mod_pow_succ, Nat.xor_div_two_pow, e]
/-- the law's own adding -/
theorem lsum_is {S : Sto} {i j : Int} (hi : In20 i) (hj : In20 j) : F__law_sum [.int i, .int j] S = .ok (.int (xr i j)) S := by
  obtain ⟨a, rfl, ha⟩ := hi.nat
  obtain ⟨b, rfl, hb⟩ := hj.nat
  refine Out.eq (out_gcF ?_)
  rw [Out_run]
  unfold B__law_sum
  have big2 : (2 : Nat) ≤ big := by decide
  try simp only [FL.wpL, Nat.reduceAdd, Nat.reduceLT, Nat.reduceSub, Int.reduceLT, Int.reduceNeg, Int.reduceToNat, reduceIte, List.replicate, List.cons_append, List.nil_append, big2]
  refine w_forR (fun k ρ T => T = S ∧ ∃ y2, ρ = [some (.int a), some (.int b), y2, some (.int (((a ^^^ b) % 2 ^ k : Nat) : Int)), some (.int ((2 ^ k : Nat) : Int))]) ⟨rfl, none, by simp [Nat.mod_one]⟩ ?_ ?_
  · rintro k ρ T hk ⟨rfl, y2, rfl⟩
    have hd := digit a b k
    have p0 : 0 < 2 ^ k := Nat.two_pow_pos k
    have p1 : 2 ^ k < 2 ^ 22 := Nat.pow_lt_pow_right (by decide) (by omega)
    have e2 : 2 ^ (k + 1) = 2 ^ k * 2 := Nat.pow_succ ..
    rw [hd, e2]
    generalize 2 ^ k = p at *
    generalize (a ^^^ b) % p = f at *
    have l1 := div60 (j := (p : Int)) (by omega) (by omega)
    have l2 : ((p : Int)).natAbs.log2 + ((((a / p + b / p) % 2 : Nat) : Int)).natAbs.log2 < 1000000 := mul60 (by omega) (by omega)
    have l3 : ((p : Int)).natAbs.log2 + (2 : Int).natAbs.log2 < 1000000 := mul60 (by omega) (by decide)
    have m2 : (0 : Int) < 2 := by decide
    have c1 : ((a : Int) / (p : Int) + (b : Int) / (p : Int)) % 2 = (((a / p + b / p) % 2 : Nat) : Int) := by push_cast; rfl
    try simp only [FL.wpL, Nat.reduceAdd, Nat.reduceLT, Nat.reduceSub, Int.reduceLT, Int.reduceNeg, Int.reduceToNat, reduceIte, l1, m2, c1, l2, l3]
    exact ⟨trivial, _, by push_cast; rfl⟩
  · rintro ρ T ⟨rfl, y2, rfl⟩
    have hm : (a ^^^ b) % 2 ^ 21 = a ^^^ b := Nat.mod_eq_of_lt (Nat.lt_trans (Nat.xor_lt_two_pow ha hb) (by decide))
    try simp only [FL.wpL, Nat.reduceAdd, Nat.reduceLT, Nat.reduceSub, Int.reduceLT, Int.reduceNeg, Int.reduceToNat, reduceIte, hm]
    exact gcK_same below_int ⟨by rw [xr_nat], rfl⟩
/-- a list that stands, mapped and sorted -/
theorem map_sorted {S : Sto} {l : List Int} {f : Int → Int} {di : En → Sto → Res Wlk} {dg : Tgt} {de : En → Sto → Res PV} {vs : List Nat} {ρ : En} (hd : di ρ S = .ok (.fix (l.map PV.int)) S) (hl : l.length ≤ 1000)
    (step : ∀ x ∈ l, ∀ T : Sto, OutG (dg (.int x) (wipeE ρ vs) T) fun ρ2 T2 => Out (de ρ2 T2) (fun y T' => y = .int (f x) ∧ T' = T) NoX) : eGc (eLc di dg dYes de vs) ρ S = .ok (.fl ((l.map f).map PV.int)) S := by
  refine Out.eq (out_eGc ?_)
  rw [Out_lc, hd, Out_ok, lc_pure (fun _ => true) (fun x => match x with | .int x => .int (f x) | x => x) (by rw [List.length_map]; show _ ≤ 100000; omega) (fun x hx T => by
    obtain ⟨i, hi, rfl⟩ := List.mem_map.mp hx
    have h := step i hi T
    unfold LcW
    cases q : dg (.int i) (wipeE ρ vs) T with
    | none => rw [q] at h; exact h.elim
    | some p => rw [q] at h; exact Out.mono (r := de p.1 p.2) h (fun y T' z => ⟨rfl, z⟩) fun _ _ _ z => z)]
  have e : ((l.map PV.int).filter fun _ => true).map (fun x => match x with | .int x => .int (f x) | x => x) = (l.map f).map PV.int := by
    rw [List.filter_eq_self.mpr fun _ _ => rfl, List.map_map, List.map_map]
    rfl
  rw [e]
  exact gcK_list belowL_int ⟨rfl, rfl⟩
@[simp] theorem isT_tI (S : Sto) (l : List Int) : pIsi "tuple" (tI l) S = some (.bl true, S) := by simp [pIsi, tyN, isiTab]
@[simp] theorem isT_int (S : Sto) (i : Int) : pIsi "tuple" (.int i) S = some (.bl false, S) := by simp [pIsi, tyN, isiTab]
theorem sum_s {S : Sto} {k : Nat} {l : List Int} {j : Int} (hl : l.length ≤ 300) : F_sum_of (k + 1) [tI l, .int j] S = .ok (tI (sx l j)) S := by
  refine Out.eq (out_gcF ?_)
  rw [Out_run]
  unfold B_sum_of
  have e := map_sorted (di := iSeq (eVar 0)) (dg := gNm 2) (de := eBin pXor (eVar 2) (eVar 1)) (vs := [2]) (ρ := [some (tI l), some (.int j), none]) (S := S) (l := l) (f := fun x => xr x j) rfl (by omega) (fun x hx T => by (try simp only [FL.wpL, Nat.reduceAdd, Nat.reduceLT, Nat.reduceSub, Int.reduceLT, Int.reduceNeg, Int.reduceToNat, reduceIte, pXor]; all_goals (first | done | exact ⟨rfl, rfl⟩ | trivial | exact ⟨trivial, rfl⟩ | exact ⟨rfl, trivial⟩ | exact ⟨trivial, trivial⟩)))
  have s := bSorted_fl (S := S) (l := l.map fun x => xr x j) (by rw [List.length_map]; show _ ≤ 100000; omega)
  try simp only [FL.wpL, Nat.reduceAdd, Nat.reduceLT, Nat.reduceSub, Int.reduceLT, Int.reduceNeg, Int.reduceToNat, reduceIte, List.replicate, List.cons_append, List.nil_append, isT_tI, isT_int, e, s]
  exact gcK_same below_tI ⟨rfl, rfl⟩
theorem sum_is {S : Sto} {a b : Wt} (ha : OkT a) (hb : OkT b) : F_sum_of 3 [a.pv, b.pv] S = .ok (wsum a b).pv S := by
  have big0 : (0 : Nat) ≤ big := by decide
  cases a with
  | n i => cases b with
    | n j =>
      refine Out.eq (out_gcF ?_)
      rw [Out_run]
      unfold B_sum_of
      try simp only [FL.wpL, Nat.reduceAdd, Nat.reduceLT, Nat.reduceSub, Int.reduceLT, Int.reduceNeg, Int.reduceToNat, reduceIte, List.replicate, List.cons_append, List.nil_append, isT_int, Wt.pv, pXor]
      exact gcK_same below_int ⟨rfl, rfl⟩
    | s l =>
      have e := sum_s (S := S) (k := 1) (l := l) (j := i) (by have := hb.2.2; omega)
      refine Out.eq (out_gcF ?_)
      rw [Out_run]
      unfold B_sum_of
      try simp only [FL.wpL, Nat.reduceAdd, Nat.reduceLT, Nat.reduceSub, Int.reduceLT, Int.reduceNeg, Int.reduceToNat, reduceIte, List.replicate, List.cons_append, List.nil_append, isT_int, isT_tI, Wt.pv, e]
      exact gcK_same below_tI ⟨rfl, rfl⟩
  | s l => cases b with
    | n j => exact sum_s (k := 2) (by have := ha.2.2; omega)
    | s m =>
      refine Out.eq (out_gcF ?_)
      rw [Out_run]
      unfold B_sum_of
      try simp only [FL.wpL, Nat.reduceAdd, Nat.reduceLT, Nat.reduceSub, Int.reduceLT, Int.reduceNeg, Int.reduceToNat, reduceIte, List.replicate, List.cons_append, List.nil_append, isT_int, isT_tI, Wt.pv, big0]
      exact gcK_same (below_tI (l := [])) ⟨rfl, rfl⟩
theorem ladd_s {S : Sto} {k : Nat} {l : List Int} {j : Int} (hl : ∀ x ∈ l, In20 x) (hj : In20 j) (hn : l.length ≤ 300) : F__law_add (k + 1) [tI l, .int j] S = .ok (tI (sx l j)) S := by
  refine Out.eq (out_gcF ?_)
  rw [Out_run]
  unfold B__law_add
  have e := map_sorted (di := iSeq (eVar 0)) (dg := gNm 2) (de := eApp F__law_sum (aCons (eVar 2) (aCons (eVar 1) (aNil)))) (vs := [2]) (ρ := [some (tI l), some (.int j), none]) (S := S) (l := l) (f := fun x => xr x j) rfl (by omega) (fun x hx T => by (try simp only [FL.wpL, Nat.reduceAdd, Nat.reduceLT, Nat.reduceSub, Int.reduceLT, Int.reduceNeg, Int.reduceToNat, reduceIte, lsum_is (hl x hx) hj]; all_goals (first | done | exact ⟨rfl, rfl⟩ | trivial | exact ⟨trivial, rfl⟩ | exact ⟨rfl, trivial⟩ | exact ⟨trivial, trivial⟩)))
  have s := bSorted_fl (S := S) (l := l.map fun x => xr x j) (by rw [List.length_map]; show _ ≤ 100000; omega)
  try simp only [FL.wpL, Nat.reduceAdd, Nat.reduceLT, Nat.reduceSub, Int.reduceLT, Int.reduceNeg, Int.reduceToNat, reduceIte, List.replicate, List.cons_append, List.nil_append, isT_tI, isT_int, e, s]
  exact gcK_same below_tI ⟨rfl, rfl⟩
theorem ladd_is {S : Sto} {a b : Wt} (ha : OkT a) (hb : OkT b) : F__law_add 3 [a.pv, b.pv] S = .ok (wsum a b).pv S := by
  have big0 : (0 : Nat) ≤ big := by decide
  cases a with
  | n i => cases b with
    | n j =>
      refine Out.eq (out_gcF ?_)
      rw [Out_run]
      unfold B__law_add
      have e := lsum_is (S := S) ha hb
      try simp only [FL.wpL, Nat.reduceAdd, Nat.reduceLT, Nat.reduceSub, Int.reduceLT, Int.reduceNeg, Int.reduceToNat, reduceIte, List.replicate, List.cons_append, List.nil_append, isT_int, Wt.pv, e]
      exact gcK_same below_int ⟨rfl, rfl⟩
    | s l =>
      have e := ladd_s (S := S) (k := 1) (l := l) (j := i) hb.2.1 ha (by have := hb.2.2; omega)
      refine Out.eq (out_gcF ?_)
      rw [Out_run]
      unfold B__law_add
      try simp only [FL.wpL, Nat.reduceAdd, Nat.reduceLT, Nat.reduceSub, Int.reduceLT, Int.reduceNeg, Int.reduceToNat, reduceIte, List.replicate, List.cons_append, List.nil_append, isT_int, isT_tI, Wt.pv, e]
      exact gcK_same below_tI ⟨rfl, rfl⟩
  | s l => cases b with
    | n j => exact ladd_s (k := 2) ha.2.1 hb (by have := ha.2.2; omega)
    | s m =>
      refine Out.eq (out_gcF ?_)
      rw [Out_run]
      unfold B__law_add
      try simp only [FL.wpL, Nat.reduceAdd, Nat.reduceLT, Nat.reduceSub, Int.reduceLT, Int.reduceNeg, Int.reduceToNat, reduceIte, List.replicate, List.cons_append, List.nil_append, isT_int, isT_tI, Wt.pv, big0]
      exact gcK_same (below_tI (l := [])) ⟨rfl, rfl⟩
theorem between (S : Sto) (v lo hi : Int) : F_is_between [.int v, .int lo, .int hi] S = .ok (.bl (decide (lo ≤ v ∧ v ≤ hi))) S := by
  refine Out.eq (out_gcF ?_)
  rw [Out_run]
  unfold B_is_between
  by_cases h : lo ≤ v
  · try simp only [FL.wpL, Nat.reduceAdd, Nat.reduceLT, Nat.reduceSub, Int.reduceLT, Int.reduceNeg, Int.reduceToNat, reduceIte, List.replicate, List.cons_append, List.nil_append, h, decide_true]
    exact gcK_same below_bl ⟨by simp, rfl⟩
  · try simp only [FL.wpL, Nat.reduceAdd, Nat.reduceLT, Nat.reduceSub, Int.reduceLT, Int.reduceNeg, Int.reduceToNat, reduceIte, List.replicate, List.cons_append, List.nil_append, h, decide_false]
    exact gcK_same below_bl ⟨by simp, rfl⟩
theorem zip_asc {l : List Int} (h : Asc l) : ∀ p ∈ l.zip (l.drop 1), p.1 < p.2 := by
  intro p hp
  obtain ⟨i, hi, e⟩ := List.getElem_of_mem hp
  have h1 : i < l.length ∧ i < (l.drop 1).length := by
    rw [List.length_zip] at hi
    omega
  have h2 : 1 + i < l.length := by
    have := h1.2
    rw [List.length_drop] at this
    omega
  rw [List.getElem_zip] at e
  rw [← e, List.getElem_drop]
  exact List.pairwise_iff_getElem.mp h i (1 + i) h1.1 h2 (by omega)
theorem worth_ok {S : Sto} {w : Wt} (h : OkT w) : F_is_worth [w.pv] S = .ok (.bl true) S := by
  refine Out.eq (out_gcF ?_)
  rw [Out_run]
  unfold B_is_worth
  cases w with
  | n i =>
    have h1 : 0 ≤ i ∧ i ≤ 1048575 := ⟨h.1, by have := h.2; omega⟩
    try simp only [FL.wpL, Nat.reduceAdd, Nat.reduceLT, Nat.reduceSub, Int.reduceLT, Int.reduceNeg, Int.reduceToNat, reduceIte, List.replicate, List.cons_append, List.nil_append, Wt.pv, between, h1, decide_true]
    exact gcK_same below_bl ⟨rfl, rfl⟩
  | s l =>
    obtain ⟨ha, hl, hn⟩ := h
    have e1 := lc_all (di := iSeq (eVar 0)) (dg := gNm 3) (de := eApp F_is_between (aCons (eVar 3) (aCons (eC (.int 0)) (aCons (eC (.int 1048575)) (aNil))))) (vs := [3]) (ρ := [some (tI l), none, none, none]) (S := S) l PV.int (fun x => .bl (decide (0 ≤ x ∧ x ≤ 1048575))) rfl (by show _ ≤ 100000; omega) (fun _ _ => below_bl) (fun x hx T => by (try simp only [FL.wpL, Nat.reduceAdd, Nat.reduceLT, Nat.reduceSub, Int.reduceLT, Int.reduceNeg, Int.reduceToNat, reduceIte, between]; all_goals (first | done | exact ⟨rfl, rfl⟩ | trivial | exact ⟨trivial, rfl⟩ | exact ⟨rfl, trivial⟩ | exact ⟨trivial, trivial⟩)))
    have e2 := lc_all (di := iZp (aCons (eVar 0) (aCons (eSl (eVar 0) (oSome (eC (.int 1))) (oNone)) (aNil)))) (dg := gTp 2 (gCons1 (gNm 1) (gCons1 (gNm 2) (gNil1)))) (de := eBin pLt (eVar 1) (eVar 2)) (vs := [1, 2]) (ρ := [some (tI l), none, none, none]) (S := S) (l.zip (l.drop 1)) (fun p => .tup [.int p.1, .int p.2]) (fun p => .bl (decide (p.1 < p.2))) (by
      have q := cutP_from (xs := l.map PV.int) (n := 1)
      try simp only [FL.wpL, Nat.reduceAdd, Nat.reduceLT, Nat.reduceSub, Int.reduceLT, Int.reduceNeg, Int.reduceToNat, reduceIte, show ((1 : Int)) = ((1 : Nat) : Int) from rfl, q]
      rw [← List.map_drop, List.zip_map, List.map_map]
      rfl) (by rw [List.length_zip]; show _ ≤ 100000; omega) (fun _ _ => below_bl) (fun x hx T => by (try simp only [FL.wpL, Nat.reduceAdd, Nat.reduceLT, Nat.reduceSub, Int.reduceLT, Int.reduceNeg, Int.reduceToNat, reduceIte]; all_goals (first | done | exact ⟨rfl, rfl⟩ | trivial | exact ⟨trivial, rfl⟩ | exact ⟨rfl, trivial⟩ | exact ⟨trivial, trivial⟩)))
    have t1 : (l.all fun x => decide (0 ≤ x ∧ x ≤ 1048575)) = true := by
      rw [List.all_eq_true]
      intro x hx
      have := hl x hx
      exact decide_eq_true ⟨this.1, by have := this.2; omega⟩
    have t2 : ((l.zip (l.drop 1)).all fun p => decide (p.1 < p.2)) = true := by
      rw [List.all_eq_true]
      intro p hp
      exact decide_eq_true (zip_asc ha p hp)
    have l1 : ¬ (256 : Int) < l.length := by omega
    try simp only [FL.wpL, Nat.reduceAdd, Nat.reduceLT, Nat.reduceSub, Int.reduceLT, Int.reduceNeg, Int.reduceToNat, reduceIte, List.replicate, List.cons_append, List.nil_append, Wt.pv, l1, decide_false, e1, e2, bAll_fl, t1, t2]
    exact gcK_same below_bl ⟨rfl, rfl⟩
/-- many worths -/
abbrev tW (ws : List Wt) : PV := .tup (ws.map Wt.pv)
theorem below_w {n : Nat} (w : Wt) : below n w.pv = true := by
  cases w with
  | n i => exact below_int
  | s l => exact below_tI
theorem added_is {S : Sto} {ws : List Wt} (h : ∀ w ∈ ws, OkT w) : F_added [tW ws] S = .ok (wall ws).pv S := by
  refine Out.eq (out_gcF ?_)
  rw [Out_run]
  unfold B_added
  try simp only [FL.wpL, Nat.reduceAdd, Nat.reduceLT, Nat.reduceSub, Int.reduceLT, Int.reduceNeg, Int.reduceToNat, reduceIte, List.replicate, List.cons_append, List.nil_append]
  refine w_forM (fun i ρ T => T = S ∧ ∃ y2, ρ = [some (tW ws), some ((wall (ws.take i)).pv), y2]) ⟨rfl, none, rfl⟩ ?_ ?_
  · rintro i w ρ T hw ⟨rfl, y2, rfl⟩
    have hk := fold_ok (ws := ws.take i) okz fun w hw => h w (List.mem_of_mem_take hw)
    have ht : ws.take (i + 1) = ws.take i ++ [w] := by rw [List.take_add_one, hw]; rfl
    have e3 : wall (ws.take (i + 1)) = wsum (wall (ws.take i)) w := by rw [ht]; unfold wall; rw [List.foldl_append]; rfl
    try simp only [FL.wpL, Nat.reduceAdd, Nat.reduceLT, Nat.reduceSub, Int.reduceLT, Int.reduceNeg, Int.reduceToNat, reduceIte, sum_is hk (h w (List.mem_of_getElem? hw)), e3]
    exact ⟨trivial, _, rfl⟩
  · rintro ρ T ⟨rfl, y2, rfl⟩
    rw [List.take_length]
    try simp only [FL.wpL, Nat.reduceAdd, Nat.reduceLT, Nat.reduceSub, Int.reduceLT, Int.reduceNeg, Int.reduceToNat, reduceIte]
    exact gcK_same (below_w _) ⟨rfl, rfl⟩
theorem together_is {S : Sto} {ws : List Wt} (h : ∀ w ∈ ws, OkT w) (hn : ws.length ≤ 20) : F_together [tW ws] S = .ok (wall ws).pv S := by
  refine Out.eq (out_gcF ?_)
  rw [Out_run]
  unfold B_together
  have l1 : ¬ (20 : Int) < ws.length := by omega
  try simp only [FL.wpL, Nat.reduceAdd, Nat.reduceLT, Nat.reduceSub, Int.reduceLT, Int.reduceNeg, Int.reduceToNat, reduceIte, List.replicate, List.cons_append, List.nil_append, l1, decide_false]
  refine w_for (n := 0) (fun i ρ T => T = S ∧ ∃ y1 y2, ρ = [some (tW ws), y1, y2]) ⟨rfl, none, none, rfl⟩ ?_ ?_
  · rintro i x ρ T hx ⟨rfl, y1, y2, rfl⟩
    rw [List.getElem?_mapIdx, List.getElem?_map] at hx
    cases q : ws[i]? with
    | none => rw [q] at hx; cases hx
    | some w =>
      rw [q] at hx; cases hx
      try simp only [FL.wpL, Nat.reduceAdd, Nat.reduceLT, Nat.reduceSub, Int.reduceLT, Int.reduceNeg, Int.reduceToNat, reduceIte, worth_ok (h w (List.mem_of_getElem? q))]
      exact ⟨trivial, _, _, rfl⟩
  · rintro ρ T ⟨rfl, y1, y2, rfl⟩
    try simp only [FL.wpL, Nat.reduceAdd, Nat.reduceLT, Nat.reduceSub, Int.reduceLT, Int.reduceNeg, Int.reduceToNat, reduceIte, added_is h]
    exact gcK_same (below_w _) ⟨rfl, rfl⟩
def word : Wt → Str
  | .n i => if i = 0 then "lost" else "won"
  | .s l => if 0 ∈ l then "won" else "drawn"
theorem word_is {S : Sto} (w : Wt) : F_word_of [w.pv] S = .ok (.str (word w)) S := by
  refine Out.eq (out_gcF ?_)
  rw [Out_run]
  unfold B_word_of
  cases w with
  | n i =>
    by_cases h : i = 0
    · subst h
      try simp only [FL.wpL, Nat.reduceAdd, Nat.reduceLT, Nat.reduceSub, Int.reduceLT, Int.reduceNeg, Int.reduceToNat, reduceIte, List.replicate, List.cons_append, List.nil_append, Wt.pv, beq_self_eq_true]
      exact gcK_same below_str ⟨rfl, rfl⟩
    · have h' : (i == 0) = false := by simpa using h
      try simp only [FL.wpL, Nat.reduceAdd, Nat.reduceLT, Nat.reduceSub, Int.reduceLT, Int.reduceNeg, Int.reduceToNat, reduceIte, List.replicate, List.cons_append, List.nil_append, Wt.pv, h']
      exact gcK_same below_str ⟨by simp [word, h], rfl⟩
  | s l =>
    by_cases h : (0 : Int) ∈ l
    · try simp only [FL.wpL, Nat.reduceAdd, Nat.reduceLT, Nat.reduceSub, Int.reduceLT, Int.reduceNeg, Int.reduceToNat, reduceIte, List.replicate, List.cons_append, List.nil_append, Wt.pv, h, decide_true]
      exact gcK_same below_str ⟨by simp [word, h], rfl⟩
    · try simp only [FL.wpL, Nat.reduceAdd, Nat.reduceLT, Nat.reduceSub, Int.reduceLT, Int.reduceNeg, Int.reduceToNat, reduceIte, List.replicate, List.cons_append, List.nil_append, Wt.pv, h, decide_false]
      exact gcK_same below_str ⟨by simp [word, h], rfl⟩
theorem told_is {S : Sto} (w : Wt) : F__law_told [w.pv] S = .ok (.str (word w)) S := word_is w
theorem outcome_is {S : Sto} {w : Wt} (h : OkT w) : F_outcome_of [w.pv] S = .ok (.str (word w)) S := by
  have ec : F_check_worth [w.pv] S = .ok .non S := by
    refine Out.eq (out_gcF ?_)
    rw [Out_run]
    unfold B_check_worth
    try simp only [FL.wpL, Nat.reduceAdd, Nat.reduceLT, Nat.reduceSub, Int.reduceLT, Int.reduceNeg, Int.reduceToNat, reduceIte, List.replicate, List.cons_append, List.nil_append, worth_ok h]
    exact gcK_same below_non ⟨rfl, rfl⟩
  refine Out.eq (out_gcF ?_)
  rw [Out_run]
  unfold B_outcome_of
  try simp only [FL.wpL, Nat.reduceAdd, Nat.reduceLT, Nat.reduceSub, Int.reduceLT, Int.reduceNeg, Int.reduceToNat, reduceIte, List.replicate, List.cons_append, List.nil_append, ec, word_is]
  exact gcK_same below_str ⟨rfl, rfl⟩
theorem pow20 (S : Sto) : pPow (.int 2) (.int 20) S = some (.int 1048576, S) := by
  show (if (0 : Int) ≤ 20 ∧ (20 : Int) ≤ 1000000 ∧ (2 : Int).natAbs < 2 ^ 64 then some (PV.int (2 ^ (20 : Int).toNat), S) else none) = _
  rw [if_pos (by decide)]
  rfl
theorem pow19 (S : Sto) : pPow (.int 2) (.int 19) S = some (.int 524288, S) := by
  show (if (0 : Int) ≤ 19 ∧ (19 : Int) ≤ 1000000 ∧ (2 : Int).natAbs < 2 ^ 64 then some (PV.int (2 ^ (19 : Int).toNat), S) else none) = _
  rw [if_pos (by decide)]
  rfl
theorem bSortSet_fl {S : Sto} {l : List Int} (hl : l.length < 60) : bSortSet [.fl (l.map PV.int)] S = some (.fl ((usort l).map PV.int), S) := by
  show (match lstOf S (.fl (l.map PV.int)) with
    | some xs => match intsOf xs with
      | some ns => if ns.length < 60 then some (PV.fl ((usort ns).map PV.int), S) else none
      | none => none
    | none => none) = _
  simp only [lstOf, intsOf_map, hl, if_true]
theorem value_drawn {S : Sto} {p N : Nat} (h : Pail S p N) (hN : N < 2 ^ 29) : Out (F__law_value [.ref p] S) (fun v T => ∃ w, v = w.pv ∧ OkT w ∧ Kp p S T ∧ Pail T p (N + 10)) NoX := by
  have hp := h.lt
  have big3 : (3 : Nat) ≤ big := by decide
  refine out_gcF ?_
  rw [Out_run]
  unfold B__law_value
  try simp only [FL.wpL, Nat.reduceAdd, Nat.reduceLT, Nat.reduceSub, Int.reduceLT, Int.reduceNeg, Int.reduceToNat, reduceIte, List.replicate, List.cons_append, List.nil_append, pow20, big3]
  refine (one_int (ns := [4, 16, 1048576]) h (by simp) (by simp) (by omega)).use ?_
  rintro _ T1 ⟨top, rfl, htop, k1, P1⟩
  have h0 : 0 < top ∧ top ≤ 1048576 := by
    simp at htop
    rcases htop with rfl | rfl | rfl <;> decide
  clear htop
  try simp only [FL.wpL, Nat.reduceAdd, Nat.reduceLT, Nat.reduceSub, Int.reduceLT, Int.reduceNeg, Int.reduceToNat, reduceIte]
  refine (scoop P1 (m := 3) (by decide) (by decide) (by omega)).use ?_
  rintro _ T2 ⟨d, rfl, d0, d1, k2, P2⟩
  by_cases hd : 0 < d
  · try simp only [FL.wpL, Nat.reduceAdd, Nat.reduceLT, Nat.reduceSub, Int.reduceLT, Int.reduceNeg, Int.reduceToNat, reduceIte, hd, decide_true]
    refine (scoop P2 (m := top) h0.1 (by omega) (by omega)).use ?_
    rintro _ T3 ⟨v, rfl, v0, v1, k3, P3⟩
    try simp only [FL.wpL, Nat.reduceAdd, Nat.reduceLT, Nat.reduceSub, Int.reduceLT, Int.reduceNeg, Int.reduceToNat, reduceIte]
    exact gcK_pail hp ((k1.trans k2).trans k3).g P3 below_int fun T k P => ⟨.n v, rfl, ⟨v0, by omega⟩, k, P.mono (by omega)⟩
  · try simp only [FL.wpL, Nat.reduceAdd, Nat.reduceLT, Nat.reduceSub, Int.reduceLT, Int.reduceNeg, Int.reduceToNat, reduceIte, hd, decide_false]
    refine out_eGc ?_
    try simp only [FL.wpL, Nat.reduceAdd, Nat.reduceLT, Nat.reduceSub, Int.reduceLT, Int.reduceNeg, Int.reduceToNat, reduceIte]
    refine (scoop P2 (m := 6) (by decide) (by decide) (by omega)).use ?_
    rintro _ T3 ⟨c, rfl, c0, c1, k3, P3⟩
    obtain ⟨c, rfl⟩ := Int.eq_ofNat_of_zero_le c0
    try simp only [FL.wpL, Nat.reduceAdd, Nat.reduceLT, Nat.reduceSub, Int.reduceLT, Int.reduceNeg, Int.reduceToNat, reduceIte, rgK_nat (n := c) (by omega)]
    refine lc_draw (c := 1) (fun y => ∃ i, y = .int i ∧ In20 i) k3 P3 (by rw [rangeL_len]; omega) (by rintro y ⟨i, rfl, _⟩; exact below_int) ?_ ?_
    · rintro x _ T n hn q3
      rw [rangeL_len] at q3
      try simp only [FL.wpL, Nat.reduceAdd, Nat.reduceLT, Nat.reduceSub, Int.reduceLT, Int.reduceNeg, Int.reduceToNat, reduceIte]
      refine (scoop hn (m := top) h0.1 (by omega) (by omega)).use ?_
      rintro _ T4 ⟨v, rfl, v0, v1, k4, P4⟩
      exact ⟨⟨v, rfl, v0, by omega⟩, k4, P4⟩
    · intro ys T hl hy k4 P4
      rw [rangeL_len] at hl P4
      obtain ⟨ds, rfl, hd⟩ := ints_of hy
      rw [List.length_map] at hl
      try simp only [FL.wpL, Nat.reduceAdd, Nat.reduceLT, Nat.reduceSub, Int.reduceLT, Int.reduceNeg, Int.reduceToNat, reduceIte, bSortSet_fl (l := ds) (by omega)]
      exact gcK_pail hp ((k1.trans k2).trans k4).g P4 below_tI fun T k P => ⟨.s (usort ds), rfl, ⟨usort_asc ds, fun x hx => hd x (mem_usort.mp hx), by have := usort_len ds; omega⟩, k, P.mono (by omega)⟩
theorem in20_abs {i : Int} (h : In20 i) : i.natAbs < 1000000000000 := by
  have h1 := h.1
  have h2 := h.2
  omega
/-- a worth's text -/
def wd : Wt → PyData
  | .n i => .int i
  | .s l => .tuple (l.map .int)
theorem sh_w {w : Wt} (h : OkT w) : Sh 2 300 w.pv (wd w) := by
  cases w with
  | n i => exact (sh_int (in20_abs h)).mono (by decide) (by decide)
  | s l =>
    refine (sh_tI fun x hx => in20_abs (h.2.1 x hx)).mono (by decide) ?_
    have := h.2.2
    omega
theorem sh_word (w : Wt) : Sh 1 10 (.str (word w)) (.str (word w)) := by
  have hw : word w = "lost" ∨ word w = "won" ∨ word w = "drawn" := by
    cases w with
    | n i =>
      show (if i = 0 then ("lost" : Str) else "won") = _ ∨ (if i = 0 then ("lost" : Str) else "won") = _ ∨ (if i = 0 then ("lost" : Str) else "won") = _
      by_cases h : i = 0
      · rw [if_pos h]; exact .inl rfl
      · rw [if_neg h]; exact .inr (.inl rfl)
    | s l =>
      show (if 0 ∈ l then ("won" : Str) else "drawn") = _ ∨ (if 0 ∈ l then ("won" : Str) else "drawn") = _ ∨ (if 0 ∈ l then ("won" : Str) else "drawn") = _
      by_cases h : 0 ∈ l
      · rw [if_pos h]; exact .inr (.inl rfl)
      · rw [if_neg h]; exact .inr (.inr rfl)
  refine ⟨fun S j e => by cases j with
    | zero => omega
    | succ j => rfl, ?_⟩
  rcases hw with h | h | h <;> rw [h] <;> exact ⟨rfl, by decide +kernel, by decide +kernel⟩
theorem pEqW_n (S : Sto) (w : Wt) (i : Int) (h : w = .n i) : pNe w.pv (.int i) S = some (.bl false, S) := by
  subst h
  show some (PV.bl (!(i == i)), S) = _
  simp
theorem pv_n (i : Int) : (Wt.n i).pv = .int i := rfl
theorem pv_s (l : List Int) : (Wt.s l).pv = .tup (l.map PV.int) := rfl
theorem kl_perm1 (v : PV) : FL.perm [0] ([] ++ [v]) = [v] := rfl
noncomputable def roundB : En → Sto → SRes :=
  (sSeq (sAsg (eCall bTuple (aCons (eGc (eLc (iRg1 (aCons (eApp F__law_one (aCons (eVar 0) (aCons (eLstK (aCons (eC (.int 0)) (aCons (eC (.int 1)) (aCons (eC (.int 2)) (aCons (eC (.int 3)) (aCons (eC (.int 20)) (aNil))))))) (aNil)))) (aNil))) (gNm 6) (dYes) (eApp F__law_value (aCons (eVar 0) (aNil))) [6])) (aNil))) (gNm 2))
  (sSeq (sAsg (eC (.int 0)) (gNm 3))
  (sSeq (sFor (iSeq (eVar 2)) (gNm 4) (sAsg (eApp (F__law_add 3) (aCons (eVar 3) (aCons (eVar 4) (aNil)))) (gNm 3)))
  (sSeq (sIf (tOfE (eBin pNe (eCall bRepr (aCons (eLstK (aCons (eApp F_together (aCons (eVar 2) (aNil))) (aCons (eAppK F_together [0] (aNil) (aCons (eVar 2) (aNil))) (aCons (eApp F_together (aCons (eUn pRevS (eVar 2)) (aNil))) (aNil))))) (aNil))) (eCall bRepr (aCons (eBin pMul (eLstK (aCons (eVar 3) (aNil))) (eC (.int 3))) (aNil))))) (sRet (eC (.bl false))) (sNop))
  (sSeq (sIf (tOfE (eBin pNe (eCall bRepr (aCons (eLstK (aCons (eApp F_outcome_of (aCons (eVar 3) (aNil))) (aCons (eAppK F_outcome_of [0] (aNil) (aCons (eVar 3) (aNil))) (aNil)))) (aNil))) (eCall bRepr (aCons (eBin pMul (eLstK (aCons (eApp F__law_told (aCons (eVar 3) (aNil))) (aNil))) (eC (.int 2))) (aNil))))) (sRet (eC (.bl false))) (sNop))
  (sSeq (sAsg (eApp F__law_scoop (aCons (eVar 0) (aCons (eBin pPow (eC (.int 2)) (eC (.int 20))) (aNil)))) (gNm 5))
  (sSeq (sIf (tOfE (eBin pNe (eCall bRepr (aCons (eApp F_together (aCons (eBin pAdd (eSl (eVar 2) (oNone) (oSome (eC (.int 18)))) (eTup (aCons (eVar 5) (aCons (eVar 5) (aNil))))) (aNil))) (aNil))) (eCall bRepr (aCons (eApp F_together (aCons (eSl (eVar 2) (oNone) (oSome (eC (.int 18)))) (aNil))) (aNil))))) (sRet (eC (.bl false))) (sNop))
  (sIf (tOr2 (tOfE (eBin pNe (eApp F_together (aCons (eTup (aCons (eVar 5) (aCons (eC (.int 0)) (aNil)))) (aNil))) (eVar 5))) (tOr2 (tOfE (eBin pNe (eApp F_together (aCons (eTup (aCons (eTup (aCons (eVar 5) (aNil))) (aCons (eVar 5) (aNil)))) (aNil))) (eTup (aCons (eC (.int 0)) (aNil))))) (tOfE (eBin pNe (eApp F_together (aCons (eTup (aCons (eTup (aNil)) (aCons (eVar 5) (aNil)))) (aNil))) (eTup (aNil)))))) (sRet (eC (.bl false))) (sNop)))))))))
theorem right_eq : B__law_right = sSeq (sFor (iRg1 (aCons (eC (.int 4)) (aNil))) (gNm 1) roundB)
  (sRet (eAnd2 (eBin pEq (eApp F_together (aCons (eTup (aNil)) (aNil))) (eC (.int 0))) (eBin pEq (eApp F_together (aCons (eTup (aCons (eBin pSub (eBin pPow (eC (.int 2)) (eC (.int 20))) (eC (.int 1))) (aCons (eBin pPow (eC (.int 2)) (eC (.int 19))) (aNil)))) (aNil))) (eBin pSub (eBin pPow (eC (.int 2)) (eC (.int 19))) (eC (.int 1)))))) := rfl
theorem tog {S : Sto} {ws : List Wt} {v : PV} (h : ∀ w ∈ ws, OkT w) (hn : ws.length ≤ 20) (e : v = tW ws) : F_together [v] S = .ok (wall ws).pv S := by
  rw [e]; exact together_is h hn
theorem pNe_same (S : Sto) (x : Str) : pNe (.str x) (.str x) S = some (.bl false, S) := pNe_str S x
theorem round_ok {p N : Nat} {S0 S : Sto} {y1 y2 y3 y4 y5 y6 : Option PV} (hk : Kp p S0 S) (hP : Pail S p N) (hN : N < 2 ^ 20) {k : Fl → En → Sto → Prop} {e : Str → List (Str × PV) → En → Sto → Prop}
    (done : ∀ T y1 y2 y3 y4 y5 y6, Kp p S0 T → Pail T p (N + 250) → k .nx [some (.ref p), y1, y2, y3, y4, y5, y6] T) : SOut (roundB [some (.ref p), y1, y2, y3, y4, y5, y6] S) k e := by
  have big5 : (5 : Nat) ≤ big := by decide
  have big3 : (3 : Nat) ≤ big := by decide
  have big2 : (2 : Nat) ≤ big := by decide
  have big1 : (1 : Nat) ≤ big := by decide
  have big0 : (0 : Nat) ≤ big := by decide
  unfold roundB
  rw [SOut_seq, sAsg_ap, SOut_lift, eCall_ap, Out_bind, aCons_ap, Out_bind]
  refine out_eGc ?_
  try simp only [FL.wpL, Nat.reduceAdd, Nat.reduceLT, Nat.reduceSub, Int.reduceLT, Int.reduceNeg, Int.reduceToNat, reduceIte, big5]
  refine (one_int (ns := [0, 1, 2, 3, 20]) hP (by simp) (by simp) (by omega)).use ?_
  rintro _ T1 ⟨d, rfl, hd, k1, P1⟩
  obtain ⟨d, rfl⟩ : ∃ n : Nat, d = n := Int.eq_ofNat_of_zero_le (by simp at hd; omega)
  have hd2 : d ≤ 20 := by simp at hd; omega
  clear hd
  try simp only [FL.wpL, Nat.reduceAdd, Nat.reduceLT, Nat.reduceSub, Int.reduceLT, Int.reduceNeg, Int.reduceToNat, reduceIte, rgK_nat (n := d) (by omega)]
  refine lc_draw (c := 10) (fun y => ∃ w, y = Wt.pv w ∧ OkT w) k1 P1 (by rw [rangeL_len]; omega) (by rintro y ⟨w, rfl, _⟩; exact below_w w) ?_ ?_
  · rintro x _ T n hn q3
    rw [rangeL_len] at q3
    try simp only [FL.wpL, Nat.reduceAdd, Nat.reduceLT, Nat.reduceSub, Int.reduceLT, Int.reduceNeg, Int.reduceToNat, reduceIte]
    refine (value_drawn hn (by omega)).use ?_
    rintro _ T4 ⟨w, rfl, hw, k4, P4⟩
    exact ⟨⟨w, rfl, hw⟩, k4, P4⟩
  intro ys T2 hl hy k2 P2
  rw [rangeL_len] at hl P2
  obtain ⟨ws, rfl, hw⟩ := vals_of hy
  rw [List.length_map] at hl
  have hws : ws.length ≤ 20 := by omega
  try simp only [FL.wpL, Nat.reduceAdd, Nat.reduceLT, Nat.reduceSub, Int.reduceLT, Int.reduceNeg, Int.reduceToNat, reduceIte]
  refine w_forM (fun i ρ T => T = T2 ∧ ∃ y4, ρ = [some (.ref p), y1, some (tW ws), some (wall (ws.take i)).pv, y4, y5, y6]) ⟨rfl, y4, rfl⟩ ?_ ?_
  · rintro i w ρ T hi ⟨rfl, y4, rfl⟩
    have hk := fold_ok (ws := ws.take i) okz fun w hw' => hw w (List.mem_of_mem_take hw')
    have ht : ws.take (i + 1) = ws.take i ++ [w] := by rw [List.take_add_one, hi]; rfl
    have e3 : wall (ws.take (i + 1)) = wsum (wall (ws.take i)) w := by rw [ht]; unfold wall; rw [List.foldl_append]; rfl
    try simp only [FL.wpL, Nat.reduceAdd, Nat.reduceLT, Nat.reduceSub, Int.reduceLT, Int.reduceNeg, Int.reduceToNat, reduceIte, ladd_is hk (hw w (List.mem_of_getElem? hi)), e3]
    exact ⟨trivial, _, rfl⟩
  rintro ρ T ⟨rfl, y4, rfl⟩
  rw [List.take_length]
  have okw : OkT (wall ws) := fold_ok okz hw
  have rv : pRevS (tW ws) T = some (tW ws.reverse, T) := by
    show some (PV.tup (ws.map Wt.pv).reverse, T) = _
    rw [← List.map_reverse]
  have t1 := together_is (S := T) hw hws
  have t2 := together_is (S := T) (ws := ws.reverse) (fun w h => hw w (List.mem_reverse.mp h)) (by simpa using hws)
  rw [wall_rev hw] at t2
  have m3 : pMul (.fl [(wall ws).pv]) (.int 3) T = some (.fl [(wall ws).pv, (wall ws).pv, (wall ws).pv], T) := rfl
  have m2 : ∀ v, pMul (.fl [v]) (.int 2) T = some (.fl [v, v], T) := fun _ => rfl
  have r1 := (Shs.cons (sh_w okw) (.cons (sh_w okw) (.cons (sh_w okw) .nil))).fl.repr (by decide) (by simp) T
  have r2 := (Shs.cons (sh_word (wall ws)) (.cons (sh_word (wall ws)) .nil)).fl.repr (by decide) (by simp) T
  try simp only [FL.wpL, Nat.reduceAdd, Nat.reduceLT, Nat.reduceSub, Int.reduceLT, Int.reduceNeg, Int.reduceToNat, reduceIte, t1, kl_perm1, rv, t2, big3, big1, m3, r1, pNe_same, outcome_is okw, big2, told_is, m2, r2, pow20]
  refine (scoop P2 (m := 1048576) (by decide) (by decide) (by omega)).use ?_
  rintro _ T3 ⟨v, rfl, v0, v1, k3, P3⟩
  have iv : In20 v := ⟨v0, v1⟩
  have hw18 : ∀ w ∈ ws.take 18, OkT w := fun w h => hw w (List.mem_of_mem_take h)
  have s1 : cutP (ws.map Wt.pv) none (some 18) = (ws.take 18).map Wt.pv := by
    have q := cutP_to (xs := ws.map Wt.pv) (n := 18)
    rw [show ((18 : Nat) : Int) = 18 from rfl] at q
    rw [q, ← List.map_take]
  have l18 : (ws.take 18).length ≤ 18 := by rw [List.length_take]; omega
  have a1 : pAdd (tW (ws.take 18)) (.tup [.int v, .int v]) T3 = some (tW (ws.take 18 ++ [.n v, .n v]), T3) := by
    show (if ((ws.take 18).map Wt.pv).length + [PV.int v, PV.int v].length ≤ big then some (PV.tup ((ws.take 18).map Wt.pv ++ [PV.int v, PV.int v]), T3) else none) = _
    rw [if_pos (by rw [List.length_map, big_is]; simp; omega)]
    simp [tW, Wt.pv]
  have t3 := together_is (S := T3) (ws := ws.take 18 ++ [.n v, .n v]) (by
    intro w hw'
    rcases List.mem_append.mp hw' with z | z
    · exact hw18 w z
    · simp at z; rw [z]; exact iv) (by simp; omega)
  have t4 := together_is (S := T3) (ws := ws.take 18) hw18 (by omega)
  have w18 : wall (ws.take 18 ++ [.n v, .n v]) = wall (ws.take 18) := by
    rw [wall_app hw18 (by intro w z; simp at z; rw [z]; exact iv)]
    have e2 : wall [.n v, .n v] = .n 0 := by
      show wsum (wsum (.n 0) (.n v)) (.n v) = _
      rw [wsum_zero (okn iv)]
      show Wt.n _ = _
      rw [xr_self iv]
    rw [e2, wsum_comm (fold_ok okz hw18) okz, wsum_zero (fold_ok okz hw18)]
  rw [w18] at t3
  have r3 := (sh_w (fold_ok okz hw18)).repr (by decide) (by decide) T3
  have t5 := tog (S := T3) (ws := [.n v, .n 0]) (v := .tup [.int v, .int 0]) (by intro w z; simp at z; rcases z with rfl | rfl; exact iv; exact in0) (by simp) rfl
  have t6 := tog (S := T3) (ws := [.s [v], .n v]) (v := .tup [.tup [.int v], .int v]) (by
    intro w z; simp at z; rcases z with rfl | rfl
    · exact ⟨by simp, by simpa using iv, by simp⟩
    · exact iv) (by simp) rfl
  have t7 := tog (S := T3) (ws := [.s [], .n v]) (v := .tup [.tup [], .int v]) (by
    intro w z; simp at z; rcases z with rfl | rfl
    · exact ⟨.nil, by simp, by simp⟩
    · exact iv) (by simp) rfl
  have w5 : wall [.n v, .n 0] = .n v := by
    show wsum (wsum (.n 0) (.n v)) (.n 0) = _
    rw [wsum_zero (okn iv), wsum_comm (okn iv) okz, wsum_zero (okn iv)]
  have w6 : wall [.s [v], .n v] = .s [0] := by
    show wsum (wsum (.n 0) (.s [v])) (.n v) = _
    rw [wsum_zero (a := .s [v]) ⟨by simp, by simpa using iv, by simp⟩]
    show Wt.s (isI ([v].map fun x => xr x v)) = _
    rw [List.map_cons, List.map_nil, xr_self iv]
    rfl
  have w7 : wall [.s [], .n v] = .s [] := by
    show wsum (wsum (.n 0) (.s [])) (.n v) = _
    rw [wsum_zero (a := .s []) ⟨.nil, by simp, by simp⟩]
    rfl
  rw [w5] at t5
  rw [w6] at t6
  rw [w7] at t7
  have n6 : pNe (.tup [.int 0]) (.tup [.int 0]) T3 = some (.bl false, T3) := (pNe_tI T3 [0] [0]).trans (by simp)
  have n7 : pNe (.tup []) (.tup []) T3 = some (.bl false, T3) := (pNe_tI T3 [] []).trans (by simp)
  try simp only [FL.wpL, Nat.reduceAdd, Nat.reduceLT, Nat.reduceSub, Int.reduceLT, Int.reduceNeg, Int.reduceToNat, reduceIte, s1, big2, a1, t3, t4, r3, pNe_same, t5, t6, t7, pv_n, pv_s, List.map_cons, List.map_nil, big1, big0, beq_self_eq_true, n6, n7]
  exact done _ _ _ _ _ _ _ ((hk.trans k2).trans k3) (P3.mono (by omega))
theorem right_true {S : Sto} {p : Nat} (hP : Pail S p 0) : Out (F__law_right [.ref p] S) (fun v T => v = .bl true ∧ Kp p S T) NoX := by
  have big2 : (2 : Nat) ≤ big := by decide
  have big0 : (0 : Nat) ≤ big := by decide
  refine out_gcF ?_
  rw [Out_run, right_eq]
  try simp only [FL.wpL, Nat.reduceAdd, Nat.reduceLT, Nat.reduceSub, Int.reduceLT, Int.reduceNeg, Int.reduceToNat, reduceIte, List.replicate, List.cons_append, List.nil_append]
  refine w_forR (fun i ρ T => Kp p S T ∧ Pail T p (250 * i) ∧ ∃ y1 y2 y3 y4 y5 y6, ρ = [some (.ref p), y1, y2, y3, y4, y5, y6]) ⟨.refl, hP, _, _, _, _, _, _, rfl⟩ ?_ ?_
  · rintro i ρ T hi ⟨kT, PT, y1, y2, y3, y4, y5, y6, rfl⟩
    try simp only [FL.wpL, Nat.reduceAdd, Nat.reduceLT, Nat.reduceSub, Int.reduceLT, Int.reduceNeg, Int.reduceToNat, reduceIte]
    refine round_ok kT PT (by omega) ?_
    intro T' y1 y2 y3 y4 y5 y6 k P
    exact ⟨k, P.mono (by omega), _, _, _, _, _, _, rfl⟩
  · rintro ρ T ⟨kT, PT, y1, y2, y3, y4, y5, y6, rfl⟩
    have t0 := tog (S := T) (ws := []) (v := .tup []) (by simp) (by decide) rfl
    have t1 := tog (S := T) (ws := [.n 1048575, .n 524288]) (v := .tup [.int 1048575, .int 524288]) (by intro w z; simp at z; rcases z with rfl | rfl <;> exact ⟨by decide, by decide⟩) (by decide) rfl
    have w0 : wall [] = .n 0 := rfl
    have w1 : wall [.n 1048575, .n 524288] = .n 524287 := by
      have q : xr (xr 0 1048575) 524288 = 524287 := by decide +kernel
      show Wt.n (xr (xr 0 1048575) 524288) = _
      rw [q]
    rw [w0] at t0
    rw [w1] at t1
    try simp only [FL.wpL, Nat.reduceAdd, Nat.reduceLT, Nat.reduceSub, Int.reduceLT, Int.reduceNeg, Int.reduceToNat, reduceIte, pow20, pow19, big0, big2, t0, t1, pv_n, beq_self_eq_true, Int.reduceSub]
    exact gcK_pail hP.lt kT.g PT below_bl fun T' k P => ⟨rfl, k⟩
theorem bools_flat {l : List Bool} {S : Sto} : bAll [.fl (l.map PV.bl)] S = some (.bl (l.all id), S) := by
  have := bAll_fl (f := id) (l := l) (S := S)
  simpa using this
theorem law_true (ns : List Int) (h : ns.length ≤ 63) : ∃ S', F_law [.kl (ns.map PV.int)] [] = .ok (.bl true) S' := by
  have key : Out (F_law [.kl (ns.map PV.int)] []) (fun v T => v = .bl true) NoX := by
    refine out_gcF ?_
    rw [Out_run]
    unfold B_law
    try simp only [FL.wpL, Nat.reduceAdd, Nat.reduceLT, Nat.reduceSub, Int.reduceLT, Int.reduceNeg, Int.reduceToNat, reduceIte]
    refine out_eGc ?_
    try simp only [FL.wpL, Nat.reduceAdd, Nat.reduceLT, Nat.reduceSub, Int.reduceLT, Int.reduceNeg, Int.reduceToNat, reduceIte]
    generalize eK : (if (if (5 : Int) < ns.length then (5 : Int) else ns.length) > 2 then (if (5 : Int) < ns.length then (5 : Int) else ns.length) else 2) = j
    have j0 : 0 ≤ j ∧ j ≤ 9 := by
      rw [← eK]
      split <;> split <;> omega
    clear eK
    obtain ⟨j, rfl⟩ := Int.eq_ofNat_of_zero_le j0.1
    try simp only [FL.wpL, Nat.reduceAdd, Nat.reduceLT, Nat.reduceSub, Int.reduceLT, Int.reduceNeg, Int.reduceToNat, reduceIte, rgK_nat (n := j) (by omega)]
    refine lc_inv (S1 := []) (fun i acc T => T[0]? = some (.lst acc) ∧ ∃ bs : List Bool, acc = bs.map PV.bl ∧ bs.all id = true ∧ bs.length = i) ⟨rfl, [], rfl, rfl, rfl⟩ (fun i acc T h => h.1) ?_ ?_
    · rintro i x acc T hx ⟨eT, bs, rfl, hb, hl⟩
      obtain ⟨hi, rfl⟩ := rangeL_at hx
      have l0 := (List.getElem?_eq_some_iff.mp eT).1
      unfold LcW
      try simp only [FL.wpL, Nat.reduceAdd, Nat.reduceLT, Nat.reduceSub, Int.reduceLT, Int.reduceNeg, Int.reduceToNat, reduceIte]
      refine (pail_of (S := T) (ns := ns) (k := i) (by omega)).use ?_
      rintro _ T1 ⟨rfl, ⟨y, rfl⟩, P⟩
      try simp only [FL.wpL, Nat.reduceAdd, Nat.reduceLT, Nat.reduceSub, Int.reduceLT, Int.reduceNeg, Int.reduceToNat, reduceIte]
      refine (right_true P).use ?_
      rintro _ T2 ⟨rfl, k⟩
      have e2 : T2[0]? = some (.lst (bs.map PV.bl)) := by
        rw [k.at_ 0 (by omega), List.getElem?_append_left l0]
        exact eT
      have l2 := (List.getElem?_eq_some_iff.mp e2).1
      exact ⟨e2, by first | (show bs.length < 100000; omega) | (rw [List.length_map]; show _ < 100000; omega), List.getElem?_set_self l2, bs ++ [true], by simp, by simpa using hb, by simp [hl]⟩
    · rintro acc T _ ⟨eT, bs, rfl, hb, hl⟩
      obtain ⟨G, rfl⟩ : ∃ G, T = .lst (bs.map PV.bl) :: G := by
        cases T with
        | nil => cases eT
        | cons o G =>
          simp at eT
          exact ⟨G, by rw [eT]⟩
      refine gcK_list (S := []) (G := G) (belowL_map fun _ _ => below_bl) ?_
      try simp only [FL.wpL, Nat.reduceAdd, Nat.reduceLT, Nat.reduceSub, Int.reduceLT, Int.reduceNeg, Int.reduceToNat, reduceIte, bools_flat, hb]
      exact gcK_same below_bl rfl
  cases q : F_law [.kl (ns.map PV.int)] [] with
  | ok v S' =>
    rw [q] at key
    have key : v = .bl true := key
    exact ⟨S', by rw [key]⟩
  | exc _ _ _ => rw [q] at key; exact key.elim
  | stk => rw [q] at key; exact key.elim
end Law

namespace Law
open PySem PySem.Spec L2 FL
structure Ad where
  a_sum_of : Addr
  d_sum_of : FuncData
  a_added : Addr
  d_added : FuncData
  a_is_between : Addr
  d_is_between : FuncData
  a_is_worth : Addr
  d_is_worth : FuncData
  a_together : Addr
  d_together : FuncData
  a__law_scoop : Addr
  d__law_scoop : FuncData
  a_word_of : Addr
  d_word_of : FuncData
  a_check_worth : Addr
  d_check_worth : FuncData
  a_outcome_of : Addr
  d_outcome_of : FuncData
  a__law_told : Addr
  d__law_told : FuncData
  a__law_sum : Addr
  d__law_sum : FuncData
  a__law_add : Addr
  d__law_add : FuncData
  a__law_one : Addr
  d__law_one : FuncData
  a__law_value : Addr
  d__law_value : FuncData
  a__law_right : Addr
  d__law_right : FuncData
  a__law_pail : Addr
  d__law_pail : FuncData
  a_law : Addr
  d_law : FuncData
structure Txt (K : PySem.W.Frag) (mg : Str → Option Value) (A : Ad) : Prop where
  m_sum_of : mg "sum_of" = some (.ref A.a_sum_of)
  f_sum_of : Fun K "sum_of" "sum_of" s_sum_of A.a_sum_of A.d_sum_of
  m_added : mg "added" = some (.ref A.a_added)
  f_added : Fun K "added" "added" s_added A.a_added A.d_added
  m_is_between : mg "is_between" = some (.ref A.a_is_between)
  f_is_between : Fun K "is_between" "is_between" s_is_between A.a_is_between A.d_is_between
  m_is_worth : mg "is_worth" = some (.ref A.a_is_worth)
  f_is_worth : Fun K "is_worth" "is_worth" s_is_worth A.a_is_worth A.d_is_worth
  m_together : mg "together" = some (.ref A.a_together)
  f_together : Fun K "together" "together" s_together A.a_together A.d_together
  m__law_scoop : mg "_law_scoop" = some (.ref A.a__law_scoop)
  f__law_scoop : Fun K "_law_scoop" "_law_scoop" s__law_scoop A.a__law_scoop A.d__law_scoop
  m_word_of : mg "word_of" = some (.ref A.a_word_of)
  f_word_of : Fun K "word_of" "word_of" s_word_of A.a_word_of A.d_word_of
  m_check_worth : mg "check_worth" = some (.ref A.a_check_worth)
  f_check_worth : Fun K "check_worth" "check_worth" s_check_worth A.a_check_worth A.d_check_worth
  m_outcome_of : mg "outcome_of" = some (.ref A.a_outcome_of)
  f_outcome_of : Fun K "outcome_of" "outcome_of" s_outcome_of A.a_outcome_of A.d_outcome_of
  m__law_told : mg "_law_told" = some (.ref A.a__law_told)
  f__law_told : Fun K "_law_told" "_law_told" s__law_told A.a__law_told A.d__law_told
  m__law_sum : mg "_law_sum" = some (.ref A.a__law_sum)
  f__law_sum : Fun K "_law_sum" "_law_sum" s__law_sum A.a__law_sum A.d__law_sum
  m__law_add : mg "_law_add" = some (.ref A.a__law_add)
  f__law_add : Fun K "_law_add" "_law_add" s__law_add A.a__law_add A.d__law_add
  m__law_one : mg "_law_one" = some (.ref A.a__law_one)
  f__law_one : Fun K "_law_one" "_law_one" s__law_one A.a__law_one A.d__law_one
  m__law_value : mg "_law_value" = some (.ref A.a__law_value)
  f__law_value : Fun K "_law_value" "_law_value" s__law_value A.a__law_value A.d__law_value
  m__law_right : mg "_law_right" = some (.ref A.a__law_right)
  f__law_right : Fun K "_law_right" "_law_right" s__law_right A.a__law_right A.d__law_right
  m__law_pail : mg "_law_pail" = some (.ref A.a__law_pail)
  f__law_pail : Fun K "_law_pail" "_law_pail" s__law_pail A.a__law_pail A.d__law_pail
  m_law : mg "law" = some (.ref A.a_law)
  f_law : Fun K "law" "law" s_law A.a_law A.d_law
  n_abs : mg "abs" = none
  n_all : mg "all" = none
  n_bool : mg "bool" = none
  n_divmod : mg "divmod" = none
  n_enumerate : mg "enumerate" = none
  n_int : mg "int" = none
  n_isinstance : mg "isinstance" = none
  n_len : mg "len" = none
  n_max : mg "max" = none
  n_min : mg "min" = none
  n_range : mg "range" = none
  n_repr : mg "repr" = none
  n_set : mg "set" = none
  n_sorted : mg "sorted" = none
  n_tuple : mg "tuple" = none
  n_zip : mg "zip" = none
  c_DRAWN : ∃ t, mg "DRAWN" = some (.str "drawn" t)
  c_GREATEST : ∃ t, mg "GREATEST" = some (.int 1048575 t)
  c_LOST : ∃ t, mg "LOST" = some (.str "lost" t)
  c_MOST_ADDED : ∃ t, mg "MOST_ADDED" = some (.int 20 t)
  c_MOST_IN_SET : ∃ t, mg "MOST_IN_SET" = some (.int 256 t)
  c_WON : ∃ t, mg "WON" = some (.str "won" t)
section
variable {P : Program} {w : World} {K : PySem.W.Frag} {mg : Str → Option Value} {base : Heap} {A : Ad}
theorem bi_sum_of_ (T : Txt K mg A) : Binds K A.d_sum_of ps_sum_of [] := T.f_sum_of.binds (ps := ps_sum_of) fun _ _ _ _ _ _ us hl => match us, hl with | [_, _], _ => rfl
theorem bi_added_ (T : Txt K mg A) : Binds K A.d_added ps_added [] := T.f_added.binds (ps := ps_added) fun _ _ _ _ _ _ us hl => match us, hl with | [_], _ => rfl
theorem bi_is_between_ (T : Txt K mg A) : Binds K A.d_is_between ps_is_between [] := T.f_is_between.binds (ps := ps_is_between) fun _ _ _ _ _ _ us hl => match us, hl with | [_, _, _], _ => rfl
theorem bi_is_worth_ (T : Txt K mg A) : Binds K A.d_is_worth ps_is_worth [] := T.f_is_worth.binds (ps := ps_is_worth) fun _ _ _ _ _ _ us hl => match us, hl with | [_], _ => rfl
theorem bi_together_ (T : Txt K mg A) : Binds K A.d_together ps_together [] := T.f_together.binds (ps := ps_together) fun _ _ _ _ _ _ us hl => match us, hl with | [_], _ => rfl
theorem bi__law_scoop_ (T : Txt K mg A) : Binds K A.d__law_scoop ps__law_scoop [] := T.f__law_scoop.binds (ps := ps__law_scoop) fun _ _ _ _ _ _ us hl => match us, hl with | [_, _], _ => rfl
theorem bi_word_of_ (T : Txt K mg A) : Binds K A.d_word_of ps_word_of [] := T.f_word_of.binds (ps := ps_word_of) fun _ _ _ _ _ _ us hl => match us, hl with | [_], _ => rfl
theorem bi_check_worth_ (T : Txt K mg A) : Binds K A.d_check_worth ps_check_worth [] := T.f_check_worth.binds (ps := ps_check_worth) fun _ _ _ _ _ _ us hl => match us, hl with | [_], _ => rfl
theorem bi_outcome_of_ (T : Txt K mg A) : Binds K A.d_outcome_of ps_outcome_of [] := T.f_outcome_of.binds (ps := ps_outcome_of) fun _ _ _ _ _ _ us hl => match us, hl with | [_], _ => rfl
theorem bi__law_told_ (T : Txt K mg A) : Binds K A.d__law_told ps__law_told [] := T.f__law_told.binds (ps := ps__law_told) fun _ _ _ _ _ _ us hl => match us, hl with | [_], _ => rfl
theorem bi__law_sum_ (T : Txt K mg A) : Binds K A.d__law_sum ps__law_sum [] := T.f__law_sum.binds (ps := ps__law_sum) fun _ _ _ _ _ _ us hl => match us, hl with | [_, _], _ => rfl
theorem bi__law_add_ (T : Txt K mg A) : Binds K A.d__law_add ps__law_add [] := T.f__law_add.binds (ps := ps__law_add) fun _ _ _ _ _ _ us hl => match us, hl with | [_, _], _ => rfl
theorem bi__law_one_ (T : Txt K mg A) : Binds K A.d__law_one ps__law_one [] := T.f__law_one.binds (ps := ps__law_one) fun _ _ _ _ _ _ us hl => match us, hl with | [_, _], _ => rfl
theorem bi__law_value_ (T : Txt K mg A) : Binds K A.d__law_value ps__law_value [] := T.f__law_value.binds (ps := ps__law_value) fun _ _ _ _ _ _ us hl => match us, hl with | [_], _ => rfl
theorem bi__law_right_ (T : Txt K mg A) : Binds K A.d__law_right ps__law_right [] := T.f__law_right.binds (ps := ps__law_right) fun _ _ _ _ _ _ us hl => match us, hl with | [_], _ => rfl
theorem bi__law_pail_ (T : Txt K mg A) : Binds K A.d__law_pail ps__law_pail [] := T.f__law_pail.binds (ps := ps__law_pail) fun _ _ _ _ _ _ us hl => match us, hl with | [_, _], _ => rfl
theorem bi_law_ (T : Txt K mg A) : Binds K A.d_law ps_law [] := T.f_law.binds (ps := ps_law) fun _ _ _ _ _ _ us hl => match us, hl with | [_], _ => rfl
theorem kw_outcome_of_0_ (T : Txt K mg A) : KwOk A.d_outcome_of ps_outcome_of ["worth"] 0 [0] := kwok T.f_outcome_of fun _ _ _ _ _ _ us ws h1 h2 => match us, ws, h1, h2 with | [], [_], _, _ => rfl
theorem kw_together_1_ (T : Txt K mg A) : KwOk A.d_together ps_together ["worths"] 0 [0] := kwok T.f_together fun _ _ _ _ _ _ us ws h1 h2 => match us, ws, h1, h2 with | [], [_], _, _ => rfl
theorem sc_sum_of : FnScope N_sum_of ps_sum_of (defScope s_sum_of) := ⟨rfl, rfl, rfl, by decide +kernel, rfl, by decide +kernel, by decide +kernel⟩
theorem okS_sum_of (T : Txt K mg A) {k : Nat} (G_sum_of : FnOk P w K mg base (L2.CX P w) (k + 1) A.a_sum_of A.d_sum_of ps_sum_of (spF K mg 2 (F_sum_of k))) : FnOk P w K mg base (L2.CX P w) ((k + 1) + 1) A.a_sum_of A.d_sum_of ps_sum_of (spF K mg 2 (F_sum_of (k + 1))) := by
  have bi_sum_of := bi_sum_of_ T
  refine fn_gc (fn_fl T.f_sum_of sc_sum_of fun cdv Ar outer s H E F => ?_)
  have C := F.e
  exact fs_cons (fs_if (ft_w (fw_and (ft_val (fe_isi rfl T.n_isinstance rfl T.n_tuple (by decide +kernel) (by decide +kernel) isi_tuple (fe_var 0))) (fw_and1 (ft_val (fe_isi rfl T.n_isinstance rfl T.n_tuple (by decide +kernel) (by decide +kernel) isi_tuple (fe_var 1)))))) (fs_one (fs_ret (fe_tup (fa_nil)))) (fs_nil))
      (fs_cons (fs_if (ft_val (fe_isi rfl T.n_isinstance rfl T.n_tuple (by decide +kernel) (by decide +kernel) isi_tuple (fe_var 0))) (fs_one (fs_ret (fe_callTy b_tuple rfl T.n_tuple (by decide +kernel) (fa_cons (fe_callB (b_sorted C.hu) rfl T.n_sorted (by decide +kernel) (fa_cons (fe_gc (fe_lcC (own := [("number", 2)]) C (fi_seq (fe_var 0)) (blkOk_by (own := [("number", 2)]) (N := N_sum_of) (sc := defScope s_sum_of) (by decide +kernel)) (fun s H a cl fp C => pg_name (i := 2) C.nd rfl (Or.inl rfl)) (ct_name (by decide)) (fun s H a cl fp C => fts_nil) (fun s H a cl fp C => fe_bin o_xor (fe_var 2) (fe_var 1)))) (fa_nil))) (fa_nil))))) (fs_nil))
      (fs_cons (fs_if (ft_val (fe_isi rfl T.n_isinstance rfl T.n_tuple (by decide +kernel) (by decide +kernel) isi_tuple (fe_var 1))) (fs_one (fs_ret (fe_call C G_sum_of (by omega) rfl T.m_sum_of T.f_sum_of.kp bi_sum_of (fa_cons (fe_var 1) (fa_cons (fe_var 0) (fa_nil))) (hlen := (lenC (n := 1) (lenC (n := 0) (fun _ _ _ _ h => len0 h))))))) (fs_nil))
      (fs_one (fs_ret (fe_bin o_xor (fe_var 0) (fe_var 1))))))
theorem ok_sum_of (T : Txt K mg A) : ∀ k : Nat, FnOk P w K mg base (L2.CX P w) (k + 1) A.a_sum_of A.d_sum_of ps_sum_of (spF K mg 2 (F_sum_of k))
  | 0 => fn_stk
  | k + 1 => okS_sum_of T (ok_sum_of T k)
theorem sc_added : FnScope N_added ps_added (defScope s_added) := ⟨rfl, rfl, rfl, by decide +kernel, rfl, by decide +kernel, by decide +kernel⟩
theorem ok_added (T : Txt K mg A) : FnOk P w K mg base (L2.CX P w) 5 A.a_added A.d_added ps_added (spF K mg 1 F_added) := by
  have G_sum_of := ok_sum_of (P := P) (w := w) (base := base) T 3
  have bi_sum_of := bi_sum_of_ T
  refine fn_gc (fn_fl T.f_added sc_added fun cdv Ar outer s H E F => ?_)
  have C := F.e
  exact fs_cons (fs_set (i := 1) C.nd rfl (Or.inl rfl) (fe_int))
      (fs_cons (fs_for F (fi_seq (fe_var 0)) (fg_name (i := 2) C.nd rfl (Or.inl rfl)) (fs_one (fs_set (i := 1) C.nd rfl (Or.inl rfl) (fe_call C G_sum_of (by decide) rfl T.m_sum_of T.f_sum_of.kp bi_sum_of (fa_cons (fe_var 1) (fa_cons (fe_var 2) (fa_nil))) (hlen := (lenC (n := 1) (lenC (n := 0) (fun _ _ _ _ h => len0 h))))))))
      (fs_one (fs_ret (fe_var 1))))
theorem sc_is_between : FnScope N_is_between ps_is_between (defScope s_is_between) := ⟨rfl, rfl, rfl, by decide +kernel, rfl, by decide +kernel, by decide +kernel⟩
theorem ok_is_between (T : Txt K mg A) : FnOk P w K mg base (L2.CX P w) 1 A.a_is_between A.d_is_between ps_is_between (spF K mg 3 F_is_between) := by
  refine fn_gc (fn_fl T.f_is_between sc_is_between fun cdv Ar outer s H E F => ?_)
  have C := F.e
  exact fs_one (fs_ret (fe_and (fe_isi rfl T.n_isinstance rfl T.n_int (by decide +kernel) (by decide +kernel) isi_int (fe_var 0)) (fe_and (fe_not (fe_isi rfl T.n_isinstance rfl T.n_bool (by decide +kernel) (by decide +kernel) isi_bool (fe_var 0))) (fe_one (fe_chain (o_le C.hu) (o_le C.hu) (fe_var 1) (fe_var 0) (fe_var 2))))))
theorem sc_is_worth : FnScope N_is_worth ps_is_worth (defScope s_is_worth) := ⟨rfl, rfl, rfl, by decide +kernel, rfl, by decide +kernel, by decide +kernel⟩
theorem ok_is_worth (T : Txt K mg A) : FnOk P w K mg base (L2.CX P w) 2 A.a_is_worth A.d_is_worth ps_is_worth (spF K mg 1 F_is_worth) := by
  have G_is_between : FnOk P w K mg base (L2.CX P w) 1 A.a_is_between A.d_is_between ps_is_between (spF K mg 3 F_is_between) := ok_is_between T
  have bi_is_between := bi_is_between_ T
  refine fn_gc (fn_fl T.f_is_worth sc_is_worth fun cdv Ar outer s H E F => ?_)
  have C := F.e
  exact fs_cons (fs_if (ft_not (ft_val (fe_isi rfl T.n_isinstance rfl T.n_tuple (by decide +kernel) (by decide +kernel) isi_tuple (fe_var 0)))) (fs_one (fs_ret (fe_call C G_is_between (by decide) rfl T.m_is_between T.f_is_between.kp bi_is_between (fa_cons (fe_var 0) (fa_cons (fe_int) (fa_cons (fe_gint rfl T.c_GREATEST.choose_spec) (fa_nil)))) (hlen := (lenC (n := 2) (lenC (n := 1) (lenC (n := 0) (fun _ _ _ _ h => len0 h)))))))) (fs_nil))
      (fs_cons (fs_if (ft_w (fw_or (ft_cmp (o_gt C.hu) (fe_callB b_len rfl T.n_len (by decide +kernel) (fa_cons (fe_var 0) (fa_nil))) (fe_gint rfl T.c_MOST_IN_SET.choose_spec)) (fw_or1 (ft_not (ft_val (fe_callB (b_all C.calm) rfl T.n_all (by decide +kernel) (fa_cons (fe_gc (fe_lcC (own := [("number", 3)]) C (fi_seq (fe_var 0)) (blkOk_by (own := [("number", 3)]) (N := N_is_worth) (sc := defScope s_is_worth) (by decide +kernel)) (fun s H a cl fp C => pg_name (i := 3) C.nd rfl (Or.inl rfl)) (ct_name (by decide)) (fun s H a cl fp C => fts_nil) (fun s H a cl fp C => fe_call C G_is_between (by decide) rfl T.m_is_between T.f_is_between.kp bi_is_between (fa_cons (fe_var 3) (fa_cons (fe_int) (fa_cons (fe_gint rfl T.c_GREATEST.choose_spec) (fa_nil)))) (hlen := (lenC (n := 2) (lenC (n := 1) (lenC (n := 0) (fun _ _ _ _ h => len0 h)))))))) (fa_nil)))))))) (fs_one (fs_ret (fe_bl))) (fs_nil))
      (fs_one (fs_ret (fe_callB (b_all C.calm) rfl T.n_all (by decide +kernel) (fa_cons (fe_gc (fe_lcC (own := [("one", 1), ("other", 2)]) C (fi_zip rfl T.n_zip (fa_cons (fe_var 0) (fa_cons (fe_sl (fe_var 0) (fo_some (fe_int)) (fo_none)) (fa_nil)))) (blkOk_by (own := [("one", 1), ("other", 2)]) (N := N_is_worth) (sc := defScope s_is_worth) (by decide +kernel)) (fun s H a cl fp C => pg_tup C.calm (pgs_cons (pg_name (i := 1) C.nd rfl (Or.inl rfl)) (pgs_cons (pg_name (i := 2) C.nd rfl (Or.inl rfl)) (pgs_nil)))) (ct_tup (cts_cons (ct_name (by decide)) (cts_cons (ct_name (by decide)) (cts_nil)))) (fun s H a cl fp C => fts_nil) (fun s H a cl fp C => fe_cmp (o_lt C.hu) (fe_var 1) (fe_var 2)))) (fa_nil))))))
theorem sc_together : FnScope N_together ps_together (defScope s_together) := ⟨rfl, rfl, rfl, by decide +kernel, rfl, by decide +kernel, by decide +kernel⟩
theorem ok_together (T : Txt K mg A) : FnOk P w K mg base (L2.CX P w) 6 A.a_together A.d_together ps_together (spF K mg 1 F_together) := by
  have G_added : FnOk P w K mg base (L2.CX P w) 5 A.a_added A.d_added ps_added (spF K mg 1 F_added) := ok_added T
  have bi_added := bi_added_ T
  have G_is_worth : FnOk P w K mg base (L2.CX P w) 2 A.a_is_worth A.d_is_worth ps_is_worth (spF K mg 1 F_is_worth) := ok_is_worth T
  have bi_is_worth := bi_is_worth_ T
  refine fn_gc (fn_fl T.f_together sc_together fun cdv Ar outer s H E F => ?_)
  have C := F.e
  exact fs_cons (fs_if (ft_w (fw_or (ft_not (ft_val (fe_isi rfl T.n_isinstance rfl T.n_tuple (by decide +kernel) (by decide +kernel) isi_tuple (fe_var 0)))) (fw_or1 (ft_cmp (o_gt C.hu) (fe_callB b_len rfl T.n_len (by decide +kernel) (fa_cons (fe_var 0) (fa_nil))) (fe_gint rfl T.c_MOST_ADDED.choose_spec))))) (fs_one (fs_never)) (fs_nil))
      (fs_cons (fs_for F (fi_enum rfl T.n_enumerate (fa_cons (fe_var 0) (fa_nil))) (fg_tup C.calm (fg_cons (fg_name (i := 1) C.nd rfl (Or.inl rfl)) (fg_cons (fg_name (i := 2) C.nd rfl (Or.inl rfl)) (fg_nil)))) (fs_one (fs_if (ft_not (ft_val (fe_call C G_is_worth (by decide) rfl T.m_is_worth T.f_is_worth.kp bi_is_worth (fa_cons (fe_var 2) (fa_nil)) (hlen := (lenC (n := 0) (fun _ _ _ _ h => len0 h)))))) (fs_one (fs_never)) (fs_nil))))
      (fs_one (fs_ret (fe_call C G_added (by decide) rfl T.m_added T.f_added.kp bi_added (fa_cons (fe_var 0) (fa_nil)) (hlen := (lenC (n := 0) (fun _ _ _ _ h => len0 h)))))))
theorem sc__law_scoop : FnScope N__law_scoop ps__law_scoop (defScope s__law_scoop) := ⟨rfl, rfl, rfl, by decide +kernel, rfl, by decide +kernel, by decide +kernel⟩
theorem ok__law_scoop (T : Txt K mg A) : FnOk P w K mg base (L2.CX P w) 1 A.a__law_scoop A.d__law_scoop ps__law_scoop (spF K mg 2 F__law_scoop) := by
  refine fn_gc (fn_fl T.f__law_scoop sc__law_scoop fun cdv Ar outer s H E F => ?_)
  have C := F.e
  exact fs_cons (fs_asg (fe_bin o_add (fe_ix (fe_var 0) (fe_int) (fun _ _ => rfl)) (fe_int)) (fg_sub (fe_var 0) (fe_int) set_ix))
      (fs_cons (fs_if (ft_cmp (o_gt C.hu) (fe_ix (fe_var 0) (fe_int) (fun _ _ => rfl)) (fe_int)) (fs_cons (fs_asg (fe_callB b_divmod rfl T.n_divmod (by decide +kernel) (fa_cons (fe_callTy b_int rfl T.n_int (by decide +kernel) (fa_cons (fe_ix (fe_var 0) (fe_int) (fun _ _ => rfl)) (fa_nil))) (fa_cons (fe_var 1) (fa_nil)))) (fg_tup C.calm (fg_cons (fg_sub (fe_var 0) (fe_int) set_ix) (fg_cons (fg_name (i := 2) C.nd rfl (Or.inl rfl)) (fg_nil)))))
      (fs_one (fs_ret (fe_var 2)))) (fs_nil))
      (fs_cons (fs_asg (fe_bin o_mod (fe_callTy b_int rfl T.n_int (by decide +kernel) (fa_cons (fe_bin o_add (fe_bin o_add (fe_bin o_mul (fe_ix (fe_var 0) (fe_int) (fun _ _ => rfl)) (fe_int)) (fe_bin o_mul (fe_ix (fe_var 0) (fe_int) (fun _ _ => rfl)) (fe_int))) (fe_bin o_mul (fe_bin o_div (fe_ix (fe_var 0) (fe_int) (fun _ _ => rfl)) (fe_int)) (fe_int))) (fa_nil))) (fe_int)) (fg_sub (fe_var 0) (fe_int) set_ix))
      (fs_one (fs_ret (fe_bin o_mod (fe_callTy b_int rfl T.n_int (by decide +kernel) (fa_cons (fe_bin o_div (fe_ix (fe_var 0) (fe_int) (fun _ _ => rfl)) (fe_int)) (fa_nil))) (fe_var 1))))))
theorem sc_word_of : FnScope N_word_of ps_word_of (defScope s_word_of) := ⟨rfl, rfl, rfl, by decide +kernel, rfl, by decide +kernel, by decide +kernel⟩
theorem ok_word_of (T : Txt K mg A) : FnOk P w K mg base (L2.CX P w) 1 A.a_word_of A.d_word_of ps_word_of (spF K mg 1 F_word_of) := by
  refine fn_gc (fn_fl T.f_word_of sc_word_of fun cdv Ar outer s H E F => ?_)
  have C := F.e
  exact fs_cons (fs_if (ft_val (fe_isi rfl T.n_isinstance rfl T.n_tuple (by decide +kernel) (by decide +kernel) isi_tuple (fe_var 0))) (fs_one (fs_ret (fe_if (ft_cmp (o_in C.hu) (fe_int) (fe_var 0) (by rfl)) (fe_gstr rfl T.c_WON.choose_spec) (fe_gstr rfl T.c_DRAWN.choose_spec)))) (fs_nil))
      (fs_one (fs_ret (fe_if (ft_cmp (o_eq C.hu) (fe_var 0) (fe_int)) (fe_gstr rfl T.c_LOST.choose_spec) (fe_gstr rfl T.c_WON.choose_spec))))
theorem sc_check_worth : FnScope N_check_worth ps_check_worth (defScope s_check_worth) := ⟨rfl, rfl, rfl, by decide +kernel, rfl, by decide +kernel, by decide +kernel⟩
theorem ok_check_worth (T : Txt K mg A) : FnOk P w K mg base (L2.CX P w) 3 A.a_check_worth A.d_check_worth ps_check_worth (spF K mg 1 F_check_worth) := by
  have G_is_worth : FnOk P w K mg base (L2.CX P w) 2 A.a_is_worth A.d_is_worth ps_is_worth (spF K mg 1 F_is_worth) := ok_is_worth T
  have bi_is_worth := bi_is_worth_ T
  refine fn_gc (fn_fl T.f_check_worth sc_check_worth fun cdv Ar outer s H E F => ?_)
  have C := F.e
  exact fs_one (fs_if (ft_not (ft_val (fe_call C G_is_worth (by decide) rfl T.m_is_worth T.f_is_worth.kp bi_is_worth (fa_cons (fe_var 0) (fa_nil)) (hlen := (lenC (n := 0) (fun _ _ _ _ h => len0 h)))))) (fs_one (fs_never)) (fs_nil))
theorem sc_outcome_of : FnScope N_outcome_of ps_outcome_of (defScope s_outcome_of) := ⟨rfl, rfl, rfl, by decide +kernel, rfl, by decide +kernel, by decide +kernel⟩
theorem ok_outcome_of (T : Txt K mg A) : FnOk P w K mg base (L2.CX P w) 4 A.a_outcome_of A.d_outcome_of ps_outcome_of (spF K mg 1 F_outcome_of) := by
  have G_word_of : FnOk P w K mg base (L2.CX P w) 1 A.a_word_of A.d_word_of ps_word_of (spF K mg 1 F_word_of) := ok_word_of T
  have bi_word_of := bi_word_of_ T
  have G_check_worth : FnOk P w K mg base (L2.CX P w) 3 A.a_check_worth A.d_check_worth ps_check_worth (spF K mg 1 F_check_worth) := ok_check_worth T
  have bi_check_worth := bi_check_worth_ T
  refine fn_gc (fn_fl T.f_outcome_of sc_outcome_of fun cdv Ar outer s H E F => ?_)
  have C := F.e
  exact fs_cons (fs_exp (fe_call C G_check_worth (by decide) rfl T.m_check_worth T.f_check_worth.kp bi_check_worth (fa_cons (fe_var 0) (fa_nil)) (hlen := (lenC (n := 0) (fun _ _ _ _ h => len0 h)))))
      (fs_one (fs_ret (fe_call C G_word_of (by decide) rfl T.m_word_of T.f_word_of.kp bi_word_of (fa_cons (fe_var 0) (fa_nil)) (hlen := (lenC (n := 0) (fun _ _ _ _ h => len0 h))))))
theorem sc__law_told : FnScope N__law_told ps__law_told (defScope s__law_told) := ⟨rfl, rfl, rfl, by decide +kernel, rfl, by decide +kernel, by decide +kernel⟩
theorem ok__law_told (T : Txt K mg A) : FnOk P w K mg base (L2.CX P w) 1 A.a__law_told A.d__law_told ps__law_told (spF K mg 1 F__law_told) := by
  refine fn_gc (fn_fl T.f__law_told sc__law_told fun cdv Ar outer s H E F => ?_)
  have C := F.e
  exact fs_cons (fs_if (ft_val (fe_isi rfl T.n_isinstance rfl T.n_tuple (by decide +kernel) (by decide +kernel) isi_tuple (fe_var 0))) (fs_one (fs_ret (fe_if (ft_cmp (o_in C.hu) (fe_int) (fe_var 0) (by rfl)) (fe_str) (fe_str)))) (fs_nil))
      (fs_one (fs_ret (fe_if (ft_cmp (o_eq C.hu) (fe_var 0) (fe_int)) (fe_str) (fe_str))))
theorem sc__law_sum : FnScope N__law_sum ps__law_sum (defScope s__law_sum) := ⟨rfl, rfl, rfl, by decide +kernel, rfl, by decide +kernel, by decide +kernel⟩
theorem ok__law_sum (T : Txt K mg A) : FnOk P w K mg base (L2.CX P w) 1 A.a__law_sum A.d__law_sum ps__law_sum (spF K mg 2 F__law_sum) := by
  refine fn_gc (fn_fl T.f__law_sum sc__law_sum fun cdv Ar outer s H E F => ?_)
  have C := F.e
  exact fs_cons (fs_asg (fe_tup (fa_cons (fe_int) (fa_cons (fe_int) (fa_nil)))) (fg_tup C.calm (fg_cons (fg_name (i := 3) C.nd rfl (Or.inl rfl)) (fg_cons (fg_name (i := 4) C.nd rfl (Or.inl rfl)) (fg_nil)))))
      (fs_cons (fs_for F (fi_rg1 rfl T.n_range (fa_cons (fe_int) (fa_nil))) (fg_name (i := 2) C.nd rfl (Or.inl rfl)) (fs_cons (fs_set (i := 3) C.nd rfl (Or.inl rfl) (fe_bin o_add (fe_var 3) (fe_bin o_mul (fe_var 4) (fe_bin o_mod (fe_callTy b_int rfl T.n_int (by decide +kernel) (fa_cons (fe_bin o_add (fe_bin o_div (fe_var 0) (fe_var 4)) (fe_bin o_div (fe_var 1) (fe_var 4))) (fa_nil))) (fe_int)))))
      (fs_one (fs_set (i := 4) C.nd rfl (Or.inl rfl) (fe_bin o_mul (fe_var 4) (fe_int))))))
      (fs_one (fs_ret (fe_var 3))))
theorem sc__law_add : FnScope N__law_add ps__law_add (defScope s__law_add) := ⟨rfl, rfl, rfl, by decide +kernel, rfl, by decide +kernel, by decide +kernel⟩
theorem okS__law_add (T : Txt K mg A) {k : Nat} (G__law_add : FnOk P w K mg base (L2.CX P w) (k + 2) A.a__law_add A.d__law_add ps__law_add (spF K mg 2 (F__law_add k))) : FnOk P w K mg base (L2.CX P w) ((k + 1) + 2) A.a__law_add A.d__law_add ps__law_add (spF K mg 2 (F__law_add (k + 1))) := by
  have bi__law_add := bi__law_add_ T
  have G__law_sum : FnOk P w K mg base (L2.CX P w) 1 A.a__law_sum A.d__law_sum ps__law_sum (spF K mg 2 F__law_sum) := ok__law_sum T
  have bi__law_sum := bi__law_sum_ T
  refine fn_gc (fn_fl T.f__law_add sc__law_add fun cdv Ar outer s H E F => ?_)
  have C := F.e
  exact fs_cons (fs_if (ft_w (fw_and (ft_val (fe_isi rfl T.n_isinstance rfl T.n_tuple (by decide +kernel) (by decide +kernel) isi_tuple (fe_var 0))) (fw_and1 (ft_val (fe_isi rfl T.n_isinstance rfl T.n_tuple (by decide +kernel) (by decide +kernel) isi_tuple (fe_var 1)))))) (fs_one (fs_ret (fe_tup (fa_nil)))) (fs_nil))
      (fs_cons (fs_if (ft_val (fe_isi rfl T.n_isinstance rfl T.n_tuple (by decide +kernel) (by decide +kernel) isi_tuple (fe_var 0))) (fs_one (fs_ret (fe_callTy b_tuple rfl T.n_tuple (by decide +kernel) (fa_cons (fe_callB (b_sorted C.hu) rfl T.n_sorted (by decide +kernel) (fa_cons (fe_gc (fe_lcC (own := [("_law_number", 2)]) C (fi_seq (fe_var 0)) (blkOk_by (own := [("_law_number", 2)]) (N := N__law_add) (sc := defScope s__law_add) (by decide +kernel)) (fun s H a cl fp C => pg_name (i := 2) C.nd rfl (Or.inl rfl)) (ct_name (by decide)) (fun s H a cl fp C => fts_nil) (fun s H a cl fp C => fe_call C G__law_sum (by omega) rfl T.m__law_sum T.f__law_sum.kp bi__law_sum (fa_cons (fe_var 2) (fa_cons (fe_var 1) (fa_nil))) (hlen := (lenC (n := 1) (lenC (n := 0) (fun _ _ _ _ h => len0 h))))))) (fa_nil))) (fa_nil))))) (fs_nil))
      (fs_one (fs_ret (fe_if (ft_val (fe_isi rfl T.n_isinstance rfl T.n_tuple (by decide +kernel) (by decide +kernel) isi_tuple (fe_var 1))) (fe_call C G__law_add (by omega) rfl T.m__law_add T.f__law_add.kp bi__law_add (fa_cons (fe_var 1) (fa_cons (fe_var 0) (fa_nil))) (hlen := (lenC (n := 1) (lenC (n := 0) (fun _ _ _ _ h => len0 h))))) (fe_call C G__law_sum (by omega) rfl T.m__law_sum T.f__law_sum.kp bi__law_sum (fa_cons (fe_var 0) (fa_cons (fe_var 1) (fa_nil))) (hlen := (lenC (n := 1) (lenC (n := 0) (fun _ _ _ _ h => len0 h)))))))))
theorem ok__law_add (T : Txt K mg A) : ∀ k : Nat, FnOk P w K mg base (L2.CX P w) (k + 2) A.a__law_add A.d__law_add ps__law_add (spF K mg 2 (F__law_add k))
  | 0 => fn_stk
  | k + 1 => okS__law_add T (ok__law_add T k)
theorem sc__law_one : FnScope N__law_one ps__law_one (defScope s__law_one) := ⟨rfl, rfl, rfl, by decide +kernel, rfl, by decide +kernel, by decide +kernel⟩
theorem ok__law_one (T : Txt K mg A) : FnOk P w K mg base (L2.CX P w) 2 A.a__law_one A.d__law_one ps__law_one (spF K mg 2 F__law_one) := by
  have G__law_scoop : FnOk P w K mg base (L2.CX P w) 1 A.a__law_scoop A.d__law_scoop ps__law_scoop (spF K mg 2 F__law_scoop) := ok__law_scoop T
  have bi__law_scoop := bi__law_scoop_ T
  refine fn_gc (fn_fl T.f__law_one sc__law_one fun cdv Ar outer s H E F => ?_)
  have C := F.e
  exact fs_one (fs_ret (fe_ix (fe_var 1) (fe_call C G__law_scoop (by decide) rfl T.m__law_scoop T.f__law_scoop.kp bi__law_scoop (fa_cons (fe_var 0) (fa_cons (fe_callB b_len rfl T.n_len (by decide +kernel) (fa_cons (fe_var 1) (fa_nil))) (fa_nil))) (hlen := (lenC (n := 1) (lenC (n := 0) (fun _ _ _ _ h => len0 h))))) (fun _ _ => rfl)))
theorem sc__law_value : FnScope N__law_value ps__law_value (defScope s__law_value) := ⟨rfl, rfl, rfl, by decide +kernel, rfl, by decide +kernel, by decide +kernel⟩
theorem ok__law_value (T : Txt K mg A) : FnOk P w K mg base (L2.CX P w) 3 A.a__law_value A.d__law_value ps__law_value (spF K mg 1 F__law_value) := by
  have G__law_scoop : FnOk P w K mg base (L2.CX P w) 1 A.a__law_scoop A.d__law_scoop ps__law_scoop (spF K mg 2 F__law_scoop) := ok__law_scoop T
  have bi__law_scoop := bi__law_scoop_ T
  have G__law_one : FnOk P w K mg base (L2.CX P w) 2 A.a__law_one A.d__law_one ps__law_one (spF K mg 2 F__law_one) := ok__law_one T
  have bi__law_one := bi__law_one_ T
  refine fn_gc (fn_fl T.f__law_value sc__law_value fun cdv Ar outer s H E F => ?_)
  have C := F.e
  exact fs_cons (fs_set (i := 1) C.nd rfl (Or.inr rfl) (fe_call C G__law_one (by decide) rfl T.m__law_one T.f__law_one.kp bi__law_one (fa_cons (fe_var 0) (fa_cons (fe_lstK (fa_cons (fe_int) (fa_cons (fe_int) (fa_cons (fe_bin o_pow (fe_int) (fe_int)) (fa_nil))))) (fa_nil))) (hlen := (lenC (n := 1) (lenC (n := 0) (fun _ _ _ _ h => len0 h))))))
      (fs_cons (fs_if (ft_cmp (o_gt C.hu) (fe_call C G__law_scoop (by decide) rfl T.m__law_scoop T.f__law_scoop.kp bi__law_scoop (fa_cons (fe_var 0) (fa_cons (fe_int) (fa_nil))) (hlen := (lenC (n := 1) (lenC (n := 0) (fun _ _ _ _ h => len0 h))))) (fe_int)) (fs_one (fs_ret (fe_call C G__law_scoop (by decide) rfl T.m__law_scoop T.f__law_scoop.kp bi__law_scoop (fa_cons (fe_var 0) (fa_cons (fe_var 1) (fa_nil))) (hlen := (lenC (n := 1) (lenC (n := 0) (fun _ _ _ _ h => len0 h))))))) (fs_nil))
      (fs_one (fs_ret (fe_callTy b_tuple rfl T.n_tuple (by decide +kernel) (fa_cons (fe_sortset C rfl T.n_sorted rfl T.n_set (fa_cons (fe_gc (fe_lcC (own := [("_law_k", 2)]) C (fi_rg1 rfl T.n_range (fa_cons (fe_call C G__law_scoop (by decide) rfl T.m__law_scoop T.f__law_scoop.kp bi__law_scoop (fa_cons (fe_var 0) (fa_cons (fe_int) (fa_nil))) (hlen := (lenC (n := 1) (lenC (n := 0) (fun _ _ _ _ h => len0 h))))) (fa_nil))) (blkOk_by (own := [("_law_k", 2)]) (N := N__law_value) (sc := defScope s__law_value) (by decide +kernel)) (fun s H a cl fp C => pg_name (i := 2) C.nd rfl (Or.inl rfl)) (ct_name (by decide)) (fun s H a cl fp C => fts_nil) (fun s H a cl fp C => fe_call C G__law_scoop (by decide) rfl T.m__law_scoop T.f__law_scoop.kp bi__law_scoop (fa_cons (fe_var 0) (fa_cons (fe_var 1) (fa_nil))) (hlen := (lenC (n := 1) (lenC (n := 0) (fun _ _ _ _ h => len0 h))))))) (fa_nil))) (fa_nil))))))
theorem sc__law_right : FnScope N__law_right ps__law_right (defScope s__law_right) := ⟨rfl, rfl, rfl, by decide +kernel, rfl, by decide +kernel, by decide +kernel⟩
theorem ok__law_right (T : Txt K mg A) : FnG P w K mg base 7 A.a__law_right A.d__law_right ps__law_right (spF K mg 1 F__law_right) := by
  have G_together : FnOk P w K mg base (L2.CX P w) 6 A.a_together A.d_together ps_together (spF K mg 1 F_together) := ok_together T
  have bi_together := bi_together_ T
  have G__law_scoop : FnOk P w K mg base (L2.CX P w) 1 A.a__law_scoop A.d__law_scoop ps__law_scoop (spF K mg 2 F__law_scoop) := ok__law_scoop T
  have bi__law_scoop := bi__law_scoop_ T
  have G_outcome_of : FnOk P w K mg base (L2.CX P w) 4 A.a_outcome_of A.d_outcome_of ps_outcome_of (spF K mg 1 F_outcome_of) := ok_outcome_of T
  have bi_outcome_of := bi_outcome_of_ T
  have G__law_told : FnOk P w K mg base (L2.CX P w) 1 A.a__law_told A.d__law_told ps__law_told (spF K mg 1 F__law_told) := ok__law_told T
  have bi__law_told := bi__law_told_ T
  have G__law_add := ok__law_add (P := P) (w := w) (base := base) T 3
  have bi__law_add := bi__law_add_ T
  have G__law_one : FnOk P w K mg base (L2.CX P w) 2 A.a__law_one A.d__law_one ps__law_one (spF K mg 2 F__law_one) := ok__law_one T
  have bi__law_one := bi__law_one_ T
  have G__law_value : FnOk P w K mg base (L2.CX P w) 3 A.a__law_value A.d__law_value ps__law_value (spF K mg 1 F__law_value) := ok__law_value T
  have bi__law_value := bi__law_value_ T
  have kw_outcome_of_0 := kw_outcome_of_0_ T
  have kw_together_1 := kw_together_1_ T
  refine fnG_gc (fnG_fl T.f__law_right sc__law_right fun cdv Ar outer s H E gd F => ?_)
  have gd : (cxL P w K mg base N__law_right "_law_right" s__law_right A.a__law_right cdv Ar outer s H E).A.guards = some [] := gd
  have C := F.e
  exact fs_cons (fs_for F (fi_rg1 rfl T.n_range (fa_cons (fe_int) (fa_nil))) (fg_name (i := 1) C.nd rfl (Or.inl rfl)) (fs_cons (fs_set (i := 2) C.nd rfl (Or.inl rfl) (fe_callTy b_tuple rfl T.n_tuple (by decide +kernel) (fa_cons (fe_gc (fe_lcC (own := [("_law_k", 6)]) C (fi_rg1 rfl T.n_range (fa_cons (fe_call C G__law_one (by decide) rfl T.m__law_one T.f__law_one.kp bi__law_one (fa_cons (fe_var 0) (fa_cons (fe_lstK (fa_cons (fe_int) (fa_cons (fe_int) (fa_cons (fe_int) (fa_cons (fe_int) (fa_cons (fe_int) (fa_nil))))))) (fa_nil))) (hlen := (lenC (n := 1) (lenC (n := 0) (fun _ _ _ _ h => len0 h))))) (fa_nil))) (blkOk_by (own := [("_law_k", 6)]) (N := N__law_right) (sc := defScope s__law_right) (by decide +kernel)) (fun s H a cl fp C => pg_name (i := 6) C.nd rfl (Or.inl rfl)) (ct_name (by decide)) (fun s H a cl fp C => fts_nil) (fun s H a cl fp C => fe_call C G__law_value (by decide) rfl T.m__law_value T.f__law_value.kp bi__law_value (fa_cons (fe_var 0) (fa_nil)) (hlen := (lenC (n := 0) (fun _ _ _ _ h => len0 h)))))) (fa_nil))))
      (fs_cons (fs_set (i := 3) C.nd rfl (Or.inl rfl) (fe_int))
      (fs_cons (fs_for F (fi_seq (fe_var 2)) (fg_name (i := 4) C.nd rfl (Or.inl rfl)) (fs_one (fs_set (i := 3) C.nd rfl (Or.inl rfl) (fe_call C G__law_add (by decide) rfl T.m__law_add T.f__law_add.kp bi__law_add (fa_cons (fe_var 3) (fa_cons (fe_var 4) (fa_nil))) (hlen := (lenC (n := 1) (lenC (n := 0) (fun _ _ _ _ h => len0 h))))))))
      (fs_cons (fs_if (ft_cmp (o_ne C.hu) (fe_callB (b_repr gd C.hu) rfl T.n_repr (by decide +kernel) (fa_cons (fe_lstK (fa_cons (fe_call C G_together (by decide) rfl T.m_together T.f_together.kp bi_together (fa_cons (fe_var 2) (fa_nil)) (hlen := (lenC (n := 0) (fun _ _ _ _ h => len0 h)))) (fa_cons (fe_callK0 (x := "together") C gd (FnG.of G_together) (by decide) rfl T.m_together T.f_together.kp kw_together_1 (fun l h => match l, h with | [_], _ => rfl) (fk_cons (fe_var 2) (fk_nil)) (lenC (n := 0) (fun _ _ _ _ h => len0 h))) (fa_cons (fe_call C G_together (by decide) rfl T.m_together T.f_together.kp bi_together (fa_cons (fe_rev (fe_var 2)) (fa_nil)) (hlen := (lenC (n := 0) (fun _ _ _ _ h => len0 h)))) (fa_nil))))) (fa_nil))) (fe_callB (b_repr gd C.hu) rfl T.n_repr (by decide +kernel) (fa_cons (fe_bin o_mul (fe_lstK (fa_cons (fe_var 3) (fa_nil))) (fe_int)) (fa_nil)))) (fs_one (fs_ret (fe_bl))) (fs_nil))
      (fs_cons (fs_if (ft_cmp (o_ne C.hu) (fe_callB (b_repr gd C.hu) rfl T.n_repr (by decide +kernel) (fa_cons (fe_lstK (fa_cons (fe_call C G_outcome_of (by decide) rfl T.m_outcome_of T.f_outcome_of.kp bi_outcome_of (fa_cons (fe_var 3) (fa_nil)) (hlen := (lenC (n := 0) (fun _ _ _ _ h => len0 h)))) (fa_cons (fe_callK0 (x := "outcome_of") C gd (FnG.of G_outcome_of) (by decide) rfl T.m_outcome_of T.f_outcome_of.kp kw_outcome_of_0 (fun l h => match l, h with | [_], _ => rfl) (fk_cons (fe_var 3) (fk_nil)) (lenC (n := 0) (fun _ _ _ _ h => len0 h))) (fa_nil)))) (fa_nil))) (fe_callB (b_repr gd C.hu) rfl T.n_repr (by decide +kernel) (fa_cons (fe_bin o_mul (fe_lstK (fa_cons (fe_call C G__law_told (by decide) rfl T.m__law_told T.f__law_told.kp bi__law_told (fa_cons (fe_var 3) (fa_nil)) (hlen := (lenC (n := 0) (fun _ _ _ _ h => len0 h)))) (fa_nil))) (fe_int)) (fa_nil)))) (fs_one (fs_ret (fe_bl))) (fs_nil))
      (fs_cons (fs_set (i := 5) C.nd rfl (Or.inl rfl) (fe_call C G__law_scoop (by decide) rfl T.m__law_scoop T.f__law_scoop.kp bi__law_scoop (fa_cons (fe_var 0) (fa_cons (fe_bin o_pow (fe_int) (fe_int)) (fa_nil))) (hlen := (lenC (n := 1) (lenC (n := 0) (fun _ _ _ _ h => len0 h))))))
      (fs_cons (fs_if (ft_cmp (o_ne C.hu) (fe_callB (b_repr gd C.hu) rfl T.n_repr (by decide +kernel) (fa_cons (fe_call C G_together (by decide) rfl T.m_together T.f_together.kp bi_together (fa_cons (fe_bin o_add (fe_sl (fe_var 2) (fo_none) (fo_some (fe_int))) (fe_tup (fa_cons (fe_var 5) (fa_cons (fe_var 5) (fa_nil))))) (fa_nil)) (hlen := (lenC (n := 0) (fun _ _ _ _ h => len0 h)))) (fa_nil))) (fe_callB (b_repr gd C.hu) rfl T.n_repr (by decide +kernel) (fa_cons (fe_call C G_together (by decide) rfl T.m_together T.f_together.kp bi_together (fa_cons (fe_sl (fe_var 2) (fo_none) (fo_some (fe_int))) (fa_nil)) (hlen := (lenC (n := 0) (fun _ _ _ _ h => len0 h)))) (fa_nil)))) (fs_one (fs_ret (fe_bl))) (fs_nil))
      (fs_one (fs_if (ft_w (fw_or (ft_cmp (o_ne C.hu) (fe_call C G_together (by decide) rfl T.m_together T.f_together.kp bi_together (fa_cons (fe_tup (fa_cons (fe_var 5) (fa_cons (fe_int) (fa_nil)))) (fa_nil)) (hlen := (lenC (n := 0) (fun _ _ _ _ h => len0 h)))) (fe_var 5)) (fw_or (ft_cmp (o_ne C.hu) (fe_call C G_together (by decide) rfl T.m_together T.f_together.kp bi_together (fa_cons (fe_tup (fa_cons (fe_tup (fa_cons (fe_var 5) (fa_nil))) (fa_cons (fe_var 5) (fa_nil)))) (fa_nil)) (hlen := (lenC (n := 0) (fun _ _ _ _ h => len0 h)))) (fe_tup (fa_cons (fe_int) (fa_nil)))) (fw_or1 (ft_cmp (o_ne C.hu) (fe_call C G_together (by decide) rfl T.m_together T.f_together.kp bi_together (fa_cons (fe_tup (fa_cons (fe_tup (fa_nil)) (fa_cons (fe_var 5) (fa_nil)))) (fa_nil)) (hlen := (lenC (n := 0) (fun _ _ _ _ h => len0 h)))) (fe_tup (fa_nil))))))) (fs_one (fs_ret (fe_bl))) (fs_nil)))))))))))
      (fs_one (fs_ret (fe_and (fe_cmp (o_eq C.hu) (fe_call C G_together (by decide) rfl T.m_together T.f_together.kp bi_together (fa_cons (fe_tup (fa_nil)) (fa_nil)) (hlen := (lenC (n := 0) (fun _ _ _ _ h => len0 h)))) (fe_int)) (fe_one (fe_cmp (o_eq C.hu) (fe_call C G_together (by decide) rfl T.m_together T.f_together.kp bi_together (fa_cons (fe_tup (fa_cons (fe_bin o_sub (fe_bin o_pow (fe_int) (fe_int)) (fe_int)) (fa_cons (fe_bin o_pow (fe_int) (fe_int)) (fa_nil)))) (fa_nil)) (hlen := (lenC (n := 0) (fun _ _ _ _ h => len0 h)))) (fe_bin o_sub (fe_bin o_pow (fe_int) (fe_int)) (fe_int)))))))
theorem sc__law_pail : FnScope N__law_pail ps__law_pail (defScope s__law_pail) := ⟨rfl, rfl, rfl, by decide +kernel, rfl, by decide +kernel, by decide +kernel⟩
theorem ok__law_pail (T : Txt K mg A) : FnOk P w K mg base (L2.CX P w) 1 A.a__law_pail A.d__law_pail ps__law_pail (spF K mg 2 F__law_pail) := by
  refine fn_fl T.f__law_pail sc__law_pail fun cdv Ar outer s H E F => ?_
  have C := F.e
  exact fs_cons (fs_set (i := 2) C.nd rfl (Or.inl rfl) (fe_if (ft_cmp (o_lt C.hu) (fe_var 1) (fe_callB b_len rfl T.n_len (by decide +kernel) (fa_cons (fe_var 0) (fa_nil)))) (fe_callTy b_int rfl T.n_int (by decide +kernel) (fa_cons (fe_ix (fe_var 0) (fe_var 1) (fun _ _ => rfl)) (fa_nil))) (fe_bin o_add (fe_bin o_mul (fe_int) (fe_var 1)) (fe_int))))
      (fs_cons (fs_set (i := 3) C.nd rfl (Or.inl rfl) (fe_bin o_add (fe_int) (fe_bin o_mul (fe_int) (fe_var 1))))
      (fs_cons (fs_for F (fi_seq (fe_sl (fe_var 0) (fo_none) (fo_some (fe_int)))) (fg_name (i := 4) C.nd rfl (Or.inl rfl)) (fs_one (fs_set (i := 3) C.nd rfl (Or.inl rfl) (fe_bin o_mod (fe_callTy b_int rfl T.n_int (by decide +kernel) (fa_cons (fe_bin o_add (fe_bin o_mul (fe_var 3) (fe_int)) (fe_bin o_mod (fe_callTy b_int rfl T.n_int (by decide +kernel) (fa_cons (fe_var 4) (fa_nil))) (fe_int))) (fa_nil))) (fe_int)))))
      (fs_one (fs_ret (fe_lst (fa_cons (fe_bin o_mod (fe_callTy b_int rfl T.n_int (by decide +kernel) (fa_cons (fe_bin o_add (fe_bin o_mul (fe_var 3) (fe_int)) (fe_bin o_mod (fe_var 2) (fe_int))) (fa_nil))) (fe_int)) (fa_cons (fe_if (ft_w (fw_or (ft_cmp (o_lt C.hu) (fe_var 2) (fe_int)) (fw_or1 (ft_cmp (o_ge C.hu) (fe_var 2) (fe_bin o_pow (fe_int) (fe_int)))))) (fe_callB b_abs rfl T.n_abs (by decide +kernel) (fa_cons (fe_var 2) (fa_nil))) (fe_int)) (fa_cons (fe_int) (fa_nil)))))))))
theorem sc_law : FnScope N_law ps_law (defScope s_law) := ⟨rfl, rfl, rfl, by decide +kernel, rfl, by decide +kernel, by decide +kernel⟩
theorem ok_law (T : Txt K mg A) : FnG P w K mg base 8 A.a_law A.d_law ps_law (spF K mg 1 F_law) := by
  have G__law_right : FnG P w K mg base 7 A.a__law_right A.d__law_right ps__law_right (spF K mg 1 F__law_right) := ok__law_right T
  have bi__law_right := bi__law_right_ T
  have G__law_pail : FnOk P w K mg base (L2.CX P w) 1 A.a__law_pail A.d__law_pail ps__law_pail (spF K mg 2 F__law_pail) := ok__law_pail T
  have bi__law_pail := bi__law_pail_ T
  refine fnG_gc (fnG_fl T.f_law sc_law fun cdv Ar outer s H E gd F => ?_)
  have gd : (cxL P w K mg base N_law "law" s_law A.a_law cdv Ar outer s H E).A.guards = some [] := gd
  have C := F.e
  exact fs_one (fs_ret (fe_callB (b_all C.calm) rfl T.n_all (by decide +kernel) (fa_cons (fe_gc (fe_lcC (own := [("_law_k", 1)]) C (fi_rg1 rfl T.n_range (fa_cons (fe_callB (b_max2 C.calm) rfl T.n_max (by decide +kernel) (fa_cons (fe_int) (fa_cons (fe_callB (b_min2 C.calm) rfl T.n_min (by decide +kernel) (fa_cons (fe_callB b_len rfl T.n_len (by decide +kernel) (fa_cons (fe_var 0) (fa_nil))) (fa_cons (fe_int) (fa_nil)))) (fa_nil)))) (fa_nil))) (blkOk_by (own := [("_law_k", 1)]) (N := N_law) (sc := defScope s_law) (by decide +kernel)) (fun s H a cl fp C => pg_name (i := 1) C.nd rfl (Or.inl rfl)) (ct_name (by decide)) (fun s H a cl fp C => fts_nil) (fun s H a cl fp C => fe_callG C gd G__law_right (by decide) rfl T.m__law_right T.f__law_right.kp bi__law_right (fa_cons (fe_call C G__law_pail (by decide) rfl T.m__law_pail T.f__law_pail.kp bi__law_pail (fa_cons (fe_var 0) (fa_cons (fe_var 1) (fa_nil))) (hlen := (lenC (n := 1) (lenC (n := 0) (fun _ _ _ _ h => len0 h))))) (fa_nil)) (hlen := (lenC (n := 0) (fun _ _ _ _ h => len0 h)))))) (fa_nil))))
end
theorem all_mk {l : PySem.W.OpenLaw} {w : World} {K : PySem.W.Frag} {h : Heap} {mg : Str → Option Value} {fa : Addr} (X : K.In h) (G : h.Ns mainGlobals mg) (hfa : mg "law" = some (.ref fa))
    {a_sum_of : Addr} {od_sum_of an_sum_of : Option Addr} {sl_sum_of : Array (Option Value)} {oc_sum_of kV_sum_of dc_sum_of pm_sum_of cd_sum_of ct_sum_of : Value}
    {a_added : Addr} {od_added an_added : Option Addr} {sl_added : Array (Option Value)} {oc_added kV_added dc_added pm_added cd_added ct_added : Value}
    {a_is_between : Addr} {od_is_between an_is_between : Option Addr} {sl_is_between : Array (Option Value)} {oc_is_between kV_is_between dc_is_between pm_is_between cd_is_between ct_is_between : Value}
    {a_is_worth : Addr} {od_is_worth an_is_worth : Option Addr} {sl_is_worth : Array (Option Value)} {oc_is_worth kV_is_worth dc_is_worth pm_is_worth cd_is_worth ct_is_worth : Value}
    {a_together : Addr} {od_together an_together : Option Addr} {sl_together : Array (Option Value)} {oc_together kV_together dc_together pm_together cd_together ct_together : Value}
    {a__law_scoop : Addr} {od__law_scoop an__law_scoop : Option Addr} {sl__law_scoop : Array (Option Value)} {oc__law_scoop kV__law_scoop dc__law_scoop pm__law_scoop cd__law_scoop ct__law_scoop : Value}
    {a_word_of : Addr} {od_word_of an_word_of : Option Addr} {sl_word_of : Array (Option Value)} {oc_word_of kV_word_of dc_word_of pm_word_of cd_word_of ct_word_of : Value}
    {a_check_worth : Addr} {od_check_worth an_check_worth : Option Addr} {sl_check_worth : Array (Option Value)} {oc_check_worth kV_check_worth dc_check_worth pm_check_worth cd_check_worth ct_check_worth : Value}
    {a_outcome_of : Addr} {od_outcome_of an_outcome_of : Option Addr} {sl_outcome_of : Array (Option Value)} {oc_outcome_of kV_outcome_of dc_outcome_of pm_outcome_of cd_outcome_of ct_outcome_of : Value}
    {a__law_told : Addr} {od__law_told an__law_told : Option Addr} {sl__law_told : Array (Option Value)} {oc__law_told kV__law_told dc__law_told pm__law_told cd__law_told ct__law_told : Value}
    {a__law_sum : Addr} {od__law_sum an__law_sum : Option Addr} {sl__law_sum : Array (Option Value)} {oc__law_sum kV__law_sum dc__law_sum pm__law_sum cd__law_sum ct__law_sum : Value}
    {a__law_add : Addr} {od__law_add an__law_add : Option Addr} {sl__law_add : Array (Option Value)} {oc__law_add kV__law_add dc__law_add pm__law_add cd__law_add ct__law_add : Value}
    {a__law_one : Addr} {od__law_one an__law_one : Option Addr} {sl__law_one : Array (Option Value)} {oc__law_one kV__law_one dc__law_one pm__law_one cd__law_one ct__law_one : Value}
    {a__law_value : Addr} {od__law_value an__law_value : Option Addr} {sl__law_value : Array (Option Value)} {oc__law_value kV__law_value dc__law_value pm__law_value cd__law_value ct__law_value : Value}
    {a__law_right : Addr} {od__law_right an__law_right : Option Addr} {sl__law_right : Array (Option Value)} {oc__law_right kV__law_right dc__law_right pm__law_right cd__law_right ct__law_right : Value}
    {a__law_pail : Addr} {od__law_pail an__law_pail : Option Addr} {sl__law_pail : Array (Option Value)} {oc__law_pail kV__law_pail dc__law_pail pm__law_pail cd__law_pail ct__law_pail : Value}
    {a_law : Addr} {od_law an_law : Option Addr} {sl_law : Array (Option Value)} {oc_law kV_law dc_law pm_law cd_law ct_law : Value}
    {tk_DRAWN : Tok}
    {tk_GREATEST : Tok}
    {tk_LOST : Tok}
    {tk_MOST_ADDED : Tok}
    {tk_MOST_IN_SET : Tok}
    {tk_WON : Tok}
    (h_sum_of : PySem.W.nsIn K mainGlobals "sum_of" = some (some (.ref a_sum_of)))
    (l_sum_of : K.lookup a_sum_of = some ⟨oc_sum_of, od_sum_of, .func (PySem.W.fnOf "sum_of" "sum_of" (defArgs s_sum_of) (defBody s_sum_of) (defScope s_sum_of) .none kV_sum_of dc_sum_of pm_sum_of an_sum_of cd_sum_of ct_sum_of), sl_sum_of⟩)
    (q_sum_of : PySem.W.codeIn K cd_sum_of "sum_of" = true)
    (k_sum_of : PySem.W.keepIn K (.ref a_sum_of) = true)
    (h_added : PySem.W.nsIn K mainGlobals "added" = some (some (.ref a_added)))
    (l_added : K.lookup a_added = some ⟨oc_added, od_added, .func (PySem.W.fnOf "added" "added" (defArgs s_added) (defBody s_added) (defScope s_added) .none kV_added dc_added pm_added an_added cd_added ct_added), sl_added⟩)
    (q_added : PySem.W.codeIn K cd_added "added" = true)
    (k_added : PySem.W.keepIn K (.ref a_added) = true)
    (h_is_between : PySem.W.nsIn K mainGlobals "is_between" = some (some (.ref a_is_between)))
    (l_is_between : K.lookup a_is_between = some ⟨oc_is_between, od_is_between, .func (PySem.W.fnOf "is_between" "is_between" (defArgs s_is_between) (defBody s_is_between) (defScope s_is_between) .none kV_is_between dc_is_between pm_is_between an_is_between cd_is_between ct_is_between), sl_is_between⟩)
    (q_is_between : PySem.W.codeIn K cd_is_between "is_between" = true)
    (k_is_between : PySem.W.keepIn K (.ref a_is_between) = true)
    (h_is_worth : PySem.W.nsIn K mainGlobals "is_worth" = some (some (.ref a_is_worth)))
    (l_is_worth : K.lookup a_is_worth = some ⟨oc_is_worth, od_is_worth, .func (PySem.W.fnOf "is_worth" "is_worth" (defArgs s_is_worth) (defBody s_is_worth) (defScope s_is_worth) .none kV_is_worth dc_is_worth pm_is_worth an_is_worth cd_is_worth ct_is_worth), sl_is_worth⟩)
    (q_is_worth : PySem.W.codeIn K cd_is_worth "is_worth" = true)
    (k_is_worth : PySem.W.keepIn K (.ref a_is_worth) = true)
    (h_together : PySem.W.nsIn K mainGlobals "together" = some (some (.ref a_together)))
    (l_together : K.lookup a_together = some ⟨oc_together, od_together, .func (PySem.W.fnOf "together" "together" (defArgs s_together) (defBody s_together) (defScope s_together) .none kV_together dc_together pm_together an_together cd_together ct_together), sl_together⟩)
    (q_together : PySem.W.codeIn K cd_together "together" = true)
    (k_together : PySem.W.keepIn K (.ref a_together) = true)
    (h__law_scoop : PySem.W.nsIn K mainGlobals "_law_scoop" = some (some (.ref a__law_scoop)))
    (l__law_scoop : K.lookup a__law_scoop = some ⟨oc__law_scoop, od__law_scoop, .func (PySem.W.fnOf "_law_scoop" "_law_scoop" (defArgs s__law_scoop) (defBody s__law_scoop) (defScope s__law_scoop) .none kV__law_scoop dc__law_scoop pm__law_scoop an__law_scoop cd__law_scoop ct__law_scoop), sl__law_scoop⟩)
    (q__law_scoop : PySem.W.codeIn K cd__law_scoop "_law_scoop" = true)
    (k__law_scoop : PySem.W.keepIn K (.ref a__law_scoop) = true)
    (h_word_of : PySem.W.nsIn K mainGlobals "word_of" = some (some (.ref a_word_of)))
    (l_word_of : K.lookup a_word_of = some ⟨oc_word_of, od_word_of, .func (PySem.W.fnOf "word_of" "word_of" (defArgs s_word_of) (defBody s_word_of) (defScope s_word_of) .none kV_word_of dc_word_of pm_word_of an_word_of cd_word_of ct_word_of), sl_word_of⟩)
    (q_word_of : PySem.W.codeIn K cd_word_of "word_of" = true)
    (k_word_of : PySem.W.keepIn K (.ref a_word_of) = true)
    (h_check_worth : PySem.W.nsIn K mainGlobals "check_worth" = some (some (.ref a_check_worth)))
    (l_check_worth : K.lookup a_check_worth = some ⟨oc_check_worth, od_check_worth, .func (PySem.W.fnOf "check_worth" "check_worth" (defArgs s_check_worth) (defBody s_check_worth) (defScope s_check_worth) .none kV_check_worth dc_check_worth pm_check_worth an_check_worth cd_check_worth ct_check_worth), sl_check_worth⟩)
    (q_check_worth : PySem.W.codeIn K cd_check_worth "check_worth" = true)
    (k_check_worth : PySem.W.keepIn K (.ref a_check_worth) = true)
    (h_outcome_of : PySem.W.nsIn K mainGlobals "outcome_of" = some (some (.ref a_outcome_of)))
    (l_outcome_of : K.lookup a_outcome_of = some ⟨oc_outcome_of, od_outcome_of, .func (PySem.W.fnOf "outcome_of" "outcome_of" (defArgs s_outcome_of) (defBody s_outcome_of) (defScope s_outcome_of) .none kV_outcome_of dc_outcome_of pm_outcome_of an_outcome_of cd_outcome_of ct_outcome_of), sl_outcome_of⟩)
    (q_outcome_of : PySem.W.codeIn K cd_outcome_of "outcome_of" = true)
    (k_outcome_of : PySem.W.keepIn K (.ref a_outcome_of) = true)
    (h__law_told : PySem.W.nsIn K mainGlobals "_law_told" = some (some (.ref a__law_told)))
    (l__law_told : K.lookup a__law_told = some ⟨oc__law_told, od__law_told, .func (PySem.W.fnOf "_law_told" "_law_told" (defArgs s__law_told) (defBody s__law_told) (defScope s__law_told) .none kV__law_told dc__law_told pm__law_told an__law_told cd__law_told ct__law_told), sl__law_told⟩)
    (q__law_told : PySem.W.codeIn K cd__law_told "_law_told" = true)
    (k__law_told : PySem.W.keepIn K (.ref a__law_told) = true)
    (h__law_sum : PySem.W.nsIn K mainGlobals "_law_sum" = some (some (.ref a__law_sum)))
    (l__law_sum : K.lookup a__law_sum = some ⟨oc__law_sum, od__law_sum, .func (PySem.W.fnOf "_law_sum" "_law_sum" (defArgs s__law_sum) (defBody s__law_sum) (defScope s__law_sum) .none kV__law_sum dc__law_sum pm__law_sum an__law_sum cd__law_sum ct__law_sum), sl__law_sum⟩)
    (q__law_sum : PySem.W.codeIn K cd__law_sum "_law_sum" = true)
    (k__law_sum : PySem.W.keepIn K (.ref a__law_sum) = true)
    (h__law_add : PySem.W.nsIn K mainGlobals "_law_add" = some (some (.ref a__law_add)))
    (l__law_add : K.lookup a__law_add = some ⟨oc__law_add, od__law_add, .func (PySem.W.fnOf "_law_add" "_law_add" (defArgs s__law_add) (defBody s__law_add) (defScope s__law_add) .none kV__law_add dc__law_add pm__law_add an__law_add cd__law_add ct__law_add), sl__law_add⟩)
    (q__law_add : PySem.W.codeIn K cd__law_add "_law_add" = true)
    (k__law_add : PySem.W.keepIn K (.ref a__law_add) = true)
    (h__law_one : PySem.W.nsIn K mainGlobals "_law_one" = some (some (.ref a__law_one)))
    (l__law_one : K.lookup a__law_one = some ⟨oc__law_one, od__law_one, .func (PySem.W.fnOf "_law_one" "_law_one" (defArgs s__law_one) (defBody s__law_one) (defScope s__law_one) .none kV__law_one dc__law_one pm__law_one an__law_one cd__law_one ct__law_one), sl__law_one⟩)
    (q__law_one : PySem.W.codeIn K cd__law_one "_law_one" = true)
    (k__law_one : PySem.W.keepIn K (.ref a__law_one) = true)
    (h__law_value : PySem.W.nsIn K mainGlobals "_law_value" = some (some (.ref a__law_value)))
    (l__law_value : K.lookup a__law_value = some ⟨oc__law_value, od__law_value, .func (PySem.W.fnOf "_law_value" "_law_value" (defArgs s__law_value) (defBody s__law_value) (defScope s__law_value) .none kV__law_value dc__law_value pm__law_value an__law_value cd__law_value ct__law_value), sl__law_value⟩)
    (q__law_value : PySem.W.codeIn K cd__law_value "_law_value" = true)
    (k__law_value : PySem.W.keepIn K (.ref a__law_value) = true)
    (h__law_right : PySem.W.nsIn K mainGlobals "_law_right" = some (some (.ref a__law_right)))
    (l__law_right : K.lookup a__law_right = some ⟨oc__law_right, od__law_right, .func (PySem.W.fnOf "_law_right" "_law_right" (defArgs s__law_right) (defBody s__law_right) (defScope s__law_right) .none kV__law_right dc__law_right pm__law_right an__law_right cd__law_right ct__law_right), sl__law_right⟩)
    (q__law_right : PySem.W.codeIn K cd__law_right "_law_right" = true)
    (k__law_right : PySem.W.keepIn K (.ref a__law_right) = true)
    (h__law_pail : PySem.W.nsIn K mainGlobals "_law_pail" = some (some (.ref a__law_pail)))
    (l__law_pail : K.lookup a__law_pail = some ⟨oc__law_pail, od__law_pail, .func (PySem.W.fnOf "_law_pail" "_law_pail" (defArgs s__law_pail) (defBody s__law_pail) (defScope s__law_pail) .none kV__law_pail dc__law_pail pm__law_pail an__law_pail cd__law_pail ct__law_pail), sl__law_pail⟩)
    (q__law_pail : PySem.W.codeIn K cd__law_pail "_law_pail" = true)
    (k__law_pail : PySem.W.keepIn K (.ref a__law_pail) = true)
    (h_law : PySem.W.nsIn K mainGlobals "law" = some (some (.ref a_law)))
    (l_law : K.lookup a_law = some ⟨oc_law, od_law, .func (PySem.W.fnOf "law" "law" (defArgs s_law) (defBody s_law) (defScope s_law) .none kV_law dc_law pm_law an_law cd_law ct_law), sl_law⟩)
    (q_law : PySem.W.codeIn K cd_law "law" = true)
    (k_law : PySem.W.keepIn K (.ref a_law) = true)
    (n_abs : PySem.W.nsIn K mainGlobals "abs" = some none)
    (n_all : PySem.W.nsIn K mainGlobals "all" = some none)
    (n_bool : PySem.W.nsIn K mainGlobals "bool" = some none)
    (n_divmod : PySem.W.nsIn K mainGlobals "divmod" = some none)
    (n_enumerate : PySem.W.nsIn K mainGlobals "enumerate" = some none)
    (n_int : PySem.W.nsIn K mainGlobals "int" = some none)
    (n_isinstance : PySem.W.nsIn K mainGlobals "isinstance" = some none)
    (n_len : PySem.W.nsIn K mainGlobals "len" = some none)
    (n_max : PySem.W.nsIn K mainGlobals "max" = some none)
    (n_min : PySem.W.nsIn K mainGlobals "min" = some none)
    (n_range : PySem.W.nsIn K mainGlobals "range" = some none)
    (n_repr : PySem.W.nsIn K mainGlobals "repr" = some none)
    (n_set : PySem.W.nsIn K mainGlobals "set" = some none)
    (n_sorted : PySem.W.nsIn K mainGlobals "sorted" = some none)
    (n_tuple : PySem.W.nsIn K mainGlobals "tuple" = some none)
    (n_zip : PySem.W.nsIn K mainGlobals "zip" = some none)
    (g_DRAWN : PySem.W.nsIn K mainGlobals "DRAWN" = some (some (.str "drawn" tk_DRAWN)))
    (g_GREATEST : PySem.W.nsIn K mainGlobals "GREATEST" = some (some (.int 1048575 tk_GREATEST)))
    (g_LOST : PySem.W.nsIn K mainGlobals "LOST" = some (some (.str "lost" tk_LOST)))
    (g_MOST_ADDED : PySem.W.nsIn K mainGlobals "MOST_ADDED" = some (some (.int 20 tk_MOST_ADDED)))
    (g_MOST_IN_SET : PySem.W.nsIn K mainGlobals "MOST_IN_SET" = some (some (.int 256 tk_MOST_IN_SET)))
    (g_WON : PySem.W.nsIn K mainGlobals "WON" = some (some (.str "won" tk_WON)))
    : ∃ fd : FuncData, (∀ (s : Shared) (v : Value), BindsTo s fd ⟨[v], []⟩ [("_law_script", v)]) ∧ ∀ base : Heap, K.In base → base.Ns mainGlobals mg → FnG l.prog w K mg base 8 fa fd ["_law_script"] (spF K mg 1 F_law) := by
  have e := hfa.symm.trans (PySem.W.mg_of X G h_law)
  cases e
  let A : Ad := ⟨a_sum_of, PySem.W.fnOf "sum_of" "sum_of" (defArgs s_sum_of) (defBody s_sum_of) (defScope s_sum_of) .none kV_sum_of dc_sum_of pm_sum_of an_sum_of cd_sum_of ct_sum_of, a_added, PySem.W.fnOf "added" "added" (defArgs s_added) (defBody s_added) (defScope s_added) .none kV_added dc_added pm_added an_added cd_added ct_added, a_is_between, PySem.W.fnOf "is_between" "is_between" (defArgs s_is_between) (defBody s_is_between) (defScope s_is_between) .none kV_is_between dc_is_between pm_is_between an_is_between cd_is_between ct_is_between, a_is_worth, PySem.W.fnOf "is_worth" "is_worth" (defArgs s_is_worth) (defBody s_is_worth) (defScope s_is_worth) .none kV_is_worth dc_is_worth pm_is_worth an_is_worth cd_is_worth ct_is_worth, a_together, PySem.W.fnOf "together" "together" (defArgs s_together) (defBody s_together) (defScope s_together) .none kV_together dc_together pm_together an_together cd_together ct_together, a__law_scoop, PySem.W.fnOf "_law_scoop" "_law_scoop" (defArgs s__law_scoop) (defBody s__law_scoop) (defScope s__law_scoop) .none kV__law_scoop dc__law_scoop pm__law_scoop an__law_scoop cd__law_scoop ct__law_scoop, a_word_of, PySem.W.fnOf "word_of" "word_of" (defArgs s_word_of) (defBody s_word_of) (defScope s_word_of) .none kV_word_of dc_word_of pm_word_of an_word_of cd_word_of ct_word_of, a_check_worth, PySem.W.fnOf "check_worth" "check_worth" (defArgs s_check_worth) (defBody s_check_worth) (defScope s_check_worth) .none kV_check_worth dc_check_worth pm_check_worth an_check_worth cd_check_worth ct_check_worth, a_outcome_of, PySem.W.fnOf "outcome_of" "outcome_of" (defArgs s_outcome_of) (defBody s_outcome_of) (defScope s_outcome_of) .none kV_outcome_of dc_outcome_of pm_outcome_of an_outcome_of cd_outcome_of ct_outcome_of, a__law_told, PySem.W.fnOf "_law_told" "_law_told" (defArgs s__law_told) (defBody s__law_told) (defScope s__law_told) .none kV__law_told dc__law_told pm__law_told an__law_told cd__law_told ct__law_told, a__law_sum, PySem.W.fnOf "_law_sum" "_law_sum" (defArgs s__law_sum) (defBody s__law_sum) (defScope s__law_sum) .none kV__law_sum dc__law_sum pm__law_sum an__law_sum cd__law_sum ct__law_sum, a__law_add, PySem.W.fnOf "_law_add" "_law_add" (defArgs s__law_add) (defBody s__law_add) (defScope s__law_add) .none kV__law_add dc__law_add pm__law_add an__law_add cd__law_add ct__law_add, a__law_one, PySem.W.fnOf "_law_one" "_law_one" (defArgs s__law_one) (defBody s__law_one) (defScope s__law_one) .none kV__law_one dc__law_one pm__law_one an__law_one cd__law_one ct__law_one, a__law_value, PySem.W.fnOf "_law_value" "_law_value" (defArgs s__law_value) (defBody s__law_value) (defScope s__law_value) .none kV__law_value dc__law_value pm__law_value an__law_value cd__law_value ct__law_value, a__law_right, PySem.W.fnOf "_law_right" "_law_right" (defArgs s__law_right) (defBody s__law_right) (defScope s__law_right) .none kV__law_right dc__law_right pm__law_right an__law_right cd__law_right ct__law_right, a__law_pail, PySem.W.fnOf "_law_pail" "_law_pail" (defArgs s__law_pail) (defBody s__law_pail) (defScope s__law_pail) .none kV__law_pail dc__law_pail pm__law_pail an__law_pail cd__law_pail ct__law_pail, fa, PySem.W.fnOf "law" "law" (defArgs s_law) (defBody s_law) (defScope s_law) .none kV_law dc_law pm_law an_law cd_law ct_law⟩
  have T : Txt K mg A := by
    constructor
    · exact PySem.W.mg_of X G h_sum_of
    · exact fun_mk (st := s_sum_of) l_sum_of q_sum_of k_sum_of
    · exact PySem.W.mg_of X G h_added
    · exact fun_mk (st := s_added) l_added q_added k_added
    · exact PySem.W.mg_of X G h_is_between
    · exact fun_mk (st := s_is_between) l_is_between q_is_between k_is_between
    · exact PySem.W.mg_of X G h_is_worth
    · exact fun_mk (st := s_is_worth) l_is_worth q_is_worth k_is_worth
    · exact PySem.W.mg_of X G h_together
    · exact fun_mk (st := s_together) l_together q_together k_together
    · exact PySem.W.mg_of X G h__law_scoop
    · exact fun_mk (st := s__law_scoop) l__law_scoop q__law_scoop k__law_scoop
    · exact PySem.W.mg_of X G h_word_of
    · exact fun_mk (st := s_word_of) l_word_of q_word_of k_word_of
    · exact PySem.W.mg_of X G h_check_worth
    · exact fun_mk (st := s_check_worth) l_check_worth q_check_worth k_check_worth
    · exact PySem.W.mg_of X G h_outcome_of
    · exact fun_mk (st := s_outcome_of) l_outcome_of q_outcome_of k_outcome_of
    · exact PySem.W.mg_of X G h__law_told
    · exact fun_mk (st := s__law_told) l__law_told q__law_told k__law_told
    · exact PySem.W.mg_of X G h__law_sum
    · exact fun_mk (st := s__law_sum) l__law_sum q__law_sum k__law_sum
    · exact PySem.W.mg_of X G h__law_add
    · exact fun_mk (st := s__law_add) l__law_add q__law_add k__law_add
    · exact PySem.W.mg_of X G h__law_one
    · exact fun_mk (st := s__law_one) l__law_one q__law_one k__law_one
    · exact PySem.W.mg_of X G h__law_value
    · exact fun_mk (st := s__law_value) l__law_value q__law_value k__law_value
    · exact PySem.W.mg_of X G h__law_right
    · exact fun_mk (st := s__law_right) l__law_right q__law_right k__law_right
    · exact PySem.W.mg_of X G h__law_pail
    · exact fun_mk (st := s__law_pail) l__law_pail q__law_pail k__law_pail
    · exact PySem.W.mg_of X G h_law
    · exact fun_mk (st := s_law) l_law q_law k_law
    · exact PySem.W.mg_none_of X G n_abs
    · exact PySem.W.mg_none_of X G n_all
    · exact PySem.W.mg_none_of X G n_bool
    · exact PySem.W.mg_none_of X G n_divmod
    · exact PySem.W.mg_none_of X G n_enumerate
    · exact PySem.W.mg_none_of X G n_int
    · exact PySem.W.mg_none_of X G n_isinstance
    · exact PySem.W.mg_none_of X G n_len
    · exact PySem.W.mg_none_of X G n_max
    · exact PySem.W.mg_none_of X G n_min
    · exact PySem.W.mg_none_of X G n_range
    · exact PySem.W.mg_none_of X G n_repr
    · exact PySem.W.mg_none_of X G n_set
    · exact PySem.W.mg_none_of X G n_sorted
    · exact PySem.W.mg_none_of X G n_tuple
    · exact PySem.W.mg_none_of X G n_zip
    · exact ⟨_, PySem.W.mg_of X G g_DRAWN⟩
    · exact ⟨_, PySem.W.mg_of X G g_GREATEST⟩
    · exact ⟨_, PySem.W.mg_of X G g_LOST⟩
    · exact ⟨_, PySem.W.mg_of X G g_MOST_ADDED⟩
    · exact ⟨_, PySem.W.mg_of X G g_MOST_IN_SET⟩
    · exact ⟨_, PySem.W.mg_of X G g_WON⟩
  exact ⟨_, fun s v => .of_eq rfl, fun base _ _ => ok_law T⟩
end Law

open PySem PySem.W PyProof.Rows in
set_option maxRecDepth 100000 in
set_option maxHeartbeats 0 in
theorem PySem.Challenge.cw_bothvanish_k21_whole_worths_added_holds : PySem.Challenge.rw_bothvanish_k21_whole_worths_added.Holds := by
  w_on; o_law; k_head; (case hw => w_witness2)
  k_fill
  refine FL.walkG (l := PySem.Challenge.rw_bothvanish_k21_whole_worths_added) (k := 8) (x := "_law_script") (F := Law.F_law) rfl rfl ⟨rfl, by decide, by decide⟩ (fun w h Y => PySem.W.kIn_of Y) ?F Law.law_true
  case F =>
    intro w mg fa h KX G hmg
    refine' Law.all_mk KX G hmg ?h_sum_of ?l_sum_of ?q_sum_of ?k_sum_of ?h_added ?l_added ?q_added ?k_added ?h_is_between ?l_is_between ?q_is_between ?k_is_between ?h_is_worth ?l_is_worth ?q_is_worth ?k_is_worth ?h_together ?l_together ?q_together ?k_together ?h__law_scoop ?l__law_scoop ?q__law_scoop ?k__law_scoop ?h_word_of ?l_word_of ?q_word_of ?k_word_of ?h_check_worth ?l_check_worth ?q_check_worth ?k_check_worth ?h_outcome_of ?l_outcome_of ?q_outcome_of ?k_outcome_of ?h__law_told ?l__law_told ?q__law_told ?k__law_told ?h__law_sum ?l__law_sum ?q__law_sum ?k__law_sum ?h__law_add ?l__law_add ?q__law_add ?k__law_add ?h__law_one ?l__law_one ?q__law_one ?k__law_one ?h__law_value ?l__law_value ?q__law_value ?k__law_value ?h__law_right ?l__law_right ?q__law_right ?k__law_right ?h__law_pail ?l__law_pail ?q__law_pail ?k__law_pail ?h_law ?l_law ?q_law ?k_law ?n_abs ?n_all ?n_bool ?n_divmod ?n_enumerate ?n_int ?n_isinstance ?n_len ?n_max ?n_min ?n_range ?n_repr ?n_set ?n_sorted ?n_tuple ?n_zip ?g_DRAWN ?g_GREATEST ?g_LOST ?g_MOST_ADDED ?g_MOST_IN_SET ?g_WON
    (case h_sum_of => k_is)
    (case l_sum_of => k_is)
    (case q_sum_of => k_is)
    (case k_sum_of => k_is)
    (case h_added => k_is)
    (case l_added => k_is)
    (case q_added => k_is)
    (case k_added => k_is)
    (case h_is_between => k_is)
    (case l_is_between => k_is)
    (case q_is_between => k_is)
    (case k_is_between => k_is)
    (case h_is_worth => k_is)
    (case l_is_worth => k_is)
    (case q_is_worth => k_is)
    (case k_is_worth => k_is)
    (case h_together => k_is)
    (case l_together => k_is)
    (case q_together => k_is)
    (case k_together => k_is)
    (case h__law_scoop => k_is)
    (case l__law_scoop => k_is)
    (case q__law_scoop => k_is)
    (case k__law_scoop => k_is)
    (case h_word_of => k_is)
    (case l_word_of => k_is)
    (case q_word_of => k_is)
    (case k_word_of => k_is)
    (case h_check_worth => k_is)
    (case l_check_worth => k_is)
    (case q_check_worth => k_is)
    (case k_check_worth => k_is)
    (case h_outcome_of => k_is)
    (case l_outcome_of => k_is)
    (case q_outcome_of => k_is)
    (case k_outcome_of => k_is)
    (case h__law_told => k_is)
    (case l__law_told => k_is)
    (case q__law_told => k_is)
    (case k__law_told => k_is)
    (case h__law_sum => k_is)
    (case l__law_sum => k_is)
    (case q__law_sum => k_is)
    (case k__law_sum => k_is)
    (case h__law_add => k_is)
    (case l__law_add => k_is)
    (case q__law_add => k_is)
    (case k__law_add => k_is)
    (case h__law_one => k_is)
    (case l__law_one => k_is)
    (case q__law_one => k_is)
    (case k__law_one => k_is)
    (case h__law_value => k_is)
    (case l__law_value => k_is)
    (case q__law_value => k_is)
    (case k__law_value => k_is)
    (case h__law_right => k_is)
    (case l__law_right => k_is)
    (case q__law_right => k_is)
    (case k__law_right => k_is)
    (case h__law_pail => k_is)
    (case l__law_pail => k_is)
    (case q__law_pail => k_is)
    (case k__law_pail => k_is)
    (case h_law => k_is)
    (case l_law => k_is)
    (case q_law => k_is)
    (case k_law => k_is)
    (case n_abs => k_is)
    (case n_all => k_is)
    (case n_bool => k_is)
    (case n_divmod => k_is)
    (case n_enumerate => k_is)
    (case n_int => k_is)
    (case n_isinstance => k_is)
    (case n_len => k_is)
    (case n_max => k_is)
    (case n_min => k_is)
    (case n_range => k_is)
    (case n_repr => k_is)
    (case n_set => k_is)
    (case n_sorted => k_is)
    (case n_tuple => k_is)
    (case n_zip => k_is)
    (case g_DRAWN => k_is)
    (case g_GREATEST => k_is)
    (case g_LOST => k_is)
    (case g_MOST_ADDED => k_is)
    (case g_MOST_IN_SET => k_is)
    (case g_WON => k_is)

