import PyProof.Rows.All
import HandS.ForMost
import HandS.Exc
import HandS.Wide
import HandS.TupAny
import HandS.TupMul
import HandS.Flow
import KE.DataEq
import KE.DataCmp
import HandS.Comp
import HandS.ExcOwn
import HandS.CallSlots
import HandS.Words
import HandS.WordsExc
import HandS.Ends
import HandS.IsInst
import HandS.Zip
import HandS.Text
import KE.GoesEnum
import KE.GoesMore
import HandS.Iter
import KE.SortData
import HandS.Star
import HandS.Defaults
import PyProof.ReprLen
import PySem.Challenge.RW_bothvanish_k05_whole_moves
import Wide.All
import OpenK.AllK
import Wide.FinOn
set_option Elab.async false
set_option linter.all false
set_option maxRecDepth 100000
set_option autoImplicit false
/-! FLa: values without a heap (tuples whole), the store, and how they stand in the hand layer's heap. -/
namespace FL
open PySem PySem.Spec L2

inductive PV where
  | non | bl (b : Bool) | int (i : Int) | str (x : Str) | tup (xs : List PV) | kl (xs : List PV) | ref (n : Nat) | glb (x : Str) | ty (n : String)
inductive LO where
  | lst (xs : List PV)
  | dic (kvs : List (PV × PV))
  | ins (C : Str) (fs : List (Str × PV))
abbrev Sto := List LO
abbrev En := List (Option PV)
inductive Res (α : Type) where
  | ok (a : α) (S : Sto)
  | exc (C : Str) (fs : List (Str × PV)) (S : Sto)
  | stk
def Res.bind {α β : Type} (r : Res α) (f : α → Sto → Res β) : Res β := match r with
  | .ok a S => f a S
  | .exc C fs S => .exc C fs S
  | .stk => .stk
def Out {α : Type} (r : Res α) (k : α → Sto → Prop) (e : Str → List (Str × PV) → Sto → Prop) : Prop := match r with
  | .ok a S => k a S
  | .exc C fs S => e C fs S
  | .stk => False
theorem Out.bind {α β : Type} {r : Res α} {f : α → Sto → Res β} {k : β → Sto → Prop} {e : Str → List (Str × PV) → Sto → Prop} (h : Out (r.bind f) k e) : Out r (fun a S => Out (f a S) k e) e := by
  cases r with
  | ok a S => exact h
  | exc C fs S => exact h
  | stk => exact h
theorem Out.mono {α : Type} {r : Res α} {k k' : α → Sto → Prop} {e e' : Str → List (Str × PV) → Sto → Prop} (h : Out r k e) (hk : ∀ a S, k a S → k' a S) (he : ∀ C fs S, e C fs S → e' C fs S) : Out r k' e' := by
  cases r with
  | ok a S => exact hk _ _ h
  | exc C fs S => exact he _ _ _ h
  | stk => exact h

/-- a list that stands still: the script, or a list of the written part -/
def SqK (K : PySem.W.Frag) (H : Hp) (a : Addr) (xs : List V) : Prop :=
  (∃ o, H a = some (.frz o (.lst xs))) ∨ ∃ (o : Obj) (its : Array Value) (n : Nat), K.lookup a = some o ∧ o.cls = .type "list" ∧ o.dict = none ∧ o.data = .seq its n ∧ its.size ≤ sizeLine ∧ Vals xs its.toList
theorem SqK.sq {K : PySem.W.Frag} {H : Hp} {a : Addr} {xs : List V} (h : SqK K H a xs) : SqL K H a xs := by
  rcases h with ⟨o, h⟩ | h
  · exact .inl (.inr ⟨o, h⟩)
  · exact .inr h
section
variable (K : PySem.W.Frag) (mg : Str → Option Value)
mutual
inductive VR (μ : List Addr) (H : Hp) : PV → V → Prop
  | non : VR μ H .non .non
  | bl (b : Bool) : VR μ H (.bl b) (.bl b)
  | int (i : Int) : VR μ H (.int i) (.int i)
  | str (x : Str) : VR μ H (.str x) (.str x)
  | ty (n : String) : VR μ H (.ty n) (.ty n)
  | tup {a : Addr} {xs : List PV} {vs : List V} : SqT K H a vs → VRs μ H xs vs → VR μ H (.tup xs) (.ref a)
  | kl {a : Addr} {xs : List PV} {vs : List V} : SqK K H a vs → VRs μ H xs vs → VR μ H (.kl xs) (.ref a)
  | ref {n : Nat} {a : Addr} : μ[n]? = some a → VR μ H (.ref n) (.ref a)
  | glb {x : Str} {a : Addr} : mg x = some (.ref a) → VR μ H (.glb x) (.ref a)
inductive VRs (μ : List Addr) (H : Hp) : List PV → List V → Prop
  | nil : VRs μ H [] []
  | cons {x : PV} {xs : List PV} {v : V} {vs : List V} : VR μ H x v → VRs μ H xs vs → VRs μ H (x :: xs) (v :: vs)
end
/-- attributes by name, in order -/
inductive FRs (μ : List Addr) (H : Hp) : List (Str × PV) → List (Str × V) → Prop
  | nil : FRs μ H [] []
  | cons {f : Str} {x : PV} {v : V} {fs : List (Str × PV)} {gs : List (Str × V)} : VR K mg μ H x v → FRs μ H fs gs → FRs μ H ((f, x) :: fs) ((f, v) :: gs)
def keyOf : PV → Option Key
  | .int i => some (.inl i)
  | .str x => some (.inr x)
  | _ => none
def keysOf : PV → Option (List Key)
  | .tup xs => xs.mapM keyOf
  | _ => none
inductive KRs (μ : List Addr) (H : Hp) : List (PV × PV) → List (Key × V) → Prop
  | nil : KRs μ H [] []
  | cons {q x : PV} {k : Key} {v : V} {fs : List (PV × PV)} {gs : List (Key × V)} : keyOf q = some k → VR K mg μ H x v → KRs μ H fs gs → KRs μ H ((q, x) :: fs) ((k, v) :: gs)
inductive TRs (μ : List Addr) (H : Hp) : List (PV × PV) → List (List Key × V) → Prop
  | nil : TRs μ H [] []
  | cons {q x : PV} {k : List Key} {v : V} {fs : List (PV × PV)} {gs : List (List Key × V)} : keysOf q = some k → VR K mg μ H x v → TRs μ H fs gs → TRs μ H ((q, x) :: fs) ((k, v) :: gs)
inductive OR (μ : List Addr) (H : Hp) : LO → Addr → Prop
  | lst {a : Addr} {xs : List PV} {vs : List V} : H a = some (.lst vs) → VRs K mg μ H xs vs → OR μ H (.lst xs) a
  | dicK {a : Addr} {kvs : List (PV × PV)} {ks : List (Key × V)} : H a = some (.dK ks) → KRs K mg μ H kvs ks → OR μ H (.dic kvs) a
  | dicT {a : Addr} {kvs : List (PV × PV)} {ks : List (List Key × V)} : H a = some (.dT ks) → TRs K mg μ H kvs ks → OR μ H (.dic kvs) a
  | ins {a c dx : Addr} {C : Str} {fs : List (Str × PV)} {gs : List (Str × V)} : mg C = some (.ref c) → H a = some (.ins c dx gs) → FRs K mg μ H fs gs → OR μ H (.ins C fs) a
structure SR (μ : List Addr) (S : Sto) (H : Hp) : Prop where
  len : μ.length = S.length
  nd : μ.Nodup
  at_ : ∀ (n : Nat) (a : Addr) (o : LO), μ[n]? = some a → S[n]? = some o → OR K mg μ H o a
def ER (μ : List Addr) (H : Hp) (ρ : En) (σ : St) : Prop := ρ.length = σ.length ∧ ∀ (i : Nat) (x : PV), ρ[i]? = some (some x) → ∃ v, σ[i]? = some (some v) ∧ VR K mg μ H x v
/-- how an exception stands -/
def XR (μ : List Addr) (H : Hp) (C : Str) (fs : List (Str × PV)) (cls : Value) (d : Option Addr) : Prop :=
  mg C = some cls ∧ ((d = none ∧ fs = []) ∨ ∃ dx gs, d = some dx ∧ H dx = some (.xd gs) ∧ FRs K mg μ H fs gs)
end
/-- one step: the store's own objects, and new ones, alone have changed -/
structure Stp (μ : List Addr) (H : Hp) (μ' : List Addr) (H' : Hp) : Prop where
  pre : μ <+: μ'
  new : ∀ a ∈ μ', a ∈ μ ∨ H a = none
  keep : ∀ a o, H a = some o → a ∉ μ → H' a = some o

section
variable {K : PySem.W.Frag} {mg : Str → Option Value} {μ μ' μ1 μ2 : List Addr} {S S' : Sto} {H H' H1 H2 : Hp}
theorem Stp.refl : Stp μ H μ H := ⟨List.prefix_refl _, fun _ h => .inl h, fun _ _ h _ => h⟩
theorem Stp.trans (a : Stp μ H μ1 H1) (b : Stp μ1 H1 μ2 H2) : Stp μ H μ2 H2 := by
  refine ⟨a.pre.trans b.pre, fun x hx => ?_, fun x o e n => ?_⟩
  · rcases b.new x hx with h | h
    · exact a.new x h
    · by_cases hm : x ∈ μ
      · exact .inl hm
      · right
        cases q : H x with
        | none => rfl
        | some o => rw [a.keep x o q hm] at h; cases h
  · refine b.keep x o (a.keep x o e n) fun hm => ?_
    rcases a.new x hm with h | h
    · exact n h
    · rw [e] at h; cases h
theorem SR.of_mem (r : SR K mg μ S H) {a : Addr} (h : a ∈ μ) : ∃ (n : Nat) (o : LO), μ[n]? = some a ∧ S[n]? = some o ∧ OR K mg μ H o a := by
  obtain ⟨n, hn, e⟩ := List.getElem_of_mem h
  have e1 : μ[n]? = some a := by rw [List.getElem?_eq_getElem hn, e]
  have hn2 : n < S.length := by rw [← r.len]; exact hn
  exact ⟨n, S[n], e1, List.getElem?_eq_getElem hn2, r.at_ n a _ e1 (List.getElem?_eq_getElem hn2)⟩
theorem OR.not_tup {a : Addr} {o : LO} {xs : List V} (h : OR K mg μ H o a) (e : H a = some (.tup xs)) : False := by
  cases h with
  | lst h _ => rw [e] at h; cases h
  | dicK h _ => rw [e] at h; cases h
  | dicT h _ => rw [e] at h; cases h
  | ins _ h _ => rw [e] at h; cases h
theorem OR.not_flst {a : Addr} {o : LO} {ob : Obj} {xs : List V} (h : OR K mg μ H o a) (e : H a = some (.frz ob (.lst xs))) : False := by
  cases h with
  | lst h _ => rw [e] at h; cases h
  | dicK h _ => rw [e] at h; cases h
  | dicT h _ => rw [e] at h; cases h
  | ins _ h _ => rw [e] at h; cases h
theorem OR.not_ftup {a : Addr} {o : LO} {ob : Obj} {xs : List V} (h : OR K mg μ H o a) (e : H a = some (.frz ob (.tup xs))) : False := by
  cases h with
  | lst h _ => rw [e] at h; cases h
  | dicK h _ => rw [e] at h; cases h
  | dicT h _ => rw [e] at h; cases h
  | ins _ h _ => rw [e] at h; cases h
theorem OR.not_xd {a : Addr} {o : LO} {fs : List (Str × V)} (h : OR K mg μ H o a) (e : H a = some (.xd fs)) : False := by
  cases h with
  | lst h _ => rw [e] at h; cases h
  | dicK h _ => rw [e] at h; cases h
  | dicT h _ => rw [e] at h; cases h
  | ins _ h _ => rw [e] at h; cases h
theorem OR.some {a : Addr} {o : LO} (h : OR K mg μ H o a) : ∃ u, H a = some u := by
  cases h with
  | lst h _ => exact ⟨_, h⟩
  | dicK h _ => exact ⟨_, h⟩
  | dicT h _ => exact ⟨_, h⟩
  | ins _ h _ => exact ⟨_, h⟩
theorem SR.sqt (r : SR K mg μ S H) (st : Stp μ H μ' H') {a : Addr} {vs : List V} (h : SqT K H a vs) : SqT K H' a vs := by
  rcases h with (h | ⟨o, h⟩) | h
  · refine .inl (.inl (st.keep _ _ h fun hm => ?_))
    obtain ⟨_, o, _, _, ho⟩ := r.of_mem hm
    exact ho.not_tup h
  · refine .inl (.inr ⟨o, st.keep _ _ h fun hm => ?_⟩)
    obtain ⟨_, o, _, _, ho⟩ := r.of_mem hm
    exact ho.not_ftup h
  · exact .inr h
theorem SR.sqk (r : SR K mg μ S H) (st : Stp μ H μ' H') {a : Addr} {vs : List V} (h : SqK K H a vs) : SqK K H' a vs := by
  rcases h with ⟨o, h⟩ | h
  · refine .inl ⟨o, st.keep _ _ h fun hm => ?_⟩
    obtain ⟨_, o, _, _, ho⟩ := r.of_mem hm
    exact ho.not_flst h
  · exact .inr h
theorem prefix_get {α : Type} {l l' : List α} (h : l <+: l') {n : Nat} {a : α} (e : l[n]? = some a) : l'[n]? = some a := by
  obtain ⟨t, rfl⟩ := h
  obtain ⟨h1, _⟩ := List.getElem?_eq_some_iff.mp e
  rw [List.getElem?_append_left h1]
  exact e
mutual
theorem VR.mono (r : SR K mg μ S H) (st : Stp μ H μ' H') : ∀ (x : PV) (v : V), VR K mg μ H x v → VR K mg μ' H' x v
  | .non, _, h => by cases h; exact .non
  | .bl b, _, h => by cases h; exact .bl b
  | .int i, _, h => by cases h; exact .int i
  | .str x, _, h => by cases h; exact .str x
  | .ty n, _, h => by cases h; exact .ty n
  | .tup xs, _, h => by
    cases h with
    | tup hs ha => exact .tup (r.sqt st hs) (VRs.mono r st xs _ ha)
  | .kl xs, _, h => by
    cases h with
    | kl hs ha => exact .kl (r.sqk st hs) (VRs.mono r st xs _ ha)
  | .ref n, _, h => by
    cases h with
    | ref e => exact .ref (prefix_get st.pre e)
  | .glb x, _, h => by
    cases h with
    | glb e => exact .glb e
theorem VRs.mono (r : SR K mg μ S H) (st : Stp μ H μ' H') : ∀ (xs : List PV) (vs : List V), VRs K mg μ H xs vs → VRs K mg μ' H' xs vs
  | [], _, h => by cases h; exact .nil
  | x :: xs, _, h => by
    cases h with
    | cons h1 h2 => exact .cons (VR.mono r st x _ h1) (VRs.mono r st xs _ h2)
end
theorem FRs.mono (r : SR K mg μ S H) (st : Stp μ H μ' H') {fs : List (Str × PV)} {gs : List (Str × V)} (h : FRs K mg μ H fs gs) : FRs K mg μ' H' fs gs := by
  induction h with
  | nil => exact .nil
  | cons h _ ih => exact .cons (VR.mono r st _ _ h) ih
theorem KRs.mono (r : SR K mg μ S H) (st : Stp μ H μ' H') {fs : List (PV × PV)} {gs : List (Key × V)} (h : KRs K mg μ H fs gs) : KRs K mg μ' H' fs gs := by
  induction h with
  | nil => exact .nil
  | cons e h _ ih => exact .cons e (VR.mono r st _ _ h) ih
theorem TRs.mono (r : SR K mg μ S H) (st : Stp μ H μ' H') {fs : List (PV × PV)} {gs : List (List Key × V)} (h : TRs K mg μ H fs gs) : TRs K mg μ' H' fs gs := by
  induction h with
  | nil => exact .nil
  | cons e h _ ih => exact .cons e (VR.mono r st _ _ h) ih
theorem ER.mono (r : SR K mg μ S H) (st : Stp μ H μ' H') {ρ : En} {σ : St} (h : ER K mg μ H ρ σ) : ER K mg μ' H' ρ σ :=
  ⟨h.1, fun i x e => let ⟨v, e1, q⟩ := h.2 i x e; ⟨v, e1, VR.mono r st _ _ q⟩⟩
/-- the object's own description, its heap cell kept -/
theorem OR.mono (r : SR K mg μ S H) (st : Stp μ H μ' H') {o : LO} {a : Addr} (h : OR K mg μ H o a) (e : H' a = H a) : OR K mg μ' H' o a := by
  cases h with
  | lst h q => exact .lst (e.trans h) (VRs.mono r st _ _ q)
  | dicK h q => exact .dicK (e.trans h) (q.mono r st)
  | dicT h q => exact .dicT (e.trans h) (q.mono r st)
  | ins c h q => exact .ins c (e.trans h) (q.mono r st)
theorem Stp.fresh {p : Addr} {o : HO} (hp : H p = none) : Stp μ H μ (upd H p o) :=
  ⟨List.prefix_refl _, fun _ h => .inl h, fun a u e _ => by rw [upd_ne (ne_of_none e hp)]; exact e⟩
theorem SR.ne_fresh (r : SR K mg μ S H) {p : Addr} (hp : H p = none) {a : Addr} (h : a ∈ μ) : a ≠ p := by
  obtain ⟨_, o, _, _, ho⟩ := r.of_mem h
  obtain ⟨u, e⟩ := ho.some
  exact ne_of_none e hp
/-- a new object that the store does not name (a tuple) -/
theorem SR.fresh (r : SR K mg μ S H) {p : Addr} {o : HO} (hp : H p = none) : SR K mg μ S (upd H p o) :=
  ⟨r.len, r.nd, fun n a o' e1 e2 => (r.at_ n a o' e1 e2).mono r (Stp.fresh hp) (upd_ne (r.ne_fresh hp (List.mem_of_getElem? e1)))⟩
/-- a new object of the store -/
theorem Stp.newObj {p : Addr} {o : HO} (hp : H p = none) : Stp μ H (μ ++ [p]) (upd H p o) :=
  ⟨List.prefix_append _ _, fun a h => by
    rcases List.mem_append.mp h with h | h
    · exact .inl h
    · rw [List.mem_singleton] at h; subst h; exact .inr hp, fun a u e _ => by rw [upd_ne (ne_of_none e hp)]; exact e⟩
theorem SR.newObj (r : SR K mg μ S H) {p : Addr} {o : HO} {u : LO} (hp : H p = none) (hu : OR K mg (μ ++ [p]) (upd H p o) u p) : SR K mg (μ ++ [p]) (S ++ [u]) (upd H p o) := by
  refine ⟨by simp [r.len], ?_, fun n a o' e1 e2 => ?_⟩
  · rw [List.nodup_append]
    refine ⟨r.nd, by simp, fun a ha b hb => ?_⟩
    rw [List.mem_singleton] at hb; subst hb
    exact r.ne_fresh hp ha
  · by_cases hn : n < μ.length
    · rw [List.getElem?_append_left hn] at e1
      rw [List.getElem?_append_left (by rw [← r.len]; exact hn)] at e2
      exact (r.at_ n a o' e1 e2).mono r (Stp.newObj hp) (upd_ne (r.ne_fresh hp (List.mem_of_getElem? e1)))
    · obtain ⟨h1, _⟩ := List.getElem?_eq_some_iff.mp e1
      have e : n = μ.length := by rw [List.length_append, List.length_singleton] at h1; omega
      subst e
      rw [List.getElem?_append_right (Nat.le_refl _), Nat.sub_self] at e1
      rw [r.len, List.getElem?_append_right (Nat.le_refl _), Nat.sub_self] at e2
      cases e1; cases e2
      exact hu
/-- an object of the store is written -/
theorem Stp.put {n : Nat} {a : Addr} {o : HO} (e : μ[n]? = some a) : Stp μ H μ (upd H a o) :=
  ⟨List.prefix_refl _, fun _ h => .inl h, fun b u h hm => by
    have : b ≠ a := fun z => hm (by rw [z]; exact List.mem_of_getElem? e)
    rw [upd_ne this]; exact h⟩
theorem nodup_get {l : List Addr} (h : l.Nodup) {i j : Nat} {a : Addr} (e1 : l[i]? = some a) (e2 : l[j]? = some a) : i = j := by
  obtain ⟨h1, q1⟩ := List.getElem?_eq_some_iff.mp e1
  obtain ⟨h2, q2⟩ := List.getElem?_eq_some_iff.mp e2
  exact (List.getElem_inj h).mp (q1.trans q2.symm)
theorem SR.put (r : SR K mg μ S H) {n : Nat} {a : Addr} {o : HO} {u : LO} (e : μ[n]? = some a) (hu : OR K mg μ (upd H a o) u a) : SR K mg μ (S.set n u) (upd H a o) := by
  refine ⟨by simp [r.len], r.nd, fun m b o' e1 e2 => ?_⟩
  by_cases hm : m = n
  · subst hm
    rw [e] at e1; cases e1
    have hl : m < S.length := by rw [← r.len]; exact (List.getElem?_eq_some_iff.mp e).1
    rw [List.getElem?_set_self hl] at e2
    cases e2
    exact hu
  · rw [List.getElem?_set_ne (Ne.symm hm)] at e2
    refine (r.at_ m b o' e1 e2).mono r (Stp.put e) (upd_ne fun z => hm ?_)
    subst z
    exact nodup_get r.nd e1 e
theorem SR.addr (r : SR K mg μ S H) {n : Nat} {o : LO} (e : S[n]? = some o) : ∃ a, μ[n]? = some a ∧ OR K mg μ H o a := by
  have hn : n < μ.length := by rw [r.len]; exact (List.getElem?_eq_some_iff.mp e).1
  exact ⟨μ[n], List.getElem?_eq_getElem hn, r.at_ n _ o (List.getElem?_eq_getElem hn) e⟩
end
end FL

/-! FLb: what an expression computes, as a function of slots and store; the rules. -/
namespace FL
open PySem PySem.Spec L2
/-- the longest list that is spoken of -/
def big : Nat := 100000
theorem big_le : big ≤ sizeLine := by decide
theorem big_lt : big < sizeLine := by decide

section
variable (K : PySem.W.Frag) (mg : Str → Option Value)
def okG {α β : Type} (R : List Addr → Hp → α → β → Prop) (μ : List Addr) (H : Hp) (Q : β → Hp → Prop) : α → Sto → Prop := fun a S' =>
  ∀ (μ' : List Addr) (H' : Hp) (b : β), Stp μ H μ' H' → SR K mg μ' S' H' → R μ' H' a b → Q b H'
def exG (W : WX) (σ : L2.St) (μ : List Addr) (H : Hp) : Str → List (Str × PV) → Sto → Prop := fun C fs S' =>
  ∀ (μ' : List Addr) (H' : Hp) (c : Value) (d : Option Addr), Stp μ H μ' H' → SR K mg μ' S' H' → XR K mg μ' H' C fs c d → W c d σ H'
/-- the reading of what computes d -/
def tG {α β : Type} (R : List Addr → Hp → α → β → Prop) (W : WX) (d : En → Sto → Res α) : L2.St → Hp → (β → Hp → Prop) → Prop := fun σ H Q =>
  ∃ (ρ : En) (S : Sto) (μ : List Addr), ER K mg μ H ρ σ ∧ SR K mg μ S H ∧ Out (d ρ S) (okG K mg R μ H Q) (exG K mg W σ μ H)
abbrev tE (W : WX) (d : En → Sto → Res PV) : TE := tG K mg (fun μ H => VR K mg μ H) W d
abbrev tA (W : WX) (d : En → Sto → Res (List PV)) : TA := tG K mg (fun μ H => VRs K mg μ H) W d
def eqR : List Addr → Hp → Bool → Bool → Prop := fun _ _ a b => a = b
abbrev tT (W : WX) (d : En → Sto → Res Bool) : TT := tG K mg eqR W d
end
section
variable {K : PySem.W.Frag} {mg : Str → Option Value} {W : WX} {α β γ δ : Type}
theorem okG.step {R : List Addr → Hp → α → β → Prop} {μ μ1 : List Addr} {H H1 : Hp} {Q : β → Hp → Prop} {a : α} {S : Sto} (h : okG K mg R μ H Q a S) (st : Stp μ H μ1 H1) : okG K mg R μ1 H1 Q a S :=
  fun μ' H' b s2 sr r => h μ' H' b (st.trans s2) sr r
theorem exG.step {σ : L2.St} {μ μ1 : List Addr} {H H1 : Hp} {C : Str} {fs : List (Str × PV)} {S : Sto} (h : exG K mg W σ μ H C fs S) (st : Stp μ H μ1 H1) : exG K mg W σ μ1 H1 C fs S :=
  fun μ' H' c d s2 sr r => h μ' H' c d (st.trans s2) sr r
/-- one part, then the rest -/
theorem tG_bind {R : List Addr → Hp → α → β → Prop} {R2 : List Addr → Hp → γ → δ → Prop} {d : En → Sto → Res α} {f : α → Sto → Res γ} {ρ : En} {S : Sto} {μ : List Addr} {σ : L2.St} {H : Hp} {Q : δ → Hp → Prop} {Q1 : β → Hp → Prop}
    (er : ER K mg μ H ρ σ) (sr : SR K mg μ S H) (h : Out ((d ρ S).bind f) (okG K mg R2 μ H Q) (exG K mg W σ μ H))
    (k : ∀ (a : α) (b : β) (S1 : Sto) (μ1 : List Addr) (H1 : Hp), Stp μ H μ1 H1 → SR K mg μ1 S1 H1 → R μ1 H1 a b → ER K mg μ1 H1 ρ σ → Out (f a S1) (okG K mg R2 μ1 H1 Q) (exG K mg W σ μ1 H1) → Q1 b H1) : tG K mg R W d σ H Q1 := by
  refine ⟨ρ, S, μ, er, sr, h.bind.mono (fun a S1 h1 μ1 H1 b st sr1 r => ?_) fun C fs S1 h1 => h1⟩
  exact k a b S1 μ1 H1 st sr1 r (er.mono sr st) (h1.mono (fun _ _ q => q.step st) fun _ _ _ q => q.step st)
theorem tG_ret {R : List Addr → Hp → α → β → Prop} {d : En → Sto → Res α} {ρ : En} {S : Sto} {μ : List Addr} {σ : L2.St} {H : Hp} {Q : β → Hp → Prop}
    (er : ER K mg μ H ρ σ) (sr : SR K mg μ S H) (h : Out (d ρ S) (okG K mg R μ H Q) (exG K mg W σ μ H)) : tG K mg R W d σ H Q := ⟨ρ, S, μ, er, sr, h⟩
end
theorem _root_.PySem.PE_imp {X : Cx} {e : Expr} {t t' : TE} (h : PE X e t) (k : ∀ σ H Q, t' σ H Q → t σ H Q) : PE X e t' := ⟨fun pins s σ H Q I q => h.run pins s σ H Q I (k σ H Q q)⟩
theorem _root_.PySem.PT_imp {X : Cx} {e : Expr} {t t' : TT} (h : PT X e t) (k : ∀ σ H Q, t' σ H Q → t σ H Q) : PT X e t' := ⟨fun pins s σ H Q I q => h.run pins s σ H Q I (k σ H Q q)⟩
theorem _root_.PySem.PW_imp {X : Cx} {e : Expr} {t t' : TT} (h : PW X e t) (k : ∀ σ H Q, t' σ H Q → t σ H Q) : PW X e t' := ⟨fun wh pins s σ H Q I q => h.run wh pins s σ H Q I (k σ H Q q)⟩
theorem _root_.PySem.PA_imp {X : Cx} {es : List Expr} {t t' : TA} (h : PA X es t) (k : ∀ σ H Q, t' σ H Q → t σ H Q) : PA X es t' := ⟨fun pos pins s σ H Q I q => h.run pos pins s σ H Q I (k σ H Q q)⟩

theorem Res.bind_assoc {α β γ : Type} (r : Res α) (f : α → Sto → Res β) (g : β → Sto → Res γ) : (r.bind f).bind g = r.bind fun a S => (f a S).bind g := by
  cases r <;> rfl
/-! ### the functions -/
abbrev OP := Option (PV × Sto)
def ofO {α : Type} : Option (α × Sto) → Res α
  | some (a, S) => .ok a S
  | none => .stk
def eVar (i : Nat) : En → Sto → Res PV := fun ρ S => match ρ[i]? with
  | some (some x) => .ok x S
  | _ => .stk
def eC (v : PV) : En → Sto → Res PV := fun _ S => .ok v S
def eBin (f : PV → PV → Sto → OP) (da db : En → Sto → Res PV) : En → Sto → Res PV := fun ρ S => (da ρ S).bind fun x S1 => (db ρ S1).bind fun y S2 => ofO (f x y S2)
def eUn (f : PV → Sto → OP) (da : En → Sto → Res PV) : En → Sto → Res PV := fun ρ S => (da ρ S).bind fun x S1 => ofO (f x S1)
def aNil : En → Sto → Res (List PV) := fun _ S => .ok [] S
def aCons (da : En → Sto → Res PV) (dr : En → Sto → Res (List PV)) : En → Sto → Res (List PV) := fun ρ S => (da ρ S).bind fun x S1 => (dr ρ S1).bind fun xs S2 => .ok (x :: xs) S2
def eTup (da : En → Sto → Res (List PV)) : En → Sto → Res PV := fun ρ S => (da ρ S).bind fun xs S1 => if xs.length ≤ big then .ok (.tup xs) S1 else .stk
def eLst (da : En → Sto → Res (List PV)) : En → Sto → Res PV := fun ρ S => (da ρ S).bind fun xs S1 => if xs.length ≤ big then .ok (.ref S1.length) (S1 ++ [.lst xs]) else .stk
def eIf (dt : En → Sto → Res Bool) (da db : En → Sto → Res PV) : En → Sto → Res PV := fun ρ S => (dt ρ S).bind fun b S1 => if b then da ρ S1 else db ρ S1
def tOfE (da : En → Sto → Res PV) : En → Sto → Res Bool := fun ρ S => (da ρ S).bind fun x S1 => match x with
  | .bl b => .ok b S1
  | _ => .stk
def tAnd2 (da db : En → Sto → Res Bool) : En → Sto → Res Bool := fun ρ S => (da ρ S).bind fun b S1 => if b then db ρ S1 else .ok false S1
def tOr2 (da db : En → Sto → Res Bool) : En → Sto → Res Bool := fun ρ S => (da ρ S).bind fun b S1 => if b then .ok true S1 else db ρ S1
def tNot1 (da : En → Sto → Res Bool) : En → Sto → Res Bool := fun ρ S => (da ρ S).bind fun b S1 => .ok (!b) S1
def eAnd2 (da db : En → Sto → Res PV) : En → Sto → Res PV := fun ρ S => (da ρ S).bind fun x S1 => match x with
  | .bl b => if b then db ρ S1 else .ok (.bl false) S1
  | _ => .stk
def eOr2 (da db : En → Sto → Res PV) : En → Sto → Res PV := fun ρ S => (da ρ S).bind fun x S1 => match x with
  | .bl b => if b then .ok (.bl true) S1 else db ρ S1
  | _ => .stk
def eNot1 (da : En → Sto → Res PV) : En → Sto → Res PV := fun ρ S => (da ρ S).bind fun x S1 => match x with
  | .bl b => .ok (.bl (!b)) S1
  | _ => .stk
def eCall (f : List PV → Sto → OP) (da : En → Sto → Res (List PV)) : En → Sto → Res PV := fun ρ S => (da ρ S).bind fun xs S1 => ofO (f xs S1)

/-! ### values' operations, judged -/
section
variable (X : Cx)
def k2 (f : PV → PV → Sto → OP) : R2 := fun v w H Q => ∃ (x y : PV) (S : Sto) (μ : List Addr), VR X.K X.mg μ H x v ∧ VR X.K X.mg μ H y w ∧ SR X.K X.mg μ S H ∧ Out (ofO (f x y S)) (okG X.K X.mg (fun μ H => VR X.K X.mg μ H) μ H Q) (fun _ _ _ => False)
def k1 (f : PV → Sto → OP) : V → Hp → VK → Prop := fun v H Q => ∃ (x : PV) (S : Sto) (μ : List Addr), VR X.K X.mg μ H x v ∧ SR X.K X.mg μ S H ∧ Out (ofO (f x S)) (okG X.K X.mg (fun μ H => VR X.K X.mg μ H) μ H Q) (fun _ _ _ => False)
def kL (f : List PV → Sto → OP) : List V → Hp → VK → Prop := fun vs H Q => ∃ (xs : List PV) (S : Sto) (μ : List Addr), VRs X.K X.mg μ H xs vs ∧ SR X.K X.mg μ S H ∧ Out (ofO (f xs S)) (okG X.K X.mg (fun μ H => VR X.K X.mg μ H) μ H Q) (fun _ _ _ => False)
end
theorem ofO_ex {α : Type} {r : Option (α × Sto)} {k : α → Sto → Prop} {e e' : Str → List (Str × PV) → Sto → Prop} (h : Out (ofO r) k e) : Out (ofO r) k e' := by
  cases r with
  | none => exact h
  | some p => exact h

/-! ### the rules of expressions -/
section
variable {X : Cx} {W : WX} {e a b c : Expr} {es : List Expr} {pos : Pos} {da db : En → Sto → Res PV} {dl : En → Sto → Res (List PV)} {dt : En → Sto → Res Bool}
abbrev FE (X : Cx) (W : WX) (e : Expr) (d : En → Sto → Res PV) : Prop := PE X e (tE X.K X.mg W d)
abbrev FA (X : Cx) (W : WX) (es : List Expr) (d : En → Sto → Res (List PV)) : Prop := PA X es (tA X.K X.mg W d)
abbrev FT (X : Cx) (W : WX) (e : Expr) (d : En → Sto → Res Bool) : Prop := PT X e (tT X.K X.mg W d)
abbrev FW (X : Cx) (W : WX) (e : Expr) (d : En → Sto → Res Bool) : Prop := PW X e (tT X.K X.mg W d)
theorem fe_var (i : Nat) {x : Str} (hN : X.N[i]? = some x := by rfl) (hv : Vis X.env.scope x := by first | exact Or.inl rfl | exact Or.inr (Or.inl rfl) | exact Or.inr (Or.inr rfl)) (hd : (x == ("__debug__" : Str)) = false := by decide)
    (hcd : (x == ("__classdict__" : Str)) = false := by decide) : FE X W (.Name x pos) (eVar i) := by
  refine PE_imp (pe_var hN hv hd hcd) fun σ H Q h => ?_
  obtain ⟨ρ, S, μ, er, sr, h⟩ := h
  unfold eVar at h
  cases q : ρ[i]? with
  | none => rw [q] at h; exact h.elim
  | some o =>
    rw [q] at h
    cases o with
    | none => exact h.elim
    | some x =>
      obtain ⟨v, e1, r⟩ := er.2 i x q
      exact ⟨v, e1, h μ H v .refl sr r⟩
theorem fe_c {v : PV} {w : V} (h : PE X e (tC w)) (r : ∀ μ H, VR X.K X.mg μ H v w) : FE X W e (eC v) := by
  refine PE_imp h fun σ H Q h => ?_
  obtain ⟨ρ, S, μ, er, sr, h⟩ := h
  exact h μ H w .refl sr (r μ H)
theorem fe_int {i : Int} {j pos} : FE X W (.Constant (.int i) j pos) (eC (.int i)) := fe_c pe_int fun _ _ => .int i
theorem fe_bl {b : Bool} {j pos} : FE X W (.Constant (.bool b) j pos) (eC (.bl b)) := fe_c pe_bl fun _ _ => .bl b
theorem fe_non {j pos} : FE X W (.Constant .none j pos) (eC .non) := fe_c pe_non fun _ _ => .non
theorem fe_str {x : Str} {j pos} : FE X W (.Constant (.str x) j pos) (eC (.str x)) := fe_c pe_str fun _ _ => .str x
theorem fe_glob {x : Str} {a : Addr} (hg : Gl X x) (hm : X.mg x = some (.ref a)) (hd : (x == ("__debug__" : Str)) = false := by decide) : FE X W (.Name x pos) (eC (.glb x)) := fe_c (pe_glob hg hm (v := .ref a) rfl hd) fun _ _ => .glb hm
theorem fe_gint {x : Str} {i : Int} {t : Tok} (hg : Gl X x) (hm : X.mg x = some (.int i t)) (hd : (x == ("__debug__" : Str)) = false := by decide) : FE X W (.Name x pos) (eC (.int i)) := fe_c (pe_glob hg hm (v := .int i) ⟨_, rfl⟩ hd) fun _ _ => .int i
theorem fe_gstr {x y : Str} {t : Tok} (hg : Gl X x) (hm : X.mg x = some (.str y t)) (hd : (x == ("__debug__" : Str)) = false := by decide) : FE X W (.Name x pos) (eC (.str y)) := fe_c (pe_glob hg hm (v := .str y) ⟨_, rfl⟩ hd) fun _ _ => .str y
theorem fe_bin {op : Operator} {f : PV → PV → Sto → OP} (ho : OpR X (binaryOp op) (k2 X f)) (ha : FE X W a da) (hb : FE X W b db) : FE X W (.BinOp a op b pos) (eBin f da db) := by
  refine PE_imp (pe_op ho ha hb) fun σ H Q h => ?_
  obtain ⟨ρ, S, μ, er, sr, h⟩ := h
  refine tG_bind er sr h fun x v S1 μ1 H1 st1 sr1 r1 er1 h1 => ?_
  refine tG_bind er1 sr1 h1 fun y w S2 μ2 H2 st2 sr2 r2 er2 h2 => ?_
  exact ⟨x, y, S2, μ2, VR.mono sr1 st2 _ _ r1, r2, sr2, ofO_ex h2⟩
theorem fe_un {op : UnaryOp} {f : PV → Sto → OP} (ho : UnR X (unaryOp op) (k1 X f)) (ha : FE X W a da) : FE X W (.UnaryOp op a pos) (eUn f da) := by
  refine PE_imp (pe_un ho ha) fun σ H Q h => ?_
  obtain ⟨ρ, S, μ, er, sr, h⟩ := h
  refine tG_bind er sr h fun x v S1 μ1 H1 st1 sr1 r1 er1 h1 => ?_
  exact ⟨x, S1, μ1, r1, sr1, ofO_ex h1⟩
theorem fe_cmp {op : CmpOp} {f : PV → PV → Sto → OP} (ho : OpR X (compareOp op) (k2 X f)) (ha : FE X W a da) (hb : FE X W b db) (h1 : behindInMarks op b = false := by first | exact nobehind _ (by decide) (by decide) | rfl) : FE X W (.Compare a [op] [b] pos) (eBin f da db) := by
  refine PE_imp (pe_cmpR ho ha hb h1) fun σ H Q h => ?_
  obtain ⟨ρ, S, μ, er, sr, h⟩ := h
  refine tG_bind er sr h fun x v S1 μ1 H1 st1 sr1 r1 er1 h1 => ?_
  refine tG_bind er1 sr1 h1 fun y w S2 μ2 H2 st2 sr2 r2 er2 h2 => ?_
  exact ⟨x, y, S2, μ2, VR.mono sr1 st2 _ _ r1, r2, sr2, ofO_ex h2⟩
theorem fa_nil : FA X W [] aNil := by
  refine PA_imp pa_nil fun σ H Q h => ?_
  obtain ⟨ρ, S, μ, er, sr, h⟩ := h
  exact h μ H [] .refl sr .nil
theorem fa_cons (ha : FE X W e da) (hr : FA X W es dl) (hs : starEach (e :: es) X.env = (false, eval e X.env) :: starEach es X.env := by rfl) : FA X W (e :: es) (aCons da dl) := by
  refine PA_imp (pa_cons ha hr hs) fun σ H Q h => ?_
  obtain ⟨ρ, S, μ, er, sr, h⟩ := h
  refine tG_bind er sr h fun x v S1 μ1 H1 st1 sr1 r1 er1 h1 => ?_
  refine tG_bind er1 sr1 h1 fun xs vs S2 μ2 H2 st2 sr2 r2 er2 h2 => ?_
  exact h2 μ2 H2 _ .refl sr2 (.cons (VR.mono sr1 st2 _ _ r1) r2)
theorem VRs.length {K : PySem.W.Frag} {mg : Str → Option Value} {μ : List Addr} {H : Hp} : ∀ {xs : List PV} {vs : List V}, VRs K mg μ H xs vs → xs.length = vs.length
  | [], _, h => by cases h; rfl
  | x :: xs, _, h => by
    cases h with
    | cons _ h2 => simp [h2.length]
theorem fe_tup {x1} (h : FA X W es dl) : FE X W (.Tuple es x1 pos) (eTup dl) := by
  refine PE_imp (pe_tup h) fun σ H Q h => ?_
  obtain ⟨ρ, S, μ, er, sr, h⟩ := h
  refine tG_bind er sr h fun xs vs S1 μ1 H1 st1 sr1 r1 er1 h1 => ?_
  by_cases hl : xs.length ≤ big
  · rw [if_pos hl] at h1
    refine ⟨by rw [← r1.length]; exact Nat.le_trans hl big_le, fun p hp => ?_⟩
    exact h1 μ1 _ _ (Stp.fresh hp) (sr1.fresh hp) (.tup (.of upd_same) (VRs.mono sr1 (Stp.fresh hp) _ _ r1))
  · rw [if_neg hl] at h1; exact h1.elim
theorem fe_lst (h : FA X W es dl) : FE X W (.List es pos) (eLst dl) := by
  refine PE_imp (pe_lst h) fun σ H Q h => ?_
  obtain ⟨ρ, S, μ, er, sr, h⟩ := h
  refine tG_bind er sr h fun xs vs S1 μ1 H1 st1 sr1 r1 er1 h1 => ?_
  by_cases hl : xs.length ≤ big
  · rw [if_pos hl] at h1
    refine ⟨by rw [← r1.length]; exact Nat.le_trans hl big_le, fun p hp => ?_⟩
    exact h1 (μ1 ++ [p]) _ _ (Stp.newObj hp) (sr1.newObj hp (.lst upd_same (VRs.mono sr1 (Stp.newObj hp) _ _ r1))) (.ref (by rw [← sr1.len]; simp))
  · rw [if_neg hl] at h1; exact h1.elim
theorem fe_if (ht : FT X W c dt) (ha : FE X W a da) (hb : FE X W b db) : FE X W (.IfExp c a b pos) (eIf dt da db) := by
  refine PE_imp (pe_ifExp ht ha hb) fun σ H Q h => ?_
  obtain ⟨ρ, S, μ, er, sr, h⟩ := h
  refine tG_bind er sr h fun x v S1 μ1 H1 st1 sr1 r1 er1 h1 => ?_
  obtain rfl : x = v := r1
  cases x with
  | true => exact ⟨ρ, S1, μ1, er1, sr1, h1⟩
  | false => exact ⟨ρ, S1, μ1, er1, sr1, h1⟩
/-- a bool as a test -/
theorem ft_val (ha : FE X W a da) (he : ∀ whole, isTrue a X.env whole = (do let v ← whole; standAt a.pos; holding [v] (truthy v)) := by intro _; rfl) : FT X W a (tOfE da) := by
  refine PT_imp (pt_val ha he) fun σ H Q h => ?_
  obtain ⟨ρ, S, μ, er, sr, h⟩ := h
  refine tG_bind er sr h fun x v S1 μ1 H1 st1 sr1 r1 er1 h1 => ?_
  cases r1 with
  | bl b => exact ⟨b, rfl, h1 μ1 H1 b .refl sr1 rfl⟩
  | non => exact h1.elim
  | int _ => exact h1.elim
  | str _ => exact h1.elim
  | ty _ => exact h1.elim
  | tup _ _ => exact h1.elim
  | kl _ _ => exact h1.elim
  | ref _ => exact h1.elim
  | glb _ => exact h1.elim
theorem ft_cmp {op : CmpOp} {f : PV → PV → Sto → OP} (ho : OpR X (compareOp op) (k2 X f)) (ha : FE X W a da) (hb : FE X W b db) (h1 : behindInMarks op b = false := by first | exact nobehind _ (by decide) (by decide) | rfl) : FT X W (.Compare a [op] [b] pos) (tOfE (eBin f da db)) := by
  refine PT_imp (pt_cmpR ho ha hb h1) fun σ H Q h => ?_
  obtain ⟨ρ, S, μ, er, sr, h⟩ := h
  have h := h
  unfold tOfE eBin at h
  rw [Res.bind_assoc] at h
  refine tG_bind er sr h fun x v S1 μ1 H1 st1 sr1 r1 er1 h1 => ?_
  rw [Res.bind_assoc] at h1
  refine tG_bind er1 sr1 h1 fun y w S2 μ2 H2 st2 sr2 r2 er2 h2 => ?_
  refine ⟨x, y, S2, μ2, VR.mono sr1 st2 _ _ r1, r2, sr2, ?_⟩
  cases q : f x y S2 with
  | none => rw [q] at h2; exact h2
  | some p =>
    obtain ⟨z, S3⟩ := p
    rw [q] at h2
    intro μ' H' u st sr3 rz
    cases z with
    | bl k =>
      cases rz
      exact ⟨k, rfl, h2 μ' H' k st sr3 rfl⟩
    | non => exact h2.elim
    | int _ => exact h2.elim
    | str _ => exact h2.elim
    | ty _ => exact h2.elim
    | tup _ => exact h2.elim
    | kl _ => exact h2.elim
    | ref _ => exact h2.elim
    | glb _ => exact h2.elim
theorem fw_and1 (ha : FT X W a dt) : FW X W (.BoolOp .And [a] pos) dt := pw_and1 ha
theorem fw_or1 (ha : FT X W a dt) : FW X W (.BoolOp .Or [a] pos) dt := pw_or1 ha
theorem fw_and {rest : List Expr} {du : En → Sto → Res Bool} (ha : FT X W a dt) (hb : FW X W (.BoolOp .And (b :: rest) pos) du) : FW X W (.BoolOp .And (a :: b :: rest) pos) (tAnd2 dt du) := by
  refine PW_imp (pw_and ha hb) fun σ H Q h => ?_
  obtain ⟨ρ, S, μ, er, sr, h⟩ := h
  refine tG_bind er sr h fun x v S1 μ1 H1 st1 sr1 r1 er1 h1 => ?_
  obtain rfl : x = v := r1
  cases x with
  | true => exact ⟨ρ, S1, μ1, er1, sr1, h1⟩
  | false => exact h1 μ1 H1 false .refl sr1 rfl
theorem fw_or {rest : List Expr} {du : En → Sto → Res Bool} (ha : FT X W a dt) (hb : FW X W (.BoolOp .Or (b :: rest) pos) du) : FW X W (.BoolOp .Or (a :: b :: rest) pos) (tOr2 dt du) := by
  refine PW_imp (pw_or ha hb) fun σ H Q h => ?_
  obtain ⟨ρ, S, μ, er, sr, h⟩ := h
  refine tG_bind er sr h fun x v S1 μ1 H1 st1 sr1 r1 er1 h1 => ?_
  obtain rfl : x = v := r1
  cases x with
  | false => exact ⟨ρ, S1, μ1, er1, sr1, h1⟩
  | true => exact h1 μ1 H1 true .refl sr1 rfl
theorem ft_w (h : FW X W a dt) : FT X W a dt := h.pt
theorem ft_not (ha : FT X W a dt) : FT X W (.UnaryOp .Not a pos) (tNot1 dt) := by
  refine PT_imp (pt_not ha) fun σ H Q h => ?_
  obtain ⟨ρ, S, μ, er, sr, h⟩ := h
  refine tG_bind er sr h fun x v S1 μ1 H1 st1 sr1 r1 er1 h1 => ?_
  obtain rfl : x = v := r1
  exact h1 μ1 H1 _ .refl sr1 rfl
theorem fe_one {op} (h : FE X W a da) : FE X W (.BoolOp op [a] pos) da := pe_one h
theorem fe_and {rest : List Expr} (ha : FE X W a da) (hb : FE X W (.BoolOp .And (b :: rest) pos) db) : FE X W (.BoolOp .And (a :: b :: rest) pos) (eAnd2 da db) := by
  refine PE_imp (pe_and ha hb) fun σ H Q h => ?_
  obtain ⟨ρ, S, μ, er, sr, h⟩ := h
  refine tG_bind er sr h fun x v S1 μ1 H1 st1 sr1 r1 er1 h1 => ?_
  cases r1 with
  | bl k =>
    refine ⟨k, rfl, ?_⟩
    cases k with
    | true => exact ⟨ρ, S1, μ1, er1, sr1, h1⟩
    | false => exact h1 μ1 H1 _ .refl sr1 (.bl false)
  | _ => exact h1.elim
theorem fe_or {rest : List Expr} (ha : FE X W a da) (hb : FE X W (.BoolOp .Or (b :: rest) pos) db) : FE X W (.BoolOp .Or (a :: b :: rest) pos) (eOr2 da db) := by
  refine PE_imp (pe_or ha hb) fun σ H Q h => ?_
  obtain ⟨ρ, S, μ, er, sr, h⟩ := h
  refine tG_bind er sr h fun x v S1 μ1 H1 st1 sr1 r1 er1 h1 => ?_
  cases r1 with
  | bl k =>
    refine ⟨k, rfl, ?_⟩
    cases k with
    | false => exact ⟨ρ, S1, μ1, er1, sr1, h1⟩
    | true => exact h1 μ1 H1 _ .refl sr1 (.bl true)
  | _ => exact h1.elim
theorem fe_not (ha : FE X W a da) : FE X W (.UnaryOp .Not a pos) (eNot1 da) := by
  refine PE_imp (pe_not ha) fun σ H Q h => ?_
  obtain ⟨ρ, S, μ, er, sr, h⟩ := h
  refine tG_bind er sr h fun x v S1 μ1 H1 st1 sr1 r1 er1 h1 => ?_
  cases r1 with
  | bl k => exact ⟨k, rfl, h1 μ1 H1 _ .refl sr1 (.bl _)⟩
  | _ => exact h1.elim
/-- a built-in called by its name -/
theorem fe_callB {f : List PV → Sto → OP} {x : Str} {p : Pos} {id : String} (hc : CallR X (.builtin id) (kL X f)) (hg : Gl X x) (hm : X.mg x = none) (hv : bootBuiltins x = some (.builtin id)) (ha : FA X W (e :: es) dl) (hn : x ≠ "__name__" := by decide) (hdb : (x == ("__debug__" : Str)) = false := by decide)
    (he : starEach (e :: es) X.env = (false, eval e X.env) :: starEach es X.env := by rfl) (hpl : (backTo pos (starEach es X.env)).any (·.1) = false := by rfl) : FE X W (.Call (.Name x p) (e :: es) [] pos) (eCall f dl) := by
  refine PE_imp (pe_callB hc hg hm hv ha hn hdb he hpl) fun σ H Q h => ?_
  obtain ⟨ρ, S, μ, er, sr, h⟩ := h
  refine tG_bind er sr h fun xs vs S1 μ1 H1 st1 sr1 r1 er1 h1 => ?_
  exact ⟨xs, S1, μ1, r1, sr1, ofO_ex h1⟩
theorem fe_callTy {f : List PV → Sto → OP} {x : Str} {p : Pos} {T : String} (hc : CallR X (.type T) (kL X f)) (hg : Gl X x) (hm : X.mg x = none) (hv : bootBuiltins x = some (.type T)) (ha : FA X W (e :: es) dl) (hn : x ≠ "__name__" := by decide) (hdb : (x == ("__debug__" : Str)) = false := by decide)
    (he : starEach (e :: es) X.env = (false, eval e X.env) :: starEach es X.env := by rfl) (hpl : (backTo pos (starEach es X.env)).any (·.1) = false := by rfl) : FE X W (.Call (.Name x p) (e :: es) [] pos) (eCall f dl) := by
  refine PE_imp (pe_callTy hc hg hm hv ha hn hdb he hpl) fun σ H Q h => ?_
  obtain ⟨ρ, S, μ, er, sr, h⟩ := h
  refine tG_bind er sr h fun xs vs S1 μ1 H1 st1 sr1 r1 er1 h1 => ?_
  exact ⟨xs, S1, μ1, r1, sr1, ofO_ex h1⟩
end
end FL

/-! FLc: operations on values: arithmetic, comparisons, built-ins, items, slices. -/
namespace FL
open PySem PySem.Spec L2

/-! ### data -/
def mapO {α β : Type} (f : α → Option β) : List α → Option (List β)
  | [] => some []
  | x :: xs => match f x with
    | some y => match mapO f xs with
      | some ys => some (y :: ys)
      | none => none
    | none => none
def dataOf (S : Sto) : Nat → PV → Option PyData
  | 0, _ => none
  | _ + 1, .non => some .none
  | _ + 1, .bl b => some (.bool b)
  | _ + 1, .int i => some (.int i)
  | _ + 1, .str x => some (.str x)
  | k + 1, .tup xs => (mapO (dataOf S k) xs).map .tuple
  | k + 1, .kl xs => (mapO (dataOf S k) xs).map .list
  | k + 1, .ref n => match S[n]? with
    | some (.lst xs) => (mapO (dataOf S k) xs).map .list
    | _ => none
  | _ + 1, _ => none
abbrev dOf (S : Sto) (x : PV) : Option PyData := dataOf S 40 x
section
variable {K : PySem.W.Frag} {mg : Str → Option Value} {μ : List Addr} {S : Sto} {H : Hp}
theorem dpAll_of {f : PV → Option PyData} (ih : ∀ x v d, VR K mg μ H x v → f x = some d → Dp K H v d) : ∀ (xs : List PV) (vs : List V) (ds : List PyData), VRs K mg μ H xs vs → mapO f xs = some ds → DpAll K H vs ds
  | [], _, _, h, e => by
    cases h; cases e; exact .nil
  | x :: xs, _, ds, h, e => by
    cases h with
    | cons h1 h2 =>
      unfold mapO at e
      cases q : f x with
      | none => rw [q] at e; cases e
      | some d =>
        rw [q] at e
        cases q2 : mapO f xs with
        | none => rw [q2] at e; cases e
        | some es =>
          rw [q2] at e; cases e
          exact .cons (ih _ _ _ h1 q) (dpAll_of ih xs _ _ h2 q2)
theorem dp_of (sr : SR K mg μ S H) : ∀ (k : Nat) (x : PV) (v : V) (d : PyData), VR K mg μ H x v → dataOf S k x = some d → Dp K H v d
  | 0, _, _, _, _, e => by cases e
  | k + 1, x, v, d, h, e => by
    cases h with
    | non => cases e; exact .non
    | bl b => cases e; exact .bl b
    | int b => cases e; exact .int b
    | str b => cases e; exact .str b
    | ty n => cases e
    | glb q => cases e
    | @tup a xs vs hs ha =>
      simp only [dataOf, Option.map_eq_some_iff] at e
      obtain ⟨ds, e1, rfl⟩ := e
      exact .tup hs (dpAll_of (fun x v d => dp_of sr k x v d) _ _ _ ha e1)
    | @kl a xs vs hs ha =>
      simp only [dataOf, Option.map_eq_some_iff] at e
      obtain ⟨ds, e1, rfl⟩ := e
      exact .lst hs.sq (dpAll_of (fun x v d => dp_of sr k x v d) _ _ _ ha e1)
    | @ref n a hn =>
      simp only [dataOf] at e
      cases q : S[n]? with
      | none => rw [q] at e; cases e
      | some o =>
        rw [q] at e
        have ho := sr.at_ n a o hn q
        cases ho with
        | lst h1 h2 =>
          simp only [Option.map_eq_some_iff] at e
          obtain ⟨ds, e1, rfl⟩ := e
          exact .lst (.of h1) (dpAll_of (fun x v d => dp_of sr k x v d) _ _ _ h2 e1)
        | dicK h1 h2 => cases e
        | dicT h1 h2 => cases e
        | ins h1 h2 h3 => cases e
theorem plainAll_of {f : PV → Option PyData} {k : Nat} (ih : ∀ x d, f x = some d → d.plain = true ∧ d.depth ≤ k) : ∀ (xs : List PV) (ds : List PyData), mapO f xs = some ds → PyData.plainAll ds = true ∧ PyData.depthAll ds ≤ k
  | [], _, e => by cases e; exact ⟨rfl, by simp [PyData.depthAll]⟩
  | x :: xs, ds, e => by
    unfold mapO at e
    cases q : f x with
    | none => rw [q] at e; cases e
    | some d =>
      rw [q] at e
      cases q2 : mapO f xs with
      | none => rw [q2] at e; cases e
      | some es =>
        rw [q2] at e; cases e
        obtain ⟨a, b⟩ := ih _ _ q
        obtain ⟨c, e⟩ := plainAll_of ih xs es q2
        refine ⟨by simp [PyData.plainAll, a, c], ?_⟩
        simp only [PyData.depthAll]
        omega
theorem plain_of (S : Sto) : ∀ (k : Nat) (x : PV) (d : PyData), dataOf S k x = some d → d.plain = true ∧ d.depth ≤ k
  | 0, _, _, e => by cases e
  | k + 1, x, d, e => by
    cases x with
    | non => cases e; exact ⟨rfl, by simp [PyData.depth]⟩
    | bl b => cases e; exact ⟨rfl, by simp [PyData.depth]⟩
    | int b => cases e; exact ⟨rfl, by simp [PyData.depth]⟩
    | str b => cases e; exact ⟨rfl, by simp [PyData.depth]⟩
    | ty n => cases e
    | glb q => cases e
    | tup xs =>
      simp only [dataOf, Option.map_eq_some_iff] at e
      obtain ⟨ds, e1, rfl⟩ := e
      obtain ⟨a, b⟩ := plainAll_of (plain_of S k) _ _ e1
      exact ⟨a, by simp only [PyData.depth]; omega⟩
    | kl xs =>
      simp only [dataOf, Option.map_eq_some_iff] at e
      obtain ⟨ds, e1, rfl⟩ := e
      obtain ⟨a, b⟩ := plainAll_of (plain_of S k) _ _ e1
      exact ⟨a, by simp only [PyData.depth]; omega⟩
    | ref n =>
      simp only [dataOf] at e
      cases q : S[n]? with
      | none => rw [q] at e; cases e
      | some o =>
        rw [q] at e
        cases o with
        | lst xs =>
          simp only [Option.map_eq_some_iff] at e
          obtain ⟨ds, e1, rfl⟩ := e
          obtain ⟨a, b⟩ := plainAll_of (plain_of S k) _ _ e1
          exact ⟨a, by simp only [PyData.depth]; omega⟩
        | dic _ => cases e
        | ins _ _ => cases e
end
/-! ### the functions -/
def pAdd : PV → PV → Sto → OP
  | .int i, .int j, S => some (.int (i + j), S)
  | .str x, .str y, S => if x.length + y.length ≤ big then some (.str (x ++ y), S) else none
  | .tup xs, .tup ys, S => if xs.length + ys.length ≤ big then some (.tup (xs ++ ys), S) else none
  | .ref n, .ref m, S => match S[n]?, S[m]? with
    | some (.lst xs), some (.lst ys) => if xs.length + ys.length ≤ big then some (.ref S.length, S ++ [.lst (xs ++ ys)]) else none
    | _, _ => none
  | _, _, _ => none
def pSub : PV → PV → Sto → OP
  | .int i, .int j, S => some (.int (i - j), S)
  | _, _, _ => none
def pMul : PV → PV → Sto → OP
  | .int i, .int j, S => if i.natAbs.log2 + j.natAbs.log2 < 1000000 then some (.int (i * j), S) else none
  | .ref n, .int k, S => match S[n]? with
    | some (.lst xs) => if -1000 ≤ k ∧ k ≤ 1000 ∧ xs.length ≤ 100 then some (.ref S.length, S ++ [.lst (List.replicate k.toNat xs).flatten]) else none
    | _ => none
  | _, _, _ => none
def pMod : PV → PV → Sto → OP
  | .int i, .int j, S => if 0 < j then some (.int (i % j), S) else none
  | _, _, _ => none
def pDiv : PV → PV → Sto → OP
  | .int i, .int j, S => if 0 < j ∧ j.natAbs.log2 < 9000 then some (.int (i / j), S) else none
  | _, _, _ => none
def pPow : PV → PV → Sto → OP
  | .int i, .int j, S => if 0 ≤ j ∧ j ≤ 1000000 ∧ i.natAbs < 2 ^ 64 then some (.int (i ^ j.toNat), S) else none
  | _, _, _ => none
def pXor : PV → PV → Sto → OP
  | .int i, .int j, S => some (.int (Builtin.bitXor i j), S)
  | _, _, _ => none
def pNeg : PV → Sto → OP
  | .int i, S => some (.int (-i), S)
  | _, _ => none
def pEq : PV → PV → Sto → OP := fun x y S => match dOf S x, dOf S y with
  | some d, some e => some (.bl (PyData.eqv d e), S)
  | _, _ => none
def pNe : PV → PV → Sto → OP := fun x y S => match dOf S x, dOf S y with
  | some d, some e => some (.bl (!PyData.eqv d e), S)
  | _, _ => none
def pOrd (f : PyData → PyData → Bool) : PV → PV → Sto → OP := fun x y S => match dOf S x, dOf S y with
  | some .none, _ => none
  | some d, some e => if PySem.W.alike d e then some (.bl (f d e), S) else none
  | _, _ => none
def pLt : PV → PV → Sto → OP
  | .int i, .int j, S => some (.bl (decide (i < j)), S)
  | x, y, S => pOrd (fun d e => PySem.W.dataLt d e) x y S
def pGt : PV → PV → Sto → OP
  | .int i, .int j, S => some (.bl (decide (j < i)), S)
  | x, y, S => pOrd (fun d e => PySem.W.dataLt e d) x y S
def pLe : PV → PV → Sto → OP
  | .int i, .int j, S => some (.bl (decide (i ≤ j)), S)
  | x, y, S => pOrd (fun d e => !PySem.W.dataLt e d) x y S
def pGe : PV → PV → Sto → OP
  | .int i, .int j, S => some (.bl (decide (j ≤ i)), S)
  | x, y, S => pOrd (fun d e => !PySem.W.dataLt d e) x y S
def pIn (neg : Bool) : PV → PV → Sto → OP := fun x y S => match dOf S x, dOf S y with
  | some d, some (.tuple ds) => some (.bl (neg ^^ ds.any fun z => PyData.eqv z d), S)
  | some d, some (.list ds) => some (.bl (neg ^^ ds.any fun z => PyData.eqv z d), S)
  | _, _ => none
def pIsN : PV → PV → Sto → OP
  | .non, .non, S => some (.bl true, S)
  | _, .non, S => some (.bl false, S)
  | _, _, _ => none
def pNotN : PV → PV → Sto → OP
  | .non, .non, S => some (.bl false, S)
  | _, .non, S => some (.bl true, S)
  | _, _, _ => none
def lstOf (S : Sto) : PV → Option (List PV)
  | .tup xs => some xs
  | .kl xs => some xs
  | .ref n => match S[n]? with
    | some (.lst xs) => some xs
    | _ => none
  | _ => none
def bLen : List PV → Sto → OP
  | [.str x], S => if x.length ≤ big then some (.int x.length, S) else none
  | [x], S => match lstOf S x with
    | some xs => some (.int xs.length, S)
    | none => none
  | _, _ => none
def bInt : List PV → Sto → OP
  | [.int i], S => some (.int i, S)
  | [.bl b], S => some (.int (if b then 1 else 0), S)
  | _, _ => none
def bAbs : List PV → Sto → OP
  | [.int i], S => some (.int (if i < 0 then -i else i), S)
  | _, _ => none
def bMax2 : List PV → Sto → OP
  | [.int i, .int j], S => some (.int (if j > i then j else i), S)
  | _, _ => none
def bMin2 : List PV → Sto → OP
  | [.int i, .int j], S => some (.int (if j < i then j else i), S)
  | _, _ => none
def bDivmod : List PV → Sto → OP
  | [.int i, .int j], S => if 0 < j ∧ j < 1073741824 then some (.tup [.int (i / j), .int (i % j)], S) else none
  | _, _ => none
def boolsOf : List PV → Option (List Bool) := mapO fun x => match x with
  | .bl b => some b
  | _ => none
def bAll : List PV → Sto → OP
  | [.ref n], S => match S[n]? with
    | some (.lst xs) => match boolsOf xs with
      | some bs => some (.bl (bs.all id), S)
      | none => none
    | _ => none
  | _, _ => none
def bAny : List PV → Sto → OP
  | [.ref n], S => match S[n]? with
    | some (.lst xs) => match boolsOf xs with
      | some bs => some (.bl (bs.any id), S)
      | none => none
    | _ => none
  | _, _ => none
def bTuple : List PV → Sto → OP
  | [x], S => match lstOf S x with
    | some xs => some (.tup xs, S)
    | none => none
  | _, _ => none
def bList : List PV → Sto → OP
  | [x], S => match lstOf S x with
    | some xs => some (.ref S.length, S ++ [.lst xs])
    | none => none
  | _, _ => none
def pIx : PV → PV → Sto → OP := fun x y S => match lstOf S x, y with
  | some xs, .int i => match atI xs i with
    | some z => some (z, S)
    | none => none
  | _, _ => none

section
variable {X : Cx} {W : WX}
/-- an operation that leaves the store -/
theorem VR.inv_int {K : PySem.W.Frag} {mg : Str → Option Value} {μ : List Addr} {H : Hp} {i : Int} {v : V} (h : VR K mg μ H (.int i) v) : v = .int i := by cases h; rfl
theorem k2_or {g : Value → Value → Sem Value} {r r' : R2} (h : OpR X g r) (h' : OpR X g r') : OpR X g (fun x y H Q => r x y H Q ∨ r' x y H Q) := fun pins s σ H x y v u Q I rx ry q => q.elim (h pins s σ H x y v u Q I rx ry) (h' pins s σ H x y v u Q I rx ry)
/-- to show an operation: by the hand layer's rules for each kind of values -/
theorem k2_of {g : Value → Value → Sem Value} {f : PV → PV → Sto → OP}
    (h : ∀ (pins : List (Addr × Obj)) (s : Shared) (σ : L2.St) (H : Hp) (x y : PV) (v w : V) (vv ww : Value) (S : Sto) (μ : List Addr) (z : PV) (S' : Sto) (Q : VK), Inv X pins σ H s → RelV v vv → RelV w ww → VR X.K X.mg μ H x v → VR X.K X.mg μ H y w → SR X.K X.mg μ S H → f x y S = some (z, S') →
      okG X.K X.mg (fun μ H => VR X.K X.mg μ H) μ H Q z S' → wpAny (model X.prog X.w) X.A (g vv ww) (EP X pins σ Q) X.xe s) : OpR X g (k2 X f) := by
  intro pins s σ H v w vv ww Q I rv rw' ⟨x, y, S, μ, hx, hy, sr, h1⟩
  cases q : f x y S with
  | none => rw [q] at h1; exact h1.elim
  | some p =>
    obtain ⟨z, S'⟩ := p
    rw [q] at h1
    exact h pins s σ H x y v w vv ww S μ z S' Q I rv rw' hx hy sr q h1
theorem VRs.app {K : PySem.W.Frag} {mg : Str → Option Value} {μ : List Addr} {H : Hp} : ∀ {xs ys : List PV} {vs ws : List V}, VRs K mg μ H xs vs → VRs K mg μ H ys ws → VRs K mg μ H (xs ++ ys) (vs ++ ws)
  | [], _, _, _, h1, h2 => by cases h1; exact h2
  | _ :: _, _, _, _, h1, h2 => by
    cases h1 with
    | cons p q => exact .cons p (VRs.app q h2)
theorem VRs.rep {K : PySem.W.Frag} {mg : Str → Option Value} {μ : List Addr} {H : Hp} {xs : List PV} {vs : List V} (h : VRs K mg μ H xs vs) : ∀ n : Nat, VRs K mg μ H (List.replicate n xs).flatten (List.replicate n vs).flatten
  | 0 => .nil
  | n + 1 => by
    rw [List.replicate_succ, List.replicate_succ, List.flatten_cons, List.flatten_cons]
    exact h.app (VRs.rep h n)
theorem VRs.get {K : PySem.W.Frag} {mg : Str → Option Value} {μ : List Addr} {H : Hp} : ∀ {xs : List PV} {vs : List V}, VRs K mg μ H xs vs → ∀ {i : Nat} {x : PV}, xs[i]? = some x → ∃ v, vs[i]? = some v ∧ VR K mg μ H x v
  | [], _, _, _, _, e => by simp at e
  | x :: xs, _, h, 0, _, e => by
    cases h with
    | cons p q => simp at e; subst e; exact ⟨_, rfl, p⟩
  | x :: xs, _, h, i + 1, _, e => by
    cases h with
    | cons p q =>
      obtain ⟨v, e1, r⟩ := VRs.get q (i := i) (by simpa using e)
      exact ⟨v, by simpa using e1, r⟩
theorem VRs.set {K : PySem.W.Frag} {mg : Str → Option Value} {μ : List Addr} {H : Hp} {x : PV} {v : V} (r : VR K mg μ H x v) : ∀ {xs : List PV} {vs : List V} (i : Nat), VRs K mg μ H xs vs → VRs K mg μ H (xs.set i x) (vs.set i v)
  | [], _, _, h => by cases h; exact .nil
  | _ :: _, _, 0, h => by
    cases h with
    | cons p q => exact .cons r q
  | _ :: _, _, i + 1, h => by
    cases h with
    | cons p q => exact .cons p (VRs.set r i q)
theorem VRs.take {K : PySem.W.Frag} {mg : Str → Option Value} {μ : List Addr} {H : Hp} : ∀ {xs : List PV} {vs : List V} (n : Nat), VRs K mg μ H xs vs → VRs K mg μ H (xs.take n) (vs.take n)
  | _, _, 0, _ => by simp; exact .nil
  | [], _, _ + 1, h => by cases h; exact .nil
  | _ :: _, _, n + 1, h => by
    cases h with
    | cons p q => exact .cons p (VRs.take n q)
theorem VRs.drop {K : PySem.W.Frag} {mg : Str → Option Value} {μ : List Addr} {H : Hp} : ∀ {xs : List PV} {vs : List V} (n : Nat), VRs K mg μ H xs vs → VRs K mg μ H (xs.drop n) (vs.drop n)
  | _, _, 0, h => h
  | [], _, _ + 1, h => by cases h; exact .nil
  | _ :: _, _, n + 1, h => by
    cases h with
    | cons p q => exact VRs.drop n q
theorem o_add : OpR X (binaryOp .Add) (k2 X pAdd) := by
  refine k2_of fun pins s σ H x y v w vv ww S μ z S' Q I rv rw' hx hy sr e h => ?_
  unfold pAdd at e
  split at e
  · cases hx; cases hy; cases e
    exact op_add pins s σ H _ _ vv ww Q I rv rw' ⟨_, _, rfl, rfl, h μ H _ .refl sr (.int _)⟩
  · split at e
    · cases hx; cases hy; cases e
      exact op_add_str pins s σ H _ _ vv ww Q I rv rw' ⟨_, _, rfl, rfl, Nat.le_trans ‹_› big_le, h μ H _ .refl sr (.str _)⟩
    · cases e
  · split at e
    · cases hx with
      | tup hs1 ha1 =>
        cases hy with
        | tup hs2 ha2 =>
          cases e
          refine op_catA pins s σ H _ _ vv ww Q I rv rw' ⟨_, _, _, _, rfl, rfl, hs1, hs2, by rw [← ha1.length, ← ha2.length]; exact Nat.le_trans ‹_› big_le, fun e => ?_, fun _ e => ?_, fun _ _ p hp => ?_⟩
          · subst e; cases ha1; exact h μ H _ .refl sr (.tup hs2 ha2)
          · subst e; cases ha2; exact h μ H _ .refl sr (.tup hs1 (by rw [List.append_nil]; exact ha1))
          · exact h μ _ _ (Stp.fresh hp) (sr.fresh hp) (.tup (.of upd_same) ((VRs.mono sr (Stp.fresh hp) _ _ ha1).app (VRs.mono sr (Stp.fresh hp) _ _ ha2)))
    · cases e
  · split at e
    · rename_i e1 e2
      split at e
      · cases hx with
        | ref hn =>
          cases hy with
          | ref hm =>
            cases e
            cases sr.at_ _ _ _ hn e1 with
            | lst a1 a2 =>
              cases sr.at_ _ _ _ hm e2 with
              | lst b1 b2 =>
                refine op_cat pins s σ H _ _ vv ww Q I rv rw' ⟨_, _, _, _, rfl, rfl, a1, b1, by rw [← a2.length, ← b2.length]; exact Nat.le_trans ‹_› big_le, fun p hp => ?_⟩
                exact h (μ ++ [p]) _ _ (Stp.newObj hp) (sr.newObj hp (.lst upd_same ((VRs.mono sr (Stp.newObj hp) _ _ a2).app (VRs.mono sr (Stp.newObj hp) _ _ b2)))) (.ref (by rw [← sr.len]; simp))
      · cases e
    · cases e
  · cases e
theorem o_sub : OpR X (binaryOp .Sub) (k2 X pSub) := by
  refine k2_of fun pins s σ H x y v w vv ww S μ z S' Q I rv rw' hx hy sr e h => ?_
  unfold pSub at e
  split at e
  · cases hx; cases hy; cases e
    exact op_sub pins s σ H _ _ vv ww Q I rv rw' ⟨_, _, rfl, rfl, h μ H _ .refl sr (.int _)⟩
  · cases e
theorem o_mod : OpR X (binaryOp .Mod) (k2 X pMod) := by
  refine k2_of fun pins s σ H x y v w vv ww S μ z S' Q I rv rw' hx hy sr e h => ?_
  unfold pMod at e
  split at e
  · split at e
    · cases hx; cases hy; cases e
      exact op_mod pins s σ H _ _ vv ww Q I rv rw' ⟨_, _, rfl, rfl, ‹_›, h μ H _ .refl sr (.int _)⟩
    · cases e
  · cases e
theorem o_div : OpR X (binaryOp .FloorDiv) (k2 X pDiv) := by
  refine k2_of fun pins s σ H x y v w vv ww S μ z S' Q I rv rw' hx hy sr e h => ?_
  unfold pDiv at e
  split at e
  · split at e
    · cases hx; cases hy; cases e
      exact op_fdivW pins s σ H _ _ vv ww Q I rv rw' ⟨_, _, rfl, rfl, ‹_›, h μ H _ .refl sr (.int _)⟩
    · cases e
  · cases e
theorem o_pow : OpR X (binaryOp .Pow) (k2 X pPow) := by
  refine k2_of fun pins s σ H x y v w vv ww S μ z S' Q I rv rw' hx hy sr e h => ?_
  unfold pPow at e
  split at e
  · split at e
    · cases hx; cases hy; cases e
      exact op_pow pins s σ H _ _ vv ww Q I rv rw' ⟨_, _, rfl, rfl, ‹_›, h μ H _ .refl sr (.int _)⟩
    · cases e
  · cases e
theorem o_xor : OpR X (binaryOp .BitXor) (k2 X pXor) := by
  refine k2_of fun pins s σ H x y v w vv ww S μ z S' Q I rv rw' hx hy sr e h => ?_
  unfold pXor at e
  split at e
  · cases hx; cases hy; cases e
    exact op_xor pins s σ H _ _ vv ww Q I rv rw' ⟨_, _, rfl, rfl, h μ H _ .refl sr (.int _)⟩
  · cases e
theorem o_mul : OpR X (binaryOp .Mult) (k2 X pMul) := by
  refine k2_of fun pins s σ H x y v w vv ww S μ z S' Q I rv rw' hx hy sr e h => ?_
  unfold pMul at e
  split at e
  · split at e
    · cases hx; cases hy; cases e
      exact op_mulW pins s σ H _ _ vv ww Q I rv rw' ⟨_, _, rfl, rfl, ‹_›, h μ H _ .refl sr (.int _)⟩
    · cases e
  · split at e
    · rename_i e1
      split at e
      · rename_i hb
        cases hx with
        | ref hn =>
          cases hy
          cases e
          cases sr.at_ _ _ _ hn e1 with
          | lst a1 a2 =>
            refine op_rep pins s σ H _ _ vv ww Q I rv rw' ⟨_, _, _, rfl, rfl, a1, by omega, by omega, ?_, fun p hp => ?_⟩
            · rw [← a2.length]
              refine Nat.le_trans (Nat.mul_le_mul hb.2.2 (show _ ≤ 1000 by omega)) (by decide)
            · exact h (μ ++ [p]) _ _ (Stp.newObj hp) (sr.newObj hp (.lst upd_same (VRs.rep (VRs.mono sr (Stp.newObj hp) _ _ a2) _))) (.ref (by rw [← sr.len]; simp))
      · cases e
    · cases e
  · cases e
theorem k1_of {g : Value → Sem Value} {f : PV → Sto → OP}
    (h : ∀ (pins : List (Addr × Obj)) (s : Shared) (σ : L2.St) (H : Hp) (x : PV) (v : V) (vv : Value) (S : Sto) (μ : List Addr) (z : PV) (S' : Sto) (Q : VK), Inv X pins σ H s → RelV v vv → VR X.K X.mg μ H x v → SR X.K X.mg μ S H → f x S = some (z, S') →
      okG X.K X.mg (fun μ H => VR X.K X.mg μ H) μ H Q z S' → wpAny (model X.prog X.w) X.A (g vv) (EP X pins σ Q) X.xe s) : UnR X g (k1 X f) := by
  intro pins s σ H v vv Q I rv ⟨x, S, μ, hx, sr, h1⟩
  cases q : f x S with
  | none => rw [q] at h1; exact h1.elim
  | some p =>
    obtain ⟨z, S'⟩ := p
    rw [q] at h1
    exact h pins s σ H x v vv S μ z S' Q I rv hx sr q h1
theorem o_neg : UnR X (unaryOp .USub) (k1 X pNeg) := by
  refine k1_of fun pins s σ H x v vv S μ z S' Q I rv hx sr e h => ?_
  unfold pNeg at e
  split at e
  · cases hx; cases e
    exact un_neg pins s σ H _ vv Q I rv ⟨_, rfl, h μ H _ .refl sr (.int _)⟩
  · cases e
/-- values that read as data -/
theorem reads_of {pins : List (Addr × Obj)} {s : Shared} {σ : L2.St} {H : Hp} {x : PV} {v : V} {vv : Value} {S : Sto} {μ : List Addr} {d : PyData} (I : Inv X pins σ H s) (rv : RelV v vv) (hx : VR X.K X.mg μ H x v) (sr : SR X.K X.mg μ S H) (e : dOf S x = some d) :
    (∃ as, Reads s.heap vv d as) ∧ d.plain = true ∧ d.depth ≤ 40 := ⟨Dp.reads I d v vv (dp_of sr 40 x v d hx e) rv, plain_of S 40 x d e⟩
theorem o_eq (hu : X.A.units + 64 < cLine) : OpR X (compareOp .Eq) (k2 X pEq) := by
  refine k2_of fun pins s σ H x y v w vv ww S μ z S' Q I rv rw' hx hy sr e h => ?_
  unfold pEq at e
  split at e
  · rename_i d1 d2 e1 e2
    obtain ⟨⟨as, r1⟩, p1, q1⟩ := reads_of I rv hx sr e1
    obtain ⟨⟨bs, r2⟩, p2, q2⟩ := reads_of I rw' hy sr e2
    cases e
    exact PySem.SeqAt.eq_plain r1 r2 p1 p2 (by omega) ⟨.bl _, H, I, rfl, h μ H _ .refl sr (.bl _)⟩
  · cases e
theorem o_ne (hu : X.A.units + 64 < cLine) : OpR X (compareOp .NotEq) (k2 X pNe) := by
  refine k2_of fun pins s σ H x y v w vv ww S μ z S' Q I rv rw' hx hy sr e h => ?_
  unfold pNe at e
  split at e
  · rename_i d1 d2 e1 e2
    obtain ⟨⟨as, r1⟩, p1, q1⟩ := reads_of I rv hx sr e1
    obtain ⟨⟨bs, r2⟩, p2, q2⟩ := reads_of I rw' hy sr e2
    cases e
    exact PySem.SeqAt.ne_plain r1 r2 p1 p2 (by omega) ⟨.bl _, H, I, rfl, h μ H _ .refl sr (.bl _)⟩
  · cases e
theorem ord_of {op : CmpOp} {f : PyData → PyData → Bool} (hu : X.A.units + 64 < cLine)
    (rule : ∀ (E : Value → Shared → Prop) (s : Shared) (a b : Value) (da db : PyData) (as bs : List Addr) (Q : Value → Shared → Prop), Reads s.heap a da as → Reads s.heap b db bs → PySem.W.alike da db = true → da ≠ .none → X.A.units + min da.depth db.depth < cLine → Q (.bool (f da db)) s → wpAny (model X.prog X.w) X.A (compareOp op a b) Q E s)
    {pins : List (Addr × Obj)} {s : Shared} {σ : L2.St} {H : Hp} {x y : PV} {v w : V} {vv ww : Value} {S : Sto} {μ : List Addr} {z : PV} {S' : Sto} {Q : VK} (I : Inv X pins σ H s) (rv : RelV v vv) (rw' : RelV w ww) (hx : VR X.K X.mg μ H x v) (hy : VR X.K X.mg μ H y w) (sr : SR X.K X.mg μ S H) (e : pOrd f x y S = some (z, S'))
      (h : okG X.K X.mg (fun μ H => VR X.K X.mg μ H) μ H Q z S') : wpAny (model X.prog X.w) X.A (compareOp op vv ww) (EP X pins σ Q) X.xe s := by
  unfold pOrd at e
  split at e
  · cases e
  · rename_i d1 d2 hn e1 e2
    split at e
    · rename_i ha
      obtain ⟨⟨as, r1⟩, p1, q1⟩ := reads_of I rv hx sr e1
      obtain ⟨⟨bs, r2⟩, p2, q2⟩ := reads_of I rw' hy sr e2
      cases e
      exact rule X.xe s vv ww d1 d2 as bs _ r1 r2 ha hn (by omega) ⟨.bl _, H, I, rfl, h μ H _ .refl sr (.bl _)⟩
    · cases e
  · cases e
theorem o_lt (hu : X.A.units + 64 < cLine) : OpR X (compareOp .Lt) (k2 X pLt) := by
  refine k2_of fun pins s σ H x y v w vv ww S μ z S' Q I rv rw' hx hy sr e h => ?_
  unfold pLt at e
  split at e
  · cases hx; cases hy; cases e
    exact op_lt pins s σ H _ _ vv ww Q I rv rw' ⟨_, _, rfl, rfl, h μ H _ .refl sr (.bl _)⟩
  · exact ord_of hu (fun E s a b da db as bs Q r1 r2 ha hn hu q => PySem.W.lt_data r1 r2 ha hn hu q) I rv rw' hx hy sr e h
theorem o_gt (hu : X.A.units + 64 < cLine) : OpR X (compareOp .Gt) (k2 X pGt) := by
  refine k2_of fun pins s σ H x y v w vv ww S μ z S' Q I rv rw' hx hy sr e h => ?_
  unfold pGt at e
  split at e
  · cases hx; cases hy; cases e
    exact op_gt pins s σ H _ _ vv ww Q I rv rw' ⟨_, _, rfl, rfl, h μ H _ .refl sr (.bl _)⟩
  · exact ord_of hu (fun E s a b da db as bs Q r1 r2 ha hn hu q => PySem.W.gt_data r1 r2 ha hn hu q) I rv rw' hx hy sr e h
theorem o_le (hu : X.A.units + 64 < cLine) : OpR X (compareOp .LtE) (k2 X pLe) := by
  refine k2_of fun pins s σ H x y v w vv ww S μ z S' Q I rv rw' hx hy sr e h => ?_
  unfold pLe at e
  split at e
  · cases hx; cases hy; cases e
    exact op_le pins s σ H _ _ vv ww Q I rv rw' ⟨_, _, rfl, rfl, h μ H _ .refl sr (.bl _)⟩
  · exact ord_of hu (fun E s a b da db as bs Q r1 r2 ha hn hu q => PySem.W.le_data r1 r2 ha hn hu q) I rv rw' hx hy sr e h
theorem o_ge (hu : X.A.units + 64 < cLine) : OpR X (compareOp .GtE) (k2 X pGe) := by
  refine k2_of fun pins s σ H x y v w vv ww S μ z S' Q I rv rw' hx hy sr e h => ?_
  unfold pGe at e
  split at e
  · cases hx; cases hy; cases e
    exact op_ge pins s σ H _ _ vv ww Q I rv rw' ⟨_, _, rfl, rfl, h μ H _ .refl sr (.bl _)⟩
  · exact ord_of hu (fun E s a b da db as bs Q r1 r2 ha hn hu q => PySem.W.ge_data r1 r2 ha hn hu q) I rv rw' hx hy sr e h
theorem o_in (hu : X.A.units + 64 < cLine) : OpR X (compareOp .In) (k2 X (pIn false)) := by
  refine k2_of fun pins s σ H x y v w vv ww S μ z S' Q I rv rw' hx hy sr e h => ?_
  unfold pIn at e
  split at e
  · rename_i d1 d2 e1 e2
    obtain ⟨⟨as, r1⟩, p1, q1⟩ := reads_of I rv hx sr e1
    obtain ⟨⟨bs, r2⟩, p2, q2⟩ := reads_of I rw' hy sr e2
    cases e
    rw [Bool.false_xor] at h
    exact PySem.SeqAt.in_tuple_data r2 r1 p2 p1 (by omega) ⟨.bl _, H, I, rfl, h μ H _ .refl sr (.bl _)⟩
  · rename_i d1 d2 e1 e2
    obtain ⟨⟨as, r1⟩, p1, q1⟩ := reads_of I rv hx sr e1
    obtain ⟨⟨bs, r2⟩, p2, q2⟩ := reads_of I rw' hy sr e2
    cases e
    rw [Bool.false_xor] at h
    exact PySem.SeqAt.in_list_data r2 r1 p2 p1 (by omega) ⟨.bl _, H, I, rfl, h μ H _ .refl sr (.bl _)⟩
  · cases e
theorem o_notin (hu : X.A.units + 64 < cLine) : OpR X (compareOp .NotIn) (k2 X (pIn true)) := by
  refine k2_of fun pins s σ H x y v w vv ww S μ z S' Q I rv rw' hx hy sr e h => ?_
  unfold pIn at e
  split at e
  · rename_i d1 d2 e1 e2
    obtain ⟨⟨as, r1⟩, p1, q1⟩ := reads_of I rv hx sr e1
    obtain ⟨⟨bs, r2⟩, p2, q2⟩ := reads_of I rw' hy sr e2
    cases e
    rw [Bool.true_xor] at h
    exact PySem.SeqAt.notIn_tuple_data r2 r1 p2 p1 (by omega) ⟨.bl _, H, I, rfl, h μ H _ .refl sr (.bl _)⟩
  · rename_i d1 d2 e1 e2
    obtain ⟨⟨as, r1⟩, p1, q1⟩ := reads_of I rv hx sr e1
    obtain ⟨⟨bs, r2⟩, p2, q2⟩ := reads_of I rw' hy sr e2
    cases e
    rw [Bool.true_xor] at h
    exact PySem.SeqAt.notIn_list_data r2 r1 p2 p1 (by omega) ⟨.bl _, H, I, rfl, h μ H _ .refl sr (.bl _)⟩
  · cases e
theorem VR.non_iff {K : PySem.W.Frag} {mg : Str → Option Value} {μ : List Addr} {H : Hp} {x : PV} {v : V} (h : VR K mg μ H x v) : v = .non ↔ x = .non := by
  cases h <;> simp
theorem o_isN : OpR X (compareOp .Is) (k2 X pIsN) := by
  refine k2_of fun pins s σ H x y v w vv ww S μ z S' Q I rv rw' hx hy sr e h => ?_
  unfold pIsN at e
  split at e
  · cases hx; cases hy; cases e
    exact op_isN pins s σ H _ _ vv ww Q I rv rw' ⟨rfl, h μ H _ .refl sr (.bl _)⟩
  · rename_i hn
    cases hy; cases e
    refine op_isN pins s σ H _ _ vv ww Q I rv rw' ⟨rfl, ?_⟩
    have : decide (v = V.non) = false := decide_eq_false fun z => hn (hx.non_iff.mp z)
    rw [this]
    exact h μ H _ .refl sr (.bl _)
  · cases e
theorem o_notN : OpR X (compareOp .IsNot) (k2 X pNotN) := by
  refine k2_of fun pins s σ H x y v w vv ww S μ z S' Q I rv rw' hx hy sr e h => ?_
  unfold pNotN at e
  split at e
  · cases hx; cases hy; cases e
    exact op_notN pins s σ H _ _ vv ww Q I rv rw' ⟨rfl, h μ H _ .refl sr (.bl _)⟩
  · rename_i hn
    cases hy; cases e
    refine op_notN pins s σ H _ _ vv ww Q I rv rw' ⟨rfl, ?_⟩
    have : decide (v = V.non) = false := decide_eq_false fun z => hn (hx.non_iff.mp z)
    rw [this]
    exact h μ H _ .refl sr (.bl _)
  · cases e
/-- built-ins -/
theorem kL_of {g : Value} {f : List PV → Sto → OP}
    (h : ∀ (pins : List (Addr × Obj)) (s : Shared) (σ : L2.St) (H : Hp) (xs : List PV) (vs : List V) (us : List Value) (S : Sto) (μ : List Addr) (z : PV) (S' : Sto) (Q : VK), Inv X pins σ H s → Vals vs us → VRs X.K X.mg μ H xs vs → SR X.K X.mg μ S H → f xs S = some (z, S') →
      okG X.K X.mg (fun μ H => VR X.K X.mg μ H) μ H Q z S' → wpAny (model X.prog X.w) X.A (call g us) (EP X pins σ Q) X.xe s) : CallR X g (kL X f) := by
  intro pins s σ H vs us Q I rv ⟨xs, S, μ, hx, sr, h1⟩
  cases q : f xs S with
  | none => rw [q] at h1; exact h1.elim
  | some p =>
    obtain ⟨z, S'⟩ := p
    rw [q] at h1
    exact h pins s σ H xs vs us S μ z S' Q I rv hx sr q h1
theorem seq_of {pins : List (Addr × Obj)} {s : Shared} {σ : L2.St} {H : Hp} {S : Sto} {μ : List Addr} {x : PV} {v : V} {xs : List PV} (sr : SR X.K X.mg μ S H) (hx : VR X.K X.mg μ H x v) (e : lstOf S x = some xs) :
    ∃ p vs, v = .ref p ∧ (SqL X.K H p vs ∨ SqT X.K H p vs) ∧ VRs X.K X.mg μ H xs vs ∧ ((∃ ys, x = PV.tup ys) → SqT X.K H p vs) ∧ ((∀ ys, x ≠ PV.tup ys) → SqL X.K H p vs) := by
  unfold lstOf at e
  split at e
  · cases e
    cases hx with
    | tup hs ha => exact ⟨_, _, rfl, .inr hs, ha, fun _ => hs, fun h => absurd rfl (h _)⟩
  · cases e
    cases hx with
    | kl hs ha => exact ⟨_, _, rfl, .inl hs.sq, ha, fun ⟨_, h⟩ => (by cases h), fun _ => hs.sq⟩
  · split at e
    · rename_i e1
      cases e
      cases hx with
      | ref hn =>
        cases sr.at_ _ _ _ hn e1 with
        | lst a1 a2 => exact ⟨_, _, rfl, .inl (.of a1), a2, fun ⟨_, h⟩ => (by cases h), fun _ => .of a1⟩
    · cases e
  · cases e
theorem VRs.one {K : PySem.W.Frag} {mg : Str → Option Value} {μ : List Addr} {H : Hp} {x : PV} {vs : List V} (h : VRs K mg μ H [x] vs) : ∃ v, vs = [v] ∧ VR K mg μ H x v := by
  cases h with
  | cons p q => cases q; exact ⟨_, rfl, p⟩
theorem VRs.two {K : PySem.W.Frag} {mg : Str → Option Value} {μ : List Addr} {H : Hp} {x y : PV} {vs : List V} (h : VRs K mg μ H [x, y] vs) : ∃ v w, vs = [v, w] ∧ VR K mg μ H x v ∧ VR K mg μ H y w := by
  cases h with
  | cons p q => obtain ⟨w, rfl, r⟩ := q.one; exact ⟨_, _, rfl, p, r⟩
theorem b_len : CallR X (.builtin "len") (kL X bLen) := by
  refine kL_of fun pins s σ H xs vs us S μ z S' Q I rv hx sr e h => ?_
  unfold bLen at e
  split at e
  · split at e
    · cases e
      obtain ⟨v, rfl, hv⟩ := hx.one
      cases hv
      exact call_len_str pins s σ H _ us Q I rv ⟨_, rfl, Nat.le_trans ‹_› big_le, h μ H _ .refl sr (.int _)⟩
    · cases e
  · split at e
    · rename_i e1
      cases e
      obtain ⟨v, rfl, hv⟩ := hx.one
      obtain ⟨p, ws, rfl, hq, ha, _⟩ := seq_of (pins := pins) (s := s) (σ := σ) sr hv e1
      refine call_len_seq pins s σ H _ us Q I rv ⟨p, ws, rfl, hq, ?_⟩
      rw [← ha.length]
      exact h μ H _ .refl sr (.int _)
    · cases e
  · cases e
theorem b_int : CallR X (.type "int") (kL X bInt) := by
  refine kL_of fun pins s σ H xs vs us S μ z S' Q I rv hx sr e h => ?_
  unfold bInt at e
  split at e
  · cases e
    obtain ⟨v, rfl, hv⟩ := hx.one
    cases hv
    exact call_int1 pins s σ H _ us Q I rv (.inl ⟨_, rfl, h μ H _ .refl sr (.int _)⟩)
  · cases e
    obtain ⟨v, rfl, hv⟩ := hx.one
    cases hv
    exact call_int1 pins s σ H _ us Q I rv (.inr ⟨_, rfl, h μ H _ .refl sr (.int _)⟩)
  · cases e
theorem b_abs : CallR X (.builtin "abs") (kL X bAbs) := by
  refine kL_of fun pins s σ H xs vs us S μ z S' Q I rv hx sr e h => ?_
  unfold bAbs at e
  split at e
  · cases e
    obtain ⟨v, rfl, hv⟩ := hx.one
    cases hv
    exact call_abs pins s σ H _ us Q I rv ⟨_, rfl, h μ H _ .refl sr (.int _)⟩
  · cases e
theorem b_max2 (hc : X.calm = true) : CallR X (.builtin "max") (kL X bMax2) := by
  refine kL_of fun pins s σ H xs vs us S μ z S' Q I rv hx sr e h => ?_
  unfold bMax2 at e
  split at e
  · cases e
    obtain ⟨v, w, rfl, hv, hw⟩ := hx.two
    cases hv; cases hw
    exact call_max2 hc pins s σ H _ us Q I rv ⟨_, _, rfl, h μ H _ .refl sr (.int _)⟩
  · cases e
theorem b_min2 (hc : X.calm = true) : CallR X (.builtin "min") (kL X bMin2) := by
  refine kL_of fun pins s σ H xs vs us S μ z S' Q I rv hx sr e h => ?_
  unfold bMin2 at e
  split at e
  · cases e
    obtain ⟨v, w, rfl, hv, hw⟩ := hx.two
    cases hv; cases hw
    exact call_min2 hc pins s σ H _ us Q I rv ⟨_, _, rfl, h μ H _ .refl sr (.int _)⟩
  · cases e
theorem b_divmod : CallR X (.builtin "divmod") (kL X bDivmod) := by
  refine kL_of fun pins s σ H xs vs us S μ z S' Q I rv hx sr e h => ?_
  unfold bDivmod at e
  split at e
  · split at e
    · cases e
      obtain ⟨v, w, rfl, hv, hw⟩ := hx.two
      cases hv; cases hw
      exact call_divmod pins s σ H _ us Q I rv ⟨_, _, rfl, ‹_›, fun p hp => h μ _ _ (Stp.fresh hp) (sr.fresh hp) (.tup (.of upd_same) (.cons (.int _) (.cons (.int _) .nil)))⟩
    · cases e
  · cases e
theorem bools_of {K : PySem.W.Frag} {mg : Str → Option Value} {μ : List Addr} {H : Hp} : ∀ {xs : List PV} {vs : List V} {bs : List Bool}, VRs K mg μ H xs vs → boolsOf xs = some bs → vs = bs.map V.bl
  | [], _, _, h, e => by cases h; cases e; rfl
  | x :: xs, _, bs, h, e => by
    cases h with
    | cons h1 h2 =>
      unfold boolsOf mapO at e
      cases h1 with
      | bl b =>
        simp only at e
        split at e
        · rename_i q
          cases e
          rw [bools_of h2 q]
          rfl
        · cases e
      | _ => cases e
theorem b_all (hc : X.calm = true) : CallR X (.builtin "all") (kL X bAll) := by
  refine kL_of fun pins s σ H xs vs us S μ z S' Q I rv hx sr e h => ?_
  unfold bAll at e
  split at e
  · split at e
    · split at e
      · rename_i e1 _ _ e2
        cases e
        obtain ⟨v, rfl, hv⟩ := hx.one
        cases hv with
        | ref hn =>
          cases sr.at_ _ _ _ hn e1 with
          | lst a1 a2 =>
            have := bools_of a2 e2
            subst this
            exact cr_all hc pins s σ H _ us Q I rv ⟨_, _, rfl, .of a1, h μ H _ .refl sr (.bl _)⟩
      · cases e
    · cases e
  · cases e
theorem b_any (hc : X.calm = true) : CallR X (.builtin "any") (kL X bAny) := by
  refine kL_of fun pins s σ H xs vs us S μ z S' Q I rv hx sr e h => ?_
  unfold bAny at e
  split at e
  · split at e
    · split at e
      · rename_i e1 _ _ e2
        cases e
        obtain ⟨v, rfl, hv⟩ := hx.one
        cases hv with
        | ref hn =>
          cases sr.at_ _ _ _ hn e1 with
          | lst a1 a2 =>
            have := bools_of a2 e2
            subst this
            exact cr_any hc pins s σ H _ us Q I rv ⟨_, _, rfl, .of a1, h μ H _ .refl sr (.bl _)⟩
      · cases e
    · cases e
  · cases e
theorem b_tuple : CallR X (.type "tuple") (kL X bTuple) := by
  refine kL_of fun pins s σ H xs vs us S μ z S' Q I rv hx sr e h => ?_
  unfold bTuple at e
  split at e
  · rename_i x
    split at e
    · rename_i ys e1
      cases e
      obtain ⟨v, rfl, hv⟩ := hx.one
      obtain ⟨p, ws, rfl, hq, ha, h1, h2⟩ := seq_of (pins := pins) (s := s) (σ := σ) sr hv e1
      by_cases ht : ∃ ys, x = PV.tup ys
      · exact call_tuple_of pins s σ H _ us Q I rv ⟨p, ws, rfl, .inr ⟨h1 ht, h μ H _ .refl sr (.tup (h1 ht) ha)⟩⟩
      · exact call_tuple_of pins s σ H _ us Q I rv ⟨p, ws, rfl, .inl ⟨h2 fun ys z => ht ⟨ys, z⟩, fun l hl => h μ _ _ (Stp.fresh hl) (sr.fresh hl) (.tup (.of upd_same) (VRs.mono sr (Stp.fresh hl) _ _ ha))⟩⟩
    · cases e
  · cases e
theorem b_list : CallR X (.type "list") (kL X bList) := by
  refine kL_of fun pins s σ H xs vs us S μ z S' Q I rv hx sr e h => ?_
  unfold bList at e
  split at e
  · rename_i x
    split at e
    · rename_i ys e1
      cases e
      obtain ⟨v, rfl, hv⟩ := hx.one
      obtain ⟨p, ws, rfl, hq, ha, h1, h2⟩ := seq_of (pins := pins) (s := s) (σ := σ) sr hv e1
      exact call_list_of pins s σ H _ us Q I rv ⟨p, ws, rfl, hq, fun l hl => h (μ ++ [l]) _ _ (Stp.newObj hl) (sr.newObj hl (.lst upd_same (VRs.mono sr (Stp.newObj hl) _ _ ha))) (.ref (by rw [← sr.len]; simp))⟩
    · cases e
  · cases e
/-- an item -/
theorem atI_len {α β : Type} {xs : List α} {ys : List β} (hl : xs.length = ys.length) {i : Int} {x : α} (e : atI xs i = some x) : ∃ j : Nat, ixN ys.length i = some j ∧ xs[j]? = some x := by
  unfold atI at e
  rw [hl] at e
  cases q : ixN ys.length i with
  | none => rw [q] at e; cases e
  | some j => rw [q] at e; exact ⟨j, rfl, e⟩
theorem x_seq : IxR X (k2 X pIx) := by
  intro a b pins s σ H v w vv ww Q I rv rw' ⟨x, y, S, μ, hx, hy, sr, h1⟩ hp
  unfold pIx at h1
  split at h1
  · rename_i xs i e1
    split at h1
    · rename_i z e2
      obtain ⟨p, ws, rfl, hq, ha, h3, h4⟩ := seq_of (pins := pins) (s := s) (σ := σ) sr hx e1
      cases hy
      obtain ⟨j, e3, e4⟩ := atI_len ha.length e2
      obtain ⟨u, e5, r5⟩ := ha.get e4
      have e6 : atI ws i = some u := by unfold atI; rw [e3]; exact e5
      have hQ : Q u H := h1 μ H _ .refl sr r5
      rcases hq with hq | hq
      · exact ix_list a b pins s σ H _ _ vv ww Q I rv rw' ⟨p, ws, i, u, rfl, rfl, hq, e6, hQ⟩ hp
      · exact ix_tup a b pins s σ H _ _ vv ww Q I rv rw' ⟨p, ws, i, u, rfl, rfl, hq, e6, hQ⟩ hp
    · exact h1.elim
  · exact h1.elim
end
end FL

/-! FLd: statements, targets, loops. -/
namespace FL
open PySem PySem.Spec L2
inductive Fl where
  | nx | rt (v : PV) | bk | ct
inductive SRes where
  | ok (f : Fl) (ρ : En) (S : Sto)
  | exc (C : Str) (fs : List (Str × PV)) (ρ : En) (S : Sto)
  | stk
def SOut (r : SRes) (k : Fl → En → Sto → Prop) (e : Str → List (Str × PV) → En → Sto → Prop) : Prop := match r with
  | .ok f ρ S => k f ρ S
  | .exc C fs ρ S => e C fs ρ S
  | .stk => False
theorem SOut.mono {r : SRes} {k k' : Fl → En → Sto → Prop} {e e' : Str → List (Str × PV) → En → Sto → Prop} (h : SOut r k e) (hk : ∀ f ρ S, k f ρ S → k' f ρ S) (he : ∀ C fs ρ S, e C fs ρ S → e' C fs ρ S) : SOut r k' e' := by
  cases r with
  | ok f ρ S => exact hk _ _ _ h
  | exc C fs ρ S => exact he _ _ _ _ h
  | stk => exact h
/-- the context's own facts -/
structure CxF (X : Cx) (W : WX) (k : Nat) : Prop where
  tk : Takes X W
  po : PassesOwn (model X.prog X.w) X.A X.env X.xe
  calm : X.calm = true
  hs : X.stack = X.env :: X.outer
  hf : X.env.frame = some X.env.locals
  room : Room k X.A
  nd : X.N.Nodup
theorem CxF.hu {X : Cx} {W : WX} {k : Nat} (F : CxF X W k) : X.A.units + 64 < cLine := F.room.units

section
variable (K : PySem.W.Frag) (mg : Str → Option Value)
def flK (D : Ends) (μ : List Addr) (H : Hp) (f : Fl) (σ : L2.St) : Prop := match f with
  | .nx => D.nx σ H
  | .rt v => ∀ v', VR K mg μ H v v' → D.rt v' H
  | .bk => D.bk σ H
  | .ct => D.ct σ H
def okS (D : Ends) (μ : List Addr) (H : Hp) : Fl → En → Sto → Prop := fun f ρ' S' =>
  ∀ (μ' : List Addr) (H' : Hp) (σ' : L2.St), Stp μ H μ' H' → ER K mg μ' H' ρ' σ' → SR K mg μ' S' H' → flK K mg D μ' H' f σ'
def exS (W : WX) (μ : List Addr) (H : Hp) : Str → List (Str × PV) → En → Sto → Prop := fun C fs ρ' S' =>
  ∀ (μ' : List Addr) (H' : Hp) (σ' : L2.St) (c : Value) (d : Option Addr), Stp μ H μ' H' → ER K mg μ' H' ρ' σ' → SR K mg μ' S' H' → XR K mg μ' H' C fs c d → W c d σ' H'
def tS (W : WX) (d : En → Sto → SRes) : TS := fun D σ H => ∃ (ρ : En) (S : Sto) (μ : List Addr), ER K mg μ H ρ σ ∧ SR K mg μ S H ∧ SOut (d ρ S) (okS K mg D μ H) (exS K mg W μ H)
def tGt (d : PV → En → Sto → Option (En × Sto)) : TG := fun v σ H Q => ∃ (x : PV) (ρ : En) (S : Sto) (μ : List Addr), VR K mg μ H x v ∧ ER K mg μ H ρ σ ∧ SR K mg μ S H ∧
  match d x ρ S with
  | some (ρ', S') => ∀ (μ' : List Addr) (H' : Hp) (σ' : L2.St), Stp μ H μ' H' → ER K mg μ' H' ρ' σ' → SR K mg μ' S' H' → Q σ' H'
  | none => False
def tGts (d : List PV → En → Sto → Option (En × Sto)) : TGs := fun vs σ H Q => ∃ (xs : List PV) (ρ : En) (S : Sto) (μ : List Addr), VRs K mg μ H xs vs ∧ ER K mg μ H ρ σ ∧ SR K mg μ S H ∧
  match d xs ρ S with
  | some (ρ', S') => ∀ (μ' : List Addr) (H' : Hp) (σ' : L2.St), Stp μ H μ' H' → ER K mg μ' H' ρ' σ' → SR K mg μ' S' H' → Q σ' H'
  | none => False
end
section
variable {K : PySem.W.Frag} {mg : Str → Option Value} {W : WX}
theorem okS.step {D : Ends} {μ μ1 : List Addr} {H H1 : Hp} {f : Fl} {ρ : En} {S : Sto} (h : okS K mg D μ H f ρ S) (st : Stp μ H μ1 H1) : okS K mg D μ1 H1 f ρ S :=
  fun μ' H' σ' s2 er sr => h μ' H' σ' (st.trans s2) er sr
theorem exS.step {μ μ1 : List Addr} {H H1 : Hp} {C : Str} {fs : List (Str × PV)} {ρ : En} {S : Sto} (h : exS K mg W μ H C fs ρ S) (st : Stp μ H μ1 H1) : exS K mg W μ1 H1 C fs ρ S :=
  fun μ' H' σ' c d s2 er sr r => h μ' H' σ' c d (st.trans s2) er sr r
end
theorem _root_.PySem.PS_imp {X : Cx} {e : Stmt} {t t' : TS} (h : PS X e t) (k : ∀ D σ H, t' D σ H → t D σ H) : PS X e t' := ⟨fun pins s σ H D I q => h.run pins s σ H D I (k D σ H q)⟩
theorem _root_.PySem.PSs_imp {X : Cx} {e : List Stmt} {t t' : TS} (h : PSs X e t) (k : ∀ D σ H, t' D σ H → t D σ H) : PSs X e t' := ⟨fun pins s σ H D I q => h.run pins s σ H D I (k D σ H q)⟩
theorem _root_.PySem.PG_imp {X : Cx} {e : Expr} {t t' : TG} (h : PG X e t) (k : ∀ v σ H Q, t' v σ H Q → t v σ H Q) : PG X e t' := ⟨fun pins s σ H v u Q I r q => h.run pins s σ H v u Q I r (k v σ H Q q)⟩
theorem _root_.PySem.PGs_imp {X : Cx} {e : List Expr} {t t' : TGs} (h : PGs X e t) (k : ∀ v σ H Q, t' v σ H Q → t v σ H Q) : PGs X e t' := ⟨fun pins s σ H v u Q I r q => h.run pins s σ H v u Q I r (k v σ H Q q)⟩

/-! ### the functions -/
def liftE {α : Type} (r : Res α) (ρ : En) (f : α → Sto → SRes) : SRes := match r with
  | .ok a S => f a S
  | .exc C fs S => .exc C fs ρ S
  | .stk => .stk
def sNop : En → Sto → SRes := fun ρ S => .ok .nx ρ S
def sBrk : En → Sto → SRes := fun ρ S => .ok .bk ρ S
def sCnt : En → Sto → SRes := fun ρ S => .ok .ct ρ S
def sSeq (a b : En → Sto → SRes) : En → Sto → SRes := fun ρ S => match a ρ S with
  | .ok .nx ρ1 S1 => b ρ1 S1
  | r => r
def sExp (da : En → Sto → Res PV) : En → Sto → SRes := fun ρ S => liftE (da ρ S) ρ fun _ S1 => .ok .nx ρ S1
def sRet (da : En → Sto → Res PV) : En → Sto → SRes := fun ρ S => liftE (da ρ S) ρ fun v S1 => .ok (.rt v) ρ S1
def sRetN : En → Sto → SRes := fun ρ S => .ok (.rt .non) ρ S
def sIf (dt : En → Sto → Res Bool) (a b : En → Sto → SRes) : En → Sto → SRes := fun ρ S => liftE (dt ρ S) ρ fun c S1 => if c then a ρ S1 else b ρ S1
abbrev Tgt := PV → En → Sto → Option (En × Sto)
def gNm (i : Nat) : Tgt := fun v ρ S => if i < ρ.length then some (ρ.set i (some v), S) else none
def gNil1 : List PV → En → Sto → Option (En × Sto) := fun xs ρ S => match xs with
  | [] => some (ρ, S)
  | _ => none
def gCons1 (t : Tgt) (u : List PV → En → Sto → Option (En × Sto)) : List PV → En → Sto → Option (En × Sto) := fun xs ρ S => match xs with
  | x :: r => match t x ρ S with
    | some (ρ1, S1) => u r ρ1 S1
    | none => none
  | [] => none
def gTp (n : Nat) (t : List PV → En → Sto → Option (En × Sto)) : Tgt := fun v ρ S => match v with
  | .tup xs => if xs.length = n then t xs ρ S else none
  | _ => none
/-- o[i] = v, a list -/
def setIx (o i v : PV) (S : Sto) : Option Sto := match o, i with
  | .ref n, .int k => match S[n]? with
    | some (.lst xs) => match ixN xs.length k with
      | some j => some (S.set n (.lst (xs.set j v)))
      | none => none
    | _ => none
  | _, _ => none
def gSb (st : PV → PV → PV → Sto → Option Sto) (to ti : En → Sto → Res PV) : Tgt := fun v ρ S => match to ρ S with
  | .ok o S1 => match ti ρ S1 with
    | .ok i S2 => match st o i v S2 with
      | some S3 => some (ρ, S3)
      | none => none
    | _ => none
  | _ => none
def sAsg (da : En → Sto → Res PV) (t : Tgt) : En → Sto → SRes := fun ρ S => liftE (da ρ S) ρ fun v S1 => match t v ρ S1 with
  | some (ρ1, S2) => .ok .nx ρ1 S2
  | none => .stk
def sAug (i : Nat) (f : PV → PV → Sto → OP) (da : En → Sto → Res PV) : En → Sto → SRes := fun ρ S => match ρ[i]? with
  | some (some x) => liftE (da ρ S) ρ fun y S1 => match f x y S1 with
    | some (z, S2) => .ok .nx (ρ.set i (some z)) S2
    | none => .stk
  | _ => .stk
inductive Wlk where
  | fix (xs : List PV) | live (n : Nat)
def itAt (it : Wlk) (S : Sto) (i : Nat) : Option (Option PV) := match it with
  | .fix xs => some xs[i]?
  | .live n => match S[n]? with
    | some (.lst xs) => some xs[i]?
    | _ => none
def itFuel (it : Wlk) (S : Sto) : Nat := match it with
  | .fix xs => xs.length + 1
  | .live n => match S[n]? with
    | some (.lst xs) => xs.length + 1
    | _ => 0
def forGo (it : Wlk) (tg : Tgt) (body : En → Sto → SRes) : Nat → Nat → En → Sto → SRes
  | 0, _, _, _ => .stk
  | k + 1, i, ρ, S => match itAt it S i with
    | none => .stk
    | some none => .ok .nx ρ S
    | some (some x) => match tg x ρ S with
      | none => .stk
      | some (ρ1, S1) => match body ρ1 S1 with
        | .ok .nx ρ2 S2 => forGo it tg body k (i + 1) ρ2 S2
        | .ok .ct ρ2 S2 => forGo it tg body k (i + 1) ρ2 S2
        | .ok .bk ρ2 S2 => .ok .nx ρ2 S2
        | .ok (.rt v) ρ2 S2 => .ok (.rt v) ρ2 S2
        | .exc C fs ρ2 S2 => .exc C fs ρ2 S2
        | .stk => .stk
def sFor (di : En → Sto → Res Wlk) (tg : Tgt) (body : En → Sto → SRes) : En → Sto → SRes := fun ρ S => liftE (di ρ S) ρ fun it S1 => forGo it tg body (itFuel it S1) 0 ρ S1
def whGo (c : En → Sto → Res Bool) (body : En → Sto → SRes) : Nat → En → Sto → SRes
  | 0, _, _ => .stk
  | k + 1, ρ, S => match c ρ S with
    | .ok true S1 => match body ρ S1 with
      | .ok .nx ρ2 S2 => whGo c body k ρ2 S2
      | .ok .ct ρ2 S2 => whGo c body k ρ2 S2
      | .ok .bk ρ2 S2 => .ok .nx ρ2 S2
      | .ok (.rt v) ρ2 S2 => .ok (.rt v) ρ2 S2
      | .exc C fs ρ2 S2 => .exc C fs ρ2 S2
      | .stk => .stk
    | .ok false S1 => .ok .nx ρ S1
    | .exc C fs S1 => .exc C fs ρ S1
    | .stk => .stk
def sWh (fuel : Nat) (c : En → Sto → Res Bool) (body : En → Sto → SRes) : En → Sto → SRes := fun ρ S => whGo c body fuel ρ S
/-- what is walked -/
def iSeq (da : En → Sto → Res PV) : En → Sto → Res Wlk := fun ρ S => (da ρ S).bind fun x S1 => match x with
  | .tup xs => .ok (.fix xs) S1
  | .kl xs => .ok (.fix xs) S1
  | .ref n => match S1[n]? with
    | some (.lst _) => .ok (.live n) S1
    | _ => .stk
  | _ => .stk
def rangeL (lo : Int) (n : Nat) : List PV := (List.range n).map fun i => PV.int (lo + (i : Nat))
def iRg1 (da : En → Sto → Res (List PV)) : En → Sto → Res Wlk := fun ρ S => (da ρ S).bind fun xs S1 => match xs with
  | [.int j] => if -(2 ^ 62) ≤ j ∧ j < 2 ^ 62 then .ok (.fix (rangeL 0 j.toNat)) S1 else .stk
  | _ => .stk
def iRg2 (da : En → Sto → Res (List PV)) : En → Sto → Res Wlk := fun ρ S => (da ρ S).bind fun xs S1 => match xs with
  | [.int i, .int j] => if -(2 ^ 62) ≤ i ∧ i < 2 ^ 62 ∧ -(2 ^ 62) ≤ j ∧ j < 2 ^ 62 then .ok (.fix (rangeL i (j - i).toNat)) S1 else .stk
  | _ => .stk

/-! ### the rules -/
abbrev FS (X : Cx) (W : WX) (s : Stmt) (d : En → Sto → SRes) : Prop := PS X s (tS X.K X.mg W d)
abbrev FSs (X : Cx) (W : WX) (s : List Stmt) (d : En → Sto → SRes) : Prop := PSs X s (tS X.K X.mg W d)
abbrev FG (X : Cx) (e : Expr) (d : Tgt) : Prop := PG X e (tGt X.K X.mg d)
abbrev FGs (X : Cx) (es : List Expr) (d : List PV → En → Sto → Option (En × Sto)) : Prop := PGs X es (tGts X.K X.mg d)
section
variable {X : Cx} {W : WX} {e a b c : Expr} {es : List Expr} {pos : Pos} {da db : En → Sto → Res PV} {dl : En → Sto → Res (List PV)} {dt : En → Sto → Res Bool} {st : Stmt} {sts : List Stmt} {d1 d2 : En → Sto → SRes} {g : Tgt} {k : Nat}
/-- an expression first, then the rest of the statement -/
theorem tS_bind {α β : Type} {R : List Addr → Hp → α → β → Prop} {d : En → Sto → Res α} {f : α → Sto → SRes} {ρ : En} {S : Sto} {μ : List Addr} {σ : L2.St} {H : Hp} {D : Ends} {Q1 : β → Hp → Prop}
    (er : ER X.K X.mg μ H ρ σ) (sr : SR X.K X.mg μ S H) (h : SOut (liftE (d ρ S) ρ f) (okS X.K X.mg D μ H) (exS X.K X.mg W μ H))
    (k : ∀ (a : α) (b : β) (S1 : Sto) (μ1 : List Addr) (H1 : Hp), Stp μ H μ1 H1 → SR X.K X.mg μ1 S1 H1 → R μ1 H1 a b → ER X.K X.mg μ1 H1 ρ σ → SOut (f a S1) (okS X.K X.mg D μ1 H1) (exS X.K X.mg W μ1 H1) → Q1 b H1) : tG X.K X.mg R W d σ H Q1 := by
  refine ⟨ρ, S, μ, er, sr, ?_⟩
  unfold liftE at h
  cases q : d ρ S with
  | ok a S1 =>
    rw [q] at h
    intro μ1 H1 b st sr1 r
    exact k a b S1 μ1 H1 st sr1 r (er.mono sr st) (h.mono (fun _ _ _ q => q.step st) fun _ _ _ _ q => q.step st)
  | exc C fs S1 =>
    rw [q] at h
    intro μ1 H1 c d st sr1 r
    exact h μ1 H1 σ c d st (er.mono sr st) sr1 r
  | stk => rw [q] at h; exact h
theorem fs_nil : FSs X W [] sNop := by
  refine PSs_imp pss_nil fun D σ H h => ?_
  obtain ⟨ρ, S, μ, er, sr, h⟩ := h
  exact h μ H σ .refl er sr
theorem fs_cons (h1 : FS X W st d1) (h2 : FSs X W sts d2) : FSs X W (st :: sts) (sSeq d1 d2) := by
  refine PSs_imp (pss_cons h1 h2) fun D σ H h => ?_
  obtain ⟨ρ, S, μ, er, sr, h⟩ := h
  refine ⟨ρ, S, μ, er, sr, ?_⟩
  unfold sSeq at h
  cases q : d1 ρ S with
  | stk => rw [q] at h; exact h
  | exc C fs ρ1 S1 => rw [q] at h; exact h
  | ok f ρ1 S1 =>
    rw [q] at h
    cases f with
    | nx =>
      intro μ1 H1 σ1 st1 er1 sr1
      exact ⟨ρ1, S1, μ1, er1, sr1, h.mono (fun _ _ _ q => q.step st1) fun _ _ _ _ q => q.step st1⟩
    | rt v => exact fun μ1 H1 σ1 st1 er1 sr1 => h μ1 H1 σ1 st1 er1 sr1
    | bk => exact fun μ1 H1 σ1 st1 er1 sr1 => h μ1 H1 σ1 st1 er1 sr1
    | ct => exact fun μ1 H1 σ1 st1 er1 sr1 => h μ1 H1 σ1 st1 er1 sr1
theorem fs_one (h1 : FS X W st d1) : FSs X W [st] d1 := pss_one h1
theorem fs_pass : FS X W (.Pass pos) sNop := by
  refine PS_imp ps_pass fun D σ H h => ?_
  obtain ⟨ρ, S, μ, er, sr, h⟩ := h
  exact h μ H σ .refl er sr
theorem fs_brk : FS X W (.Break pos) sBrk := by
  refine PS_imp ps_break fun D σ H h => ?_
  obtain ⟨ρ, S, μ, er, sr, h⟩ := h
  exact h μ H σ .refl er sr
theorem fs_cnt : FS X W (.Continue pos) sCnt := by
  refine PS_imp ps_continue fun D σ H h => ?_
  obtain ⟨ρ, S, μ, er, sr, h⟩ := h
  exact h μ H σ .refl er sr
theorem fs_exp (he : FE X W e da) (hs : swapsWith e none pos.line X.env = pure false := by rfl) : FS X W (.Expr e pos) (sExp da) := by
  refine PS_imp (ps_expr he hs) fun D σ H h => ?_
  obtain ⟨ρ, S, μ, er, sr, h⟩ := h
  exact tS_bind er sr h fun x v S1 μ1 H1 st1 sr1 r1 er1 h1 => h1 μ1 H1 σ .refl er1 sr1
theorem fs_ret (he : FE X W e da) : FS X W (.Return (some e) pos) (sRet da) := by
  refine PS_imp (ps_ret he) fun D σ H h => ?_
  obtain ⟨ρ, S, μ, er, sr, h⟩ := h
  exact tS_bind er sr h fun x v S1 μ1 H1 st1 sr1 r1 er1 h1 => h1 μ1 H1 σ .refl er1 sr1 v r1
theorem fs_retN : FS X W (.Return none pos) sRetN := by
  refine PS_imp ps_retN fun D σ H h => ?_
  obtain ⟨ρ, S, μ, er, sr, h⟩ := h
  exact h μ H σ .refl er sr _ .non
theorem fs_if {s1 s2 : List Stmt} (hc : FT X W c dt) (h1 : FSs X W s1 d1) (h2 : FSs X W s2 d2) : FS X W (.If c s1 s2 pos) (sIf dt d1 d2) := by
  refine PS_imp (ps_if hc h1 h2) fun D σ H h => ?_
  obtain ⟨ρ, S, μ, er, sr, h⟩ := h
  refine tS_bind er sr h fun x v S1 μ1 H1 st1 sr1 r1 er1 h1 => ?_
  obtain rfl : x = v := r1
  cases x with
  | true => exact ⟨ρ, S1, μ1, er1, sr1, h1⟩
  | false => exact ⟨ρ, S1, μ1, er1, sr1, h1⟩
theorem ER.set {K : PySem.W.Frag} {mg : Str → Option Value} {μ : List Addr} {H : Hp} {ρ : En} {σ : L2.St} {i : Nat} {x : PV} {v : V} (er : ER K mg μ H ρ σ) (hi : i < ρ.length) (r : VR K mg μ H x v) : ER K mg μ H (ρ.set i (some x)) (σ.set i (some v)) := by
  refine ⟨by simp [er.1], fun j y e => ?_⟩
  by_cases hj : j = i
  · subst hj
    rw [List.getElem?_set_self hi] at e
    cases e
    exact ⟨v, List.getElem?_set_self (by rw [← er.1]; exact hi), r⟩
  · rw [List.getElem?_set_ne (Ne.symm hj)] at e
    obtain ⟨w, e1, r1⟩ := er.2 j y e
    exact ⟨w, by rw [List.getElem?_set_ne (Ne.symm hj)]; exact e1, r1⟩
/-! targets -/
theorem fg_name {i : Nat} {x : Str} (hN : X.N.Nodup) (hi : X.N[i]? = some x) (hx : Loc X.env.scope x) (hf : X.fn x = true ∨ X.env.scope.names.lookup x = some .local := by first | exact .inl rfl | exact .inr rfl | assumption) : FG X (.Name x pos) (gNm i) := by
  refine PG_imp (pg_name hN hi hx hf) fun v σ H Q h => ?_
  obtain ⟨x, ρ, S, μ, r, er, sr, h⟩ := h
  unfold gNm at h
  by_cases hl : i < ρ.length
  · rw [if_pos hl] at h
    exact h μ H _ .refl (er.set hl r) sr
  · rw [if_neg hl] at h; exact h.elim
theorem fg_nil : FGs X [] gNil1 := by
  refine PGs_imp pgs_nil fun vs σ H Q h => ?_
  obtain ⟨xs, ρ, S, μ, r, er, sr, h⟩ := h
  unfold gNil1 at h
  cases r with
  | nil => exact ⟨rfl, h μ H σ .refl er sr⟩
  | cons _ _ => exact h.elim
theorem fg_cons {u : List PV → En → Sto → Option (En × Sto)} (h1 : FG X e g) (h2 : FGs X es u)
    (hs : (assignEach (e :: es) X.env).map (·.2) = assign e X.env :: (assignEach es X.env).map (·.2) := by rfl) : FGs X (e :: es) (gCons1 g u) := by
  refine PGs_imp (pgs_cons h1 h2 hs) fun vs σ H Q h => ?_
  obtain ⟨xs, ρ, S, μ, r, er, sr, h⟩ := h
  unfold gCons1 at h
  cases r with
  | nil => exact h.elim
  | @cons x xs v vs r1 r2 =>
    refine ⟨v, vs, rfl, x, ρ, S, μ, r1, er, sr, ?_⟩
    simp only at h
    cases q : g x ρ S with
    | none => rw [q] at h; exact h.elim
    | some p =>
      obtain ⟨ρ1, S1⟩ := p
      rw [q] at h
      intro μ1 H1 σ1 st1 er1 sr1
      refine ⟨xs, ρ1, S1, μ1, VRs.mono sr st1 _ _ r2, er1, sr1, ?_⟩
      simp only at h
      cases q2 : u xs ρ1 S1 with
      | none => rw [q2] at h; exact h.elim
      | some p =>
        rw [q2] at h
        exact fun μ2 H2 σ2 st2 er2 sr2 => h μ2 H2 σ2 (st1.trans st2) er2 sr2
theorem fg_tup {x1 : Nat} {u : List PV → En → Sto → Option (En × Sto)} {n : Nat} (hc : X.calm = true) (h : FGs X es u) (hn : (assignEach es X.env).length = n := by rfl) (hst : (assignEach es X.env).findIdx? (·.1) = none := by rfl) : FG X (.Tuple es x1 pos) (gTp n u) := by
  refine PG_imp (pg_tup hc h hn hst) fun v σ H Q h => ?_
  obtain ⟨x, ρ, S, μ, r, er, sr, h⟩ := h
  unfold gTp at h
  cases r with
  | @tup a xs vs hs ha =>
    simp only at h
    by_cases hl : xs.length = n
    · rw [if_pos hl] at h
      exact ⟨_, _, rfl, hs, by rw [← ha.length]; exact hl, xs, ρ, S, μ, ha, er, sr, h⟩
    · rw [if_neg hl] at h; exact h.elim
  | _ => exact h.elim
/-- a store o[i] = v by values -/
def SetOk (X : Cx) (st : PV → PV → PV → Sto → Option Sto) : Prop := PSet X fun o i v H Q => ∃ (xo xi xv : PV) (S : Sto) (μ : List Addr), VR X.K X.mg μ H xo o ∧ VR X.K X.mg μ H xi i ∧ VR X.K X.mg μ H xv v ∧ SR X.K X.mg μ S H ∧
  match st xo xi xv S with
  | some S' => ∀ (μ' : List Addr) (H' : Hp), Stp μ H μ' H' → SR X.K X.mg μ' S' H' → Q H'
  | none => False
theorem set_ix : SetOk X setIx := by
  intro pins s σ H o i v ov iv u Q I ro ri rv ⟨xo, xi, xv, S, μ, hxo, hxi, hxv, sr, h⟩
  unfold setIx at h
  split at h
  · rename_i S' e
    split at e
    · split at e
      · rename_i e1
        split at e
        · rename_i j e2
          cases e
          cases hxi
          cases hxo with
          | ref hn =>
            cases sr.at_ _ _ _ hn e1 with
            | @lst _ _ vs a1 a2 =>
              refine set_list pins s σ H _ _ v ov iv u Q I ro ri rv ⟨_, vs, _, j, rfl, rfl, a1, by rw [← a2.length]; exact e2, ?_⟩
              exact h μ _ (Stp.put hn) (sr.put hn (.lst upd_same (VRs.set (VR.mono sr (Stp.put hn) _ _ hxv) j (VRs.mono sr (Stp.put hn) _ _ a2))))
        · cases e
      · cases e
    · cases e
  · exact h.elim
theorem fg_sub {o i : Expr} {to ti : En → Sto → Res PV} {t : PV → PV → PV → Sto → Option Sto} (ho : FE X (fun _ _ _ _ => False) o to) (hi : FE X (fun _ _ _ _ => False) i ti) (hs : SetOk X t)
    (ha : ∀ v, assign (.Subscript o i pos) X.env v = (do
      let ov ← holding [v] (eval o X.env)
      let iv ← holding [v, ov] (eval i X.env)
      standAt pos
      holding [v, ov, iv] (setItem ov iv v)
      release [v, ov, iv] []) := by intro _; rfl) : FG X (.Subscript o i pos) (gSb t to ti) := by
  refine PG_imp (pg_sub ho hi hs ha) fun v σ H Q h => ?_
  obtain ⟨x, ρ, S, μ, r, er, sr, h⟩ := h
  unfold gSb at h
  refine ⟨ρ, S, μ, er, sr, ?_⟩
  cases q : to ρ S with
  | stk => rw [q] at h; exact h
  | exc C fs S1 => rw [q] at h; exact h.elim
  | ok xo S1 =>
    rw [q] at h
    intro μ1 H1 vo st1 sr1 r1
    refine ⟨ρ, S1, μ1, er.mono sr st1, sr1, ?_⟩
    simp only at h
    cases q2 : ti ρ S1 with
    | stk => rw [q2] at h; exact h
    | exc C fs S1 => rw [q2] at h; exact h.elim
    | ok xi S2 =>
      rw [q2] at h
      intro μ2 H2 vi st2 sr2 r2
      refine ⟨xo, xi, x, S2, μ2, VR.mono sr1 st2 _ _ r1, r2, VR.mono sr (st1.trans st2) _ _ r, sr2, ?_⟩
      simp only at h
      cases q3 : t xo xi x S2 with
      | none => rw [q3] at h; exact h
      | some S3 =>
        rw [q3] at h
        exact fun μ3 H3 st3 sr3 => h μ3 H3 σ ((st1.trans st2).trans st3) (er.mono sr ((st1.trans st2).trans st3)) sr3
theorem fs_asg {tg : Expr} (he : FE X W e da) (hg : FG X tg g) (hs : swapsWithSole [tg] e pos.line X.env = pure false := by rfl) (hw : swappedStores [tg] e X.env = pure none := by rfl)
    (h1 : (assignEach [tg] X.env).map (·.2) = [assign tg X.env] := by rfl) : FS X W (.Assign [tg] e pos) (sAsg da g) := by
  refine PS_imp (ps_asg he hg hs hw h1) fun D σ H h => ?_
  obtain ⟨ρ, S, μ, er, sr, h⟩ := h
  refine tS_bind er sr h fun x v S1 μ1 H1 st1 sr1 r1 er1 h1 => ?_
  refine ⟨x, ρ, S1, μ1, r1, er1, sr1, ?_⟩
  cases q : g x ρ S1 with
  | none => rw [q] at h1; exact h1
  | some p =>
    obtain ⟨ρ2, S2⟩ := p
    rw [q] at h1
    exact fun μ2 H2 σ2 st2 er2 sr2 => h1 μ2 H2 σ2 st2 er2 sr2
theorem fs_set {i : Nat} {x : Str} {pos' : Pos} (hN : X.N.Nodup) (hi : X.N[i]? = some x) (hx : Loc X.env.scope x) (he : FE X W e da) (hs : swapsWith e (some (.Name x pos')) pos.line X.env = pure false := by rfl) (hf : X.fn x = true ∨ X.env.scope.names.lookup x = some .local := by first | exact .inl rfl | exact .inr rfl | assumption) :
    FS X W (.Assign [.Name x pos'] e pos) (sAsg da (gNm i)) := by
  refine PS_imp (ps_set hN hi hx he hs hf) fun D σ H h => ?_
  obtain ⟨ρ, S, μ, er, sr, h⟩ := h
  refine tS_bind er sr h fun x v S1 μ1 H1 st1 sr1 r1 er1 h1 => ?_
  unfold gNm at h1
  by_cases hl : i < ρ.length
  · rw [if_pos hl] at h1
    exact h1 μ1 H1 _ .refl (er1.set hl r1) sr1
  · rw [if_neg hl] at h1; exact h1.elim
theorem fs_aug {i : Nat} {x : Str} {op : Operator} {f : PV → PV → Sto → OP} {pos' : Pos} (hN : X.N.Nodup) (hi : X.N[i]? = some x) (hx : Loc X.env.scope x) (he : FE X W e da) (ho : OpR X (inplaceOp op) (k2 X f)) (hf : X.fn x = true ∨ X.env.scope.names.lookup x = some .local := by first | exact .inl rfl | exact .inr rfl | assumption) :
    FS X W (.AugAssign (.Name x pos') op e pos) (sAug i f da) := by
  refine PS_imp (ps_aug hN hi hx he (ti := k2 X f) ho hf) fun D σ H h => ?_
  obtain ⟨ρ, S, μ, er, sr, h⟩ := h
  unfold sAug at h
  split at h
  · rename_i y e1
    obtain ⟨v, e2, r⟩ := er.2 i y e1
    refine ⟨v, e2, ?_⟩
    refine tS_bind er sr h fun z w S1 μ1 H1 st1 sr1 r1 er1 h1 => ?_
    refine ⟨y, z, S1, μ1, VR.mono sr st1 _ _ r, r1, sr1, ?_⟩
    cases q : f y z S1 with
    | none => rw [q] at h1; exact h1
    | some p =>
      obtain ⟨z2, S2⟩ := p
      rw [q] at h1
      intro μ2 H2 u st2 sr2 r2
      have hl : i < ρ.length := (List.getElem?_eq_some_iff.mp e1).1
      exact h1 μ2 H2 _ st2 ((er1.mono sr1 st2).set hl r2) sr2
  · exact h.elim

/-! walks -/
def irAt (X : Cx) (J : It) (i : Nat) (μ' : List Addr) (S' : Sto) (H' : Hp) (o : Option (Option PV)) : Prop := match o with
  | none => True
  | some none => J.stop i H'
  | some (some x) => J.go i H' ∧ ∀ v H2, J.yld i H' v H2 → Stp μ' H' μ' H2 ∧ SR X.K X.mg μ' S' H2 ∧ VR X.K X.mg μ' H2 x v
def IR (X : Cx) (μ : List Addr) (H : Hp) (it : Wlk) (J : It) : Prop := ∀ (i : Nat) (μ' : List Addr) (S' : Sto) (H' : Hp), Stp μ H μ' H' → SR X.K X.mg μ' S' H' → irAt X J i μ' S' H' (itAt it S' i)
theorem _root_.PySem.PI_imp {X : Cx} {tg e : Expr} {t t' : TI} (h : PI X tg e t) (k : ∀ σ H Q, t' σ H Q → t σ H Q) : PI X tg e t' := ⟨fun pins s σ H Q I q => h.run pins s σ H Q I (k σ H Q q)⟩
abbrev FI (X : Cx) (W : WX) (tg e : Expr) (d : En → Sto → Res Wlk) : Prop := PI X tg e (tG X.K X.mg (IR X) W d)
theorem fs_for {tg iter : Expr} {body : List Stmt} {di : En → Sto → Res Wlk} {tb : En → Sto → SRes} (F : CxF X W k) (hi : FI X W tg iter di) (hg : FG X tg g) (hb : FSs X W body tb)
    (hs : ∀ x, foldedSetIterable iter X.env x = pure x := by intro _; rfl) : FS X W (.For tg iter body [] pos) (sFor di g tb) := by
  refine PS_imp (ps_for F.po F.calm hi hg hb hs) fun D σ H h => ?_
  obtain ⟨ρ, S, μ, er, sr, h⟩ := h
  refine tS_bind er sr h fun it J S1 μ1 H1 st1 sr1 r1 er1 h1 => ?_
  refine ⟨fun i m σ' H' => ∃ (ρ' : En) (S' : Sto) (μ' : List Addr), Stp μ1 H1 μ' H' ∧ ER X.K X.mg μ' H' ρ' σ' ∧ SR X.K X.mg μ' S' H' ∧ SOut (forGo it g tb m i ρ' S') (okS X.K X.mg D μ' H') (exS X.K X.mg W μ' H'), ⟨_, ρ, S1, μ1, .refl, er1, sr1, h1⟩, ?_⟩
  rintro i m σ2 H2 ⟨ρ2, S2, μ2, st2, er2, sr2, h2⟩
  cases m with
  | zero => exact h2.elim
  | succ m =>
    have rit := r1 i μ2 S2 H2 st2 sr2
    unfold forGo at h2
    cases q : itAt it S2 i with
    | none => rw [q] at h2; exact h2.elim
    | some o =>
      rw [q] at h2 rit
      cases o with
      | none => exact .inl ⟨rit, h2 μ2 H2 σ2 .refl er2 sr2⟩
      | some x =>
        refine .inr ⟨rit.1, fun σ' H' => ∃ (ρ' : En) (S' : Sto) (μ' : List Addr), Stp μ1 H1 μ' H' ∧ ER X.K X.mg μ' H' ρ' σ' ∧ SR X.K X.mg μ' S' H' ∧ SOut (forGo it g tb m (i + 1) ρ' S') (okS X.K X.mg D μ' H') (exS X.K X.mg W μ' H'), fun σ' H' n => ⟨m, Nat.lt_succ_self m, n⟩, fun v H3 hy => ?_⟩
        obtain ⟨st3, sr3, r3⟩ := rit.2 v H3 hy
        refine ⟨x, ρ2, S2, μ2, r3, er2.mono sr2 st3, sr3, ?_⟩
        simp only at h2
        cases q3 : g x ρ2 S2 with
        | none => rw [q3] at h2; exact h2
        | some p =>
          obtain ⟨ρ4, S4⟩ := p
          rw [q3] at h2
          intro μ4 H4 σ4 st4 er4 sr4
          refine ⟨ρ4, S4, μ4, er4, sr4, ?_⟩
          simp only at h2
          have st24 := st3.trans st4
          cases q5 : tb ρ4 S4 with
          | stk => rw [q5] at h2; exact h2
          | exc C fs ρ5 S5 =>
            rw [q5] at h2
            exact fun μ' H' σ' c d st er sr xr => h2 μ' H' σ' c d (st24.trans st) er sr xr
          | ok f ρ5 S5 =>
            rw [q5] at h2
            cases f with
            | nx => exact fun μ5 H5 σ5 st5 er5 sr5 => ⟨ρ5, S5, μ5, (st2.trans st24).trans st5, er5, sr5, h2.mono (fun _ _ _ q => q.step (st24.trans st5)) fun _ _ _ _ q => q.step (st24.trans st5)⟩
            | ct => exact fun μ5 H5 σ5 st5 er5 sr5 => ⟨ρ5, S5, μ5, (st2.trans st24).trans st5, er5, sr5, h2.mono (fun _ _ _ q => q.step (st24.trans st5)) fun _ _ _ _ q => q.step (st24.trans st5)⟩
            | bk => exact fun μ5 H5 σ5 st5 er5 sr5 => h2 μ5 H5 σ5 (st24.trans st5) er5 sr5
            | rt v => exact fun μ5 H5 σ5 st5 er5 sr5 => h2 μ5 H5 σ5 (st24.trans st5) er5 sr5
theorem fs_wh {body : List Stmt} {tb : En → Sto → SRes} (fuel : Nat) (F : CxF X W k) (hc : FT X W c dt) (hb : FSs X W body tb) : FS X W (.While c body [] pos) (sWh fuel dt tb) := by
  refine PS_imp (ps_while F.po hc hb) fun D σ H h => ?_
  obtain ⟨ρ, S, μ, er, sr, h⟩ := h
  refine ⟨fun m σ' H' => ∃ (ρ' : En) (S' : Sto) (μ' : List Addr), ER X.K X.mg μ' H' ρ' σ' ∧ SR X.K X.mg μ' S' H' ∧ SOut (whGo dt tb m ρ' S') (okS X.K X.mg D μ' H') (exS X.K X.mg W μ' H'), ⟨fuel, ρ, S, μ, er, sr, h⟩, ?_⟩
  rintro m σ2 H2 ⟨ρ2, S2, μ2, er2, sr2, h2⟩
  cases m with
  | zero => exact h2.elim
  | succ m =>
    unfold whGo at h2
    refine ⟨ρ2, S2, μ2, er2, sr2, ?_⟩
    cases q : dt ρ2 S2 with
    | stk => rw [q] at h2; exact h2
    | exc C fs S3 =>
      rw [q] at h2
      exact fun μ' H' c d st sr xr => h2 μ' H' σ2 c d st (er2.mono sr2 st) sr xr
    | ok b S3 =>
      rw [q] at h2
      intro μ3 H3 b' st3 sr3 eb
      obtain rfl : b = b' := eb
      have er3 := er2.mono sr2 st3
      cases b with
      | false => exact h2 μ3 H3 σ2 st3 er3 sr3
      | true =>
        refine ⟨fun σ' H' => ∃ (ρ' : En) (S' : Sto) (μ' : List Addr), ER X.K X.mg μ' H' ρ' σ' ∧ SR X.K X.mg μ' S' H' ∧ SOut (whGo dt tb m ρ' S') (okS X.K X.mg D μ' H') (exS X.K X.mg W μ' H'), fun σ' H' n => ⟨m, Nat.lt_succ_self m, n⟩, ρ2, S3, μ3, er3, sr3, ?_⟩
        simp only at h2
        cases q5 : tb ρ2 S3 with
        | stk => rw [q5] at h2; exact h2
        | exc C fs ρ5 S5 =>
          rw [q5] at h2
          exact fun μ' H' σ' c d st er sr xr => h2 μ' H' σ' c d (st3.trans st) er sr xr
        | ok f ρ5 S5 =>
          rw [q5] at h2
          cases f with
          | nx => exact fun μ5 H5 σ5 st5 er5 sr5 => ⟨ρ5, S5, μ5, er5, sr5, h2.mono (fun _ _ _ q => q.step (st3.trans st5)) fun _ _ _ _ q => q.step (st3.trans st5)⟩
          | ct => exact fun μ5 H5 σ5 st5 er5 sr5 => ⟨ρ5, S5, μ5, er5, sr5, h2.mono (fun _ _ _ q => q.step (st3.trans st5)) fun _ _ _ _ q => q.step (st3.trans st5)⟩
          | bk => exact fun μ5 H5 σ5 st5 er5 sr5 => h2 μ5 H5 σ5 (st3.trans st5) er5 sr5
          | rt v => exact fun μ5 H5 σ5 st5 er5 sr5 => h2 μ5 H5 σ5 (st3.trans st5) er5 sr5
theorem ir_list {μ : List Addr} {H : Hp} {n : Nat} {a : Addr} (hn : μ[n]? = some a) : IR X μ H (.live n) (Itl X.K a) := by
  intro i μ' S' H' st sr
  have hn' := prefix_get st.pre hn
  have go : ∀ {xs : List PV} {vs : List V}, SqL X.K H' a vs → VRs X.K X.mg μ' H' xs vs → irAt X (Itl X.K a) i μ' S' H' (some xs[i]?) := by
    intro xs vs hq hv
    cases q : xs[i]? with
    | none =>
      exact ⟨vs, hq, by rw [← hv.length]; exact List.getElem?_eq_none_iff.mp q⟩
    | some x =>
      obtain ⟨v, e, r⟩ := hv.get q
      refine ⟨⟨vs, v, hq, e⟩, fun w H2 hy => ?_⟩
      obtain ⟨e2, hy⟩ := hy
      subst e2
      have := hy vs hq
      rw [e] at this
      cases this
      exact ⟨.refl, sr, r⟩
  unfold itAt
  simp only
  cases q : S'[n]? with
  | none => trivial
  | some o =>
    cases sr.at_ n a o hn' q with
    | lst a1 a2 => exact go (.of a1) a2
    | dicK _ _ => trivial
    | dicT _ _ => trivial
    | ins _ _ _ => trivial
theorem ir_tup {μ : List Addr} {S : Sto} {H : Hp} {xs : List PV} {a : Addr} {vs : List V} (sr0 : SR X.K X.mg μ S H) (hs : SqT X.K H a vs) (hv : VRs X.K X.mg μ H xs vs) : IR X μ H (.fix xs) (Itt X.K a) := by
  intro i μ' S' H' st sr
  have hq := sr0.sqt st hs
  have hv := VRs.mono sr0 st _ _ hv
  unfold itAt
  simp only
  cases q : xs[i]? with
  | none => exact ⟨vs, hq, by rw [← hv.length]; exact List.getElem?_eq_none_iff.mp q⟩
  | some x =>
    obtain ⟨v, e, r⟩ := hv.get q
    refine ⟨⟨vs, v, hq, e⟩, fun w H2 hy => ?_⟩
    obtain ⟨e2, hy⟩ := hy
    subst e2
    have := hy vs hq
    rw [e] at this
    cases this
    exact ⟨.refl, sr, r⟩
theorem ir_kl {μ : List Addr} {S : Sto} {H : Hp} {xs : List PV} {a : Addr} {vs : List V} (sr0 : SR X.K X.mg μ S H) (hs : SqK X.K H a vs) (hv : VRs X.K X.mg μ H xs vs) : IR X μ H (.fix xs) (Itl X.K a) := by
  intro i μ' S' H' st sr
  have hq := (sr0.sqk st hs).sq
  have hv := VRs.mono sr0 st _ _ hv
  unfold itAt
  simp only
  cases q : xs[i]? with
  | none => exact ⟨vs, hq, by rw [← hv.length]; exact List.getElem?_eq_none_iff.mp q⟩
  | some x =>
    obtain ⟨v, e, r⟩ := hv.get q
    refine ⟨⟨vs, v, hq, e⟩, fun w H2 hy => ?_⟩
    obtain ⟨e2, hy⟩ := hy
    subst e2
    have := hy vs hq
    rw [e] at this
    cases this
    exact ⟨.refl, sr, r⟩
theorem ir_rng {μ : List Addr} {H : Hp} {lo : Int} {n : Nat} : IR X μ H (.fix (rangeL lo n)) (L2.Itr lo n) := by
  intro i μ' S' H' st sr
  unfold itAt rangeL
  simp only [List.getElem?_map]
  by_cases hi : i < n
  · rw [List.getElem?_range hi]
    refine ⟨hi, fun v H2 hy => ?_⟩
    obtain ⟨e1, e2⟩ := hy
    subst e1 e2
    exact ⟨.refl, sr, .int _⟩
  · rw [List.getElem?_eq_none_iff.mpr (by simp; omega)]
    exact Nat.le_of_not_lt hi
/-- a list or a tuple that is walked -/
theorem fi_seq {tg : Expr} (he : FE X W e da) : FI X W tg e (iSeq da) := by
  refine ⟨fun pins s σ H R I h => ?_⟩
  obtain ⟨ρ, S, μ, er, sr, h⟩ := h
  unfold iSeq at h
  cases q : da ρ S with
  | stk => rw [q] at h; exact h.elim
  | exc C fs S1 =>
    refine (pi_list he).run pins s σ H R I ⟨ρ, S, μ, er, sr, ?_⟩
    rw [q] at h ⊢
    exact h
  | ok x S1 =>
    have hd := h
    rw [q] at h
    simp only [Res.bind] at h
    split at h
    · rename_i xs
      refine (pi_tup he).run pins s σ H R I ⟨ρ, S, μ, er, sr, ?_⟩
      rw [q]
      intro μ1 H1 v st sr1 r
      cases r with
      | tup hs ha => exact ⟨_, rfl, ⟨_, hs⟩, h μ1 H1 _ st sr1 (ir_tup sr1 hs ha)⟩
    · rename_i xs
      refine (pi_list he).run pins s σ H R I ⟨ρ, S, μ, er, sr, ?_⟩
      rw [q]
      intro μ1 H1 v st sr1 r
      cases r with
      | kl hs ha => exact ⟨_, rfl, ⟨_, hs.sq⟩, h μ1 H1 _ st sr1 (ir_kl sr1 hs ha)⟩
    · rename_i n
      refine (pi_list he).run pins s σ H R I ⟨ρ, S, μ, er, sr, ?_⟩
      rw [q]
      intro μ1 H1 v st sr1 r
      cases r with
      | ref hn =>
        split at h
        · rename_i e1
          cases sr1.at_ _ _ _ hn e1 with
          | lst a1 a2 => exact ⟨_, rfl, ⟨_, .of a1⟩, h μ1 H1 _ st sr1 (ir_list hn)⟩
        · exact h.elim
    · exact h.elim
theorem fi_rg1 {tg : Expr} {p : Pos} (hg : Gl X "range") (hm : X.mg "range" = none) (ha : FA X W [a] dl) (hs : starEach [a] X.env = [(false, eval a X.env)] := by rfl) : FI X W tg (.Call (.Name "range" p) [a] [] pos) (iRg1 dl) := by
  refine PI_imp (pi_range1 hg hm ha hs) fun σ H Q h => ?_
  obtain ⟨ρ, S, μ, er, sr, h⟩ := h
  refine tG_bind er sr h fun xs vs S1 μ1 H1 st1 sr1 r1 er1 h1 => ?_
  split at h1
  · split at h1
    · obtain ⟨v, rfl, r⟩ := r1.one
      cases r
      exact ⟨_, rfl, ‹_ ∧ _›.1, ‹_ ∧ _›.2, h1 μ1 H1 _ .refl sr1 ir_rng⟩
    · exact h1.elim
  · exact h1.elim
theorem fi_rg2 {tg : Expr} {p : Pos} (hg : Gl X "range") (hm : X.mg "range" = none) (ha : FA X W [a, b] dl) (hs : starEach [a, b] X.env = [(false, eval a X.env), (false, eval b X.env)] := by rfl) (hs2 : starEach [b] X.env = [(false, eval b X.env)] := by rfl) : FI X W tg (.Call (.Name "range" p) [a, b] [] pos) (iRg2 dl) := by
  refine PI_imp (pi_range2 hg hm ha hs hs2) fun σ H Q h => ?_
  obtain ⟨ρ, S, μ, er, sr, h⟩ := h
  refine tG_bind er sr h fun xs vs S1 μ1 H1 st1 sr1 r1 er1 h1 => ?_
  split at h1
  · split at h1
    · obtain ⟨v, w, rfl, r, r'⟩ := r1.two
      cases r; cases r'
      exact ⟨_, _, rfl, ‹_ ∧ _›, h1 μ1 H1 _ .refl sr1 ir_rng⟩
    · exact h1.elim
  · exact h1.elim
end
end FL

/-! FLe: comprehensions, calls of one's own defs, a def's body. -/
namespace FL
open PySem PySem.Spec L2
def Pers (K : PySem.W.Frag) (H H' : Hp) : Prop := (∀ a vs, SqT K H a vs → SqT K H' a vs) ∧ ∀ a vs, SqK K H a vs → SqK K H' a vs
section
variable {K : PySem.W.Frag} {mg : Str → Option Value} {μ μ' μ1 μ2 : List Addr} {S S' : Sto} {H H' H1 H2 : Hp}
theorem _root_.FL.Pers_refl : Pers K H H := ⟨fun _ _ h => h, fun _ _ h => h⟩
mutual
theorem VR.monoT (pre : μ <+: μ') (ht : Pers K H H') : ∀ (x : PV) (v : V), VR K mg μ H x v → VR K mg μ' H' x v
  | .non, _, h => by cases h; exact .non
  | .bl b, _, h => by cases h; exact .bl b
  | .int i, _, h => by cases h; exact .int i
  | .str x, _, h => by cases h; exact .str x
  | .ty n, _, h => by cases h; exact .ty n
  | .tup xs, _, h => by
    cases h with
    | tup hs ha => exact .tup (ht.1 _ _ hs) (VRs.monoT pre ht xs _ ha)
  | .kl xs, _, h => by
    cases h with
    | kl hs ha => exact .kl (ht.2 _ _ hs) (VRs.monoT pre ht xs _ ha)
  | .ref n, _, h => by
    cases h with
    | ref e => exact .ref (prefix_get pre e)
  | .glb x, _, h => by
    cases h with
    | glb e => exact .glb e
theorem VRs.monoT (pre : μ <+: μ') (ht : Pers K H H') : ∀ (xs : List PV) (vs : List V), VRs K mg μ H xs vs → VRs K mg μ' H' xs vs
  | [], _, h => by cases h; exact .nil
  | x :: xs, _, h => by
    cases h with
    | cons h1 h2 => exact .cons (VR.monoT pre ht x _ h1) (VRs.monoT pre ht xs _ h2)
end
theorem FRs.monoT (pre : μ <+: μ') (ht : Pers K H H') {fs : List (Str × PV)} {gs : List (Str × V)} (h : FRs K mg μ H fs gs) : FRs K mg μ' H' fs gs := by
  induction h with
  | nil => exact .nil
  | cons h _ ih => exact .cons (VR.monoT pre ht _ _ h) ih
theorem KRs.monoT (pre : μ <+: μ') (ht : Pers K H H') {fs : List (PV × PV)} {gs : List (Key × V)} (h : KRs K mg μ H fs gs) : KRs K mg μ' H' fs gs := by
  induction h with
  | nil => exact .nil
  | cons e h _ ih => exact .cons e (VR.monoT pre ht _ _ h) ih
theorem TRs.monoT (pre : μ <+: μ') (ht : Pers K H H') {fs : List (PV × PV)} {gs : List (List Key × V)} (h : TRs K mg μ H fs gs) : TRs K mg μ' H' fs gs := by
  induction h with
  | nil => exact .nil
  | cons e h _ ih => exact .cons e (VR.monoT pre ht _ _ h) ih
theorem OR.monoT (pre : μ <+: μ') (ht : Pers K H H') {o : LO} {a : Addr} (h : OR K mg μ H o a) (e : H' a = H a) : OR K mg μ' H' o a := by
  cases h with
  | lst h q => exact .lst (e.trans h) (VRs.monoT pre ht _ _ q)
  | dicK h q => exact .dicK (e.trans h) (q.monoT pre ht)
  | dicT h q => exact .dicT (e.trans h) (q.monoT pre ht)
  | ins c h q => exact .ins c (e.trans h) (q.monoT pre ht)
theorem ER.monoT (pre : μ <+: μ') (ht : Pers K H H') {ρ : En} {σ : L2.St} (h : ER K mg μ H ρ σ) : ER K mg μ' H' ρ σ :=
  ⟨h.1, fun i x e => let ⟨v, e1, q⟩ := h.2 i x e; ⟨v, e1, VR.monoT pre ht _ _ q⟩⟩
/-- a list that the store does not name is written -/
theorem sqt_other {D : Addr} {l : List V} {o : HO} (e : H D = some (.lst l)) : Pers K H (upd H D o) := by
  refine ⟨fun a vs h => ?_, fun a vs h => ?_⟩
  · rcases h with (h | ⟨ob, h⟩) | h
    · exact .inl (.inl (by rw [upd_ne (ne_of h e (by intro z; cases z))]; exact h))
    · exact .inl (.inr ⟨ob, by rw [upd_ne (ne_of h e (by intro z; cases z))]; exact h⟩)
    · exact .inr h
  · rcases h with ⟨ob, h⟩ | h
    · exact .inl ⟨ob, by rw [upd_ne (ne_of h e (by intro z; cases z))]; exact h⟩
    · exact .inr h
theorem SR.other (r : SR K mg μ S H) {D : Addr} {l : List V} {o : HO} (hD : D ∉ μ) (e : H D = some (.lst l)) : SR K mg μ S (upd H D o) :=
  ⟨r.len, r.nd, fun n a o' e1 e2 => (r.at_ n a o' e1 e2).monoT (List.prefix_refl _) (sqt_other e) (upd_ne fun z => hD (by rw [← z]; exact List.mem_of_getElem? e1))⟩
theorem SR.adopt (r : SR K mg μ S H) {D : Addr} {l : List V} {acc : List PV} (hD : D ∉ μ) (e : H D = some (.lst l)) (ha : VRs K mg μ H acc l) : SR K mg (μ ++ [D]) (S ++ [.lst acc]) H := by
  have pre : μ <+: μ ++ [D] := List.prefix_append _ _
  refine ⟨by simp [r.len], ?_, fun n a o' e1 e2 => ?_⟩
  · rw [List.nodup_append]
    refine ⟨r.nd, by simp, fun a ha b hb => ?_⟩
    rw [List.mem_singleton] at hb; subst hb
    exact fun z => hD (by rw [← z]; exact ha)
  · by_cases hn : n < μ.length
    · rw [List.getElem?_append_left hn] at e1
      rw [List.getElem?_append_left (by rw [← r.len]; exact hn)] at e2
      exact (r.at_ n a o' e1 e2).monoT pre Pers_refl rfl
    · obtain ⟨h1, _⟩ := List.getElem?_eq_some_iff.mp e1
      have en : n = μ.length := by rw [List.length_append, List.length_singleton] at h1; omega
      subst en
      rw [List.getElem?_append_right (Nat.le_refl _), Nat.sub_self] at e1
      rw [r.len, List.getElem?_append_right (Nat.le_refl _), Nat.sub_self] at e2
      cases e1; cases e2
      exact .lst e (VRs.monoT pre Pers_refl _ _ ha)
end

/-! ### list comprehensions -/
def wipeE (ρ : En) : List Nat → En
  | [] => ρ
  | v :: vs => (wipeE ρ vs).set v none
def dYes : En → Sto → Res Bool := fun _ S => .ok true S
def lcGo (it : Wlk) (dg : Tgt) (dt : En → Sto → Res Bool) (de : En → Sto → Res PV) (vs : List Nat) (ρ : En) : Nat → Nat → List PV → Sto → Res (List PV)
  | 0, _, _, _ => .stk
  | k + 1, i, acc, S => match itAt it S i with
    | none => .stk
    | some none => .ok acc S
    | some (some x) => match dg x (wipeE ρ vs) S with
      | none => .stk
      | some (ρ2, S2) => match dt ρ2 S2 with
        | .ok true S3 => match de ρ2 S3 with
          | .ok y S4 => if acc.length < big then lcGo it dg dt de vs ρ k (i + 1) (acc ++ [y]) S4 else .stk
          | _ => .stk
        | .ok false S3 => lcGo it dg dt de vs ρ k (i + 1) acc S3
        | _ => .stk
def eLc (di : En → Sto → Res Wlk) (dg : Tgt) (dt : En → Sto → Res Bool) (de : En → Sto → Res PV) (vs : List Nat) : En → Sto → Res PV := fun ρ S => (di ρ S).bind fun it S1 =>
  (lcGo it dg dt de vs ρ (itFuel it S1) 0 [] S1).bind fun acc S2 => .ok (.ref S2.length) (S2 ++ [.lst acc])
abbrev W0 : WX := fun _ _ _ _ => False
/-- the hand layer's target g does dg, and touches no slot but vs -/
structure CT (K : PySem.W.Frag) (mg : Str → Option Value) (g : TG) (dg : Tgt) (vs : List Nat) : Prop where
  st : ∀ (x : PV) (ρ : En) (S : Sto) (ρ' : En) (S' : Sto), dg x ρ S = some (ρ', S') → S' = S
  run : ∀ (v : V) (σ : L2.St) (H : Hp) (Q : L2.St → Hp → Prop) (x : PV) (ρ : En) (S : Sto) (μ : List Addr) (ρ' : En) (S' : Sto),
    VR K mg μ H x v → ER K mg μ H ρ σ → SR K mg μ S H → dg x ρ S = some (ρ', S') → (∀ σ', ER K mg μ H ρ' σ' → wipe σ' vs = wipe σ vs → Q σ' H) → g v σ H Q
structure CTs (K : PySem.W.Frag) (mg : Str → Option Value) (g : TGs) (dg : List PV → En → Sto → Option (En × Sto)) (vs : List Nat) : Prop where
  st : ∀ (x : List PV) (ρ : En) (S : Sto) (ρ' : En) (S' : Sto), dg x ρ S = some (ρ', S') → S' = S
  run : ∀ (v : List V) (σ : L2.St) (H : Hp) (Q : L2.St → Hp → Prop) (x : List PV) (ρ : En) (S : Sto) (μ : List Addr) (ρ' : En) (S' : Sto),
    VRs K mg μ H x v → ER K mg μ H ρ σ → SR K mg μ S H → dg x ρ S = some (ρ', S') → (∀ σ', ER K mg μ H ρ' σ' → wipe σ' vs = wipe σ vs → Q σ' H) → g v σ H Q
section
variable {K : PySem.W.Frag} {mg : Str → Option Value}
theorem wipe_get {vs : List Nat} {σ : L2.St} {j : Nat} (hj : j ∉ vs) : (wipe σ vs)[j]? = σ[j]? := by
  induction vs with
  | nil => rfl
  | cons v vs ih =>
    unfold wipe
    rw [List.getElem?_set_ne (fun z => hj (by rw [z]; exact List.mem_cons_self))]
    exact ih fun z => hj (List.mem_cons_of_mem _ z)
theorem wipe_none {vs : List Nat} {σ : L2.St} {j : Nat} (hj : j ∈ vs) (hl : j < σ.length) : (wipe σ vs)[j]? = some none := by
  induction vs with
  | nil => cases hj
  | cons v vs ih =>
    unfold wipe
    by_cases e : v = j
    · subst e
      rw [List.getElem?_set_self (by rw [wipe_length]; exact hl)]
    · rw [List.getElem?_set_ne e]
      rcases List.mem_cons.mp hj with z | z
      · exact absurd z.symm e
      · exact ih z
theorem wipe_set {vs : List Nat} {σ : L2.St} {i : Nat} {v : Option V} (hi : i ∈ vs) : wipe (σ.set i v) vs = wipe σ vs := by
  apply List.ext_getElem?
  intro j
  by_cases hj : j ∈ vs
  · by_cases hl : j < σ.length
    · rw [wipe_none hj hl, wipe_none hj (by rw [List.length_set]; exact hl)]
    · rw [List.getElem?_eq_none (by rw [wipe_length, List.length_set]; omega), List.getElem?_eq_none (by rw [wipe_length]; omega)]
  · rw [wipe_get hj, wipe_get hj, List.getElem?_set_ne (fun z => hj (by rw [← z]; exact hi))]
theorem ct_name {i : Nat} {vs : List Nat} (hi : i ∈ vs) : CT K mg (gName i) (gNm i) vs := by
  refine ⟨fun x ρ S ρ' S' e => ?_, fun v σ H Q x ρ S μ ρ' S' r er sr e h => ?_⟩
  · unfold gNm at e
    split at e
    · cases e; rfl
    · cases e
  · unfold gNm at e
    split at e
    · cases e; exact h _ (er.set ‹_› r) (wipe_set hi)
    · cases e
theorem cts_nil {vs : List Nat} : CTs K mg L2.gNil gNil1 vs := by
  refine ⟨fun x ρ S ρ' S' e => ?_, fun v σ H Q x ρ S μ ρ' S' r er sr e h => ?_⟩
  · cases x with
    | nil => cases e; rfl
    | cons _ _ => cases e
  · cases r with
    | nil => cases e; exact ⟨rfl, h σ er rfl⟩
    | cons _ _ => cases e
theorem cts_cons {g : TG} {dg : Tgt} {u : TGs} {du : List PV → En → Sto → Option (En × Sto)} {vs : List Nat} (h1 : CT K mg g dg vs) (h2 : CTs K mg u du vs) : CTs K mg (L2.gCons g u) (gCons1 dg du) vs := by
  refine ⟨fun x ρ S ρ' S' e => ?_, fun v σ H Q x ρ S μ ρ' S' r er sr e h => ?_⟩
  · cases x with
    | nil => cases e
    | cons x xs =>
      unfold gCons1 at e
      simp only at e
      split at e
      · rename_i q
        rw [h2.st _ _ _ _ _ e, h1.st _ _ _ _ _ q]
      · cases e
  · cases r with
    | nil => cases e
    | @cons x xs v vr r1 r2 =>
      unfold gCons1 at e
      simp only at e
      split at e
      · rename_i ρ1 S1 q
        have e1 := h1.st _ _ _ _ _ q
        subst e1
        exact ⟨v, vr, rfl, h1.run v σ H _ x ρ S1 μ ρ1 S1 r1 er sr q fun σ1 er1 w1 => h2.run vr σ1 H Q xs ρ1 S1 μ ρ' S' r2 er1 sr e fun σ2 er2 w2 => h σ2 er2 (w2.trans w1)⟩
      · cases e
theorem ct_tup {n : Nat} {u : TGs} {du : List PV → En → Sto → Option (En × Sto)} {vs : List Nat} (h1 : CTs K mg u du vs) : CT K mg (L2.gTup K n u) (gTp n du) vs := by
  refine ⟨fun x ρ S ρ' S' e => ?_, fun v σ H Q x ρ S μ ρ' S' r er sr e h => ?_⟩
  · unfold gTp at e
    split at e
    · split at e
      · exact h1.st _ _ _ _ _ e
      · cases e
    · cases e
  · unfold gTp at e
    split at e
    · split at e
      · cases r with
        | tup hs ha => exact ⟨_, _, rfl, hs, by rw [← ha.length]; assumption, h1.run _ σ H Q _ ρ S μ ρ' S' ha er sr e h⟩
      · cases e
    · cases e
end
theorem ER.wipe {K : PySem.W.Frag} {mg : Str → Option Value} {μ : List Addr} {H : Hp} {ρ : En} {σ : L2.St} (er : ER K mg μ H ρ σ) : ∀ vs : List Nat, ER K mg μ H (wipeE ρ vs) (L2.wipe σ vs)
  | [] => er
  | v :: vs => by
    have ih := ER.wipe er vs
    unfold wipeE L2.wipe
    refine ⟨by simp [ih.1], fun i x e => ?_⟩
    by_cases hi : v = i
    · subst hi
      by_cases hl : v < (wipeE ρ vs).length
      · rw [List.getElem?_set_self hl] at e; cases e
      · rw [List.getElem?_eq_none (by rw [List.length_set]; omega)] at e; cases e
    · rw [List.getElem?_set_ne hi] at e
      obtain ⟨w, e1, r⟩ := ih.2 i x e
      exact ⟨w, by rw [List.getElem?_set_ne hi]; exact e1, r⟩
section
variable {X : Cx} {W : WX} {pos : Pos}
theorem fts_nil : PTs X [] (tT X.K X.mg W dYes) := ⟨fun pins s σ H Q I h => by
  obtain ⟨ρ, S, μ, er, sr, h⟩ := h
  exact pts_nil.run pins s σ H Q I (h μ H true .refl sr rfl)⟩
theorem fts_one {c : Expr} {dt : En → Sto → Res Bool} (h : FT X W c dt) : PTs X [c] (tT X.K X.mg W dt) := pts_one h
theorem VRs.snoc {K : PySem.W.Frag} {mg : Str → Option Value} {μ : List Addr} {H : Hp} {xs : List PV} {vs : List V} {x : PV} {v : V} (h : VRs K mg μ H xs vs) (r : VR K mg μ H x v) : VRs K mg μ H (xs ++ [x]) (vs ++ [v]) := h.app (.cons r .nil)
theorem lc_read {di : En → Sto → Res Wlk} {g : TG} {dg : Tgt} {dt : En → Sto → Res Bool} {de : En → Sto → Res PV} {vs : List Nat} (hct : CT X.K X.mg g dg vs) {σ : L2.St} {H : Hp} {Q : VK}
    (h : tE X.K X.mg W (eLc di dg dt de vs) σ H Q) : tLc (tG X.K X.mg (IR X) W di) g (tT X.K X.mg W0 dt) (tE X.K X.mg W0 de) vs σ H Q := by
  obtain ⟨ρ, S, μ, er, sr, h⟩ := h
  unfold eLc at h
  refine tG_bind er sr h fun it J S1 μ1 H1 st1 sr1 r1 er1 h1 => ?_
  intro D hD
  have h1 := h1.bind
  refine ⟨fun i m H' => ∃ (S' : Sto) (μ' : List Addr) (acc : List PV) (accV : List V), Stp μ1 H1 μ' H' ∧ D ∉ μ' ∧ ER X.K X.mg μ' H' ρ σ ∧ SR X.K X.mg μ' S' H' ∧ H' D = some (.lst accV) ∧ VRs X.K X.mg μ' H' acc accV ∧
    Out (lcGo it dg dt de vs ρ m i acc S') (fun a SF => okG X.K X.mg (fun μ H => VR X.K X.mg μ H) μ1 H1 Q (.ref SF.length) (SF ++ [.lst a])) (exG X.K X.mg W σ μ1 H1), ⟨_, S1, μ1, [], [], Stp.fresh hD, fun hm => sr1.ne_fresh hD hm rfl, er1.mono sr1 (Stp.fresh hD), sr1.fresh hD, upd_same, .nil, h1⟩, ?_⟩
  rintro i m H2 ⟨S2, μ2, acc, accV, st2, nD, er2, sr2, eD, ra, h2⟩
  cases m with
  | zero => exact h2.elim
  | succ m =>
    have rit := r1 i μ2 S2 H2 st2 sr2
    unfold lcGo at h2
    cases q : itAt it S2 i with
    | none => rw [q] at h2; exact h2.elim
    | some o =>
      rw [q] at h2 rit
      cases o with
      | none =>
        refine .inl ⟨rit, h2 (μ2 ++ [D]) H2 (.ref D) ?_ (sr2.adopt nD eD ra) (.ref (by rw [← sr2.len]; simp))⟩
        refine ⟨st2.pre.trans (List.prefix_append _ _), fun a ha => ?_, st2.keep⟩
        rcases List.mem_append.mp ha with ha | ha
        · exact st2.new a ha
        · rw [List.mem_singleton] at ha; subst ha; exact .inr hD
      | some x =>
        refine .inr ⟨rit.1, fun H' => ∃ (S' : Sto) (μ' : List Addr) (acc : List PV) (accV : List V), Stp μ1 H1 μ' H' ∧ D ∉ μ' ∧ ER X.K X.mg μ' H' ρ σ ∧ SR X.K X.mg μ' S' H' ∧ H' D = some (.lst accV) ∧ VRs X.K X.mg μ' H' acc accV ∧
          Out (lcGo it dg dt de vs ρ m (i + 1) acc S') (fun a SF => okG X.K X.mg (fun μ H => VR X.K X.mg μ H) μ1 H1 Q (.ref SF.length) (SF ++ [.lst a])) (exG X.K X.mg W σ μ1 H1), fun H' n => ⟨m, Nat.lt_succ_self m, n⟩, fun v H3 hy => ?_⟩
        obtain ⟨st3, sr3, r3⟩ := rit.2 v H3 hy
        have er3 := er2.mono sr2 st3
        have eD3 := st3.keep D _ eD nD
        simp only at h2
        cases q3 : dg x (wipeE ρ vs) S2 with
        | none => rw [q3] at h2; exact h2.elim
        | some p =>
          obtain ⟨ρ4, S4⟩ := p
          have e4 := hct.st _ _ _ _ _ q3
          subst e4
          rw [q3] at h2
          refine hct.run v _ H3 _ x (wipeE ρ vs) S4 μ2 ρ4 S4 r3 (er3.wipe _) sr3 q3 fun σ4 er4 w4 => ?_
          have ww : L2.wipe (L2.wipe σ vs) vs = L2.wipe σ vs := by
            apply List.ext_getElem?
            intro j
            by_cases hj : j ∈ vs
            · by_cases hl : j < σ.length
              · rw [wipe_none hj hl, wipe_none hj (by rw [wipe_length]; exact hl)]
              · rw [List.getElem?_eq_none (by rw [wipe_length, wipe_length]; omega), List.getElem?_eq_none (by rw [wipe_length]; omega)]
            · rw [wipe_get hj]
          refine ⟨w4.trans ww, ρ4, S4, μ2, er4, sr3, ?_⟩
          simp only at h2
          cases q5 : dt ρ4 S4 with
          | stk => rw [q5] at h2; exact h2
          | exc C fs S5 => rw [q5] at h2; exact h2.elim
          | ok b S5 =>
            rw [q5] at h2
            intro μ5 H5 b' st5 sr5 eb
            obtain rfl : b = b' := eb
            have nD5 : D ∉ μ5 := fun hm => by
              rcases st5.new D hm with z | z
              · exact nD z
              · rw [eD3] at z; cases z
            have eD5 := st5.keep D _ eD3 nD
            cases b with
            | false =>
              exact ⟨S5, μ5, acc, accV, (st2.trans st3).trans st5, nD5, er3.mono sr3 st5, sr5, eD5, VRs.mono sr2 (st3.trans st5) _ _ ra, h2⟩
            | true =>
              refine ⟨ρ4, S5, μ5, er4.mono sr3 st5, sr5, ?_⟩
              simp only at h2
              cases q6 : de ρ4 S5 with
              | stk => rw [q6] at h2; exact h2
              | exc C fs S6 => rw [q6] at h2; exact h2.elim
              | ok y S6 =>
                rw [q6] at h2
                simp only at h2
                intro μ6 H6 u st6 sr6 r6
                have nD6 : D ∉ μ6 := fun hm => by
                  rcases st6.new D hm with z | z
                  · exact nD5 z
                  · rw [eD5] at z; cases z
                have eD6 := st6.keep D _ eD5 nD5
                by_cases hl : acc.length < big
                · rw [if_pos hl] at h2
                  have st26 := (st3.trans st5).trans st6
                  have ra6 := VRs.mono sr2 st26 _ _ ra
                  refine ⟨accV, eD6, by rw [← ra.length]; exact Nat.lt_trans hl big_lt, S6, μ6, acc ++ [y], accV ++ [u], ?_, nD6, (er2.mono sr2 st26).monoT (List.prefix_refl _) (sqt_other eD6), sr6.other nD6 eD6, upd_same, VRs.monoT (List.prefix_refl _) (sqt_other eD6) _ _ (VRs.snoc ra6 r6), h2⟩
                  have st16 := st2.trans st26
                  refine ⟨st16.pre, st16.new, fun a o e n => ?_⟩
                  rw [upd_ne (ne_of_none e hD)]
                  exact st16.keep a o e n
                · rw [if_neg hl] at h2; exact h2.elim
theorem fe_lc {elt tg iter : Expr} {ifs : List Expr} {scope : Scope} {own : List (Str × Nat)} {di : En → Sto → Res Wlk} {g : TG} {dg : Tgt} {dt : En → Sto → Res Bool} {de : En → Sto → Res PV} (hc : X.calm = true) (hN : X.N.Nodup) (hi : FI X W tg iter di) (ok : BlkOk X.N X.env.scope scope own)
    (hg : ∀ (s : Shared) (H : Hp) (C : Addr) (cl : List (Str × Addr)) (fp : List Addr), PG (X.blk s H scope (compEnvC scope cl C X.env) fp) tg g) (hct : CT X.K X.mg g dg (own.map (·.2)))
    (ht : ∀ (s : Shared) (H : Hp) (C : Addr) (cl : List (Str × Addr)) (fp : List Addr), PTs (X.blk s H scope (compEnvC scope cl C X.env) fp) ifs (tT X.K X.mg W0 dt))
    (he : ∀ (s : Shared) (H : Hp) (C : Addr) (cl : List (Str × Addr)) (fp : List Addr), FE (X.blk s H scope (compEnvC scope cl C X.env) fp) W0 elt de) (hs : ∀ x, foldedSetIterable iter X.env x = pure x := by intro _; rfl) :
    FE X W (.ListComp elt [⟨tg, iter, ifs, 0⟩] scope pos) (eLc di dg dt de (own.map (·.2))) :=
  PE_imp (pe_lc (te := tE X.K X.mg W0 de) hc hN hi ok hg ht he hs) fun σ H Q h => lc_read hct h
/-- y = [..] -/
theorem fs_setlc {i : Nat} {y : Str} {py spos : Pos} {elt tg iter : Expr} {ifs : List Expr} {scope : Scope} {own : List (Str × Nat)} {di : En → Sto → Res Wlk} {g : TG} {dg : Tgt} {dt : En → Sto → Res Bool} {de : En → Sto → Res PV} (hc : X.calm = true) (hN : X.N.Nodup) (hy : X.N[i]? = some y) (hyl : X.env.scope.names.lookup y = some .local)
    (hsw : swapsWith (.ListComp elt [⟨tg, iter, ifs, 0⟩] scope pos) (some (.Name y py)) spos.line X.env = pure true) (hi : FI X W tg iter di) (ok : BlkOk X.N X.env.scope scope own)
    (hg : ∀ (s : Shared) (H : Hp) (C : Addr) (cl : List (Str × Addr)) (fp : List Addr), PG (X.blk s H scope (compEnvC scope cl C X.env) fp) tg g) (hct : CT X.K X.mg g dg (own.map (·.2)))
    (ht : ∀ (s : Shared) (H : Hp) (C : Addr) (cl : List (Str × Addr)) (fp : List Addr), PTs (X.blk s H scope (compEnvC scope cl C X.env) fp) ifs (tT X.K X.mg W0 dt))
    (he : ∀ (s : Shared) (H : Hp) (C : Addr) (cl : List (Str × Addr)) (fp : List Addr), FE (X.blk s H scope (compEnvC scope cl C X.env) fp) W0 elt de) (hs : ∀ x, foldedSetIterable iter X.env x = pure x := by intro _; rfl) :
    FS X W (.Assign [.Name y py] (.ListComp elt [⟨tg, iter, ifs, 0⟩] scope pos) spos) (sAsg (eLc di dg dt de (own.map (·.2))) (gNm i)) := by
  refine PS_imp (ps_setLc (te := tE X.K X.mg W0 de) hc hN hy hyl hsw hi ok hg ht he hs) fun D σ H h => ?_
  obtain ⟨ρ, S, μ, er, sr, h⟩ := h
  refine lc_read (W := W) hct (tS_bind er sr h fun x v S1 μ1 H1 st1 sr1 r1 er1 h1 => ?_)
  unfold gNm at h1
  by_cases hl : i < ρ.length
  · rw [if_pos hl] at h1
    exact h1 μ1 H1 _ .refl (er1.set hl r1) sr1
  · rw [if_neg hl] at h1; exact h1.elim
end
end FL

/-! FLf: defs: their bodies as functions, calls of them, the law's end. -/
namespace FL
open PySem PySem.Spec L2
abbrev FF := List PV → Sto → Res PV
def exF (K : PySem.W.Frag) (mg : Str → Option Value) (E : XK) (μ : List Addr) (H : Hp) : Str → List (Str × PV) → Sto → Prop := fun C fs S' =>
  ∀ (μ' : List Addr) (H' : Hp) (c : Value) (d : Option Addr), Stp μ H μ' H' → SR K mg μ' S' H' → XR K mg μ' H' C fs c d → E c d H'
/-- the promise of a def: it computes f -/
def spF (K : PySem.W.Frag) (mg : Str → Option Value) (n : Nat) (f : FF) : Sp := fun vs H Q E => vs.length = n ∧ ∃ (xs : List PV) (S : Sto) (μ : List Addr), VRs K mg μ H xs vs ∧ SR K mg μ S H ∧
  Out (f xs S) (okG K mg (fun μ H => VR K mg μ H) μ H Q) (exF K mg E μ H)
def WF (E : XK) : WX := fun cls d _ H => E cls d H
/-- a body run upon arguments; N names in all -/
def runB (N : Nat) (D : En → Sto → SRes) : FF := fun xs S => match D (xs.map some ++ List.replicate (N - xs.length) none) S with
  | .ok (.rt v) _ S' => .ok v S'
  | .ok .nx _ S' => .ok .non S'
  | .ok _ _ _ => .stk
  | .exc C fs _ S' => .exc C fs S'
  | .stk => .stk
theorem er_start {K : PySem.W.Frag} {mg : Str → Option Value} {μ : List Addr} {H : Hp} {xs : List PV} {vs : List V} (h : VRs K mg μ H xs vs) (N : List Str) : ER K mg μ H (xs.map some ++ List.replicate (N.length - xs.length) none) (L2.start N vs) := by
  have hl := h.length
  refine ⟨by simp [L2.start, hl], fun i x e => ?_⟩
  by_cases hi : i < xs.length
  · rw [List.getElem?_append_left (by simpa using hi), List.getElem?_map] at e
    cases q : xs[i]? with
    | none => rw [q] at e; cases e
    | some y =>
      rw [q] at e
      cases e
      obtain ⟨v, e1, r⟩ := h.get q
      refine ⟨v, ?_, r⟩
      unfold L2.start
      rw [List.getElem?_append_left (by rw [List.length_map, ← hl]; exact hi), List.getElem?_map, e1]
      rfl
  · rw [List.getElem?_append_right (by simpa using hi)] at e
    obtain ⟨_, e⟩ := List.getElem?_eq_some_iff.mp e
    rw [List.getElem_replicate] at e
    cases e
section
variable {P : Program} {w : World} {K : PySem.W.Frag} {mg : Str → Option Value} {base : Heap}
abbrev cxL (P : Program) (w : World) (K : PySem.W.Frag) (mg : Str → Option Value) (base : Heap) (N : List Str) (qual : Str) (st : Stmt) (f : Addr) (cdv : Value) (A : Around) (outer : List Env) (s : Shared) (H : Hp) (E : XK) : Cx :=
  cxOf (L2.CX P w) P w K mg base N qual (defScope st) f cdv A outer s H E
theorem fn_fl {x qual : Str} {st : Stmt} {f : Addr} {fd : FuncData} {N ps : List Str} {k : Nat} {D : En → Sto → SRes} (F : Fun K x qual st f fd) (S : FnScope N ps (defScope st))
    (hb : ∀ (cdv : Value) (A : Around) (outer : List Env) (s : Shared) (H : Hp) (E : XK), CxF (cxL P w K mg base N qual st f cdv A outer s H E) (WF E) k → FSs (cxL P w K mg base N qual st f cdv A outer s H E) (WF E) (defBody st) D) :
    FnOk P w K mg base (L2.CX P w) (k + 1) f fd ps (spF K mg ps.length (runB N.length D)) := by
  refine F.okX S (fun vs H Q E h => h.1) fun cdv A outer s H vs Q E hr h => ?_
  have C : CxF (cxL P w K mg base N qual st f cdv A outer s H E) (WF E) k := ⟨takes_of rfl rfl rfl rfl, passes_of rfl, rfl, rfl, rfl, hr, S.nd⟩
  refine ⟨_, hb cdv A outer s H E C, ?_⟩
  obtain ⟨hl, xs, S0, μ, hv, sr, h⟩ := h
  refine ⟨_, S0, μ, er_start hv N, sr, ?_⟩
  unfold runB at h
  show SOut (D (xs.map some ++ List.replicate (N.length - xs.length) none) S0) _ _
  cases q : D (xs.map some ++ List.replicate (N.length - xs.length) none) S0 with
  | stk => rw [q] at h; exact h
  | exc C fs ρ1 S1 =>
    rw [q] at h
    exact fun μ' H' σ' c d st er sr xr => h μ' H' c d st sr xr
  | ok f ρ1 S1 =>
    rw [q] at h
    cases f with
    | nx => exact fun μ' H' σ' st er sr => h μ' H' _ st sr .non
    | rt v => exact fun μ' H' σ' st er sr v' r => h μ' H' v' st sr r
    | bk => exact h.elim
    | ct => exact h.elim
end
/-- a call -/
def eApp (f : FF) (dl : En → Sto → Res (List PV)) : En → Sto → Res PV := fun ρ S => (dl ρ S).bind f
def eAppD (f : FF) (dvs : List PV) (dl : En → Sto → Res (List PV)) : En → Sto → Res PV := fun ρ S => (dl ρ S).bind fun xs S1 => f (xs ++ dvs) S1
/-- the context of an expression: a body's, or a comprehension's in it -/
structure CxE (X : Cx) (W : WX) (k : Nat) : Prop where
  tk : Takes X W
  calm : X.calm = true
  room : Room k X.A
  nd : X.N.Nodup
theorem CxE.hu {X : Cx} {W : WX} {k : Nat} (F : CxE X W k) : X.A.units + 64 < cLine := F.room.units
theorem CxF.e {X : Cx} {W : WX} {k : Nat} (F : CxF X W k) : CxE X W k := ⟨F.tk, F.calm, F.room, F.nd⟩
/-- the comprehension's block -/
theorem CxE.blk {X : Cx} {W : WX} {k : Nat} (F : CxE X W k) (s : Shared) (H : Hp) (scope : Scope) (cenv : Env) (fp : List Addr) : CxE (X.blk s H scope cenv fp) W0 k := ⟨takes0, F.calm, F.room, F.nd⟩
section
variable {X : Cx} {W : WX} {k : Nat} {x : Str} {f : Addr} {fd : FuncData} {ps : List Str} {j : Nat} {ff : FF} {e : Expr} {es : List Expr} {dl : En → Sto → Res (List PV)} {p pos : Pos} {ds : List Value} {dvs : List PV} {dws : List V}
theorem exF_of {σ : L2.St} {μ : List Addr} {H : Hp} {C : Str} {fs : List (Str × PV)} {S : Sto} (h : exG X.K X.mg W σ μ H C fs S) : exF X.K X.mg (WE W σ) μ H C fs S := h
theorem fe_call (C : CxE X W k) (G : FnOk X.prog X.w X.K X.mg X.base (L2.CX X.prog X.w) j f fd ps (spF X.K X.mg ps.length ff)) (hj : j ≤ k) (hg : Gl X x) (hm : X.mg x = some (.ref f)) (hk : PySem.W.keepIn X.K (.ref f) = true) (hb : Binds X.K fd ps [])
    (ha : FA X W (e :: es) dl) (hl : (e :: es).length = ps.length := by rfl) (hdb : (x == ("__debug__" : Str)) = false := by decide) (he : starEach (e :: es) X.env = (false, eval e X.env) :: starEach es X.env := by rfl) (hpl : (backTo pos (starEach es X.env)).any (·.1) = false := by rfl)
    (hlen : ∀ ρ S xs S1, dl ρ S = .ok xs S1 → xs.length = ps.length) :
    FE X W (.Call (.Name x p) (e :: es) [] pos) (eApp ff dl) := by
  refine PE_imp (pe_callS G (C.room.mono hj) hg hm hk hb (fun σ => passAt C.tk σ) ha hdb he hpl) fun σ H Q h => ?_
  obtain ⟨ρ, S, μ, er, sr, h⟩ := h
  unfold eApp at h
  have hlen := hlen ρ S
  refine ⟨ρ, S, μ, er, sr, ?_⟩
  cases q : dl ρ S with
  | stk => rw [q] at h; exact h
  | exc C fs S1 => rw [q] at h; exact h
  | ok xs S1 =>
    rw [q] at h
    intro μ1 H1 vs st1 sr1 r1
    refine ⟨by rw [← r1.length]; exact hlen xs S1 q, xs, S1, μ1, r1, sr1, ?_⟩
    exact Out.mono h (fun _ _ q => q.step st1) fun _ _ _ q => exF_of (q.step st1)
theorem fe_callD (C : CxE X W k) (G : FnOk X.prog X.w X.K X.mg X.base (L2.CX X.prog X.w) j f fd ps (spF X.K X.mg ps.length ff)) (hj : j ≤ k) (hg : Gl X x) (hm : X.mg x = some (.ref f)) (hk : PySem.W.keepIn X.K (.ref f) = true) (hb : Binds X.K fd ps ds)
    (hd : Vals dws ds) (hdv : ∀ (μ : List Addr) (H : Hp), VRs X.K X.mg μ H dvs dws)
    (ha : FA X W (e :: es) dl) (hdb : (x == ("__debug__" : Str)) = false := by decide) (he : starEach (e :: es) X.env = (false, eval e X.env) :: starEach es X.env := by rfl) (hpl : (backTo pos (starEach es X.env)).any (·.1) = false := by rfl)
    (hlen : ∀ ρ S xs S1, dl ρ S = .ok xs S1 → (xs ++ dvs).length = ps.length) :
    FE X W (.Call (.Name x p) (e :: es) [] pos) (eAppD ff dvs dl) := by
  refine PE_imp (pe_callSD G (C.room.mono hj) hg hm hk hb hd (fun σ => passAt C.tk σ) ha hdb he hpl) fun σ H Q h => ?_
  obtain ⟨ρ, S, μ, er, sr, h⟩ := h
  unfold eAppD at h
  have hlen := hlen ρ S
  refine ⟨ρ, S, μ, er, sr, ?_⟩
  cases q : dl ρ S with
  | stk => rw [q] at h; exact h
  | exc C fs S1 => rw [q] at h; exact h
  | ok xs S1 =>
    rw [q] at h
    intro μ1 H1 vs st1 sr1 r1
    have r2 := r1.app (hdv μ1 H1)
    refine ⟨by rw [← r2.length]; exact hlen xs S1 q, xs ++ dvs, S1, μ1, r2, sr1, ?_⟩
    exact Out.mono h (fun _ _ q => q.step st1) fun _ _ _ q => exF_of (q.step st1)
theorem fe_call0 (C : CxE X W k) (G : FnOk X.prog X.w X.K X.mg X.base (L2.CX X.prog X.w) j f fd [] (spF X.K X.mg 0 ff)) (hj : j ≤ k) (hg : Gl X x) (hm : X.mg x = some (.ref f)) (hk : PySem.W.keepIn X.K (.ref f) = true) (hb : Binds X.K fd [] [])
    (hdb : (x == ("__debug__" : Str)) = false := by decide) : FE X W (.Call (.Name x p) [] [] pos) (eApp ff aNil) := by
  refine ⟨fun pins s σ H Q I h => ?_⟩
  obtain ⟨ρ, S, μ, er, sr, h⟩ := h
  refine wpAny_Call_Name_kw (ld_glob I hg hm ?_ hdb)
  refine PySem.W.callWith_K0 I.kIn hk (run_fnS (E := WE W) (vs := []) (us := []) G (C.room.mono hj) hb (passAt C.tk σ) I .nil ?_)
  exact ⟨rfl, [], S, μ, .nil, sr, Out.mono h (fun _ _ q => q) fun _ _ _ q => exF_of q⟩
abbrev FK (X : Cx) (W : WX) (kws : List Keyword) (d : En → Sto → Res (List PV)) : Prop := PK X kws (tA X.K X.mg W d)
theorem fk_nil : FK X W [] aNil := ⟨fun pos pins s σ H Q I h => by
  obtain ⟨ρ, S, μ, er, sr, h⟩ := h
  exact pk_nil.run pos pins s σ H Q I (h μ H [] .refl sr .nil)⟩
theorem fk_cons {da : En → Sto → Res PV} {kws : List Keyword} {nm : Option Str} {kpos : Pos} (ha : FE X W e da) (hr : FK X W kws dl) : FK X W (⟨nm, e, kpos⟩ :: kws) (aCons da dl) := ⟨fun pos pins s σ H Q I h => by
  obtain ⟨ρ, S, μ, er, sr, h⟩ := h
  refine (pk_cons ha hr).run pos pins s σ H Q I ?_
  refine tG_bind er sr h fun x v S1 μ1 H1 st1 sr1 r1 er1 h1 => ?_
  refine tG_bind er1 sr1 h1 fun xs vs S2 μ2 H2 st2 sr2 r2 er2 h2 => ?_
  exact h2 μ2 H2 _ .refl sr2 (.cons (VR.mono sr1 st2 _ _ r1) r2)⟩
end
/-! ### the law -/
def spLaw (K : PySem.W.Frag) : Sp := fun vs H Q _ => ∃ (a : Addr) (ns : List Int), vs = [.ref a] ∧ SqL K H a (ns.map V.int) ∧ ns.length ≤ 63 ∧ Only H ∧ ∀ H', Q (.bl true) H'
theorem vrs_ints {K : PySem.W.Frag} {mg : Str → Option Value} {μ : List Addr} {H : Hp} : ∀ ns : List Int, VRs K mg μ H (ns.map PV.int) (ns.map V.int)
  | [] => .nil
  | n :: ns => .cons (.int n) (vrs_ints ns)
theorem law_fl {P : Program} {w : World} {K : PySem.W.Frag} {mg : Str → Option Value} {base : Heap} {j : Nat} {f : Addr} {fd : FuncData} {x : Str} {F : FF} (G : FnOk P w K mg base (L2.CX P w) j f fd [x] (spF K mg 1 F))
    (hF : ∀ ns : List Int, ns.length ≤ 63 → ∃ S', F [.kl (ns.map PV.int)] [] = .ok (.bl true) S') : FnOk P w K mg base (L2.CX P w) j f fd [x] (spLaw K) := by
  refine G.imp fun vs H Q E h => ?_
  obtain ⟨a, ns, rfl, hq, hl, ho, k⟩ := h
  obtain ⟨S', e⟩ := hF ns hl
  have hk : SqK K H a (ns.map V.int) := by
    rcases hq with (h | ⟨o, h⟩) | h
    · rcases ho a with z | ⟨o, xs, z⟩
      · rw [z] at h; cases h
      · rw [z] at h; cases h
    · exact .inl ⟨o, h⟩
    · exact .inr h
  refine ⟨rfl, [.kl (ns.map PV.int)], [], [], .cons (.kl hk (vrs_ints ns)) .nil, ⟨rfl, by simp, fun n a o e => by simp at e⟩, ?_⟩
  rw [e]
  intro μ' H' v st sr r
  cases r
  exact k H'
theorem cxl_no {P : Program} {w : World} (H : Hp) (s : Shared) (e : Value) (s' : Shared) (h : L2.CX P w [] H s (fun _ _ _ => False) e s') : False := by
  obtain ⟨_, _, _, _, _, _, _, _, _, _, _, _, z⟩ := h
  exact z
end FL

/-! FLg: chains, isinstance of built-in types, slices, zip, append, pop, two names at once, comprehensions stored. -/
namespace FL
open PySem PySem.Spec L2
section
variable {X : Cx} {W : WX} {e a b c : Expr} {es : List Expr} {pos : Pos} {da db dc : En → Sto → Res PV} {dl : En → Sto → Res (List PV)} {k : Nat}
/-! a < b < c -/
def eChain (f f' : PV → PV → Sto → OP) (da db dc : En → Sto → Res PV) : En → Sto → Res PV := fun ρ S => (da ρ S).bind fun x S1 => (db ρ S1).bind fun y S2 => match f x y S2 with
  | some (.bl true, S3) => (dc ρ S3).bind fun z S4 => ofO (f' y z S4)
  | some (.bl false, S3) => .ok (.bl false) S3
  | _ => .stk
theorem fe_chain {op op' : CmpOp} {f f' : PV → PV → Sto → OP} (ho : OpR X (compareOp op) (k2 X f)) (ho' : OpR X (compareOp op') (k2 X f')) (ha : FE X W a da) (hb : FE X W b db) (hc : FE X W c dc)
    (hm : lastMarks [op, op'] [b, c] = false := by with_unfolding_all rfl) : FE X W (.Compare a [op, op'] [b, c] pos) (eChain f f' da db dc) := by
  refine PE_imp (pe_chain ho ho' ha hb hc hm) fun σ H Q h => ?_
  obtain ⟨ρ, S, μ, er, sr, h⟩ := h
  refine tG_bind er sr h fun x v S1 μ1 H1 st1 sr1 r1 er1 h1 => ?_
  refine tG_bind er1 sr1 h1 fun y w S2 μ2 H2 st2 sr2 r2 er2 h2 => ?_
  refine ⟨x, y, S2, μ2, VR.mono sr1 st2 _ _ r1, r2, sr2, ?_⟩
  split at h2
  · rename_i S3 q
    rw [q]
    intro μ3 H3 v3 st3 sr3 r3
    cases r3
    refine ⟨true, rfl, ?_⟩
    rw [if_pos rfl]
    have h3 := h2.mono (fun _ _ q => q.step st3) fun _ _ _ q => q.step st3
    refine tG_bind (er2.mono sr2 st3) sr3 h3 fun z u S4 μ4 H4 st4 sr4 r4 er4 h4 => ?_
    exact ⟨y, z, S4, μ4, VR.mono sr3 st4 _ _ (VR.mono sr2 st3 _ _ r2), r4, sr4, ofO_ex h4⟩
  · rename_i S3 q
    rw [q]
    intro μ3 H3 v3 st3 sr3 r3
    cases r3
    refine ⟨false, rfl, ?_⟩
    rw [if_neg Bool.false_ne_true]
    exact h2 μ3 H3 _ st3 sr3 (.bl false)
  · exact h2.elim
theorem ft_chain {op op' : CmpOp} {as : List Expr} (h : FE X W (.Compare a [op, op'] as pos) da) (he : ∀ whole, isTrue (.Compare a [op, op'] as pos) X.env whole = (do let v ← whole; standAt pos; holding [v] (truthy v)) := by intro _; rfl) : FT X W (.Compare a [op, op'] as pos) (tOfE da) := ft_val h he

/-! isinstance(x, a built-in type) -/
def tyN (S : Sto) : PV → Option String
  | .non => some "NoneType"
  | .bl _ => some "bool"
  | .int _ => some "int"
  | .str _ => some "str"
  | .tup _ => some "tuple"
  | .kl _ => some "list"
  | .ref n => match S[n]? with
    | some (.lst _) => some "list"
    | some (.dic _) => some "dict"
    | _ => none
  | _ => none
def isiTab (T n : String) : Bool := T == n || (T == "int" && n == "bool")
def pIsi (T : String) : PV → Sto → OP := fun x S => match tyN S x with
  | some n => some (.bl (isiTab T n), S)
  | none => none
def IsiOk (T : String) : Prop := ∀ n ∈ ["NoneType", "bool", "int", "str", "tuple", "list", "dict"], kitB n T = some (isiTab T n)
theorem isi_int : IsiOk "int" := by unfold IsiOk; decide +kernel
theorem isi_bool : IsiOk "bool" := by unfold IsiOk; decide +kernel
theorem isi_tuple : IsiOk "tuple" := by unfold IsiOk; decide +kernel
theorem isi_str : IsiOk "str" := by unfold IsiOk; decide +kernel
theorem isi_list : IsiOk "list" := by unfold IsiOk; decide +kernel
theorem isi_dict : IsiOk "dict" := by unfold IsiOk; decide +kernel
theorem ty_of {K : PySem.W.Frag} {mg : Str → Option Value} {μ : List Addr} {S : Sto} {H : Hp} (sr : SR K mg μ S H) {x : PV} {v : V} {n : String} (r : VR K mg μ H x v) (e : tyN S x = some n) : TyX K H v (.type n) ∧ n ∈ ["NoneType", "bool", "int", "str", "tuple", "list", "dict"] := by
  cases r with
  | non => cases e; exact ⟨.base .non, by simp⟩
  | bl b => cases e; exact ⟨.base (.bl b), by simp⟩
  | int b => cases e; exact ⟨.base (.int b), by simp⟩
  | str b => cases e; exact ⟨.base (.str b), by simp⟩
  | ty n => cases e
  | glb q => cases e
  | tup hs ha =>
    cases e
    refine ⟨?_, by simp⟩
    rcases hs with (h | ⟨o, h⟩) | ⟨o, its, n, h1, h2, _⟩
    · exact .base (.tup h)
    · exact .fTuple h
    · exact .kTuple h1 h2
  | kl hs ha =>
    cases e
    refine ⟨?_, by simp⟩
    rcases hs with ⟨o, h⟩ | ⟨o, its, n, h1, h2, _⟩
    · exact .base (.frz h)
    · exact .kList h1 h2
  | ref hn =>
    simp only [tyN] at e
    split at e
    · rename_i q
      cases e
      cases sr.at_ _ _ _ hn q with
      | lst a1 _ => exact ⟨.base (.lst a1), by simp⟩
    · rename_i q
      cases e
      cases sr.at_ _ _ _ hn q with
      | dicK a1 _ => exact ⟨.base (.dK a1), by simp⟩
      | dicT a1 _ => exact ⟨.base (.dT a1), by simp⟩
    · cases e
theorem fe_isi {T : String} {x y : Str} {p q : Pos} (hg : Gl X x) (hm : X.mg x = none) (hg' : Gl X y) (hm' : X.mg y = none) (hv : bootBuiltins x = some (.builtin "isinstance")) (hv' : bootBuiltins y = some (.type T)) (ok : IsiOk T) (ha : FE X W e da)
    (hn : x ≠ "__name__" := by decide) (hdb : (x == ("__debug__" : Str)) = false := by decide) (hn' : y ≠ "__name__" := by decide) (hdb' : (y == ("__debug__" : Str)) = false := by decide)
    (he : starEach [e, .Name y q] X.env = (false, eval e X.env) :: starEach [.Name y q] X.env := by rfl) (he' : starEach [.Name y q] X.env = (false, eval (.Name y q) X.env) :: starEach [] X.env := by rfl)
    (hpl : (backTo pos (starEach [.Name y q] X.env)).any (·.1) = false := by rfl) : FE X W (.Call (.Name x p) [e, .Name y q] [] pos) (eUn (pIsi T) da) := by
  have hT : PE X (.Name y q) (tC (.ty T)) := pe_bltn hg' hm' hv' rfl hn' hdb'
  refine PE_imp (pe_callB call_isi hg hm hv (pa_cons ha (pa_cons hT pa_nil he') he) hn hdb he hpl) fun σ H Q h => ?_
  obtain ⟨ρ, S, μ, er, sr, h⟩ := h
  refine tG_bind er sr h fun x v S1 μ1 H1 st1 sr1 r1 er1 h1 => ?_
  unfold pIsi at h1
  cases q : tyN S1 x with
  | none => rw [q] at h1; exact h1.elim
  | some n =>
    rw [q] at h1
    obtain ⟨ht, hn⟩ := ty_of sr1 r1 q
    exact ⟨v, .ty T, .type n, .type T, isiTab T n, rfl, .ty T, ht, kit_ty (ok n hn), h1 μ1 H1 _ .refl sr1 (.bl _)⟩

/-! slices -/
abbrev OE := En → Sto → Res (Option Int)
def oNone : OE := fun _ S => .ok none S
def oSome (da : En → Sto → Res PV) : OE := fun ρ S => (da ρ S).bind fun x S1 => match x with
  | .int i => .ok (some i) S1
  | _ => .stk
def optR : List Addr → Hp → Option Int → Option Int → Prop := fun _ _ a b => a = b
abbrev FO (X : Cx) (W : WX) (e : Option Expr) (d : OE) : Prop := PO X e (tG X.K X.mg optR W d)
theorem fo_none : FO X W none oNone := ⟨fun pins s σ H Q I h => by
  obtain ⟨ρ, S, μ, er, sr, h⟩ := h
  exact po_none.run pins s σ H Q I (h μ H none .refl sr rfl)⟩
theorem fo_some (he : FE X W e da) : FO X W (some e) (oSome da) := ⟨fun pins s σ H Q I h => by
  obtain ⟨ρ, S, μ, er, sr, h⟩ := h
  refine (po_some he).run pins s σ H Q I ?_
  refine tG_bind er sr h fun x v S1 μ1 H1 st1 sr1 r1 er1 h1 => ?_
  cases r1 with
  | int i => exact ⟨i, rfl, h1 μ1 H1 _ .refl sr1 rfl⟩
  | _ => exact h1.elim⟩
def cutP (xs : List PV) (lo hi : Option Int) : List PV := (xs.drop (HT.sIx xs.length 0 lo)).take (HT.sIx xs.length xs.length hi - HT.sIx xs.length 0 lo)
def pSl (x : PV) (lo hi : Option Int) (S : Sto) : OP := match x with
  | .tup xs => some (.tup (cutP xs lo hi), S)
  | .str z => if z.length ≤ big then some (.str (cutS z lo hi), S) else none
  | x => match lstOf S x with
    | some xs => some (.ref S.length, S ++ [.lst (cutP xs lo hi)])
    | none => none
def eSl (da : En → Sto → Res PV) (dlo dhi : OE) : En → Sto → Res PV := fun ρ S => (da ρ S).bind fun x S1 => (dlo ρ S1).bind fun lo S2 => (dhi ρ S2).bind fun hi S3 => ofO (pSl x lo hi S3)
def kSl (X : Cx) : V → Option Int → Option Int → Hp → VK → Prop := fun v lo hi H Q => ∃ (x : PV) (S : Sto) (μ : List Addr), VR X.K X.mg μ H x v ∧ SR X.K X.mg μ S H ∧ Out (ofO (pSl x lo hi S)) (okG X.K X.mg (fun μ H => VR X.K X.mg μ H) μ H Q) (fun _ _ _ => False)
theorem cut_whole {xs : List PV} {lo hi : Option Int} (h : HT.sIx xs.length 0 lo = 0 ∧ HT.sIx xs.length xs.length hi = xs.length) : cutP xs lo hi = xs := by
  unfold cutP
  rw [h.1, h.2]
  simp
theorem VRs.cut {K : PySem.W.Frag} {mg : Str → Option Value} {μ : List Addr} {H : Hp} {xs : List PV} {vs : List V} (h : VRs K mg μ H xs vs) (lo hi : Option Int) : VRs K mg μ H (cutP xs lo hi) (cutV vs lo hi) := by
  unfold cutP cutV
  rw [← h.length]
  exact (h.drop _).take _
theorem sl_any : SlR X (kSl X) := by
  intro pins s σ H v vv vl vu lo hi sl Q I rv hs pl pu ⟨x, S, μ, hx, sr, h⟩
  have lst : ∀ {xs : List PV}, lstOf S x = some xs → (∀ ys, x ≠ PV.tup ys) → okG X.K X.mg (fun μ H => VR X.K X.mg μ H) μ H Q (.ref S.length) (S ++ [.lst (cutP xs lo hi)]) → ∃ T id, typeLookup (.type T) "__getitem__" = pure (some (.builtin id)) ∧ s.TypeIs vv T ∧ wpAny (model X.prog X.w) X.A (getItem vv (.ref sl)) (EP X pins σ Q) X.xe s := by
    intro xs e1 hn h
    obtain ⟨p, ws, rfl, _, ha, _, h4⟩ := seq_of (pins := pins) (s := s) (σ := σ) sr hx e1
    exact sl_list pins s σ H _ vv vl vu lo hi sl Q I rv hs pl pu ⟨p, ws, rfl, h4 hn, fun q hq => h (μ ++ [q]) _ _ (Stp.newObj hq) (sr.newObj hq (.lst upd_same (VRs.mono sr (Stp.newObj hq) _ _ (ha.cut lo hi)))) (.ref (by rw [← sr.len]; simp))⟩
  cases hx with
  | @tup a xs vs hq ha =>
    refine sl_tupA pins s σ H _ vv vl vu lo hi sl Q I rv hs pl pu ⟨a, vs, rfl, hq, fun hw => ?_, fun hw p hp => ?_⟩
    · rw [← ha.length] at hw
      have h := h μ H (.ref a) .refl sr
      rw [cut_whole hw] at h
      exact h (.tup hq ha)
    · exact h μ _ _ (Stp.fresh hp) (sr.fresh hp) (.tup (.of upd_same) (VRs.mono sr (Stp.fresh hp) _ _ (ha.cut lo hi)))
  | str z =>
    simp only [pSl] at h
    split at h
    · exact sl_str pins s σ H _ vv vl vu lo hi sl Q I rv hs pl pu ⟨z, rfl, Nat.le_trans ‹_› big_le, h μ H _ .refl sr (.str _)⟩
    · exact h.elim
  | kl hq ha => exact lst (xs := _) rfl (fun _ z => by cases z) h
  | @ref n a hn =>
    simp only [pSl] at h
    cases q : lstOf S (.ref n) with
    | none => rw [q] at h; exact h.elim
    | some xs => rw [q] at h; exact lst q (fun _ z => by cases z) h
  | non => exact h.elim
  | bl _ => exact h.elim
  | int _ => exact h.elim
  | ty _ => exact h.elim
  | glb _ => exact h.elim
theorem fe_sl {lo hi : Option Expr} {dlo dhi : OE} {p2 : Pos} (he : FE X W e da) (hl : FO X W lo dlo) (hu : FO X W hi dhi) : FE X W (.Subscript e (.Slice lo hi none p2) pos) (eSl da dlo dhi) := by
  refine PE_imp (pe_slice sl_any he hl hu) fun σ H Q h => ?_
  obtain ⟨ρ, S, μ, er, sr, h⟩ := h
  refine tG_bind er sr h fun x v S1 μ1 H1 st1 sr1 r1 er1 h1 => ?_
  refine tG_bind er1 sr1 h1 fun l l' S2 μ2 H2 st2 sr2 r2 er2 h2 => ?_
  obtain rfl : l = l' := r2
  refine tG_bind er2 sr2 h2 fun u u' S3 μ3 H3 st3 sr3 r3 er3 h3 => ?_
  obtain rfl : u = u' := r3
  exact ⟨x, S3, μ3, VR.mono sr2 st3 _ _ (VR.mono sr1 st2 _ _ r1), sr3, ofO_ex h3⟩
theorem fe_ix (ha : FE X W a da) (hb : FE X W b db) (hs : PlainIx b) : FE X W (.Subscript a b pos) (eBin pIx da db) := by
  refine PE_imp (pe_ix x_seq ha hb hs) fun σ H Q h => ?_
  obtain ⟨ρ, S, μ, er, sr, h⟩ := h
  refine tG_bind er sr h fun x v S1 μ1 H1 st1 sr1 r1 er1 h1 => ?_
  refine tG_bind er1 sr1 h1 fun y w S2 μ2 H2 st2 sr2 r2 er2 h2 => ?_
  exact ⟨x, y, S2, μ2, VR.mono sr1 st2 _ _ r1, r2, sr2, ofO_ex h2⟩

/-! zip of two tuples -/
def iZp (da : En → Sto → Res (List PV)) : En → Sto → Res Wlk := fun ρ S => (da ρ S).bind fun xs S1 => match xs with
  | [.tup xs, .tup ys] => .ok (.fix ((xs.zip ys).map fun p => .tup [p.1, p.2])) S1
  | _ => .stk
theorem sqt_inj {pins : List (Addr × Obj)} {s : Shared} {σ : L2.St} {H : Hp} {a : Addr} {xs ys : List V} (I : Inv X pins σ H s) (h : SqT X.K H a xs) (h' : SqT X.K H a ys) : xs = ys := I.tuple_inj h h'
theorem ir_zip {μ : List Addr} {S : Sto} {H : Hp} {xs ys : List PV} {a b : Addr} {vs ws : List V} (sr0 : SR X.K X.mg μ S H) (hs : SqT X.K H a vs) (hv : VRs X.K X.mg μ H xs vs) (hs' : SqT X.K H b ws) (hv' : VRs X.K X.mg μ H ys ws) :
    IR X μ H (.fix ((xs.zip ys).map fun p => .tup [p.1, p.2])) (RZ.ItzT X.K a b) := by
  intro i μ' S' H' st sr
  have hq := sr0.sqt st hs
  have hv := VRs.mono sr0 st _ _ hv
  have hq' := sr0.sqt st hs'
  have hv' := VRs.mono sr0 st _ _ hv'
  unfold itAt
  simp only [List.getElem?_map]
  cases q : (xs.zip ys)[i]? with
  | none =>
    refine ⟨vs, ws, hq, hq', ?_⟩
    have := List.getElem?_eq_none_iff.mp q
    rw [List.length_zip] at this
    rw [← hv.length, ← hv'.length]
    omega
  | some p =>
    obtain ⟨x, y⟩ := p
    obtain ⟨e1, e2⟩ := List.getElem?_zip_eq_some.mp q
    obtain ⟨v, f1, r1⟩ := hv.get e1
    obtain ⟨w, f2, r2⟩ := hv'.get e2
    refine ⟨⟨vs, ws, v, w, hq, hq', f1, f2⟩, fun u H2 hy => ?_⟩
    obtain ⟨T, x', y', rfl, hT, rfl, g1, g2⟩ := hy
    have g1 := g1 vs hq
    have g2 := g2 ws hq'
    rw [f1] at g1; cases g1
    rw [f2] at g2; cases g2
    exact ⟨Stp.fresh hT, sr.fresh hT, .tup (.of upd_same) (.cons (VR.mono sr (Stp.fresh hT) _ _ r1) (.cons (VR.mono sr (Stp.fresh hT) _ _ r2) .nil))⟩
theorem fi_zip {elts : List Expr} {kk : Nat} {tpos p : Pos} (hg : Gl X "zip") (hm : X.mg "zip" = none) (ha : FA X W [a, b] dl)
    (hs : starEach [a, b] X.env = (false, eval a X.env) :: starEach [b] X.env := by rfl) (hpl : (backTo pos (starEach [b] X.env)).any (·.1) = false := by rfl) : FI X W (.Tuple elts kk tpos) (.Call (.Name "zip" p) [a, b] [] pos) (iZp dl) := by
  refine PI_imp (RZ.pi_zipA hg hm ha hs hpl) fun σ H Q h => ?_
  obtain ⟨ρ, S, μ, er, sr, h⟩ := h
  refine tG_bind er sr h fun xs vs S1 μ1 H1 st1 sr1 r1 er1 h1 => ?_
  split at h1
  · obtain ⟨v, w, rfl, q1, q2⟩ := r1.two
    cases q1 with
    | tup a1 a2 =>
      cases q2 with
      | tup b1 b2 => exact ⟨_, _, _, _, rfl, .inr ⟨a1, b1, h1 μ1 H1 _ .refl sr1 (ir_zip sr1 a1 a2 b1 b2)⟩⟩
  · exact h1.elim

/-! methods of lists -/
def eMt (f : PV → List PV → Sto → OP) (da : En → Sto → Res PV) (dl : En → Sto → Res (List PV)) : En → Sto → Res PV := fun ρ S => (da ρ S).bind fun x S1 => match x with
  | .ref n => match S1[n]? with
    | some (.lst _) => (dl ρ S1).bind fun xs S2 => ofO (f x xs S2)
    | _ => .stk
  | _ => .stk
def eMt0 (f : PV → Sto → OP) (da : En → Sto → Res PV) : En → Sto → Res PV := fun ρ S => (da ρ S).bind fun x S1 => ofO (f x S1)
def mAppend : PV → List PV → Sto → OP := fun o xs S => match o, xs with
  | .ref n, [y] => match S[n]? with
    | some (.lst ys) => if ys.length < big then some (.non, S.set n (.lst (ys ++ [y]))) else none
    | _ => none
  | _, _ => none
def mPop : PV → Sto → OP := fun o S => match o with
  | .ref n => match S[n]? with
    | some (.lst ys) => match ys[ys.length - 1]? with
      | some y => some (y, S.set n (.lst ys.dropLast))
      | none => none
    | _ => none
  | _ => none
theorem VRs.dropLast {K : PySem.W.Frag} {mg : Str → Option Value} {μ : List Addr} {H : Hp} {xs : List PV} {vs : List V} (h : VRs K mg μ H xs vs) : VRs K mg μ H xs.dropLast vs.dropLast := by
  rw [List.dropLast_eq_take, List.dropLast_eq_take, h.length]
  exact h.take _
theorem fe_append {apos : Pos} (ho : FE X W a da) (hl : FA X W (e :: es) dl)
    (hbase : attributeBase a "append" X.env (eval a X.env) = eval a X.env := by rfl)
    (hfew : ((backTo pos (starEach (e :: es) X.env)).all (fun x => !x.1) && (backToKw pos (keywordEach [] X.env)).all (fun x => x.1.isSome)
      && decide ((e :: es).length + ([] : List Keyword).length + (if ([] : List Keyword).isEmpty then 0 else 1) < 30)) = true := by rfl)
    (hline : (apos.endLine == pos.line) = true := by rfl) (hs : starEach (e :: es) X.env = (false, eval e X.env) :: starEach es X.env := by rfl) (hplain : (backTo pos (starEach es X.env)).any (·.1) = false := by rfl) :
    FE X W (.Call (.Attribute a "append" apos) (e :: es) [] pos) (eMt mAppend da dl) := by
  refine PE_imp (pe_bm PySem.F.plainAttrs_list PySem.F.slot_list_append PySem.F.type_list_append mt_append ho hl hbase hfew hline hs hplain) fun σ H Q h => ?_
  obtain ⟨ρ, S, μ, er, sr, h⟩ := h
  refine tG_bind er sr h fun x v S1 μ1 H1 st1 sr1 r1 er1 h1 => ?_
  split at h1
  · split at h1
    · rename_i n _ q
      cases r1 with
      | ref hn =>
        cases sr1.at_ _ _ _ hn q with
        | lst a1 a2 =>
          refine ⟨.inl ⟨rfl, _, .of a1⟩, ?_⟩
          refine tG_bind er1 sr1 h1 fun xs vs S2 μ2 H2 st2 sr2 r2 er2 h2 => ?_
          unfold mAppend at h2
          split at h2
          · rename_i m y e1
            cases e1
            split at h2
            · rename_i ys q2
              split at h2
              · have hn2 := prefix_get st2.pre hn
                cases sr2.at_ _ _ _ hn2 q2 with
                | lst b1 b2 =>
                  obtain ⟨u, rfl, ru⟩ := r2.one
                  refine ⟨_, _, u, rfl, rfl, b1, by rw [← b2.length]; exact Nat.lt_trans ‹_› big_lt, ?_⟩
                  exact h2 μ2 _ _ (Stp.put hn2) (sr2.put hn2 (.lst upd_same (VRs.snoc (VRs.mono sr2 (Stp.put hn2) _ _ b2) (VR.mono sr2 (Stp.put hn2) _ _ ru)))) .non
              · exact h2.elim
            · exact h2.elim
          · exact h2.elim
    · exact h1.elim
  · exact h1.elim
theorem fe_pop {apos : Pos} (ho : FE X W a da) (hbase : attributeBase a "pop" X.env (eval a X.env) = eval a X.env := by rfl) (hline : (apos.endLine == pos.line) = true := by rfl) :
    FE X W (.Call (.Attribute a "pop" apos) [] [] pos) (eMt0 mPop da) := by
  refine PE_imp (pe_bm0 PySem.F.plainAttrs_list PySem.F.slot_list_pop PySem.F.type_list_pop mt_pop ho hbase hline) fun σ H Q h => ?_
  obtain ⟨ρ, S, μ, er, sr, h⟩ := h
  refine tG_bind er sr h fun x v S1 μ1 H1 st1 sr1 r1 er1 h1 => ?_
  unfold mPop at h1
  split at h1
  · split at h1
    · rename_i n ys q
      split at h1
      · rename_i y q2
        cases r1 with
        | ref hn =>
          cases sr1.at_ _ _ _ hn q with
          | lst a1 a2 =>
            obtain ⟨u, e2, ru⟩ := a2.get q2
            refine ⟨.inl ⟨rfl, _, .of a1⟩, _, _, u, rfl, rfl, a1, by rw [← a2.length]; exact e2, ?_⟩
            exact h1 μ1 _ _ (Stp.put hn) (sr1.put hn (.lst upd_same (VRs.mono sr1 (Stp.put hn) _ _ a2.dropLast))) (VR.mono sr1 (Stp.put hn) _ _ ru)
      · exact h1.elim
    · exact h1.elim
  · exact h1.elim

/-! a, b = x, y -/
def sPar (i j : Nat) (dl : En → Sto → Res (List PV)) : En → Sto → SRes := fun ρ S => liftE (dl ρ S) ρ fun xs S1 => match xs with
  | [x, y] => if i < ρ.length ∧ j < ρ.length then .ok .nx ((ρ.set i (some x)).set j (some y)) S1 else .stk
  | _ => .stk
theorem fs_par {i j : Nat} {x y : Str} {px py pt : Pos} {kt k2 : Nat} {pt2 : Pos} (hc : X.calm = true) (hN : X.N.Nodup) (hi : X.N[i]? = some x) (hj : X.N[j]? = some y) (hij : i ≠ j)
    (hx : X.env.scope.names.lookup x = some .local) (hy : X.env.scope.names.lookup y = some .local) (ha : FA X W [a, b] dl)
    (hw : swappedStores [.Tuple [.Name x px, .Name y py] kt pt] (.Tuple [a, b] k2 pt2) X.env = pure (some [x, y]))
    (hs : swapsWithSole [.Tuple [.Name x px, .Name y py] kt pt] (.Tuple [a, b] k2 pt2) pos.line X.env = pure false := by rfl) :
    FS X W (.Assign [.Tuple [.Name x px, .Name y py] kt pt] (.Tuple [a, b] k2 pt2) pos) (sPar i j dl) := by
  refine PS_imp (ps_par hc hN hi hj hij hx hy ha hw hs) fun D σ H h => ?_
  obtain ⟨ρ, S, μ, er, sr, h⟩ := h
  refine tS_bind er sr h fun xs vs S1 μ1 H1 st1 sr1 r1 er1 h1 => ?_
  split at h1
  · split at h1
    · rename_i hl
      obtain ⟨v, w, rfl, q1, q2⟩ := r1.two
      exact ⟨v, w, rfl, h1 μ1 H1 _ .refl ((er1.set hl.1 q1).set (by rw [List.length_set]; exact hl.2) q2) sr1⟩
    · exact h1.elim
  · exact h1.elim
/-! what is never reached -/
def sNev : En → Sto → SRes := fun _ _ => .stk
theorem fs_never {st : Stmt} : FS X W st sNev := PS_imp ps_never fun D σ H h => by
  obtain ⟨ρ, S, μ, er, sr, h⟩ := h
  exact h
end
end FL

/-! FLh: enumerate of a tuple or a list. -/
namespace FL
open PySem PySem.Spec L2
open Sem (wp)
abbrev tItO (t : Addr) : Obj := { cls := .type "tuple_iterator", data := .fields #[.ref t, .int 0 0] }
abbrev enO (p : Addr) : Obj := { cls := .type "enumerate", data := .fields #[.none, .bool false, .ref p, rawInt 0, .none, .none] }
set_option maxHeartbeats 1000000 in
theorem en_meets (t : Addr) (items : Array Value) :
    Meets (Builtin.«enumerate.__new__» ⟨[.type "enumerate", .ref t], []⟩)
      (fun _ R s => s.heap.IsTuple t items ∧
        R (.ok (.ret (.ref (s.heap.push (tItO t)).objs.size)))
          { s with heap := (s.heap.push (tItO t)).push (enO s.heap.objs.size) }) :=
  .of_wp fun prog w A R s hh => by
    obtain ⟨hp, g, d, tk, os⟩ := s
    obtain ⟨ht, hR⟩ := hh
    have hsub := sub_enumerate
    have it1 : ∀ {A' : Around} {E Q : Value → Shared → Prop},
        Q (.ref hp.objs.size) ⟨hp.push (tItO t), g, d, tk, os⟩ →
        wpAny (model prog w) A' (pyIter (.ref t)) Q E ⟨hp, g, d, tk, os⟩ :=
      fun q => (PySem.begins_tuple t items).iter prog w _ _ ⟨hp, g, d, tk, os⟩ _ ht q
    wp_walk using it1
    refine wpAny_stack_any fun _ => wpAny_pure ?_
    split
    · rename_i c _ _ _ _ _
      cases (c == Value.type "enumerate") <;>
        (wp_walk using it1; exact ⟨_, rfl, hR⟩)
    · wp_walk using it1
      exact ⟨_, rfl, hR⟩
section
variable {prog : Program} {w : World} {A : Around} {E : Value → Shared → Prop} {s : Shared}
theorem en_call {t : Addr} {items : Array Value} {Q : Value → Shared → Prop} (ht : s.heap.IsTuple t items)
    (k : ∀ h', IsEnum h' (s.heap.objs.size + 1) s.heap.objs.size 0 .none → h'.get? s.heap.objs.size = some (tItO t) →
      (∀ b o, s.heap.get? b = some o → h'.get? b = some o) → Q (.ref (s.heap.objs.size + 1)) { s with heap := h' }) :
    wpAny (model prog w) A (call (.type "enumerate") [.ref t]) Q E s := by
  refine callType_new F.called_enumerate (by decide) (F.typeCall_enumerate_1 _)
    (F.newCall_enumerate_1 _) (fun obj => F.args_object_init_2 obj _) F.entry_enumerate_new (en_meets t items) ⟨ht, ?_⟩
  have z : (s.heap.push (tItO t)).objs.size = s.heap.objs.size + 1 := Heap.size_push ..
  show _ ∧ _
  rw [z]
  have he : IsEnum ((s.heap.push (tItO t)).push (enO s.heap.objs.size)) (s.heap.objs.size + 1) s.heap.objs.size 0 .none := by
    have q := Heap.get?_push_size (s.heap.push (tItO t)) (o := enO s.heap.objs.size) rfl
    rw [z] at q
    exact q
  exact ⟨⟨_, he, rfl⟩, k _ he (Heap.get?_push_of_some _ (Heap.get?_push_size _ rfl)) fun b o x => Heap.get?_push_of_some _ (Heap.get?_push_of_some _ x)⟩
end
section
variable {prog : Program} {w : World} {A : Around} {E : Value → Shared → Prop} {s : Shared}
theorem en_end {e it t : Addr} {i : Nat} {items : Array Value} {old : Value} {Q : Option Value → Shared → Prop} (hh : A.handled = none) (he : IsEnum s.heap e it i old)
    (hit : s.heap.IsTupleIter it t i) (ht : s.heap.IsTuple t items) (hx : items[i]? = none) (k : ∀ h', Heap.ExtBut it s.heap h' → Q none { s with heap := h' }) :
    wpAny (model prog w) A (pyNext (.ref e)) Q E s := by
  have ty : s.TypeIs (.ref e) "enumerate" := ⟨_, he, rfl⟩
  have slot := PySem.F.slot_enumerate_next
  unfold pyNext
  refine wpAny_bind (wpAny_attempt
    (wpAny_callSpecial?_slot (name := Str.ofString "__next__") ty slot (wpAny_call_entry slot ty F.entry_enumerate_next ?_ (F.args_enumerate_next_1 _))))
  show wpAny _ _ (field (.ref e) 2 >>= _) _ _ _
  refine wpAny_bind (wpAny_field he rfl (x := .ref it) rfl (wpAny_bind ?_))
  refine PySem.wpAny_nextOf_tuple_end hh hit ht hx fun h' x hk ⟨o, ho, hc⟩ => ?_
  exact wpAny_bind (wpAny_isInstance (T := "StopIteration") (b := true) ⟨o, ho, hc⟩ isSubtype_stop (wpAny_pure (k _ hk)))
end
/-- the tuple at a, each item in a new pair with its place -/
def ItEn (K : PySem.W.Frag) (a : Addr) : It :=
  ⟨fun i H => ∃ (xs : List V) (x : V), SqT K H a xs ∧ xs[i]? = some x,
   fun i H v H' => ∃ T x, v = .ref T ∧ H T = none ∧ H' = upd H T (.tup [.int (i : Nat), x]) ∧ ∀ xs, SqT K H a xs → xs[i]? = some x,
   fun i H => ∃ xs : List V, SqT K H a xs ∧ xs.length ≤ i⟩
theorem en_turn {P : Program} {w : World} {K : PySem.W.Frag} {elts : List Expr} {kk : Nat} {tpos : Pos} (a e it : Addr) :
    Turn P w K (.Tuple elts kk tpos) (ItEn K a) [e, it] e
      (fun i h => (∃ old, IsEnum h e it ((i : Nat) : Int) old) ∧ h.IsTupleIter it a i ∧ e ≠ it) where
  mem := by simp
  obj := fun i h st b hb => by
    obtain ⟨⟨old, he⟩, ⟨o, ho, hc, hd⟩, _⟩ := st
    rcases (by simpa using hb : b = e ∨ b = it) with z | z
    · rw [z]
      exact ⟨_, he, fun v q => nomatch q⟩
    · rw [z]
      refine ⟨o, ho, fun v q => ?_⟩
      rw [hd] at q
      cases q
  keep := fun i h h' st k => by
    obtain ⟨⟨old, he⟩, hi, hne⟩ := st
    exact ⟨⟨old, k e (by simp) _ he⟩, hi.at fun o q => k it (by simp) o q, hne⟩
  item := by
    intro X hP hw hK hc i pins s σ H E I hf st hg
    subst hP hw hK
    obtain ⟨⟨old, he⟩, hit, hne⟩ := st
    obtain ⟨xs, x, hq, hx⟩ := hg
    obtain ⟨its, rv, p, hz⟩ := I.tuple hq
    obtain ⟨u, hu, ru⟩ := rv.get hx
    have hel : e < s.heap.objs.size := Heap.lt_size he
    have hil : it < s.heap.objs.size := by
      obtain ⟨_, q, _⟩ := hit
      exact Heap.lt_size q
    have hai : a ≠ it := by
      intro z
      subst z
      obtain ⟨o1, e1, c1, _⟩ := hit
      obtain ⟨o2, e2, c2, _⟩ := p
      rw [e1] at e2
      cases e2
      rw [c1] at c2
      injection c2 with z
      exact absurd z (by decide)
    have hae : e ∉ [it, a] := by
      intro z
      rcases List.mem_cons.mp z with z | z
      · exact hne z
      · rw [List.mem_singleton] at z
        subst z
        obtain ⟨o2, e2, c2, _⟩ := p
        rw [he] at e2
        cases e2
        injection c2 with z
        exact absurd z (by decide)
    have D := PySem.Draws.tuple (prog := X.prog) (w := X.w) (A := X.A.in1) (I.ok.hd hc) it a hai its.toArray
    have hlt : i < its.toArray.size := by
      have := (List.getElem?_eq_some_iff.mp hu).1
      simpa using this
    refine wpAny_pyNext_enum_itemC D he ⟨hit, p⟩ hlt hne hae fun y h' tk hP ho hs' hT hsz hk => ?_
    have hy : y = u := by
      have q : its[i]? = some y := by simpa using hP
      rw [hu] at q
      exact (Option.some.inj q).symm
    subst hy
    refine ⟨_, rfl, wpAny_letOwnedTupleGo_enum (s := { s with heap := h', toks := tk + 1 }) ho fun h'' he' sb => ?_⟩
    have hT2 : h''.get? s.heap.objs.size = some { cls := .type "tuple", data := .seq #[.int ((i : Nat) : Int) tk, y] } := (sb.2 _ (Nat.ne_of_gt hel)).trans hT
    have new : ObjOk X.prog X.w (upd H s.heap.objs.size (.tup [.int (i : Nat), x])) h'' s.heap.objs.size (.tup [.int (i : Nat), x]) :=
      ⟨by show 2 ≤ sizeLine; decide, [.int (i : Nat) tk, y], .cons ⟨_, rfl⟩ (.cons ru .nil), ⟨_, hT2, rfl, _, rfl⟩⟩
    have I1 : Inv X pins σ (upd H s.heap.objs.size (.tup [.int (i : Nat), x])) { s with heap := h'', toks := tk + 1 } :=
      I.turnedNew (ch := [e, it]) (fun b ob hb q => by
        have h1 : b ≠ e := fun z => hb (by simp [z])
        have h2 : b ≠ it := fun z => hb (by simp [z])
        exact (sb.2 b h1).trans (hk b ob h1 h2 q)) hf (Nat.le_refl _) new
    refine ⟨.ref s.heap.objs.size, _, I1, rfl, ⟨_, x, rfl, I.hok.fresh (Nat.le_refl _), rfl, fun ys hy => ?_⟩, ⟨⟨y, ?_⟩, hs'.1.at fun o q => (sb.2 it (Ne.symm hne)).trans q, hne⟩, fun b hb => ?_⟩
    · rw [I.tuple_inj hy hq]
      exact hx
    · have e1 : ((i + 1 : Nat) : Int) = (i : Int) + 1 := by omega
      rw [e1]
      exact he'
    · have hb' : b < s.heap.objs.size := by
        rcases (by simpa using hb : b = e ∨ b = it) with z | z
        · rw [z]; exact hel
        · rw [z]; exact hil
      rw [upd_ne (Nat.ne_of_lt hb')]
      exact (hf b hb).1
  done := by
    intro X hP hw hK hc i pins s σ H E I hf st hg
    subst hP hw hK
    obtain ⟨⟨old, he⟩, hit, hne⟩ := st
    obtain ⟨xs, hq, hx⟩ := hg
    obtain ⟨its, rv, p, hz⟩ := I.tuple hq
    obtain ⟨f0, f1, f2, f3, f4, f5⟩ := hf it (by simp)
    have hl := rv.length
    have hT : s.TypeIs (.ref e) "enumerate" := ⟨_, he, rfl⟩
    refine en_end (I.ok.hd hc) he hit p (by simp; omega) fun h' eb => ⟨rfl, I.turned (t' := s.toks) (fun b o hb q => eb b o hb q) f0 f1 f3 f4 f5⟩
  self := fun A i s Q E st h => by
    obtain ⟨⟨_, he⟩, _⟩ := st
    exact wpAny_pyIter_enum he h

def iEn (da : En → Sto → Res (List PV)) : En → Sto → Res Wlk := fun ρ S => (da ρ S).bind fun xs S1 => match xs with
  | [.tup xs] => .ok (.fix (xs.mapIdx fun i x => .tup [.int (i : Nat), x])) S1
  | _ => .stk
section
variable {X : Cx} {W : WX}
theorem pi_en {e : Expr} {ta : TA} {p pos tpos : Pos} {elts : List Expr} {kk : Nat} (hg : Gl X "enumerate") (hm : X.mg "enumerate" = none) (ha : PA X [e] ta)
    (hs : starEach [e] X.env = [(false, eval e X.env)] := by rfl) : PI X (.Tuple elts kk tpos) (.Call (.Name "enumerate" p) [e] [] pos)
      (fun σ H R => ta σ H fun vs H1 => ∃ a xs, vs = [.ref a] ∧ SqT X.K H1 a xs ∧ R (ItEn X.K a) H1) := by
  refine ⟨fun pins s σ H R I h => PyProof.Rows.Call_ (ld_blt I hg hm PyProof.Rows.boot_enumerate (PyProof.Rows.callWith_type1 ?_ hs rfl))⟩
  refine thn (ha.run pos pins s σ H _ I h) fun us s1 ⟨vs, H1, I1, r1, a, xs, ex, hq, q⟩ => ?_
  subst ex
  cases r1 with
  | cons r rr =>
    cases rr
    cases r
    obtain ⟨its, rv, tp, hz⟩ := I1.tuple hq
    refine en_call tp fun h' he hit hk => wpAny_pyIter_enum he ?_
    have I2 : Inv X pins σ H1 { s1 with heap := h' } := I1.kept (t' := s1.toks) hk
    refine ⟨s1.heap.objs.size + 1, [s1.heap.objs.size + 1, s1.heap.objs.size], _, _, H1, rfl, I2, en_turn a _ _, ⟨⟨.none, he⟩, ⟨_, hit, rfl, rfl⟩, Nat.succ_ne_self _⟩, fun b hb => ?_, q⟩
    have hle : s1.heap.objs.size ≤ b := by
      rcases (by simpa using hb : b = s1.heap.objs.size + 1 ∨ b = s1.heap.objs.size) with z | z
      · rw [z]; exact Nat.le_add_right _ _
      · rw [z]; exact Nat.le_refl _
    exact I1.fpOk hle (I1.hok.fresh hle)
theorem ir_en {μ : List Addr} {S : Sto} {H : Hp} {xs : List PV} {a : Addr} {vs : List V} (sr0 : SR X.K X.mg μ S H) (hs : SqT X.K H a vs) (hv : VRs X.K X.mg μ H xs vs) :
    IR X μ H (.fix (xs.mapIdx fun i x => .tup [.int (i : Nat), x])) (ItEn X.K a) := by
  intro i μ' S' H' st sr
  have hq := sr0.sqt st hs
  have hv := VRs.mono sr0 st _ _ hv
  unfold itAt
  simp only [List.getElem?_mapIdx]
  cases q : xs[i]? with
  | none => exact ⟨vs, hq, by rw [← hv.length]; exact List.getElem?_eq_none_iff.mp q⟩
  | some x =>
    obtain ⟨v, e, r⟩ := hv.get q
    refine ⟨⟨vs, v, hq, e⟩, fun u H2 hy => ?_⟩
    obtain ⟨T, y, rfl, hT, rfl, g⟩ := hy
    have g := g vs hq
    rw [e] at g
    cases g
    exact ⟨Stp.fresh hT, sr.fresh hT, .tup (.of upd_same) (.cons (.int _) (.cons (VR.mono sr (Stp.fresh hT) _ _ r) .nil))⟩
theorem fi_enum {e : Expr} {dl : En → Sto → Res (List PV)} {p pos tpos : Pos} {elts : List Expr} {kk : Nat} (hg : Gl X "enumerate") (hm : X.mg "enumerate" = none) (ha : FA X W [e] dl)
    (hs : starEach [e] X.env = [(false, eval e X.env)] := by rfl) : FI X W (.Tuple elts kk tpos) (.Call (.Name "enumerate" p) [e] [] pos) (iEn dl) := by
  refine PI_imp (pi_en hg hm ha hs) fun σ H Q h => ?_
  obtain ⟨ρ, S, μ, er, sr, h⟩ := h
  refine tG_bind er sr h fun xs vs S1 μ1 H1 st1 sr1 r1 er1 h1 => ?_
  split at h1
  · obtain ⟨v, rfl, q1⟩ := r1.one
    cases q1 with
    | tup a1 a2 => exact ⟨_, _, rfl, a1, h1 μ1 H1 _ .refl sr1 (ir_en sr1 a1 a2)⟩
  · exact h1.elim
end
end FL

/-! FLi: sorted lists. -/
namespace FL
open PySem PySem.Spec L2
open PySem.W (TotalLe sameRank sort_unique EachIs dataLe AllAlike Sortable alike)
section
variable {α : Type} {le : α → α → Bool}
def ins1 (le : α → α → Bool) (a : α) : List α → List α
  | [] => [a]
  | b :: l => if le a b = true then a :: b :: l else b :: ins1 le a l
def isort (le : α → α → Bool) : List α → List α
  | [] => []
  | a :: l => ins1 le a (isort le l)
theorem mem_ins1 {a x : α} : ∀ {l : List α}, x ∈ ins1 le a l ↔ x = a ∨ x ∈ l
  | [] => by simp [ins1]
  | b :: l => by
    unfold ins1
    split
    · simp
    · simp only [List.mem_cons, mem_ins1 (l := l)]
      constructor
      · rintro (h | h | h) <;> simp [h]
      · rintro (h | h | h) <;> simp [h]
theorem ins1_sorted (T : TotalLe le) {a : α} : ∀ {l : List α}, l.Pairwise (fun x y => le x y = true) → (ins1 le a l).Pairwise (fun x y => le x y = true)
  | [], _ => by simp [ins1]
  | b :: l, h => by
    obtain ⟨h1, h2⟩ := List.pairwise_cons.mp h
    unfold ins1
    split
    · rename_i hab
      refine List.pairwise_cons.mpr ⟨fun y hy => ?_, h⟩
      rcases List.mem_cons.mp hy with e | hy
      · rw [e]; exact hab
      · exact T.trans _ _ _ hab (h1 y hy)
    · rename_i hab
      have hba : le b a = true := (T.total a b).resolve_left hab
      refine List.pairwise_cons.mpr ⟨fun y hy => ?_, ins1_sorted T h2⟩
      rcases mem_ins1.mp hy with e | hy
      · rw [e]; exact hba
      · exact h1 y hy
theorem ins1_filter (T : TotalLe le) (c : α) {a : α} : ∀ {l : List α}, (ins1 le a l).filter (sameRank le c) = (a :: l).filter (sameRank le c)
  | [] => rfl
  | b :: l => by
    unfold ins1
    split
    · rfl
    · rename_i hab
      rw [List.filter_cons, ins1_filter T c (l := l), List.filter_cons (x := a), List.filter_cons (x := a), List.filter_cons (x := b)]
      by_cases ha : sameRank le c a = true
      · by_cases hb : sameRank le c b = true
        · exfalso
          unfold sameRank at ha hb
          rw [Bool.and_eq_true] at ha hb
          exact hab (T.trans _ _ _ ha.2 hb.1)
        · simp [ha, hb]
      · simp [ha]
theorem isort_eq (T : TotalLe le) (l : List α) : isort le l = l.mergeSort le := by
  refine sort_unique T ?_ fun c => ?_
  · induction l with
    | nil => exact .nil
    | cons a l ih => exact ins1_sorted T ih
  · induction l with
    | nil => rfl
    | cons a l ih =>
      show (ins1 le a (isort le l)).filter _ = _
      rw [ins1_filter T, List.filter_cons, List.filter_cons, ih]
end
def okSort (ds : List PyData) : Bool := (ds.all fun d => ds.all fun d' => alike d d') && ((ds.all fun d => match d with
  | .tuple (_ :: _) => true
  | _ => false) || ds.all fun d => match d with
  | .none => false
  | .tuple _ => false
  | _ => true)
theorem okSort_alike {ds : List PyData} (h : okSort ds = true) : AllAlike ds := by
  unfold okSort at h
  rw [Bool.and_eq_true] at h
  intro d hd d' hd'
  exact List.all_eq_true.mp (List.all_eq_true.mp h.1 d hd) d' hd'
theorem okSort_sortable {ds : List PyData} (h : okSort ds = true) : Sortable ds := by
  unfold okSort at h
  rw [Bool.and_eq_true, Bool.or_eq_true] at h
  rcases h.2 with h | h
  · refine .inl fun d hd => ?_
    have q := List.all_eq_true.mp h d hd
    split at q
    · exact ⟨_, _, rfl⟩
    · cases q
  · refine .inr fun d hd => ?_
    have q := List.all_eq_true.mp h d hd
    split at q
    · cases q
    · cases q
    · rename_i h1 h2
      exact ⟨h1, h2⟩
def leD : PV × PyData → PV × PyData → Bool := dataLe false fun p => p.2
theorem leD_total : TotalLe leD := by
  unfold leD dataLe
  exact PySem.W.sortLe_total _ _ _
def bSorted : List PV → Sto → OP
  | [.tup _], _ => none
  | [x], S => match lstOf S x with
    | some xs => match mapO (dOf S) xs with
      | some ds => if okSort ds && decide (xs.length ≤ big) then some (.ref S.length, S ++ [.lst ((isort leD (xs.zip ds)).map (·.1))]) else none
      | none => none
    | none => none
  | _, _ => none
section
variable {X : Cx} {W : WX}
theorem each_of {K : PySem.W.Frag} {mg : Str → Option Value} {μ : List Addr} {S : Sto} {H : Hp} {P : Value → PyData → Prop} (hP : ∀ x v u d, VR K mg μ H x v → RelV v u → dOf S x = some d → P u d) : ∀ {xs : List PV} {vs : List V} {us : List Value} {ds : List PyData}, VRs K mg μ H xs vs → Vals vs us → mapO (dOf S) xs = some ds →
    EachIs (fun (u : Value) (b : PV × PyData) => ∃ v, RelV v u ∧ VR K mg μ H b.1 v) us (xs.zip ds) ∧ EachIs (fun (u : Value) (b : PV × PyData) => P u b.2) us (xs.zip ds) ∧ (xs.zip ds).map (·.2) = ds
  | [], _, _, _, h, r, e => by
    cases h; cases r; cases e
    exact ⟨.nil, .nil, rfl⟩
  | x :: xs, _, _, ds, h, r, e => by
    cases h with
    | cons h1 h2 =>
      cases r with
      | cons r1 r2 =>
        unfold mapO at e
        cases q : dOf S x with
        | none => rw [q] at e; cases e
        | some d =>
          rw [q] at e
          cases q2 : mapO (dOf S) xs with
          | none => rw [q2] at e; cases e
          | some es =>
            rw [q2] at e
            cases e
            obtain ⟨a, b, c⟩ := each_of hP h2 r2 q2
            exact ⟨.cons ⟨_, r1, h1⟩ a, .cons (hP _ _ _ _ h1 r1 q) b, by simpa using c⟩
theorem each_out {K : PySem.W.Frag} {mg : Str → Option Value} {μ : List Addr} {H : Hp} : ∀ {us : List Value} {bs : List (PV × PyData)}, EachIs (fun (u : Value) (b : PV × PyData) => ∃ v, RelV v u ∧ VR K mg μ H b.1 v) us bs → ∃ vs, Vals vs us ∧ VRs K mg μ H (bs.map (·.1)) vs
  | _, _, .nil => ⟨[], .nil, .nil⟩
  | _, _, .cons ⟨v, r, h⟩ t => by
    obtain ⟨vs, a, b⟩ := each_out t
    exact ⟨v :: vs, .cons r a, .cons h b⟩
theorem isort_length {α : Type} {le : α → α → Bool} : ∀ l : List α, (isort le l).length = l.length
  | [] => rfl
  | a :: l => by
    have : ∀ m : List α, (ins1 le a m).length = m.length + 1 := by
      intro m
      induction m with
      | nil => rfl
      | cons b m ih =>
        unfold ins1
        split
        · rfl
        · simp [ih]
    show (ins1 le a (isort le l)).length = _
    rw [this, isort_length l]
    rfl
theorem b_sorted (hu : X.A.units + 64 < cLine) : CallR X (.builtin "sorted") (kL X bSorted) := by
  refine kL_of fun pins s σ H xs vs us S μ z S' Q I rv hx sr e h => ?_
  unfold bSorted at e
  split at e
  · cases e
  · rename_i x hnt
    split at e
    · rename_i ys e1
      split at e
      · rename_i ds e2
        split at e
        · rename_i hok
          cases e
          rw [Bool.and_eq_true, decide_eq_true_eq] at hok
          obtain ⟨v, rfl, hv⟩ := hx.one
          obtain ⟨p, ws, rfl, _, ha, _, h4⟩ := seq_of (pins := pins) (s := s) (σ := σ) sr hv e1
          obtain ⟨its, rv2, pl, _⟩ := I.list (h4 hnt)
          have hP : ∀ x v u d, VR X.K X.mg μ H x v → RelV v u → dOf S x = some d → (∃ as, Reads s.heap u d as) ∧ d.depth ≤ 40 := fun x v u d r1 r2 q => by
            obtain ⟨q1, q2, q3⟩ := reads_of I r2 r1 sr q
            exact ⟨q1, q3⟩
          obtain ⟨ea, eb, ec⟩ := each_of hP ha rv2 e2
          rw [Vals.ref1 rv]
          have hlen : (ys.zip ds).length = ys.length := by
            have q := congrArg List.length ec
            have q2 := ea.length
            rw [List.length_map] at q
            have q3 := rv2.length
            have q4 := ha.length
            omega
          refine PySem.W.sorted_data (enc := fun p : PV × PyData => p.2) pl.isList ea (eb.mono fun _ _ q => q.1) (by rw [ec]; exact okSort_alike hok.1) (by rw [ec]; exact okSort_sortable hok.1) (by rw [hlen]; exact Nat.le_trans hok.2 big_le) (fun b hb => ?_) fun out ho eo => ?_
          · have : ∀ {us : List Value} {bs : List (PV × PyData)}, EachIs (fun (u : Value) (b : PV × PyData) => (∃ as, Reads s.heap u b.2 as) ∧ b.2.depth ≤ 40) us bs → b ∈ bs → b.2.depth ≤ 40 := by
              intro us bs q
              induction q with
              | nil => intro q; cases q
              | cons r _ ih =>
                intro q
                rcases List.mem_cons.mp q with z | z
                · rw [z]; exact r.2
                · exact ih z
            have := this eb hb
            omega
          · obtain ⟨vs', r1, r2⟩ := each_out eo
            obtain ⟨ep, he'⟩ := PyProof.Rows.sortedAll_at s.heap its out.toArray
            have hf : H (s.heap.objs.size + 1) = none := I.hok.fresh (Nat.le_succ _)
            have e3 : (isort leD (ys.zip ds)).map (·.1) = ((ys.zip ds).mergeSort (dataLe false fun p : PV × PyData => p.2)).map (·.1) := by
              rw [isort_eq leD_total]
              rfl
            have hl2 : vs'.length ≤ sizeLine := by
              rw [← r2.length, List.length_map, List.length_mergeSort, hlen]
              exact Nat.le_trans hok.2 big_le
            refine ⟨.ref _, upd H (s.heap.objs.size + 1) (.lst vs'), I.laid (t' := s.toks) (fun _ _ => PyProof.Rows.sortedAll_old) (Nat.le_succ _) ⟨hl2, out, ep, r1, he'⟩, rfl, ?_⟩
            rw [e3] at h
            exact h (μ ++ [_]) _ _ (Stp.newObj hf) (sr.newObj hf (.lst upd_same (VRs.mono sr (Stp.newObj hf) _ _ r2))) (.ref (by rw [← sr.len]; simp))
        · cases e
      · cases e
    · cases e
  · cases e
/-! starred items -/
def aStar (da : En → Sto → Res PV) (dr : En → Sto → Res (List PV)) : En → Sto → Res (List PV) := fun ρ S => (da ρ S).bind fun x S1 => match lstOf S1 x with
  | some xs => (dr ρ S1).bind fun ys S2 => .ok (xs ++ ys) S2
  | none => .stk
theorem fa_star {e : Expr} {es : List Expr} {p : Pos} {da : En → Sto → Res PV} {dl : En → Sto → Res (List PV)} (ha : FE X W e da) (hr : FA X W es dl) (hs : starEach (.Starred e p :: es) X.env = (true, eval e X.env) :: starEach es X.env := by rfl) : FA X W (.Starred e p :: es) (aStar da dl) := by
  refine ⟨fun pos pins s σ H Q I h => ?_⟩
  obtain ⟨ρ, S, μ, er, sr, h⟩ := h
  refine (StX.pa_star ha hr hs).run pos pins s σ H Q I ?_
  unfold aStar at h
  refine tG_bind er sr h fun x v S1 μ1 H1 st1 sr1 r1 er1 h1 => ?_
  split at h1
  · rename_i xs e1
    obtain ⟨p, ws, rfl, hq, hv, _⟩ := seq_of (pins := pins) (s := s) (σ := σ) sr1 r1 e1
    refine ⟨p, ws, rfl, hq.symm, ?_⟩
    refine tG_bind er1 sr1 h1 fun ys vs S2 μ2 H2 st2 sr2 r2 er2 h2 => ?_
    exact h2 μ2 H2 _ .refl sr2 ((VRs.mono sr1 st2 _ _ hv).app r2)
  · exact h1.elim
end
end FL

/-! FLj: instances: attributes, making, methods, isinstance. -/
namespace FL
open PySem PySem.Spec L2
def putP (f : Str) (v : PV) : List (Str × PV) → List (Str × PV)
  | [] => [(f, v)]
  | (g, x) :: r => if g = f then (g, v) :: r else (g, x) :: putP f v r
def lookP (f : Str) : List (Str × PV) → Option PV
  | [] => none
  | (g, x) :: r => if g = f then some x else lookP f r
def eFld (Cs : List Str) (f : Str) (da : En → Sto → Res PV) : En → Sto → Res PV := fun ρ S => (da ρ S).bind fun x S1 => match x with
  | .ref n => match S1[n]? with
    | some (.ins C fs) => if C ∈ Cs then (match lookP f fs with
      | some v => .ok v S1
      | none => .stk) else .stk
    | _ => .stk
  | _ => .stk
def sFldS (Cs : List Str) (f : Str) (dv da : En → Sto → Res PV) : En → Sto → SRes := fun ρ S => liftE (dv ρ S) ρ fun y S1 => liftE (da ρ S1) ρ fun x S2 => match x with
  | .ref n => match S2[n]? with
    | some (.ins C fs) => if C ∈ Cs ∧ fs.length < 1000 then .ok .nx ρ (S2.set n (.ins C (putP f y fs))) else .stk
    | _ => .stk
  | _ => .stk
/-- the classes Cs have no attribute f of their own -/
def AttrOk (K : PySem.W.Frag) (mg : Str → Option Value) (Cs : List Str) (f : Str) : Prop := ∀ C ∈ Cs, ∃ c, mg C = some (.ref c) ∧ Cls K c ∧ NoAttr K c f
theorem attr_nil {K : PySem.W.Frag} {mg : Str → Option Value} {f : Str} : AttrOk K mg [] f := fun _ h => nomatch h
theorem attr_cons {K : PySem.W.Frag} {mg : Str → Option Value} {f C : Str} {Cs : List Str} {c : Addr} (m : mg C = some (.ref c)) (cl : Cls K c) (n : NoAttr K c f) (h : AttrOk K mg Cs f) : AttrOk K mg (C :: Cs) f := fun D hD => by
  rcases List.mem_cons.mp hD with e | hD
  · rw [e]; exact ⟨c, m, cl, n⟩
  · exact h D hD
section
variable {K : PySem.W.Frag} {mg : Str → Option Value} {μ : List Addr} {H : Hp}
theorem FRs.look {fs : List (Str × PV)} {gs : List (Str × V)} (h : FRs K mg μ H fs gs) {f : Str} {x : PV} (e : lookP f fs = some x) : ∃ v, gs.lookup f = some v ∧ VR K mg μ H x v := by
  induction h with
  | nil => cases e
  | @cons g y v fs gs r _ ih =>
    unfold lookP at e
    by_cases hg : g = f
    · rw [if_pos hg] at e
      cases e
      subst hg
      exact ⟨v, by simp [List.lookup], r⟩
    · rw [if_neg hg] at e
      obtain ⟨w, e1, q⟩ := ih e
      refine ⟨w, ?_, q⟩
      have : (f == g) = false := beq_eq_false_iff_ne.mpr (Ne.symm hg)
      simp only [List.lookup, this]
      exact e1
theorem FRs.none {fs : List (Str × PV)} {gs : List (Str × V)} (h : FRs K mg μ H fs gs) {f : Str} (e : lookP f fs = none) : gs.lookup f = none := by
  induction h with
  | nil => rfl
  | @cons g y v fs gs r _ ih =>
    unfold lookP at e
    by_cases hg : g = f
    · rw [if_pos hg] at e; cases e
    · rw [if_neg hg] at e
      have : (f == g) = false := beq_eq_false_iff_ne.mpr (Ne.symm hg)
      simp only [List.lookup, this]
      exact ih e
theorem FRs.length {fs : List (Str × PV)} {gs : List (Str × V)} (h : FRs K mg μ H fs gs) : fs.length = gs.length := by
  induction h with
  | nil => rfl
  | cons _ _ ih => simp [ih]
theorem FRs.put {fs : List (Str × PV)} {gs : List (Str × V)} (h : FRs K mg μ H fs gs) {f : Str} {x : PV} {v : V} (r : VR K mg μ H x v) : FRs K mg μ H (putP f x fs) (putF f v gs) := by
  induction h with
  | nil => exact .cons r .nil
  | @cons g y w fs gs q h ih =>
    unfold putP putF
    by_cases hg : g = f
    · rw [if_pos hg, if_pos hg]
      exact .cons r h
    · rw [if_neg hg, if_neg hg]
      exact .cons q ih
end
section
variable {X : Cx} {W : WX} {e a o value : Expr} {es : List Expr} {f : Str} {pos pos' : Pos} {da dv : En → Sto → Res PV} {dl : En → Sto → Res (List PV)} {Cs : List Str}
theorem fe_fld (ok : AttrOk X.K X.mg Cs f) (he : FE X W e da) (hb : attributeBase e f X.env (eval e X.env) = eval e X.env := by rfl) : FE X W (.Attribute e f pos) (eFld Cs f da) := by
  refine PE_imp (pe_fld he hb) fun σ H Q h => ?_
  obtain ⟨ρ, S, μ, er, sr, h⟩ := h
  refine tG_bind er sr h fun x v S1 μ1 H1 st1 sr1 r1 er1 h1 => ?_
  split at h1
  · split at h1
    · rename_i q
      split at h1
      · rename_i hC
        split at h1
        · rename_i y e2
          cases r1 with
          | ref hn =>
            cases sr1.at_ _ _ _ hn q with
            | ins a1 a2 a3 =>
              obtain ⟨c, b1, b2, b3⟩ := ok _ hC
              rw [a1] at b1
              cases b1
              obtain ⟨u, e3, r3⟩ := a3.look e2
              exact ⟨_, _, _, _, u, rfl, a2, b2, b3, e3, h1 μ1 H1 _ .refl sr1 r3⟩
        · exact h1.elim
      · exact h1.elim
    · exact h1.elim
  · exact h1.elim
theorem fs_fld (ok : AttrOk X.K X.mg Cs f) (ha : FE X W o da) (hv : FE X W value dv) (hs : swapsWith value (some (.Attribute o f pos')) pos.line X.env = pure false := by rfl) : FS X W (.Assign [.Attribute o f pos'] value pos) (sFldS Cs f dv da) := by
  refine PS_imp (ps_fld ha hv hs) fun D σ H h => ?_
  obtain ⟨ρ, S, μ, er, sr, h⟩ := h
  refine tS_bind er sr h fun y v S1 μ1 H1 st1 sr1 r1 er1 h1 => ?_
  refine tS_bind er1 sr1 h1 fun x u S2 μ2 H2 st2 sr2 r2 er2 h2 => ?_
  split at h2
  · split at h2
    · rename_i q
      split at h2
      · rename_i hC
        cases r2 with
        | ref hn =>
          cases sr2.at_ _ _ _ hn q with
          | ins a1 a2 a3 =>
            obtain ⟨c, b1, b2, b3⟩ := ok _ hC.1
            rw [a1] at b1
            cases b1
            refine ⟨_, _, _, _, rfl, a2, b2, b3, by rw [← a3.length]; exact hC.2, ?_⟩
            exact h2 μ2 _ σ (Stp.put hn) (er2.mono sr2 (Stp.put hn)) (sr2.put hn (.ins a1 upd_same ((a3.mono sr2 (Stp.put hn)).put (VR.mono sr2 (Stp.put hn) _ _ (VR.mono sr1 st2 _ _ r1)))))
      · exact h2.elim
    · exact h2.elim
  · exact h2.elim
/-! C(..) -/
def eMake (C : Str) (f : FF) (dvs : List PV) (dl : En → Sto → Res (List PV)) : En → Sto → Res PV := fun ρ S => (dl ρ S).bind fun xs S1 => match f (.ref S1.length :: (xs ++ dvs)) (S1 ++ [.ins C []]) with
  | .ok .non S2 => .ok (.ref S1.length) S2
  | .ok _ _ => .stk
  | .exc D fs S2 => .exc D fs S2
  | .stk => .stk
section
variable {c f1 : Addr} {fd : FuncData} {ps : List Str} {sp : Sp} {j k : Nat} {ff : FF} {C : Str} {ds : List Value} {dvs : List PV} {dws : List V} {p : Pos} {E : XK}
theorem make_run {pins : List (Addr × Obj)} {σ : L2.St} {H : Hp} {s : Shared} {Q : VK} {us : List Value} {vs : List V} (M : Mk X.K c f1) (F : FnOk X.prog X.w X.K X.mg X.base (L2.CX X.prog X.w) j f1 fd ps sp) (hr : Room (j + 1) X.A) (hb : Binds X.K fd ps ds) (hd : Vals dws ds)
    (hx : Takes X W) (I : Inv X pins σ H s) (r : Vals vs us)
    (h : ∀ x dx, H x = none → H dx = none → dx ≠ x → sp (.ref x :: (vs ++ dws)) (upd (upd H dx (.own x)) x (.ins c dx [])) (fun v H2 => v = .non ∧ Q (.ref x) H2) (WE W σ)) :
    wpAny (model X.prog X.w) X.A (call (.ref c) us) (EP X pins σ Q) X.xe s := by
  generalize ex : s.heap.objs.size + 1 = x
  have fx : H x = none := I.hok.fresh (by rw [← ex]; exact Nat.le_succ _)
  have fd' : H s.heap.objs.size = none := I.hok.fresh (Nat.le_refl _)
  have hne : s.heap.objs.size ≠ x := by rw [← ex]; exact Nat.ne_of_lt (Nat.lt_succ_self _)
  have hq := h x s.heap.objs.size fx fd' hne
  have I2 := Inv.made (C := c) I
  rw [ex] at I2
  have r2 : Vals (V.ref x :: (vs ++ dws)) (Value.ref x :: (us ++ ds)) := .cons rfl (r.append hd)
  have hl : (Value.ref x :: us ++ ds).length = ps.length := (F.len _ _ _ _ hq ▸ r2.length).symm
  refine wpAny_call (make_map (f := f1) I.kIn M.makes M.init (beq_iff_eq.mp M.fn) ?_)
  rw [ex]
  have run := F.run _ X.stack _ _ ⟨Value.ref x :: us, []⟩ (Value.ref x :: (us ++ ds)) _ _ (WE W σ) (hr.make c us []) (I2.env0.make c us []) (hb _ (Value.ref x :: us) I2.kIn hl) r2 hq
  refine codeAny_mono run fun rr s' hq' => ?_
  cases rr with
  | error ee => exact passAt hx σ pins _ _ ee s' I2 hq'
  | ok fl =>
    cases fl with
    | ret u =>
      obtain ⟨v, H', I3, rv, ev, q3⟩ := I2.after hq'
      subst ev
      exact ⟨rv, V.ref x, H', I3, rfl, q3⟩
    | _ => exact False.elim hq'
theorem fe_make (Cx : CxE X W k) (M : Mk X.K c f1) (G : FnOk X.prog X.w X.K X.mg X.base (L2.CX X.prog X.w) j f1 fd ps (spF X.K X.mg ps.length ff)) (hj : j + 1 ≤ k) (hg : Gl X C) (hm : X.mg C = some (.ref c)) (hb : Binds X.K fd ps ds) (hd : Vals dws ds)
    (hdv : ∀ (μ : List Addr) (H : Hp), VRs X.K X.mg μ H dvs dws) (ha : FA X W (e :: es) dl) (hlen : ∀ ρ S xs S1, dl ρ S = .ok xs S1 → (PV.non :: (xs ++ dvs)).length = ps.length)
    (hdb : (C == ("__debug__" : Str)) = false := by decide) (he : starEach (e :: es) X.env = (false, eval e X.env) :: starEach es X.env := by rfl) (hpl : (backTo pos (starEach es X.env)).any (·.1) = false := by rfl) :
    FE X W (.Call (.Name C p) (e :: es) [] pos) (eMake C ff dvs dl) := by
  refine ⟨fun pins s σ H Q I h => ?_⟩
  obtain ⟨ρ, S, μ, er, sr, h⟩ := h
  have hlen := hlen ρ S
  have hA : tA X.K X.mg W dl σ H (fun vs H1 => ∀ x dx, H1 x = none → H1 dx = none → dx ≠ x → spF X.K X.mg ps.length ff (.ref x :: (vs ++ dws)) (upd (upd H1 dx (.own x)) x (.ins c dx [])) (fun v H2 => v = .non ∧ Q (.ref x) H2) (WE W σ)) := by
    unfold eMake at h
    refine ⟨ρ, S, μ, er, sr, ?_⟩
    cases q : dl ρ S with
    | stk => rw [q] at h; exact h
    | exc D fs S1 => rw [q] at h; exact h
    | ok xs S1 =>
      rw [q] at h
      intro μ1 H1 vs st1 sr1 r1 x dx hx hdx hne
      have hx' : upd H1 dx (.own x) x = none := by rw [upd_ne (Ne.symm hne)]; exact hx
      have sr2 := sr1.fresh (o := .own x) hdx
      have st2 : Stp μ1 H1 μ1 (upd H1 dx (.own x)) := Stp.fresh hdx
      have st3 : Stp μ1 (upd H1 dx (.own x)) (μ1 ++ [x]) (upd (upd H1 dx (.own x)) x (.ins c dx [])) := Stp.newObj hx'
      have sr3 := sr2.newObj hx' (o := .ins c dx []) (u := .ins C []) (.ins hm upd_same .nil)
      have st23 := st2.trans st3
      have rn : (μ1 ++ [x])[S1.length]? = some x := by rw [← sr1.len]; simp
      refine ⟨?_, .ref S1.length :: (xs ++ dvs), S1 ++ [.ins C []], μ1 ++ [x], .cons (.ref rn) ((VRs.mono sr1 st23 _ _ r1).app (hdv _ _)), sr3, ?_⟩
      · have q1 := hlen xs S1 q
        have q2 := r1.length
        have q3 := (hdv [] (fun _ => none)).length
        simp only [List.length_cons, List.length_append] at q1 ⊢
        omega
      · simp only [Res.bind] at h
        cases q2 : ff (.ref S1.length :: (xs ++ dvs)) (S1 ++ [.ins C []]) with
        | stk => rw [q2] at h; exact h
        | exc D fs S2 =>
          rw [q2] at h
          exact fun μ4 H4 c4 d4 st4 sr4 xr => h μ4 H4 c4 d4 ((st1.trans st23).trans st4) sr4 xr
        | ok v S2 =>
          rw [q2] at h
          intro μ4 H4 v4 st4 sr4 r4
          cases r4 with
          | non => exact ⟨rfl, h μ4 H4 _ ((st1.trans st23).trans st4) sr4 (.ref (prefix_get st4.pre rn))⟩
          | _ => exact h.elim
  refine wpAny_Call_Name_kw (ld_glob I hg hm ?_ hdb)
  refine PySem.W.callWith_K (h₀ := X.base) I.ok.mod.kin M.kp ?_ he hpl
  exact thn (ha.run pos pins s σ H _ I hA) fun us s1 ⟨vs, H1, I1, r, q⟩ => ⟨I1.kIn, make_run M G (Cx.room.mono hj) hb hd Cx.tk I1 r q⟩
end
/-! isinstance(x, a class of one's own) -/
/-- what is known of isinstance(.., C): the built-in types are none of it; the own classes Ds by the list -/
structure IsC (K : PySem.W.Frag) (mg : Str → Option Value) (c : Addr) (Ds : List (Str × Bool)) : Prop where
  ty : ∀ n ∈ ["NoneType", "bool", "int", "str", "tuple", "list", "dict"], PySem.W.kitOne K (.type n) (.ref c) = some false
  own : ∀ p ∈ Ds, ∃ d, mg p.1 = some (.ref d) ∧ PySem.W.kitOne K (.ref d) (.ref c) = some p.2 ∧ Cls K d ∧ PySem.W.findIn K (.ref d) "__class__" = some (some (.builtin "object.__class__")) ∧ PySem.W.mroIn K d (.type "object") = some true
  gt : PySem.W.specialIn K (.builtin "object.__class__") "__get__" = some (some (.builtin "getset_descriptor.__get__"))
  tk : PySem.W.takesIn K (.builtin "object.__class__") = some true
def pIsC (Ds : List (Str × Bool)) : PV → Sto → OP := fun x S => match x with
  | .ref n => match S[n]? with
    | some (.ins D _) => match Ds.lookup D with
      | some b => some (.bl b, S)
      | none => none
    | some _ => some (.bl false, S)
    | none => none
  | .glb _ => none
  | .ty _ => none
  | _ => some (.bl false, S)
theorem mem_of_lookup {D : Str} {b : Bool} : ∀ {Ds : List (Str × Bool)}, Ds.lookup D = some b → (D, b) ∈ Ds
  | [], h => by cases h
  | (E, c) :: r, h => by
    by_cases e : D = E
    · subst e
      simp [List.lookup] at h
      subst h
      exact List.mem_cons_self
    · have : (D == E) = false := beq_eq_false_iff_ne.mpr e
      simp only [List.lookup, this] at h
      exact List.mem_cons_of_mem _ (mem_of_lookup h)
theorem fe_isc {x y : Str} {p q : Pos} {c : Addr} {Ds : List (Str × Bool)} (ok : IsC X.K X.mg c Ds) (hg : Gl X x) (hm : X.mg x = none) (hg' : Gl X y) (hm' : X.mg y = some (.ref c)) (hv : bootBuiltins x = some (.builtin "isinstance")) (ha : FE X W e da)
    (hn : x ≠ "__name__" := by decide) (hdb : (x == ("__debug__" : Str)) = false := by decide) (hdb' : (y == ("__debug__" : Str)) = false := by decide)
    (he : starEach [e, .Name y q] X.env = (false, eval e X.env) :: starEach [.Name y q] X.env := by rfl) (he' : starEach [.Name y q] X.env = (false, eval (.Name y q) X.env) :: starEach [] X.env := by rfl)
    (hpl : (backTo pos (starEach [.Name y q] X.env)).any (·.1) = false := by rfl) : FE X W (.Call (.Name x p) [e, .Name y q] [] pos) (eUn (pIsC Ds) da) := by
  have hT : PE X (.Name y q) (tC (.ref c)) := pe_glob hg' hm' rfl hdb'
  refine PE_imp (pe_callB call_isi hg hm hv (pa_cons ha (pa_cons hT pa_nil he') he) hn hdb he hpl) fun σ H Q h => ?_
  obtain ⟨ρ, S, μ, er, sr, h⟩ := h
  refine tG_bind er sr h fun x v S1 μ1 H1 st1 sr1 r1 er1 h1 => ?_
  have base : ∀ n, tyN S1 x = some n → Out (.ok (.bl false) S1) (okG X.K X.mg (fun μ H => VR X.K X.mg μ H) μ1 H1 Q) (exG X.K X.mg W σ μ1 H1) → rIsi X.K [v, .ref c] H1 Q := fun n e h => by
    obtain ⟨t1, t2⟩ := ty_of sr1 r1 e
    exact ⟨v, .ref c, .type n, .ref c, false, rfl, .own c, t1, ok.ty n t2, h μ1 H1 _ .refl sr1 (.bl _)⟩
  unfold pIsC at h1
  cases x with
  | non => exact base _ rfl h1
  | bl _ => exact base _ rfl h1
  | int _ => exact base _ rfl h1
  | str _ => exact base _ rfl h1
  | tup _ => exact base _ rfl h1
  | kl _ => exact base _ rfl h1
  | glb _ => exact h1.elim
  | ty _ => exact h1.elim
  | ref n =>
    simp only at h1
    cases q1 : S1[n]? with
    | none => rw [q1] at h1; exact h1.elim
    | some u =>
      rw [q1] at h1
      cases u with
      | lst xs => exact base "list" (by simp [tyN, q1]) h1
      | dic xs => exact base "dict" (by simp [tyN, q1]) h1
      | ins D fs =>
        simp only at h1
        cases q2 : Ds.lookup D with
        | none => rw [q2] at h1; exact h1.elim
        | some b =>
          rw [q2] at h1
          obtain ⟨d, b1, b2, b3, b4, b5⟩ := ok.own _ (mem_of_lookup q2)
          cases r1 with
          | ref hnn =>
            cases sr1.at_ _ _ _ hnn q1 with
            | ins a1 a2 a3 =>
              rw [a1] at b1
              cases b1
              exact ⟨_, .ref c, .ref _, .ref c, b, rfl, .own c, .base (.ins a2 b3 b4 ok.gt ok.tk b5), b2, h1 μ1 H1 _ .refl sr1 (.bl _)⟩
end
end FL

/-! FLk: repr of data; defs that show (their surroundings show nothing yet); the law's end over these. -/
namespace FL
open PySem PySem.Spec L2
mutual
theorem plain_noDict : ∀ d : PyData, d.plain = true → d.hasDict = false
  | .none, _ => rfl
  | .bool _, _ => rfl
  | .int _, _ => rfl
  | .str _, _ => rfl
  | .list xs, h => by
    simp only [PyData.hasDict]
    exact plain_noDictAll xs (by simpa [PyData.plain] using h)
  | .tuple xs, h => by
    simp only [PyData.hasDict]
    exact plain_noDictAll xs (by simpa [PyData.plain] using h)
  | .dict _, h => nomatch h
theorem plain_noDictAll : ∀ xs : List PyData, PyData.plainAll xs = true → PyData.hasDictAll xs = false
  | [], _ => rfl
  | x :: xs, h => by
    have h' : x.plain = true ∧ PyData.plainAll xs = true := by simpa [PyData.plainAll] using h
    simp [PyData.hasDictAll, plain_noDict x h'.1, plain_noDictAll xs h'.2]
end
def bRepr : List PV → Sto → OP
  | [x], S => match dOf S x with
    | some d => if d.showable = true ∧ d.shown.length ≤ big then some (.str d.shown, S) else none
    | none => none
  | _, _ => none
section
variable {X : Cx} {W : WX}
theorem b_repr (hg : X.A.guards = some []) (hu : X.A.units + 64 < cLine) : CallR X (.builtin "repr") (kL X bRepr) := by
  refine kL_of fun pins s σ H xs vs us S μ z S' Q I rv hx sr e h => ?_
  unfold bRepr at e
  split at e
  · split at e
    · rename_i x _ _ d e1
      split at e
      · rename_i hc
        cases e
        obtain ⟨v, rfl, hv⟩ := hx.one
        obtain ⟨u, rfl, ru⟩ : ∃ u, us = [u] ∧ RelV v u := by
          cases rv with
          | cons p q => cases q; exact ⟨_, rfl, p⟩
        obtain ⟨⟨as, rd⟩, pl, dp⟩ := reads_of I ru hv sr e1
        have hl := Nat.le_trans hc.2 big_le
        have fin : ∀ tk tk', EP X pins σ Q (.str d.shown tk) { s with toks := tk' } := fun tk tk' => ⟨.str d.shown, H, I.tok _, ⟨_, rfl⟩, h μ H _ .refl sr (.str _)⟩
        cases v with
        | ref a =>
          obtain rfl : u = Value.ref a := ru
          refine PySem.repr_of_reads' rd hc.1 (fun q => ?_) hg (by omega) (fun _ _ q => q) (fun h' u' tk hk => ?_) hl
          · rw [plain_noDict d pl] at q; cases q
          · exact ⟨.str d.shown, H, I.kept (t' := tk) hk, ⟨_, rfl⟩, h μ H _ .refl sr (.str _)⟩
        | non =>
          obtain rfl : u = Value.none := ru
          cases rd
          exact PySem.P.repr_of_none (fin _ _)
        | bl b =>
          obtain rfl : u = Value.bool b := ru
          cases rd
          exact PySem.P.repr_of_bool (fin _ _)
        | int i =>
          obtain ⟨t, rfl⟩ := ru
          cases rd
          exact PySem.P.repr_of_int (of_decide_eq_true hc.1) (fin _ _)
        | str y =>
          obtain ⟨t, rfl⟩ := ru
          cases rd
          exact PySem.P.repr_of_str (fin _ _) hl
        | byt _ => obtain ⟨t, rfl⟩ := ru; cases rd
        | flt _ => obtain ⟨t, rfl⟩ := ru; cases rd
        | ty _ => cases ru; cases rd
      · cases e
    · cases e
  · cases e
end
/-! ### a def's promise where nothing is being shown -/
structure FnG (P : Program) (w : World) (K : PySem.W.Frag) (mg : Str → Option Value) (base : Heap) (k : Nat) (f : Addr) (fd : FuncData) (ps : List Str) (sp : Sp) : Prop where
  len : ∀ vs H Q E, sp vs H Q E → vs.length = ps.length
  run : ∀ (A : Around) (outer : List Env) (s : Shared) (H : Hp) (args : Args) (us : List Value) (vs : List V) (Q : VK) (E : XK), Room k A → A.guards = some [] → Env0 P w K mg base A outer s H →
    BindsTo s fd args (ps.zip us) → Vals vs us → sp vs H Q E → codeAny (model P w) A (.call (.ref f) args) (CR (L2.CX P w) outer P w H s Q E) s
theorem FnG.of {P : Program} {w : World} {K : PySem.W.Frag} {mg : Str → Option Value} {base : Heap} {k : Nat} {f : Addr} {fd : FuncData} {ps : List Str} {sp : Sp} (G : FnOk P w K mg base (L2.CX P w) k f fd ps sp) : FnG P w K mg base k f fd ps sp :=
  ⟨G.len, fun A outer s H args us vs Q E hr _ => G.run A outer s H args us vs Q E hr⟩
section
variable {P : Program} {w : World} {K : PySem.W.Frag} {mg : Str → Option Value} {base : Heap}
theorem fnG_fl {x qual : Str} {st : Stmt} {f : Addr} {fd : FuncData} {N ps : List Str} {k : Nat} {D : En → Sto → SRes} (F : Fun K x qual st f fd) (S : FnScope N ps (defScope st))
    (hb : ∀ (cdv : Value) (A : Around) (outer : List Env) (s : Shared) (H : Hp) (E : XK), A.guards = some [] → CxF (cxL P w K mg base N qual st f cdv A outer s H E) (WF E) k → FSs (cxL P w K mg base N qual st f cdv A outer s H E) (WF E) (defBody st) D) :
    FnG P w K mg base (k + 1) f fd ps (spF K mg ps.length (runB N.length D)) := by
  obtain ⟨oc, od, kV, doc, pm, an, cdv, ct, osl, rfl, lk, hcd⟩ := F.ex
  refine ⟨fun vs H Q E h => h.1, fun A outer s H args us vs Q E hr gd e0 hbd r hsp => ?_⟩
  have hl : vs.length = ps.length := hsp.1
  have kept := fun b o (e : base.get? b = some o) => (e0.bs b o e).1
  have KX : K.In s.heap := e0.mod.kin.keeps kept
  have par : ∀ y ∈ ps.zip us, (defScope st).names.lookup y.1 = some .local ∨ ((defScope st).names.lookup y.1 = some .cell ∧
      ((cellsFrom (s.heap.objs.size + 1) (defScope st).names []).lookup y.1).isSome = true) := by
    intro y hy
    rcases S.par y.1 (List.of_mem_zip (a := y.1) (b := y.2) hy).1 with q | q
    · exact .inl q
    · exact .inr ⟨q, PySem.W.cellsFrom_some _ _ _ (.inl q)⟩
  refine codeAny_call_function hr.depth (KX _ _ lk) rfl S.co S.gen rfl
    (PySem.W.codeRec_of KX hcd) (hbd _ _ _ _ (wpAny_newFunctionEnv_cells S.kind par fun env he s1 x => ?_))
  subst he
  refine ⟨(e0.mod.nolimit.keeps kept).keeps x.toInCall.keep, codeAny_func ?_⟩
  have C : CxF (cxL P w K mg base N qual st f cdv A outer s H E) (WF E) k := ⟨takes_of rfl rfl rfl rfl, passes_of rfl, rfl, rfl, rfl, hr.deeper _, S.nd⟩
  have body := hb cdv A outer s H E gd C
  have I : Inv (cxL P w K mg base N qual st f cdv A outer s H E) [] (L2.start N vs) H s1 := inv_start S hr.hd e0 hl r x
  obtain ⟨_, xs, S0, μ, hv, sr, h⟩ := hsp
  have done : ∀ {σ' : L2.St} {H' : Hp} {v : V} {u : Value} {s' : Shared}, Inv (cxL P w K mg base N qual st f cdv A outer s H E) [] σ' H' s' →
      RelV v u → Q v H' → CE outer P w H s Q u s' := fun {σ' H' v u s'} J rv q => ⟨v, H', J.os, J.bare, J.base, J.hok, rv, q⟩
  have hD : tS K mg (WF E) D { nx := fun _ H' => Q .non H', rt := Q } (L2.start N vs) H := by
    refine ⟨_, S0, μ, er_start hv N, sr, ?_⟩
    unfold runB at h
    cases q : D (xs.map some ++ List.replicate (N.length - xs.length) none) S0 with
    | stk => rw [q] at h; exact h
    | exc C fs ρ1 S1 =>
      rw [q] at h
      exact fun μ' H' σ' c d st er sr xr => h μ' H' c d st sr xr
    | ok f ρ1 S1 =>
      rw [q] at h
      cases f with
      | nx => exact fun μ' H' σ' st er sr => h μ' H' _ st sr .non
      | rt v => exact fun μ' H' σ' st er sr v' r => h μ' H' v' st sr r
      | bk => exact h.elim
      | ct => exact h.elim
  refine wpAny_mono (body.run [] s1 (L2.start N vs) H _ I hD) (fun fl s' hs => ?_) fun e s' hs => hs
  cases fl with
  | ret u => obtain ⟨v, σ', H', J, rv, q⟩ := hs; exact done J rv q
  | next => obtain ⟨σ', H', J, q⟩ := hs; exact done (v := V.non) (u := Value.none) J rfl q
  | brk => obtain ⟨_, _, _, q⟩ := hs; exact False.elim q
  | cont => obtain ⟨_, _, _, q⟩ := hs; exact False.elim q
end
section
variable {X : Cx} {W : WX} {k : Nat} {x : Str} {f : Addr} {fd : FuncData} {ps : List Str} {j : Nat} {ff : FF} {e : Expr} {es : List Expr} {dl : En → Sto → Res (List PV)} {p pos : Pos}
theorem runG {pins : List (Addr × Obj)} {σ : L2.St} {H : Hp} {s : Shared} {Q : VK} {us : List Value} {vs : List V} {sp : Sp} (F : FnG X.prog X.w X.K X.mg X.base j f fd ps sp) (hr : Room j X.A) (gd : X.A.guards = some []) (hb : Binds X.K fd ps []) (hx : Takes X W)
    (I : Inv X pins σ H s) (r : Vals vs us) (h : sp vs H Q (WE W σ)) : wpAny (model X.prog X.w) X.A (call (.ref f) us) (EP X pins σ Q) X.xe s := by
  have hl : (us ++ []).length = ps.length := by rw [List.append_nil, ← r.length]; exact F.len _ _ _ _ h
  have b := hb s us I.kIn hl
  rw [List.append_nil] at b
  have run := F.run X.A X.stack s H ⟨us, []⟩ us vs Q (WE W σ) hr gd I.env0 b r h
  refine wpAny_call (codeAny_mono run fun rr s' hq => ?_)
  cases rr with
  | error ee => exact passAt hx σ pins H s ee s' I hq
  | ok fl =>
    cases fl with
    | ret u => exact I.after hq
    | _ => exact False.elim hq
theorem fe_callG (C : CxE X W k) (gd : X.A.guards = some []) (G : FnG X.prog X.w X.K X.mg X.base j f fd ps (spF X.K X.mg ps.length ff)) (hj : j ≤ k) (hg : Gl X x) (hm : X.mg x = some (.ref f)) (hk : PySem.W.keepIn X.K (.ref f) = true) (hb : Binds X.K fd ps [])
    (ha : FA X W (e :: es) dl) (hdb : (x == ("__debug__" : Str)) = false := by decide) (he : starEach (e :: es) X.env = (false, eval e X.env) :: starEach es X.env := by rfl) (hpl : (backTo pos (starEach es X.env)).any (·.1) = false := by rfl)
    (hlen : ∀ ρ S xs S1, dl ρ S = .ok xs S1 → xs.length = ps.length) :
    FE X W (.Call (.Name x p) (e :: es) [] pos) (eApp ff dl) := by
  refine ⟨fun pins s σ H Q I h => ?_⟩
  obtain ⟨ρ, S, μ, er, sr, h⟩ := h
  have hlen := hlen ρ S
  unfold eApp at h
  have hA : tA X.K X.mg W dl σ H (fun vs H1 => spF X.K X.mg ps.length ff vs H1 Q (WE W σ)) := by
    refine ⟨ρ, S, μ, er, sr, ?_⟩
    cases q : dl ρ S with
    | stk => rw [q] at h; exact h
    | exc C fs S1 => rw [q] at h; exact h
    | ok xs S1 =>
      rw [q] at h
      intro μ1 H1 vs st1 sr1 r1
      refine ⟨by rw [← r1.length]; exact hlen xs S1 q, xs, S1, μ1, r1, sr1, ?_⟩
      exact Out.mono h (fun _ _ q => q.step st1) fun _ _ _ q => exF_of (q.step st1)
  refine wpAny_Call_Name_kw (ld_glob I hg hm ?_ hdb)
  refine PySem.W.callWith_K (h₀ := X.base) I.ok.mod.kin hk ?_ he hpl
  exact thn (ha.run pos pins s σ H _ I hA) fun us s1 ⟨vs, H1, I1, r, q⟩ => ⟨I1.kIn, runG G (C.room.mono hj) gd hb C.tk I1 r q⟩
/-! keywords: the values in the parameters' order by places -/
def perm {α : Type} (pi : List Nat) (l : List α) : List α := pi.filterMap fun i => l[i]?
theorem VRs.perm {K : PySem.W.Frag} {mg : Str → Option Value} {μ : List Addr} {H : Hp} {xs : List PV} {vs : List V} (h : VRs K mg μ H xs vs) : ∀ pi : List Nat, VRs K mg μ H (FL.perm pi xs) (FL.perm pi vs)
  | [] => .nil
  | i :: pi => by
    unfold FL.perm
    rw [List.filterMap_cons, List.filterMap_cons]
    cases q : xs[i]? with
    | none =>
      have : vs[i]? = none := List.getElem?_eq_none_iff.mpr (by rw [← h.length]; exact List.getElem?_eq_none_iff.mp q)
      rw [this]
      exact VRs.perm h pi
    | some x =>
      obtain ⟨v, e, r⟩ := h.get q
      rw [e]
      exact .cons r (VRs.perm h pi)
theorem vals_perm {vs : List V} {us : List Value} (h : Vals vs us) : ∀ pi : List Nat, Vals (FL.perm pi vs) (FL.perm pi us)
  | [] => .nil
  | i :: pi => by
    unfold FL.perm
    rw [List.filterMap_cons, List.filterMap_cons]
    cases q : vs[i]? with
    | none =>
      rw [h.none_of q]
      exact vals_perm h pi
    | some x =>
      obtain ⟨v, e, r⟩ := h.get q
      rw [e]
      exact .cons r (vals_perm h pi)
def eAppK (f : FF) (pi : List Nat) (dl dk : En → Sto → Res (List PV)) : En → Sto → Res PV := fun ρ S => (dl ρ S).bind fun xs S1 => (dk ρ S1).bind fun ys S2 => f (FL.perm pi (xs ++ ys)) S2
/-- how the keywords ks go with the parameters ps -/
def KwOk (fd : FuncData) (ps ks : List Str) (m : Nat) (pi : List Nat) : Prop := ∀ (s : Shared) (us ws : List Value), us.length = m → ws.length = ks.length → BindsTo s fd ⟨us, ks.zip ws⟩ (ps.zip (FL.perm pi (us ++ ws)))
theorem runK {pins : List (Addr × Obj)} {σ : L2.St} {H : Hp} {s : Shared} {Q : VK} {us ws : List Value} {vs zs : List V} {sp : Sp} {ks : List Str} {m : Nat} {pi : List Nat} (F : FnG X.prog X.w X.K X.mg X.base j f fd ps sp) (hr : Room j X.A) (gd : X.A.guards = some []) (hb : KwOk fd ps ks m pi) (hx : Takes X W)
    (I : Inv X pins σ H s) (r : Vals vs us) (rz : Vals zs ws) (hm : us.length = m) (hk : ws.length = ks.length) (h : sp (FL.perm pi (vs ++ zs)) H Q (WE W σ)) : wpAny (model X.prog X.w) X.A (call (.ref f) us (ks.zip ws)) (EP X pins σ Q) X.xe s := by
  have run := F.run X.A X.stack s H ⟨us, ks.zip ws⟩ (FL.perm pi (us ++ ws)) (FL.perm pi (vs ++ zs)) Q (WE W σ) hr gd I.env0 (hb s us ws hm hk) (vals_perm (r.append rz) pi) h
  refine wpAny_call (codeAny_mono run fun rr s' hq => ?_)
  cases rr with
  | error ee => exact passAt hx σ pins H s ee s' I hq
  | ok fl =>
    cases fl with
    | ret u => exact I.after hq
    | _ => exact False.elim hq
theorem kw_read {ks : List Str} {m : Nat} {pi : List Nat} {dk : En → Sto → Res (List PV)} {σ : L2.St} {H : Hp} {Q : VK} (hlm : ∀ ρ S xs S1, dl ρ S = .ok xs S1 → xs.length = m) (hlk : ∀ ρ S xs S1, dk ρ S = .ok xs S1 → xs.length = ks.length)
    (hpi : ∀ l : List V, l.length = m + ks.length → (FL.perm pi l).length = ps.length) (h : tE X.K X.mg W (eAppK ff pi dl dk) σ H Q) :
    tA X.K X.mg W dl σ H (fun vs H1 => tA X.K X.mg W dk σ H1 fun zs H2 => vs.length = m ∧ zs.length = ks.length ∧ spF X.K X.mg ps.length ff (FL.perm pi (vs ++ zs)) H2 Q (WE W σ)) := by
  obtain ⟨ρ, S, μ, er, sr, h⟩ := h
  unfold eAppK at h
  refine ⟨ρ, S, μ, er, sr, ?_⟩
  cases q : dl ρ S with
  | stk => rw [q] at h; exact h
  | exc C fs S1 => rw [q] at h; exact h
  | ok xs S1 =>
    rw [q] at h
    intro μ1 H1 vs st1 sr1 r1
    have er1 := er.mono sr st1
    refine ⟨ρ, S1, μ1, er1, sr1, ?_⟩
    simp only [Res.bind] at h
    cases q2 : dk ρ S1 with
    | stk => rw [q2] at h; exact h
    | exc C fs S2 =>
      rw [q2] at h
      exact fun μ2 H2 c d st2 sr2 xr => h μ2 H2 c d (st1.trans st2) sr2 xr
    | ok ys S2 =>
      rw [q2] at h
      intro μ2 H2 zs st2 sr2 r2
      have l1 : vs.length = m := by rw [← r1.length]; exact hlm _ _ _ _ q
      have l2 : zs.length = ks.length := by rw [← r2.length]; exact hlk _ _ _ _ q2
      refine ⟨l1, l2, hpi _ (by rw [List.length_append, l1, l2]), _, S2, μ2, ((VRs.mono sr1 st2 _ _ r1).app r2).perm pi, sr2, ?_⟩
      exact Out.mono h (fun _ _ q => q.step (st1.trans st2)) fun _ _ _ q => exF_of (q.step (st1.trans st2))
theorem fe_callK (C : CxE X W k) (gd : X.A.guards = some []) (G : FnG X.prog X.w X.K X.mg X.base j f fd ps (spF X.K X.mg ps.length ff)) (hj : j ≤ k) (hg : Gl X x) (hm : X.mg x = some (.ref f)) (hk : PySem.W.keepIn X.K (.ref f) = true)
    {ks : List Str} {m : Nat} {pi : List Nat} {kws : List Keyword} {dk : En → Sto → Res (List PV)} (hb : KwOk fd ps ks m pi) (hpi : ∀ l : List V, l.length = m + ks.length → (FL.perm pi l).length = ps.length)
    (ha : FA X W (e :: es) dl) (hkw : FK X W kws dk) (hlm : ∀ ρ S xs S1, dl ρ S = .ok xs S1 → xs.length = m) (hlk : ∀ ρ S xs S1, dk ρ S = .ok xs S1 → xs.length = ks.length)
    (hall : (backToKw pos (keywordEach kws X.env)).all (·.1.isSome) = true := by rfl) (hks : (backToKw pos (keywordEach kws X.env)).filterMap (·.1) = ks := by rfl)
    (hdb : (x == ("__debug__" : Str)) = false := by decide) (he : starEach (e :: es) X.env = (false, eval e X.env) :: starEach es X.env := by rfl)
    (hpl : ((backTo pos (starEach (e :: es) X.env)).any (·.1) || (backToKw pos (keywordEach kws X.env)).any (·.1.isNone)) = false := by rfl) :
    FE X W (.Call (.Name x p) (e :: es) kws pos) (eAppK ff pi dl dk) := by
  refine ⟨fun pins s σ H Q I h => ?_⟩
  have hA := kw_read hlm hlk hpi h
  refine wpAny_Call_Name_kw (ld_glob I hg hm ?_ hdb)
  refine PySem.W.callWith_KW (h₀ := X.base) I.ok.mod.kin hk hall ?_ hpl he
  refine thn (ha.run pos pins s σ H _ I hA) fun us s1 ⟨vs, H1, I1, r, q⟩ => ?_
  refine thn (hkw.run pos pins s1 σ H1 _ I1 q) fun ws s2 ⟨zs, H2, I2, rz, q1, q2, q3⟩ => ⟨I2.kIn, ?_⟩
  rw [hks]
  exact runK G (C.room.mono hj) gd hb C.tk I2 r rz (by show us.length = m; rw [← r.length]; exact q1) (by rw [← rz.length]; exact q2) q3
theorem fe_callK0 (C : CxE X W k) (gd : X.A.guards = some []) (G : FnG X.prog X.w X.K X.mg X.base j f fd ps (spF X.K X.mg ps.length ff)) (hj : j ≤ k) (hg : Gl X x) (hm : X.mg x = some (.ref f)) (hk : PySem.W.keepIn X.K (.ref f) = true)
    {ks : List Str} {pi : List Nat} {kws : List Keyword} {dk : En → Sto → Res (List PV)} (hb : KwOk fd ps ks 0 pi) (hpi : ∀ l : List V, l.length = 0 + ks.length → (FL.perm pi l).length = ps.length)
    (hkw : FK X W kws dk) (hlk : ∀ ρ S xs S1, dk ρ S = .ok xs S1 → xs.length = ks.length)
    (hall : (backToKw pos (keywordEach kws X.env)).all (·.1.isSome) = true := by rfl) (hks : (backToKw pos (keywordEach kws X.env)).filterMap (·.1) = ks := by rfl)
    (hdb : (x == ("__debug__" : Str)) = false := by decide)
    (hpl : ((backTo pos (starEach [] X.env)).any (·.1) || (backToKw pos (keywordEach kws X.env)).any (·.1.isNone)) = false := by rfl) :
    FE X W (.Call (.Name x p) [] kws pos) (eAppK ff pi aNil dk) := by
  refine ⟨fun pins s σ H Q I h => ?_⟩
  have hA := kw_read (dl := aNil) (m := 0) (fun _ _ _ _ q => by cases q; rfl) hlk hpi h
  refine wpAny_Call_Name_kw (ld_glob I hg hm ?_ hdb)
  refine PySem.W.callWith_KW0 (h₀ := X.base) I.ok.mod.kin hk hall ?_ hpl
  have hA2 := hA
  obtain ⟨ρ, S, μ, er, sr, q⟩ := hA2
  have q := q μ H [] .refl sr .nil
  refine thn (hkw.run pos pins s σ H _ I q) fun ws s2 ⟨zs, H2, I2, rz, q1, q2, q3⟩ => ⟨I2.kIn, ?_⟩
  rw [hks]
  exact runK (us := []) (vs := []) G (C.room.mono hj) gd hb C.tk I2 .nil rz rfl (by rw [← rz.length]; exact q2) q3
theorem len0 {ρ : En} {S : Sto} {xs : List PV} {S1 : Sto} (h : aNil ρ S = .ok xs S1) : xs.length = 0 := by cases h; rfl
theorem lenC {da : En → Sto → Res PV} {n : Nat} (hr : ∀ ρ S xs S1, dl ρ S = .ok xs S1 → xs.length = n) : ∀ ρ S xs S1, aCons da dl ρ S = .ok xs S1 → xs.length = n + 1 := by
  intro ρ S xs S1 h
  unfold aCons at h
  cases q : da ρ S with
  | stk => rw [q] at h; cases h
  | exc C fs S1 => rw [q] at h; cases h
  | ok x S2 =>
    rw [q] at h
    simp only [Res.bind] at h
    cases q2 : dl ρ S2 with
    | stk => rw [q2] at h; cases h
    | exc C fs S1 => rw [q2] at h; cases h
    | ok ys S3 =>
      rw [q2] at h
      cases h
      rw [List.length_cons, hr _ _ _ _ q2]
end
/-! ### the law -/
theorem lawG {P : Program} {w : World} {K : PySem.W.Frag} {mg mb : Str → Option Value} {k : Nat} {fa a : Addr} {fd : FuncData} {x : Str} {F : FF} {s₁ : Shared} {vs : List Value} {ns : List Int}
    (KX : K.In s₁.heap) (hns : s₁.heap.Ns mainGlobals mg) (hb : s₁.heap.Ns builtinsNs mb) (hbb : ∀ x : Str, x ≠ "__name__" → mb x = bootBuiltins x) (hlim : s₁.heap.NoLimit) (hg : s₁.gens = #[])
    (ha : s₁.heap.get? a = some { cls := .type "list", data := .seq vs.toArray }) (hi : PyProof.Rows.IntsAre vs ns) (hl : ns.length ≤ 63) (hr : Room k callerA)
    (G : ∀ base : Heap, K.In base → base.Ns mainGlobals mg → FnG P w K mg base k fa fd [x] (spF K mg 1 F)) (hbind : ∀ (s : Shared) (u : Value), BindsTo s fd ⟨[u], []⟩ [(x, u)])
    (hF : ∀ ns : List Int, ns.length ≤ 63 → ∃ S', F [.kl (ns.map PV.int)] [] = .ok (.bl true) S') :
    codeAny (model P w) callerA (.call (.ref fa) ⟨[.ref a], []⟩) (fun r s' => r = .ok (.ret (.bool true)) ∧ OldK s₁.heap s'.heap ∧ s'.os = s₁.os ∧ PyProof.Rows.AllBare s'.gens) s₁ := by
  have rv := vals_ints hi
  have len := hi.length
  have sz : ns.length ≤ sizeLine := Nat.le_trans hl (by decide)
  obtain ⟨S', eF⟩ := hF ns hl
  let o0 : Obj := { cls := .type "list", data := .seq vs.toArray }
  have go : ∀ H : Hp, (∀ b, H b = none ∨ (b = a ∧ H b = some (.frz o0 (.lst (ns.map V.int))))) → SqK K H a (ns.map V.int) →
      HOk P w H s₁.heap → (H a ≠ none → K.lookup a = none) →
      codeAny (model P w) callerA (.call (.ref fa) ⟨[.ref a], []⟩) (fun r s' => r = .ok (.ret (.bool true)) ∧ OldK s₁.heap s'.heap ∧ s'.os = s₁.os ∧ PyProof.Rows.AllBare s'.gens) s₁ := by
    intro H hO hS hok hK
    have at_a : ∀ {b : Addr} {u : HO}, H b = some u → b = a := fun {b u} e => by
      rcases hO b with z | ⟨z, _⟩
      · rw [z] at e; cases e
      · exact z
    let B := hidT s₁.heap H
    have toB : ∀ {b : Addr} {m : Str → Option Value}, s₁.heap.Ns b m → B.Ns b m := by
      intro b m hm
      obtain ⟨o, es, ep, e, d, r⟩ := hm
      refine ⟨o, es, ep, hidT_get e ?_, d, r⟩
      cases q : H b with
      | none => rfl
      | some u =>
        have := at_a q
        subst this
        rw [ha] at e
        cases e
        cases d
    have inB : K.In B := fun b o e => hidT_get (KX b o e) (by
      cases q : H b with
      | none => rfl
      | some u =>
        have := at_a q
        subst this
        have z := hK (by rw [q]; exact fun z => nomatch z)
        rw [z] at e
        cases e)
    have M : Mod K mg B := by
      obtain ⟨mc, l1, l2⟩ := hlim
      exact ⟨inB, toB hns, ⟨mb, toB hb, hbb⟩, ⟨mc, toB l1, l2⟩⟩
    have e0 : Env0 P w K mg B callerA [] s₁ H := by
      refine ⟨rfl, M, fun b o e => of_hidT e, Nat.le_of_eq (hidT_size _ _), trivial, fun b hb => ?_, hok, .of_eq hg⟩
      exact nomatch (show b ∈ ([] : List Addr) from hb)
    have sp : spF K mg 1 F [.ref a] H (fun v _ => v = .bl true) (fun _ _ _ => False) := by
      refine ⟨rfl, [.kl (ns.map PV.int)], [], [], .cons (.kl hS (vrs_ints ns)) .nil, ⟨rfl, by simp, fun n b o e => by simp at e⟩, ?_⟩
      rw [eF]
      intro μ' H' v st sr r
      cases r
      rfl
    have run := (G _ inB (toB hns)).run callerA [] s₁ H ⟨[.ref a], []⟩ [.ref a] [.ref a] _ _ hr rfl e0 (hbind s₁ (.ref a)) (.cons rfl .nil) sp
    refine codeAny_mono run fun rr s' h => ?_
    cases rr with
    | error e => exact (cxl_no H s₁ e s' h).elim
    | ok fl =>
      cases fl with
      | ret u =>
        obtain ⟨v, H', os, bare, un, hok', r', q⟩ := h
        have q : v = .bl true := q
        subst q
        obtain rfl : u = Value.bool true := r'
        refine ⟨rfl, OldK.of_keep fun b o e => ?_, os, bare⟩
        rcases hO b with z | ⟨z1, z2⟩
        · exact un.keep b o e z (fun m => nomatch (show b ∈ ([] : List Addr) from m)) (by simp)
        · obtain ⟨e1, _⟩ := hok b _ z2
          obtain ⟨e2, _⟩ := hok' b _ (un.frzs b _ _ z2)
          rw [e] at e1
          cases e1
          exact e2
      | _ => exact False.elim h
  have vk : Vals (ns.map V.int) vs := rv
  cases hk : K.lookup a with
  | some o =>
    have e := KX a o hk
    rw [ha] at e
    cases e
    refine go (fun _ => none) (fun _ => .inl rfl) (.inr ⟨_, vs.toArray, _, hk, rfl, rfl, rfl, by rw [List.size_toArray, len]; exact sz, by simpa using vk⟩) (fun b u z => nomatch z) fun z => absurd rfl z
  | none =>
    let H1 : Hp := fun b => if b = a then some (.frz o0 (.lst (ns.map V.int))) else none
    have h1 : H1 a = some (.frz o0 (.lst (ns.map V.int))) := if_pos rfl
    have h2 : ∀ b, b ≠ a → H1 b = none := fun b hb => if_neg hb
    refine go H1 (fun b => ?_) (.inl ⟨o0, h1⟩) (fun b u z => ?_) fun _ => hk
    · by_cases hb : b = a
      · subst hb; exact .inr ⟨rfl, h1⟩
      · exact .inl (h2 b hb)
    · by_cases hb : b = a
      · subst hb
        rw [h1] at z
        cases z
        exact ⟨ha, by rw [List.length_map]; exact sz, vs, _, vk, ha⟩
      · rw [h2 b hb] at z
        cases z
/-- the goal that k_head leaves -/
theorem walkG {l : PySem.W.OpenLaw} {k : Nat} {q : Program} {loose : List Str} {XP : (Str → Option Value) → Heap → Prop} {YP : World → Heap → Prop} {d : DefRec} {K : Params → PySem.W.Frag} {x : Str} {F : FF}
    (hn : l.most = some 63) (hdf : d.params.defaults = []) (hr : Room k callerA) (hY : ∀ (w : World) (h : Heap), YP w h → (K w.params).In h)
    (G : ∀ (w : World) (mg : Str → Option Value) (fa : Addr) (h : Heap), (K w.params).In h → h.Ns mainGlobals mg → mg d.name = some (.ref fa) →
      ∃ fd : FuncData, (∀ (s : Shared) (u : Value), BindsTo s fd ⟨[u], []⟩ [(x, u)]) ∧
        ∀ base : Heap, (K w.params).In base → base.Ns mainGlobals mg → FnG l.prog w (K w.params) mg base k fa fd [x] (spF (K w.params) mg 1 F))
    (hF : ∀ ns : List Int, ns.length ≤ 63 → ∃ S', F [.kl (ns.map PV.int)] [] = .ok (.bl true) S') :
    PySem.W.WalkO q loose XP YP l.row.toRowW d [] (fun f vs => PySem.call f vs) := by
  refine Att.attach_call hn hdf fun w s₀ s₁ mg mb fa o pm cd doc a vs ns T Y ho hd hcd hmg hobj hints hlen hg => ?_
  have KX := hY w _ Y
  obtain ⟨fd, hb, hG⟩ := G w mg fa _ KX T.T.g hmg
  exact lawG KX T.T.g T.T.b T.T.builtins T.T.nolimit hg hobj hints hlen hr hG hb hF
end FL

/-! FLl: what the top has left, by facts. -/
namespace FL
open PySem PySem.Spec L2
section
variable {K : PySem.W.Frag} {h : Heap} {mg : Str → Option Value}
theorem fn_top {x q : Str} {st : Stmt} {f : Addr} {oc : Value} {od an : Option Addr} {osl : Array (Option Value)} {kV doc pm cdv ct : Value} (X : K.In h) (G : h.Ns mainGlobals mg)
    (a : PySem.W.nsIn K mainGlobals x = some (some (.ref f))) (l : K.lookup f = some ⟨oc, od, .func (PySem.W.fnOf x q (defArgs st) (defBody st) (defScope st) .none kV doc pm an cdv ct), osl⟩)
    (c : PySem.W.codeIn K cdv q = true) (k : PySem.W.keepIn K (.ref f) = true) : ∃ (f : Addr) (fd : FuncData), mg x = some (.ref f) ∧ Fun K x q st f fd :=
  ⟨f, _, PySem.W.mg_of X G a, fun_mk l c k⟩
/-- a method m of the class at C -/
theorem me_top {m q : Str} {st : Stmt} {C f : Addr} {oc : Value} {od an : Option Addr} {osl : Array (Option Value)} {kV doc pm cdv ct : Value}
    (a : PySem.W.findIn K (.ref C) m = some (some (.ref f))) (i : PySem.W.isFn K (.ref f) = true) (l : K.lookup f = some ⟨oc, od, .func (PySem.W.fnOf m q (defArgs st) (defBody st) (defScope st) .none kV doc pm an cdv ct), osl⟩)
    (c : PySem.W.codeIn K cdv q = true) (k : PySem.W.keepIn K (.ref f) = true) : ∃ (f : Addr) (fd : FuncData), Meth K C m f ∧ Fun K m q st f fd :=
  ⟨f, _, ⟨a, i, k⟩, fun_mk l c k⟩
/-- .. with one default -/
theorem cls_top {x : Str} {C : Addr} (X : K.In h) (G : h.Ns mainGlobals mg) (a : PySem.W.nsIn K mainGlobals x = some (some (.ref C)))
    (pg : PySem.W.plainGet K C Str.empty = true) (hd : PySem.W.hasDictIn K C = true) (po : PySem.W.plainOver K C = true) (sa : PySem.W.findIn K (.ref C) "__setattr__" = some (some (.builtin "object.__setattr__")))
    (mk : PySem.W.makesIn K C = true) (kc : PySem.W.keepIn K (.ref C) = true) : ∃ C, mg x = some (.ref C) ∧ Cls K C ∧ PySem.W.makesIn K C = true ∧ PySem.W.keepIn K (.ref C) = true :=
  ⟨C, PySem.W.mg_of X G a, ⟨pg, hd, po, sa⟩, mk, kc⟩
theorem meD_top {m q : Str} {st : Stmt} {C f T T0 : Addr} {oc cl : Value} {od an dd : Option Addr} {osl sl : Array (Option Value)} {kV doc pm cdv ct : Value} {n : Nat}
    (a : PySem.W.findIn K (.ref C) m = some (some (.ref f))) (i : PySem.W.isFn K (.ref f) = true) (l : K.lookup f = some ⟨oc, od, .func (PySem.W.fnOf m q (defArgs st) (defBody st) (defScope st) (.ref T) kV doc pm an cdv ct), osl⟩)
    (c : PySem.W.codeIn K cdv q = true) (k : PySem.W.keepIn K (.ref f) = true) (lT : K.lookup T = some ⟨cl, dd, .seq #[.ref T0] n, sl⟩) : ∃ (f : Addr) (fd : FuncData) (T0 : Addr), Meth K C m f ∧ FunD K m q (defArgs st) (defBody st) (defScope st) [.ref T0] [] f fd :=
  ⟨f, _, T0, ⟨a, i, k⟩, ⟨⟨oc, od, .ref T, kV, doc, pm, an, cdv, ct, osl, rfl, l, c, .inr ⟨by simp, T, _, [.ref T0], n, rfl, lT, rfl, .cons rfl .nil⟩, .inl rfl⟩, k⟩⟩
theorem fnD_fl {P : Program} {w : World} {base : Heap} {x qual : Str} {st : Stmt} {f : Addr} {fd : FuncData} {N ps : List Str} {k : Nat} {D : En → Sto → SRes} {dvs : List V} {kws : List (Str × V)} (F : FunD K x qual (defArgs st) (defBody st) (defScope st) dvs kws f fd) (S : FnScope N ps (defScope st))
    (hb : ∀ (cdv : Value) (A : Around) (outer : List Env) (s : Shared) (H : Hp) (E : XK), CxF (cxL P w K mg base N qual st f cdv A outer s H E) (WF E) k → FSs (cxL P w K mg base N qual st f cdv A outer s H E) (WF E) (defBody st) D) :
    FnOk P w K mg base (L2.CX P w) (k + 1) f fd ps (spF K mg ps.length (runB N.length D)) := by
  refine F.ok S (fun vs H Q E h => h.1) fun cdv A outer s H vs Q E hr h => ?_
  have C : CxF (cxL P w K mg base N qual st f cdv A outer s H E) (WF E) k := ⟨takes_of rfl rfl rfl rfl, passes_of rfl, rfl, rfl, rfl, hr, S.nd⟩
  refine ⟨_, hb cdv A outer s H E C, ?_⟩
  obtain ⟨hl, xs, S0, μ, hv, sr, h⟩ := h
  refine ⟨_, S0, μ, er_start hv N, sr, ?_⟩
  unfold runB at h
  show SOut (D (xs.map some ++ List.replicate (N.length - xs.length) none) S0) _ _
  cases q : D (xs.map some ++ List.replicate (N.length - xs.length) none) S0 with
  | stk => rw [q] at h; exact h
  | exc C fs ρ1 S1 =>
    rw [q] at h
    exact fun μ' H' σ' c d st er sr xr => h μ' H' c d st sr xr
  | ok f ρ1 S1 =>
    rw [q] at h
    cases f with
    | nx => exact fun μ' H' σ' st er sr => h μ' H' _ st sr .non
    | rt v => exact fun μ' H' σ' st er sr v' r => h μ' H' v' st sr r
    | bk => exact h.elim
    | ct => exact h.elim
/-- all parameters are written -/
theorem bindsD {x qual : Str} {st : Stmt} {f : Addr} {fd : FuncData} {ps : List Str} {T0 : V} (F : FunD K x qual (defArgs st) (defBody st) (defScope st) [T0] [] f fd)
    (h : ∀ (T : Addr) (kV doc pm : Value) (an : Option Addr) (cdv ct : Value) (us its : List Value), us.length = ps.length → its.length = 1 →
      ∃ k, bindArgs (PySem.W.fnOf x qual (defArgs st) (defBody st) (defScope st) (.ref T) kV doc pm an cdv ct) ⟨us, []⟩ = seqItems? (.ref T) >>= k ∧ k (some its.toArray) = pure (ps.zip (us ++ its.drop 1))) : Binds K fd ps [] := by
  obtain ⟨ds, r, b⟩ := F.binds1 ps.length 1 (by simp) (by simp) h
  cases r
  exact b
theorem kwok {x qual : Str} {st : Stmt} {f : Addr} {fd : FuncData} {ps ks : List Str} {m : Nat} {pi : List Nat} (F : Fun K x qual st f fd)
    (h : ∀ (kV doc pm : Value) (an : Option Addr) (cdv ct : Value) (us ws : List Value), us.length = m → ws.length = ks.length → bindArgs (PySem.W.fnOf x qual (defArgs st) (defBody st) (defScope st) .none kV doc pm an cdv ct) ⟨us, ks.zip ws⟩ = pure (ps.zip (FL.perm pi (us ++ ws)))) : KwOk fd ps ks m pi := by
  obtain ⟨oc, od, kV, doc, pm, an, cdv, ct, osl, rfl, lk, hcd⟩ := F.ex
  exact fun s us ws h1 h2 => .of_eq (h kV doc pm an cdv ct us ws h1 h2)
theorem lenM {dl : En → Sto → Res (List PV)} {n : Nat} (h : ∀ ρ S xs S1, dl ρ S = .ok xs S1 → xs.length = n) : ∀ ρ S xs S1, dl ρ S = .ok xs S1 → (PV.non :: (xs ++ [])).length = n + 1 := fun ρ S xs S1 e => by
  rw [List.append_nil, List.length_cons, h ρ S xs S1 e]
end
section
variable {X : Cx} {W : WX} {pos : Pos} {k : Nat} {elt tg iter : Expr} {ifs : List Expr} {scope : Scope} {own : List (Str × Nat)} {di : En → Sto → Res Wlk} {g : TG} {dg : Tgt} {dt : En → Sto → Res Bool} {de : En → Sto → Res PV}
theorem fe_lcC (C : CxE X W k) (hi : FI X W tg iter di) (ok : BlkOk X.N X.env.scope scope own)
    (hg : ∀ (s : Shared) (H : Hp) (a : Addr) (cl : List (Str × Addr)) (fp : List Addr), CxE (X.blk s H scope (compEnvC scope cl a X.env) fp) W0 k → PG (X.blk s H scope (compEnvC scope cl a X.env) fp) tg g) (hct : CT X.K X.mg g dg (own.map (·.2)))
    (ht : ∀ (s : Shared) (H : Hp) (a : Addr) (cl : List (Str × Addr)) (fp : List Addr), CxE (X.blk s H scope (compEnvC scope cl a X.env) fp) W0 k → PTs (X.blk s H scope (compEnvC scope cl a X.env) fp) ifs (tT X.K X.mg W0 dt))
    (he : ∀ (s : Shared) (H : Hp) (a : Addr) (cl : List (Str × Addr)) (fp : List Addr), CxE (X.blk s H scope (compEnvC scope cl a X.env) fp) W0 k → FE (X.blk s H scope (compEnvC scope cl a X.env) fp) W0 elt de) (hs : ∀ x, foldedSetIterable iter X.env x = pure x := by intro _; rfl) :
    FE X W (.ListComp elt [⟨tg, iter, ifs, 0⟩] scope pos) (eLc di dg dt de (own.map (·.2))) :=
  fe_lc C.calm C.nd hi ok (fun s H a cl fp => hg s H a cl fp (C.blk s H _ _ fp)) hct (fun s H a cl fp => ht s H a cl fp (C.blk s H _ _ fp)) (fun s H a cl fp => he s H a cl fp (C.blk s H _ _ fp)) hs
theorem fs_setlcC {i : Nat} {y : Str} {py spos : Pos} (C : CxE X W k) (hy : X.N[i]? = some y) (hyl : X.env.scope.names.lookup y = some .local)
    (hsw : swapsWith (.ListComp elt [⟨tg, iter, ifs, 0⟩] scope pos) (some (.Name y py)) spos.line X.env = pure true) (hi : FI X W tg iter di) (ok : BlkOk X.N X.env.scope scope own)
    (hg : ∀ (s : Shared) (H : Hp) (a : Addr) (cl : List (Str × Addr)) (fp : List Addr), CxE (X.blk s H scope (compEnvC scope cl a X.env) fp) W0 k → PG (X.blk s H scope (compEnvC scope cl a X.env) fp) tg g) (hct : CT X.K X.mg g dg (own.map (·.2)))
    (ht : ∀ (s : Shared) (H : Hp) (a : Addr) (cl : List (Str × Addr)) (fp : List Addr), CxE (X.blk s H scope (compEnvC scope cl a X.env) fp) W0 k → PTs (X.blk s H scope (compEnvC scope cl a X.env) fp) ifs (tT X.K X.mg W0 dt))
    (he : ∀ (s : Shared) (H : Hp) (a : Addr) (cl : List (Str × Addr)) (fp : List Addr), CxE (X.blk s H scope (compEnvC scope cl a X.env) fp) W0 k → FE (X.blk s H scope (compEnvC scope cl a X.env) fp) W0 elt de) (hs : ∀ x, foldedSetIterable iter X.env x = pure x := by intro _; rfl) :
    FS X W (.Assign [.Name y py] (.ListComp elt [⟨tg, iter, ifs, 0⟩] scope pos) spos) (sAsg (eLc di dg dt de (own.map (·.2))) (gNm i)) :=
  fs_setlc C.calm C.nd hy hyl hsw hi ok (fun s H a cl fp => hg s H a cl fp (C.blk s H _ _ fp)) hct (fun s H a cl fp => ht s H a cl fp (C.blk s H _ _ fp)) (fun s H a cl fp => he s H a cl fp (C.blk s H _ _ fp)) hs
end
theorem kit_ty_own {K : PySem.W.Frag} {c : Addr} {cd : ClassData} {T : String} {b : Bool} (h1 : PySem.W.clsIn K c = some cd) (h2 : PySem.W.typeIn K (.ref c) = some (.type "type")) (h3 : PySem.W.subIn K (.type T) (.ref c) = some b) : PySem.W.kitOne K (.type T) (.ref c) = some b := by
  unfold PySem.W.kitOne PySem.W.kitCls
  rw [if_neg (by intro h; cases h)]
  simp only [h1, h2, h3]
  rfl
theorem kit_own_own {K : PySem.W.Frag} {c d : Addr} {cd : ClassData} {b : Bool} (h1 : PySem.W.clsIn K c = some cd) (h2 : PySem.W.typeIn K (.ref c) = some (.type "type")) (h3 : PySem.W.subIn K (.ref d) (.ref c) = some b) (hb : b = true ∨ (d == c) = false) : PySem.W.kitOne K (.ref d) (.ref c) = some b := by
  unfold PySem.W.kitOne PySem.W.kitCls
  by_cases h : ((Value.ref d == Value.ref c) = true)
  · rw [if_pos h]
    rcases hb with e | e
    · rw [e]
    · have : d = c := by simpa using h
      subst this
      simp at e
  · rw [if_neg h]
    simp only [h1, h2, h3]
    rfl
end FL

/-! FLm: how loops and comprehensions run, in plain Lean. -/
namespace FL
open PySem L2
/-- a for over items that stand: I holds at each turn; the body goes on, or returns a v with R -/
theorem for_run {xs : List PV} {tg : Tgt} {body : En → Sto → SRes} (I : Nat → En → Sto → Prop) (R : PV → En → Sto → Prop)
    (step : ∀ (i : Nat) (x : PV) (ρ : En) (S : Sto), xs[i]? = some x → I i ρ S → ∃ ρ1 S1, tg x ρ S = some (ρ1, S1) ∧
      ((∃ ρ2 S2, (body ρ1 S1 = .ok .nx ρ2 S2 ∨ body ρ1 S1 = .ok .ct ρ2 S2) ∧ I (i + 1) ρ2 S2) ∨ ∃ v ρ2 S2, body ρ1 S1 = .ok (.rt v) ρ2 S2 ∧ R v ρ2 S2)) :
    ∀ (k i : Nat) (ρ : En) (S : Sto), i + k = xs.length → I i ρ S →
      (∃ ρ' S', forGo (.fix xs) tg body (k + 1) i ρ S = .ok .nx ρ' S' ∧ I xs.length ρ' S') ∨ ∃ v ρ' S', forGo (.fix xs) tg body (k + 1) i ρ S = .ok (.rt v) ρ' S' ∧ R v ρ' S'
  | 0, i, ρ, S, hi, h => by
    have e : xs[i]? = none := List.getElem?_eq_none_iff.mpr (by omega)
    refine .inl ⟨ρ, S, ?_, ?_⟩
    · unfold forGo itAt
      simp only [e]
    · have : i = xs.length := by omega
      rw [← this]; exact h
  | k + 1, i, ρ, S, hi, h => by
    have hl : i < xs.length := by omega
    have e : xs[i]? = some xs[i] := List.getElem?_eq_getElem hl
    obtain ⟨ρ1, S1, h1, h2⟩ := step i _ ρ S e h
    rcases h2 with ⟨ρ2, S2, h2, h3⟩ | ⟨v, ρ2, S2, h2, h3⟩
    · have ih := for_run I R step k (i + 1) ρ2 S2 (by omega) h3
      have hgo : forGo (.fix xs) tg body (k + 1 + 1) i ρ S = forGo (.fix xs) tg body (k + 1) (i + 1) ρ2 S2 := by
        rw [forGo]
        unfold itAt
        rcases h2 with h2 | h2 <;> simp only [e, h1, h2]
      rw [hgo]
      exact ih
    · refine .inr ⟨v, ρ2, S2, ?_, h3⟩
      rw [forGo]
      unfold itAt
      simp only [e, h1, h2]
theorem sFor_run {xs : List PV} {di : En → Sto → Res Wlk} {tg : Tgt} {body : En → Sto → SRes} {ρ : En} {S S1 : Sto} (I : Nat → En → Sto → Prop) (R : PV → En → Sto → Prop) (hd : di ρ S = .ok (.fix xs) S1) (h0 : I 0 ρ S1)
    (step : ∀ (i : Nat) (x : PV) (ρ : En) (S : Sto), xs[i]? = some x → I i ρ S → ∃ ρ1 S1, tg x ρ S = some (ρ1, S1) ∧
      ((∃ ρ2 S2, (body ρ1 S1 = .ok .nx ρ2 S2 ∨ body ρ1 S1 = .ok .ct ρ2 S2) ∧ I (i + 1) ρ2 S2) ∨ ∃ v ρ2 S2, body ρ1 S1 = .ok (.rt v) ρ2 S2 ∧ R v ρ2 S2)) :
    (∃ ρ' S', sFor di tg body ρ S = .ok .nx ρ' S' ∧ I xs.length ρ' S') ∨ ∃ v ρ' S', sFor di tg body ρ S = .ok (.rt v) ρ' S' ∧ R v ρ' S' := by
  unfold sFor liftE
  rw [hd]
  exact for_run I R step xs.length 0 ρ S1 (by omega) h0
/-- .. that never returns -/
theorem sFor_all {xs : List PV} {di : En → Sto → Res Wlk} {tg : Tgt} {body : En → Sto → SRes} {ρ : En} {S S1 : Sto} (I : Nat → En → Sto → Prop) (hd : di ρ S = .ok (.fix xs) S1) (h0 : I 0 ρ S1)
    (step : ∀ (i : Nat) (x : PV) (ρ : En) (S : Sto), xs[i]? = some x → I i ρ S → ∃ ρ1 S1 ρ2 S2, tg x ρ S = some (ρ1, S1) ∧ body ρ1 S1 = .ok .nx ρ2 S2 ∧ I (i + 1) ρ2 S2) :
    ∃ ρ' S', sFor di tg body ρ S = .ok .nx ρ' S' ∧ I xs.length ρ' S' := by
  rcases sFor_run I (fun _ _ _ => False) hd h0 fun i x ρ S e h => by
    obtain ⟨ρ1, S1, ρ2, S2, a, b, c⟩ := step i x ρ S e h
    exact ⟨ρ1, S1, a, .inl ⟨ρ2, S2, .inl b, c⟩⟩ with h | ⟨_, _, _, _, h⟩
  · exact h
  · exact h.elim
/-- a comprehension over items that stand -/
theorem lc_run {xs : List PV} {dg : Tgt} {dt : En → Sto → Res Bool} {de : En → Sto → Res PV} {vs : List Nat} {ρ : En} (I : Nat → List PV → Sto → Prop)
    (step : ∀ (i : Nat) (x : PV) (acc : List PV) (S : Sto), xs[i]? = some x → I i acc S → ∃ ρ2 S2 b S3, dg x (wipeE ρ vs) S = some (ρ2, S2) ∧ dt ρ2 S2 = .ok b S3 ∧
      (b = true → acc.length < big ∧ ∃ y S4, de ρ2 S3 = .ok y S4 ∧ I (i + 1) (acc ++ [y]) S4) ∧ (b = false → I (i + 1) acc S3)) :
    ∀ (k i : Nat) (acc : List PV) (S : Sto), i + k = xs.length → I i acc S → ∃ acc' S', lcGo (.fix xs) dg dt de vs ρ (k + 1) i acc S = .ok acc' S' ∧ I xs.length acc' S'
  | 0, i, acc, S, hi, h => by
    have e : xs[i]? = none := List.getElem?_eq_none_iff.mpr (by omega)
    refine ⟨acc, S, ?_, ?_⟩
    · unfold lcGo itAt
      simp only [e]
    · have : i = xs.length := by omega
      rw [← this]; exact h
  | k + 1, i, acc, S, hi, h => by
    have hl : i < xs.length := by omega
    have e : xs[i]? = some xs[i] := List.getElem?_eq_getElem hl
    obtain ⟨ρ2, S2, b, S3, h1, h2, h3, h4⟩ := step i _ acc S e h
    cases b with
    | true =>
      obtain ⟨hb, y, S4, h5, h6⟩ := h3 rfl
      have ih := lc_run I step k (i + 1) (acc ++ [y]) S4 (by omega) h6
      have hgo : lcGo (.fix xs) dg dt de vs ρ (k + 1 + 1) i acc S = lcGo (.fix xs) dg dt de vs ρ (k + 1) (i + 1) (acc ++ [y]) S4 := by
        rw [lcGo]
        unfold itAt
        simp only [e, h1, h2, h5, if_pos hb]
      rw [hgo]
      exact ih
    | false =>
      have ih := lc_run I step k (i + 1) acc S3 (by omega) (h4 rfl)
      have hgo : lcGo (.fix xs) dg dt de vs ρ (k + 1 + 1) i acc S = lcGo (.fix xs) dg dt de vs ρ (k + 1) (i + 1) acc S3 := by
        rw [lcGo]
        unfold itAt
        simp only [e, h1, h2]
      rw [hgo]
      exact ih
theorem eLc_run {xs : List PV} {di : En → Sto → Res Wlk} {dg : Tgt} {dt : En → Sto → Res Bool} {de : En → Sto → Res PV} {vs : List Nat} {ρ : En} {S S1 : Sto} (I : Nat → List PV → Sto → Prop) (hd : di ρ S = .ok (.fix xs) S1) (h0 : I 0 [] S1)
    (step : ∀ (i : Nat) (x : PV) (acc : List PV) (S : Sto), xs[i]? = some x → I i acc S → ∃ ρ2 S2 b S3, dg x (wipeE ρ vs) S = some (ρ2, S2) ∧ dt ρ2 S2 = .ok b S3 ∧
      (b = true → acc.length < big ∧ ∃ y S4, de ρ2 S3 = .ok y S4 ∧ I (i + 1) (acc ++ [y]) S4) ∧ (b = false → I (i + 1) acc S3)) :
    ∃ acc S', eLc di dg dt de vs ρ S = .ok (.ref S'.length) (S' ++ [.lst acc]) ∧ I xs.length acc S' := by
  obtain ⟨acc, S', h1, h2⟩ := lc_run I step xs.length 0 [] S1 (by omega) h0
  refine ⟨acc, S', ?_, h2⟩
  unfold eLc
  rw [hd]
  show ((lcGo (.fix xs) dg dt de vs ρ (xs.length + 1) 0 [] S1).bind fun acc S2 => Res.ok (PV.ref (List.length S2)) (S2 ++ [LO.lst acc])) = _
  rw [h1]
  rfl
/-- .. whose parts leave the store -/
theorem eLc_pure {xs : List PV} {di : En → Sto → Res Wlk} {dg : Tgt} {dt : En → Sto → Res Bool} {de : En → Sto → Res PV} {vs : List Nat} {ρ : En} {S S1 : Sto} (t : PV → Bool) (f : PV → PV) (hd : di ρ S = .ok (.fix xs) S1) (hl : xs.length ≤ big)
    (step : ∀ x ∈ xs, ∃ ρ2, dg x (wipeE ρ vs) S1 = some (ρ2, S1) ∧ dt ρ2 S1 = .ok (t x) S1 ∧ (t x = true → de ρ2 S1 = .ok (f x) S1)) :
    eLc di dg dt de vs ρ S = .ok (.ref S1.length) (S1 ++ [.lst ((xs.filter t).map f)]) := by
  obtain ⟨acc, S', h1, h2, h3⟩ := eLc_run (fun i acc S' => S' = S1 ∧ acc = ((xs.take i).filter t).map f) hd ⟨rfl, by simp⟩ fun i x acc S' e ⟨hS, ha⟩ => by
    subst hS
    obtain ⟨ρ2, a, b, c⟩ := step x (List.mem_of_getElem? e)
    obtain ⟨hi, _⟩ := List.getElem?_eq_some_iff.mp e
    have ht : xs.take (i + 1) = xs.take i ++ [x] := by rw [List.take_add_one, e]; rfl
    refine ⟨ρ2, S', t x, S', a, b, fun q => ⟨?_, f x, S', c q, rfl, ?_⟩, fun q => ⟨rfl, ?_⟩⟩
    · rw [ha, List.length_map]
      have := List.length_filter_le t (xs.take i)
      rw [List.length_take] at this
      omega
    · rw [ht, List.filter_append, List.map_append, ← ha]
      simp [q]
    · rw [ht, List.filter_append, List.map_append, ← ha]
      simp [q]
  subst h2
  rw [h1, h3, List.take_length]
/-- a while with a measure -/
theorem wh_run {c : En → Sto → Res Bool} {body : En → Sto → SRes} (I : En → Sto → Prop) (m : En → Sto → Nat)
    (step : ∀ (ρ : En) (S : Sto), I ρ S → ∃ b S1, c ρ S = .ok b S1 ∧ (b = true → ∃ ρ2 S2, (body ρ S1 = .ok .nx ρ2 S2 ∨ body ρ S1 = .ok .ct ρ2 S2) ∧ I ρ2 S2 ∧ m ρ2 S2 < m ρ S)) :
    ∀ (k : Nat) (ρ : En) (S : Sto), I ρ S → m ρ S < k → ∃ ρ' S0 S', whGo c body k ρ S = .ok .nx ρ' S' ∧ I ρ' S0 ∧ c ρ' S0 = .ok false S'
  | 0, _, _, _, hk => absurd hk (Nat.not_lt_zero _)
  | k + 1, ρ, S, h, hk => by
    obtain ⟨b, S1, h1, h2⟩ := step ρ S h
    cases b with
    | false =>
      refine ⟨ρ, S, S1, ?_, h, h1⟩
      unfold whGo
      simp only [h1]
    | true =>
      obtain ⟨ρ2, S2, h3, h4, h5⟩ := h2 rfl
      obtain ⟨ρ', S0, S', a, b, c'⟩ := wh_run I m step k ρ2 S2 h4 (by omega)
      refine ⟨ρ', S0, S', ?_, b, c'⟩
      rw [whGo]
      rcases h3 with h3 | h3 <;> simp only [h1, h3] <;> exact a
/-! a walk of a list that the body leaves -/
theorem for_gen {it : Wlk} {xs : List PV} {tg : Tgt} {body : En → Sto → SRes} (I : Nat → En → Sto → Prop) (hit : ∀ i ρ S, I i ρ S → itAt it S i = some xs[i]?)
    (step : ∀ (i : Nat) (x : PV) (ρ : En) (S : Sto), xs[i]? = some x → I i ρ S → ∃ ρ1 S1 ρ2 S2, tg x ρ S = some (ρ1, S1) ∧ body ρ1 S1 = .ok .nx ρ2 S2 ∧ I (i + 1) ρ2 S2) :
    ∀ (k i : Nat) (ρ : En) (S : Sto), i + k = xs.length → I i ρ S → ∃ ρ' S', forGo it tg body (k + 1) i ρ S = .ok .nx ρ' S' ∧ I xs.length ρ' S'
  | 0, i, ρ, S, hi, h => by
    have e : xs[i]? = none := List.getElem?_eq_none_iff.mpr (by omega)
    refine ⟨ρ, S, ?_, ?_⟩
    · unfold forGo
      rw [hit i ρ S h]
      simp only [e]
    · have : i = xs.length := by omega
      rw [← this]; exact h
  | k + 1, i, ρ, S, hi, h => by
    have hl : i < xs.length := by omega
    have e : xs[i]? = some xs[i] := List.getElem?_eq_getElem hl
    obtain ⟨ρ1, S1, ρ2, S2, h1, h2, h3⟩ := step i _ ρ S e h
    have ih := for_gen I hit step k (i + 1) ρ2 S2 (by omega) h3
    have hgo : forGo it tg body (k + 1 + 1) i ρ S = forGo it tg body (k + 1) (i + 1) ρ2 S2 := by
      rw [forGo, hit i ρ S h]
      simp only [e, h1, h2]
    rw [hgo]
    exact ih
theorem sFor_live {n : Nat} {xs : List PV} {di : En → Sto → Res Wlk} {tg : Tgt} {body : En → Sto → SRes} {ρ : En} {S S1 : Sto} (I : Nat → En → Sto → Prop) (hd : di ρ S = .ok (.live n) S1) (hn : S1[n]? = some (.lst xs)) (h0 : I 0 ρ S1) (hk : ∀ i ρ S, I i ρ S → S[n]? = some (.lst xs))
    (step : ∀ (i : Nat) (x : PV) (ρ : En) (S : Sto), xs[i]? = some x → I i ρ S → ∃ ρ1 S1 ρ2 S2, tg x ρ S = some (ρ1, S1) ∧ body ρ1 S1 = .ok .nx ρ2 S2 ∧ I (i + 1) ρ2 S2) :
    ∃ ρ' S', sFor di tg body ρ S = .ok .nx ρ' S' ∧ I xs.length ρ' S' := by
  unfold sFor liftE
  rw [hd]
  have hf : itFuel (.live n) S1 = xs.length + 1 := by
    simp only [itFuel, hn]
  show ∃ ρ' S', forGo (.live n) tg body (itFuel (.live n) S1) 0 ρ S1 = _ ∧ _
  rw [hf]
  refine for_gen I (fun i ρ S h => ?_) step xs.length 0 ρ S1 (by omega) h0
  simp only [itAt, hk i ρ S h]
end FL

/-! FLn: the functions unfolded by simp. -/
namespace FL
open PySem L2
section
variable (ρ : En) (S : Sto)
@[simp] theorem bind_ok {α β : Type} (a : α) (f : α → Sto → Res β) : (Res.ok a S).bind f = f a S := rfl
@[simp] theorem bind_stk {α β : Type} (f : α → Sto → Res β) : (Res.stk (α := α)).bind f = .stk := rfl
@[simp] theorem ofO_some {α : Type} (a : α) : ofO (some (a, S)) = .ok a S := rfl
@[simp] theorem ofO_none {α : Type} : ofO (α := α) none = .stk := rfl
@[simp] theorem liftE_ok {α : Type} (a : α) (f : α → Sto → SRes) : liftE (.ok a S) ρ f = f a S := rfl
@[simp] theorem eVar_ap (i : Nat) : eVar i ρ S = match ρ[i]? with
  | some (some x) => .ok x S
  | _ => .stk := rfl
@[simp] theorem eC_ap (v : PV) : eC v ρ S = .ok v S := rfl
@[simp] theorem eBin_ap (f : PV → PV → Sto → OP) (da db : En → Sto → Res PV) : eBin f da db ρ S = (da ρ S).bind fun x S1 => (db ρ S1).bind fun y S2 => ofO (f x y S2) := rfl
@[simp] theorem eUn_ap (f : PV → Sto → OP) (da : En → Sto → Res PV) : eUn f da ρ S = (da ρ S).bind fun x S1 => ofO (f x S1) := rfl
@[simp] theorem aNil_ap : aNil ρ S = .ok [] S := rfl
@[simp] theorem aCons_ap (da : En → Sto → Res PV) (dr : En → Sto → Res (List PV)) : aCons da dr ρ S = (da ρ S).bind fun x S1 => (dr ρ S1).bind fun xs S2 => .ok (x :: xs) S2 := rfl
@[simp] theorem eTup_ap (da : En → Sto → Res (List PV)) : eTup da ρ S = (da ρ S).bind fun xs S1 => if xs.length ≤ big then .ok (.tup xs) S1 else .stk := rfl
@[simp] theorem eLst_ap (da : En → Sto → Res (List PV)) : eLst da ρ S = (da ρ S).bind fun xs S1 => if xs.length ≤ big then .ok (.ref S1.length) (S1 ++ [.lst xs]) else .stk := rfl
@[simp] theorem eIf_ap (dt : En → Sto → Res Bool) (da db : En → Sto → Res PV) : eIf dt da db ρ S = (dt ρ S).bind fun b S1 => if b then da ρ S1 else db ρ S1 := rfl
@[simp] theorem tOfE_ap (da : En → Sto → Res PV) : tOfE da ρ S = (da ρ S).bind fun x S1 => match x with
  | .bl b => .ok b S1
  | _ => .stk := rfl
@[simp] theorem tAnd2_ap (da db : En → Sto → Res Bool) : tAnd2 da db ρ S = (da ρ S).bind fun b S1 => if b then db ρ S1 else .ok false S1 := rfl
@[simp] theorem tOr2_ap (da db : En → Sto → Res Bool) : tOr2 da db ρ S = (da ρ S).bind fun b S1 => if b then .ok true S1 else db ρ S1 := rfl
@[simp] theorem tNot1_ap (da : En → Sto → Res Bool) : tNot1 da ρ S = (da ρ S).bind fun b S1 => .ok (!b) S1 := rfl
@[simp] theorem eAnd2_ap (da db : En → Sto → Res PV) : eAnd2 da db ρ S = (da ρ S).bind fun x S1 => match x with
  | .bl b => if b then db ρ S1 else .ok (.bl false) S1
  | _ => .stk := rfl
@[simp] theorem eOr2_ap (da db : En → Sto → Res PV) : eOr2 da db ρ S = (da ρ S).bind fun x S1 => match x with
  | .bl b => if b then .ok (.bl true) S1 else db ρ S1
  | _ => .stk := rfl
@[simp] theorem eNot1_ap (da : En → Sto → Res PV) : eNot1 da ρ S = (da ρ S).bind fun x S1 => match x with
  | .bl b => .ok (.bl (!b)) S1
  | _ => .stk := rfl
@[simp] theorem eCall_ap (f : List PV → Sto → OP) (da : En → Sto → Res (List PV)) : eCall f da ρ S = (da ρ S).bind fun xs S1 => ofO (f xs S1) := rfl
@[simp] theorem eApp_ap (f : FF) (dl : En → Sto → Res (List PV)) : eApp f dl ρ S = (dl ρ S).bind f := rfl
@[simp] theorem eAppK_ap (f : FF) (pi : List Nat) (dl dk : En → Sto → Res (List PV)) : eAppK f pi dl dk ρ S = (dl ρ S).bind fun xs S1 => (dk ρ S1).bind fun ys S2 => f (FL.perm pi (xs ++ ys)) S2 := rfl
@[simp] theorem sNop_ap : sNop ρ S = .ok .nx ρ S := rfl
@[simp] theorem sSeq_ap (a b : En → Sto → SRes) : sSeq a b ρ S = match a ρ S with
  | .ok .nx ρ1 S1 => b ρ1 S1
  | r => r := rfl
@[simp] theorem sExp_ap (da : En → Sto → Res PV) : sExp da ρ S = liftE (da ρ S) ρ fun _ S1 => .ok .nx ρ S1 := rfl
@[simp] theorem sRet_ap (da : En → Sto → Res PV) : sRet da ρ S = liftE (da ρ S) ρ fun v S1 => .ok (.rt v) ρ S1 := rfl
@[simp] theorem sRetN_ap : sRetN ρ S = .ok (.rt .non) ρ S := rfl
@[simp] theorem sIf_ap (dt : En → Sto → Res Bool) (a b : En → Sto → SRes) : sIf dt a b ρ S = liftE (dt ρ S) ρ fun c S1 => if c then a ρ S1 else b ρ S1 := rfl
@[simp] theorem gNm_ap (i : Nat) (v : PV) : gNm i v ρ S = if i < ρ.length then some (ρ.set i (some v), S) else none := rfl
@[simp] theorem gTp_ap (n : Nat) (t : List PV → En → Sto → Option (En × Sto)) (xs : List PV) : gTp n t (.tup xs) ρ S = if xs.length = n then t xs ρ S else none := rfl
@[simp] theorem gNil1_ap : gNil1 [] ρ S = some (ρ, S) := rfl
@[simp] theorem gCons1_ap (t : Tgt) (u : List PV → En → Sto → Option (En × Sto)) (x : PV) (r : List PV) : gCons1 t u (x :: r) ρ S = match t x ρ S with
  | some (ρ1, S1) => u r ρ1 S1
  | none => none := rfl
@[simp] theorem gSb_ap (st : PV → PV → PV → Sto → Option Sto) (to ti : En → Sto → Res PV) (v : PV) : gSb st to ti v ρ S = match to ρ S with
  | .ok o S1 => match ti ρ S1 with
    | .ok i S2 => match st o i v S2 with
      | some S3 => some (ρ, S3)
      | none => none
    | _ => none
  | _ => none := rfl
@[simp] theorem sAsg_ap (da : En → Sto → Res PV) (t : Tgt) : sAsg da t ρ S = liftE (da ρ S) ρ fun v S1 => match t v ρ S1 with
  | some (ρ1, S2) => .ok .nx ρ1 S2
  | none => .stk := rfl
@[simp] theorem sPar_ap (i j : Nat) (dl : En → Sto → Res (List PV)) : sPar i j dl ρ S = liftE (dl ρ S) ρ fun xs S1 => match xs with
  | [x, y] => if i < ρ.length ∧ j < ρ.length then .ok .nx ((ρ.set i (some x)).set j (some y)) S1 else .stk
  | _ => .stk := rfl
@[simp] theorem eChain_ap (f f' : PV → PV → Sto → OP) (da db dc : En → Sto → Res PV) : eChain f f' da db dc ρ S = (da ρ S).bind fun x S1 => (db ρ S1).bind fun y S2 => match f x y S2 with
  | some (.bl true, S3) => (dc ρ S3).bind fun z S4 => ofO (f' y z S4)
  | some (.bl false, S3) => .ok (.bl false) S3
  | _ => .stk := rfl
@[simp] theorem eMt_ap (f : PV → List PV → Sto → OP) (da : En → Sto → Res PV) (dl : En → Sto → Res (List PV)) : eMt f da dl ρ S = (da ρ S).bind fun x S1 => match x with
  | .ref n => match S1[n]? with
    | some (.lst _) => (dl ρ S1).bind fun xs S2 => ofO (f x xs S2)
    | _ => .stk
  | _ => .stk := rfl
@[simp] theorem eMt0_ap (f : PV → Sto → OP) (da : En → Sto → Res PV) : eMt0 f da ρ S = (da ρ S).bind fun x S1 => ofO (f x S1) := rfl
@[simp] theorem dYes_ap : dYes ρ S = .ok true S := rfl
@[simp] theorem pAdd_int (i j : Int) : pAdd (.int i) (.int j) S = some (.int (i + j), S) := rfl
@[simp] theorem pSub_int (i j : Int) : pSub (.int i) (.int j) S = some (.int (i - j), S) := rfl
@[simp] theorem pMul_int (i j : Int) : pMul (.int i) (.int j) S = if i.natAbs.log2 + j.natAbs.log2 < 1000000 then some (.int (i * j), S) else none := rfl
@[simp] theorem pMod_int (i j : Int) : pMod (.int i) (.int j) S = if 0 < j then some (.int (i % j), S) else none := rfl
@[simp] theorem pDiv_int (i j : Int) : pDiv (.int i) (.int j) S = if 0 < j ∧ j.natAbs.log2 < 9000 then some (.int (i / j), S) else none := rfl
@[simp] theorem pLt_int (i j : Int) : pLt (.int i) (.int j) S = some (.bl (decide (i < j)), S) := rfl
@[simp] theorem pLe_int (i j : Int) : pLe (.int i) (.int j) S = some (.bl (decide (i ≤ j)), S) := rfl
@[simp] theorem pGt_int (i j : Int) : pGt (.int i) (.int j) S = some (.bl (decide (j < i)), S) := rfl
@[simp] theorem pGe_int (i j : Int) : pGe (.int i) (.int j) S = some (.bl (decide (j ≤ i)), S) := rfl
@[simp] theorem pEq_int (i j : Int) : pEq (.int i) (.int j) S = some (.bl (i == j), S) := rfl
@[simp] theorem pNe_int (i j : Int) : pNe (.int i) (.int j) S = some (.bl (!(i == j)), S) := rfl
@[simp] theorem pNe_bl (i j : Bool) : pNe (.bl i) (.bl j) S = some (.bl (!(i == j)), S) := rfl
@[simp] theorem bInt_int (i : Int) : bInt [.int i] S = some (.int i, S) := rfl
@[simp] theorem bAbs_int (i : Int) : bAbs [.int i] S = some (.int (if i < 0 then -i else i), S) := rfl
@[simp] theorem bMax2_int (i j : Int) : bMax2 [.int i, .int j] S = some (.int (if j > i then j else i), S) := rfl
@[simp] theorem bMin2_int (i j : Int) : bMin2 [.int i, .int j] S = some (.int (if j < i then j else i), S) := rfl
@[simp] theorem bDivmod_int (i j : Int) : bDivmod [.int i, .int j] S = if 0 < j ∧ j < 1073741824 then some (.tup [.int (i / j), .int (i % j)], S) else none := rfl
@[simp] theorem bLen_tup (xs : List PV) : bLen [.tup xs] S = some (.int xs.length, S) := rfl
@[simp] theorem bLen_kl (xs : List PV) : bLen [.kl xs] S = some (.int xs.length, S) := rfl
@[simp] theorem bTuple_tup (xs : List PV) : bTuple [.tup xs] S = some (.tup xs, S) := rfl
theorem ixN_lt {n i : Nat} (h : i < n) : ixN n (i : Int) = some i := by
  unfold ixN
  rw [if_pos (by omega), if_pos (by omega)]
  simp
@[simp] theorem ixN_0 (n : Nat) : ixN (n + 1) 0 = some 0 := ixN_lt (i := 0) (by omega)
@[simp] theorem ixN_1 (n : Nat) : ixN (n + 1 + 1) 1 = some 1 := ixN_lt (i := 1) (by omega)
@[simp] theorem ixN_2 (n : Nat) : ixN (n + 1 + 1 + 1) 2 = some 2 := ixN_lt (i := 2) (by omega)
@[simp] theorem atI_0 {α : Type} (a : α) (l : List α) : atI (a :: l) 0 = some a := by
  unfold atI
  rw [List.length_cons, ixN_0]
  rfl
@[simp] theorem atI_1 {α : Type} (a b : α) (l : List α) : atI (a :: b :: l) 1 = some b := by
  unfold atI
  rw [List.length_cons, List.length_cons, ixN_1]
  rfl
@[simp] theorem atI_2 {α : Type} (a b c : α) (l : List α) : atI (a :: b :: c :: l) 2 = some c := by
  unfold atI
  rw [List.length_cons, List.length_cons, List.length_cons, ixN_2]
  rfl
theorem atI_lt {α : Type} {l : List α} {i : Nat} (h : i < l.length) : atI l (i : Int) = some l[i] := by
  unfold atI
  rw [ixN_lt h]
  exact List.getElem?_eq_getElem h
end
theorem bLen_ref {S : Sto} {n : Nat} {xs : List PV} (h : S[n]? = some (.lst xs)) : bLen [.ref n] S = some (.int xs.length, S) := by
  simp only [bLen, lstOf, h]
theorem bTuple_ref {S : Sto} {n : Nat} {xs : List PV} (h : S[n]? = some (.lst xs)) : bTuple [.ref n] S = some (.tup xs, S) := by
  simp only [bTuple, lstOf, h]
theorem pIx_ref {S : Sto} {n : Nat} {xs : List PV} (h : S[n]? = some (.lst xs)) (i : Int) : pIx (.ref n) (.int i) S = match atI xs i with
  | some z => some (z, S)
  | none => none := by
  simp only [pIx, lstOf, h]
  all_goals rfl
@[simp] theorem pIx_tup (xs : List PV) (i : Int) (S : Sto) : pIx (.tup xs) (.int i) S = match atI xs i with
  | some z => some (z, S)
  | none => none := rfl
@[simp] theorem pIx_kl (xs : List PV) (i : Int) (S : Sto) : pIx (.kl xs) (.int i) S = match atI xs i with
  | some z => some (z, S)
  | none => none := rfl
theorem setIx_ref {S : Sto} {n : Nat} {xs : List PV} (h : S[n]? = some (.lst xs)) (i : Int) (v : PV) : setIx (.ref n) (.int i) v S = match ixN xs.length i with
  | some j => some (S.set n (.lst (xs.set j v)))
  | none => none := by
  simp only [setIx, h]
  all_goals rfl
@[simp] theorem pIx_set {S : Sto} {p : Nat} {xs : List PV} {i : Int} (hp : p < S.length) : pIx (.ref p) (.int i) (S.set p (.lst xs)) = match atI xs i with
  | some z => some (z, S.set p (.lst xs))
  | none => none := pIx_ref (by rw [List.getElem?_set_self hp]) i
@[simp] theorem setIx_set {S : Sto} {p : Nat} {xs : List PV} {i : Int} {v : PV} (hp : p < S.length) : setIx (.ref p) (.int i) v (S.set p (.lst xs)) = match ixN xs.length i with
  | some j => some (S.set p (.lst (xs.set j v)))
  | none => none := by
  rw [setIx_ref (xs := xs) (by rw [List.getElem?_set_self hp])]
  cases ixN xs.length i with
  | none => rfl
  | some j => simp only [List.set_set]
theorem bAll_ref {S : Sto} {n : Nat} {xs : List PV} {bs : List Bool} (h : S[n]? = some (.lst xs)) (hb : xs = bs.map PV.bl) : bAll [.ref n] S = some (.bl (bs.all id), S) := by
  have : ∀ bs : List Bool, boolsOf (bs.map PV.bl) = some bs := by
    intro bs
    induction bs with
    | nil => rfl
    | cons b bs ih => simp only [boolsOf, List.map_cons, mapO] at ih ⊢; rw [ih]
  subst hb
  simp only [bAll, h, this]
theorem bAny_ref {S : Sto} {n : Nat} {xs : List PV} {bs : List Bool} (h : S[n]? = some (.lst xs)) (hb : xs = bs.map PV.bl) : bAny [.ref n] S = some (.bl (bs.any id), S) := by
  have : ∀ bs : List Bool, boolsOf (bs.map PV.bl) = some bs := by
    intro bs
    induction bs with
    | nil => rfl
    | cons b bs ih => simp only [boolsOf, List.map_cons, mapO] at ih ⊢; rw [ih]
  subst hb
  simp only [bAny, h, this]
end FL

/-! FLo: tuples of ints, pairs of ints, as data. -/
namespace FL
open PySem L2
open PySem.W (dataLt alike alikeAll dataLe)
abbrev tI (l : List Int) : PV := .tup (l.map PV.int)
abbrev wP (w : Int × Int) : PV := .tup [.int w.1, .int w.2]
abbrev wsP (W : List (Int × Int)) : PV := .tup (W.map wP)
theorem mapO_map {α β γ : Type} {f : β → Option γ} {g : α → β} {h : α → γ} (e : ∀ a, f (g a) = some (h a)) : ∀ l : List α, mapO f (l.map g) = some (l.map h)
  | [] => rfl
  | a :: l => by
    simp only [List.map_cons, mapO, e a, mapO_map e l]
@[simp] theorem dOf_int (S : Sto) (k : Nat) (i : Int) : dataOf S (k + 1) (.int i) = some (.int i) := rfl
@[simp] theorem dOf_tI (S : Sto) (k : Nat) (l : List Int) : dataOf S (k + 2) (tI l) = some (.tuple (l.map .int)) := by
  show (mapO (dataOf S (k + 1)) (l.map PV.int)).map PyData.tuple = _
  rw [mapO_map (f := dataOf S (k + 1)) (h := PyData.int) fun a => rfl]
  rfl
@[simp] theorem dOf_wP (S : Sto) (k : Nat) (w : Int × Int) : dataOf S (k + 2) (wP w) = some (.tuple [.int w.1, .int w.2]) := rfl
@[simp] theorem dOf_wsP (S : Sto) (k : Nat) (W : List (Int × Int)) : dataOf S (k + 3) (wsP W) = some (.tuple (W.map fun w => .tuple [.int w.1, .int w.2])) := by
  show (mapO (dataOf S (k + 2)) (W.map wP)).map PyData.tuple = _
  rw [mapO_map (f := dataOf S (k + 2)) (h := fun w : Int × Int => PyData.tuple [.int w.1, .int w.2]) fun a => rfl]
  rfl
theorem eqv_ints : ∀ l m : List Int, PyData.eqvAll (l.map .int) (m.map .int) = decide (l = m)
  | [], [] => by simp [PyData.eqvAll]
  | [], b :: m => by simp [PyData.eqvAll]
  | a :: l, [] => by simp [PyData.eqvAll]
  | a :: l, b :: m => by
    simp only [List.map_cons, PyData.eqvAll, PyData.eqv, eqv_ints l m]
    rw [Bool.eq_iff_iff]
    simp
theorem eqv_pair (w u : Int × Int) : PyData.eqv (.tuple [.int w.1, .int w.2]) (.tuple [.int u.1, .int u.2]) = decide (w = u) := by
  simp only [PyData.eqv, PyData.eqvAll]
  rw [Bool.eq_iff_iff]
  obtain ⟨a, b⟩ := w
  obtain ⟨c, d⟩ := u
  simp
theorem eqv_pairs : ∀ l m : List (Int × Int), PyData.eqvAll (l.map fun w => .tuple [.int w.1, .int w.2]) (m.map fun w => .tuple [.int w.1, .int w.2]) = decide (l = m)
  | [], [] => by simp [PyData.eqvAll]
  | [], b :: m => by simp [PyData.eqvAll]
  | a :: l, [] => by simp [PyData.eqvAll]
  | a :: l, b :: m => by
    simp only [List.map_cons, PyData.eqvAll, eqv_pair, eqv_pairs l m]
    rw [Bool.eq_iff_iff]
    simp
@[simp] theorem pEq_tI (S : Sto) (l m : List Int) : pEq (tI l) (tI m) S = some (.bl (decide (l = m)), S) := by
  unfold pEq
  simp only [dOf, dOf_tI S 38]
  show some (PV.bl (PyData.eqvAll _ _), S) = _
  rw [eqv_ints]
@[simp] theorem pNe_tI (S : Sto) (l m : List Int) : pNe (tI l) (tI m) S = some (.bl (!decide (l = m)), S) := by
  unfold pNe
  simp only [dOf, dOf_tI S 38]
  show some (PV.bl (!PyData.eqvAll _ _), S) = _
  rw [eqv_ints]
theorem any_int (p : Int) : ∀ l : List Int, ((l.map PyData.int).any fun z => PyData.eqv z (.int p)) = decide (p ∈ l)
  | [] => by simp
  | a :: l => by
    rw [List.map_cons, List.any_cons, any_int p l]
    show ((a == p) || decide (p ∈ l)) = _
    by_cases h : a = p
    · subst h; simp
    · have h2 : ¬ p = a := fun e => h e.symm
      simp [h, h2]
@[simp] theorem pIn_tI (neg : Bool) (S : Sto) (p : Int) (l : List Int) : pIn neg (.int p) (tI l) S = some (.bl (neg ^^ decide (p ∈ l)), S) := by
  unfold pIn
  simp only [dOf, dOf_tI S 38, dOf_int S 39]
  rw [any_int]
theorem pIn_list {neg : Bool} {S : Sto} {p : Int} {n : Nat} {l : List Int} (h : S[n]? = some (.lst (l.map PV.int))) : pIn neg (.int p) (.ref n) S = some (.bl (neg ^^ decide (p ∈ l)), S) := by
  have e : dOf S (.ref n) = some (.list (l.map .int)) := by
    show dataOf S 40 (.ref n) = _
    simp only [dataOf, h]
    rw [mapO_map (f := dataOf S 39) (h := PyData.int) fun a => rfl]
    rfl
  unfold pIn
  rw [e]
  simp only [dOf, dOf_int S 39]
  rw [any_int]
theorem any_pair (p : Int × Int) : ∀ l : List (Int × Int), ((l.map fun w => PyData.tuple [.int w.1, .int w.2]).any fun z => PyData.eqv z (.tuple [.int p.1, .int p.2])) = decide (p ∈ l)
  | [] => by simp
  | a :: l => by
    rw [List.map_cons, List.any_cons, any_pair p l, eqv_pair]
    by_cases h : a = p
    · subst h; simp
    · have h2 : ¬ p = a := fun e => h e.symm
      simp [h, h2]
@[simp] theorem pIn_wsP (neg : Bool) (S : Sto) (w : Int × Int) (W : List (Int × Int)) : pIn neg (wP w) (wsP W) S = some (.bl (neg ^^ decide (w ∈ W)), S) := by
  unfold pIn
  simp only [dOf, dOf_wsP S 37, dOf_wP S 38]
  rw [any_pair]
/-- p in a pair -/
@[simp] theorem pIn_wP (neg : Bool) (S : Sto) (p : Int) (w : Int × Int) : pIn neg (.int p) (wP w) S = some (.bl (neg ^^ decide (p = w.1 ∨ p = w.2)), S) := by
  have q := pIn_tI neg S p [w.1, w.2]
  have e : decide (p ∈ [w.1, w.2]) = decide (p = w.1 ∨ p = w.2) := by simp
  rw [e] at q
  exact q
/-! the order of pairs -/
def ltW (w u : Int × Int) : Bool := decide (w.1 < u.1 ∨ (w.1 = u.1 ∧ w.2 < u.2))
/-! sorted ints -/
def isI : List Int → List Int := isort fun a b => decide (a ≤ b)
theorem ins1_map {α β : Type} {le : α → α → Bool} {le' : β → β → Bool} {f : α → β} (h : ∀ a b, le' (f a) (f b) = le a b) (a : α) : ∀ l : List α, ins1 le' (f a) (l.map f) = (ins1 le a l).map f
  | [] => rfl
  | b :: l => by
    simp only [List.map_cons, ins1, h]
    split
    · rfl
    · rw [ins1_map h a l]; rfl
theorem isort_map {α β : Type} {le : α → α → Bool} {le' : β → β → Bool} {f : α → β} (h : ∀ a b, le' (f a) (f b) = le a b) : ∀ l : List α, isort le' (l.map f) = (isort le l).map f
  | [] => rfl
  | a :: l => by
    show ins1 le' (f a) (isort le' (l.map f)) = _
    rw [isort_map h l, ins1_map h]
    rfl
theorem ltW_data (w u : Int × Int) : dataLt (.tuple [.int w.1, .int w.2]) (.tuple [.int u.1, .int u.2]) = ltW w u := by
  have h1 : ∀ x y : Int, alike (.int x) (.int y) = true := fun _ _ => by simp [alike]
  rw [PySem.W.dataLt_pair (h1 _ _) (h1 _ _), PySem.W.dataLt_int, PySem.W.dataLt_int]
  obtain ⟨a, b⟩ := w
  obtain ⟨c, d⟩ := u
  unfold ltW
  by_cases e1 : a = c
  · subst e1
    by_cases e2 : b = d
    · subst e2; simp [PyData.eqv]
    · simp [PyData.eqv, e2]
  · simp [PyData.eqv, e1]
theorem bSorted_ints {S : Sto} {n : Nat} {l : List Int} (h : S[n]? = some (.lst (l.map PV.int))) (hl : l.length ≤ big) : bSorted [.ref n] S = some (.ref S.length, S ++ [.lst ((isI l).map PV.int)]) := by
  have ok : okSort (l.map .int) = true := by
    unfold okSort
    rw [Bool.and_eq_true, Bool.or_eq_true]
    refine ⟨?_, .inr ?_⟩
    · simp [List.all_eq_true, alike]
    · simp [List.all_eq_true]
  have hz : ∀ l : List Int, (l.map PV.int).zip (l.map PyData.int) = l.map fun i => (PV.int i, PyData.int i) := by
    intro l
    induction l with
    | nil => rfl
    | cons a l ih => simp [ih]
  show (match lstOf S (.ref n) with
    | some xs => match mapO (dOf S) xs with
      | some ds => if (okSort ds && decide (xs.length ≤ big)) = true then some (PV.ref S.length, S ++ [LO.lst ((isort leD (xs.zip ds)).map fun p : PV × PyData => p.1)]) else none
      | none => none
    | none => none) = _
  have e1 : lstOf S (.ref n) = some (l.map PV.int) := by simp only [lstOf, h]
  rw [e1]
  simp only
  rw [mapO_map (f := dOf S) (h := PyData.int) fun a => rfl]
  simp only [ok, List.length_map, hl, decide_true, Bool.and_self, if_true]
  rw [hz, isort_map (le := fun a b : Int => decide (a ≤ b))]
  · simp [isI, Function.comp_def]
  · intro a b
    show dataLe false (fun p : PV × PyData => p.2) (PV.int a, PyData.int a) (PV.int b, PyData.int b) = _
    rw [PySem.W.dataLe_eq]
    show (!dataLt (PyData.int b) (PyData.int a)) = _
    rw [PySem.W.dataLt_int, PySem.W.not_lt_int]
end FL

/-! FLp: comprehensions over what a Lean list gives; stores that are kept but for one place. -/
namespace FL
open PySem L2
theorem get_end {S : Sto} {o : LO} : (S ++ [o])[S.length]? = some o := by simp
section
variable {α : Type} {di : En → Sto → Res Wlk} {dg : Tgt} {dt : En → Sto → Res Bool} {de : En → Sto → Res PV} {vs : List Nat} {ρ : En} {S S1 : Sto}
/-- each step keeps an invariant of the store -/
theorem lc_inv (l : List α) (g : α → PV) (t : α → Bool) (f : α → PV) (Inv : Sto → Prop) (hd : di ρ S = .ok (.fix (l.map g)) S1) (h0 : Inv S1) (hl : l.length ≤ big)
    (step : ∀ a ∈ l, ∀ T, Inv T → ∃ ρ2 T2, dg (g a) (wipeE ρ vs) T = some (ρ2, T) ∧ dt ρ2 T = .ok (t a) T2 ∧ Inv T2 ∧ (t a = true → ∃ T3, de ρ2 T2 = .ok (f a) T3 ∧ Inv T3)) :
    ∃ T, eLc di dg dt de vs ρ S = .ok (.ref T.length) (T ++ [.lst ((l.filter t).map f)]) ∧ Inv T := by
  obtain ⟨acc, S', h1, h2, h3⟩ := eLc_run (fun i acc T => Inv T ∧ acc = ((l.take i).filter t).map f) hd ⟨h0, by simp⟩ fun i x acc T e ⟨hT, ha⟩ => by
    rw [List.getElem?_map] at e
    cases q : l[i]? with
    | none => rw [q] at e; cases e
    | some a =>
      rw [q] at e; cases e
      obtain ⟨ρ2, T2, s1, s2, s3, s4⟩ := step a (List.mem_of_getElem? q) T hT
      obtain ⟨hi, _⟩ := List.getElem?_eq_some_iff.mp q
      have ht : l.take (i + 1) = l.take i ++ [a] := by rw [List.take_add_one, q]; rfl
      refine ⟨ρ2, T, t a, T2, s1, s2, fun z => ?_, fun z => ⟨s3, ?_⟩⟩
      · obtain ⟨T3, s5, s6⟩ := s4 z
        refine ⟨?_, f a, T3, s5, s6, ?_⟩
        · rw [ha, List.length_map]
          have := List.length_filter_le t (l.take i)
          rw [List.length_take] at this
          omega
        · rw [ht, List.filter_append, List.map_append, ← ha]
          simp [z]
      · rw [ht, List.filter_append, List.map_append, ← ha]
        simp [z]
  refine ⟨S', ?_, h2⟩
  rw [h1, h3, List.length_map, List.take_length]
/-- .. whose parts leave the store -/
theorem lc_over (l : List α) (g : α → PV) (t : α → Bool) (f : α → PV) (hd : di ρ S = .ok (.fix (l.map g)) S1) (hl : l.length ≤ big)
    (step : ∀ a ∈ l, ∃ ρ2, dg (g a) (wipeE ρ vs) S1 = some (ρ2, S1) ∧ dt ρ2 S1 = .ok (t a) S1 ∧ (t a = true → de ρ2 S1 = .ok (f a) S1)) :
    ∃ n S', eLc di dg dt de vs ρ S = .ok (.ref n) S' ∧ S'[n]? = some (.lst ((l.filter t).map f)) ∧ S1 <+: S' := by
  obtain ⟨T, h1, h2⟩ := lc_inv (dg := dg) (dt := dt) (de := de) (vs := vs) l g t f (fun T => T = S1) hd rfl hl fun a ha T hT => by
    obtain ⟨ρ2, s1, s2, s3⟩ := step a ha
    exact ⟨ρ2, S1, by rw [hT]; exact s1, by rw [hT] at *; exact s2, rfl, fun z => ⟨S1, s3 z, rfl⟩⟩
  rw [h2] at h1
  exact ⟨_, _, h1, get_end, List.prefix_append _ _⟩
/-- .. whose parts let the store grow -/
theorem lc_grow (l : List α) (g : α → PV) (t : α → Bool) (f : α → PV) (hd : di ρ S = .ok (.fix (l.map g)) S1) (hl : l.length ≤ big)
    (step : ∀ a ∈ l, ∀ T, S1 <+: T → ∃ ρ2 T2, dg (g a) (wipeE ρ vs) T = some (ρ2, T) ∧ dt ρ2 T = .ok (t a) T2 ∧ T <+: T2 ∧ (t a = true → ∃ T3, de ρ2 T2 = .ok (f a) T3 ∧ T2 <+: T3)) :
    ∃ n S', eLc di dg dt de vs ρ S = .ok (.ref n) S' ∧ S'[n]? = some (.lst ((l.filter t).map f)) ∧ S1 <+: S' := by
  obtain ⟨T, h1, h2⟩ := lc_inv (dg := dg) (dt := dt) (de := de) (vs := vs) l g t f (fun T => S1 <+: T) hd (List.prefix_refl _) hl fun a ha T hT => by
    obtain ⟨ρ2, T2, s1, s2, s3, s4⟩ := step a ha T hT
    refine ⟨ρ2, T2, s1, s2, hT.trans s3, fun z => ?_⟩
    obtain ⟨T3, s5, s6⟩ := s4 z
    exact ⟨T3, s5, (hT.trans s3).trans s6⟩
  exact ⟨_, _, h1, get_end, h2.trans (List.prefix_append _ _)⟩
end
theorem bAll_of {S : Sto} {n : Nat} {α : Type} {l : List α} {f : α → Bool} (h : S[n]? = some (.lst (l.map fun a => PV.bl (f a)))) : bAll [.ref n] S = some (.bl (l.all f), S) := by
  rw [bAll_ref (bs := l.map f) h (by simp)]
  simp [List.all_map]
theorem bAny_of {S : Sto} {n : Nat} {α : Type} {l : List α} {f : α → Bool} (h : S[n]? = some (.lst (l.map fun a => PV.bl (f a)))) : bAny [.ref n] S = some (.bl (l.any f), S) := by
  rw [bAny_ref (bs := l.map f) h (by simp)]
  simp [List.any_map]
/-- all but the place p stands as before -/
def Kept (p : Nat) (S S' : Sto) : Prop := ∀ i o, S[i]? = some o → i ≠ p → S'[i]? = some o
theorem Kept.refl {p : Nat} {S : Sto} : Kept p S S := fun _ _ h _ => h
theorem Kept.trans {p : Nat} {S S' S'' : Sto} (h : Kept p S S') (h' : Kept p S' S'') : Kept p S S'' := fun i o e n => h' i o (h i o e n) n
theorem Kept.of {p : Nat} {S S' : Sto} (h : S <+: S') : Kept p S S' := fun _ _ e _ => prefix_get h e
theorem Kept.set {p : Nat} {S : Sto} {x : LO} : Kept p S (S.set p x) := fun i o e n => by
  rw [List.getElem?_set_ne (Ne.symm n)]; exact e
theorem Kept.app {p : Nat} {S : Sto} {x : LO} : Kept p S (S ++ [x]) := .of (List.prefix_append _ _)
theorem lt_of_get {S : Sto} {i : Nat} {o : LO} (h : S[i]? = some o) : i < S.length := (List.getElem?_eq_some_iff.mp h).1
theorem get_set_eq {S : Sto} {i : Nat} {o x : LO} (h : S[i]? = some o) : (S.set i x)[i]? = some x := List.getElem?_set_self (lt_of_get h)
theorem get_set_ne {S : Sto} {i j : Nat} {o x : LO} (h : S[i]? = some o) (n : i ≠ j) : (S.set j x)[i]? = some o := by
  rw [List.getElem?_set_ne (Ne.symm n)]; exact h
theorem append_ref {S : Sto} {n : Nat} {xs : List PV} {y : PV} (h : S[n]? = some (.lst xs)) (hl : xs.length < big) : mAppend (.ref n) [y] S = some (.non, S.set n (.lst (xs ++ [y]))) := by
  show (match S[n]? with
    | some (.lst ys) => if ys.length < big then some (PV.non, S.set n (.lst (ys ++ [y]))) else none
    | _ => none) = _
  rw [h]
  simp [hl]
theorem pLe_wP (S : Sto) (w u : Int × Int) : pLe (wP w) (wP u) S = some (.bl (!ltW u w), S) := by
  show pOrd (fun d e => !PySem.W.dataLt e d) (wP w) (wP u) S = _
  unfold pOrd
  simp only [dOf, dOf_wP S 38]
  rw [if_pos (by simp [PySem.W.alike, PySem.W.alikeAll]), ltW_data]
theorem enum_get {α : Type} {W : List α} {g : α → PV} {i : Nat} {x : PV} (h : ((W.map g).mapIdx fun i x => PV.tup [.int (i : Nat), x])[i]? = some x) : ∃ w, W[i]? = some w ∧ x = .tup [.int (i : Nat), g w] := by
  rw [List.getElem?_mapIdx, List.getElem?_map] at h
  cases q : W[i]? with
  | none => rw [q] at h; cases h
  | some w => rw [q] at h; exact ⟨w, rfl, (Option.some.inj h).symm⟩
theorem map_get {α : Type} {W : List α} {g : α → PV} {i : Nat} {x : PV} (h : (W.map g)[i]? = some x) : ∃ w, W[i]? = some w ∧ x = g w := by
  rw [List.getElem?_map] at h
  cases q : W[i]? with
  | none => rw [q] at h; cases h
  | some w => rw [q] at h; exact ⟨w, rfl, (Option.some.inj h).symm⟩
/-- the one before -/
theorem atI_pred {α β : Type} {W : List α} {g : α → β} {i : Nat} (h0 : 0 < i) (h : i < W.length) : ∃ u, W[i - 1]? = some u ∧ atI (W.map g) ((i : Int) - 1) = some (g u) := by
  have h1 : i - 1 < W.length := by omega
  refine ⟨W[i - 1], List.getElem?_eq_getElem h1, ?_⟩
  have e : ((i : Int) - 1) = ((i - 1 : Nat) : Int) := by omega
  rw [e, atI_lt (by simpa using h1)]
  simp
theorem seq_nx {a b : En → Sto → SRes} {ρ ρ1 : En} {S S1 : Sto} (e : a ρ S = .ok .nx ρ1 S1) : sSeq a b ρ S = b ρ1 S1 := by
  rw [sSeq_ap, e]
theorem eFld_of {Cs : List Str} {f C : Str} {da : En → Sto → Res PV} {ρ : En} {S S1 : Sto} {n : Nat} {fs : List (Str × PV)} {v : PV} (ha : da ρ S = .ok (.ref n) S1) (h : S1[n]? = some (.ins C fs)) (hC : C ∈ Cs) (hv : lookP f fs = some v) : eFld Cs f da ρ S = .ok v S1 := by
  unfold eFld
  rw [ha]
  simp only [bind_ok, h, if_pos hC, hv]
theorem sFldS_of {Cs : List Str} {f C : Str} {dv da : En → Sto → Res PV} {ρ : En} {S S1 S2 : Sto} {n : Nat} {fs : List (Str × PV)} {y : PV} (hv : dv ρ S = .ok y S1) (ha : da ρ S1 = .ok (.ref n) S2) (h : S2[n]? = some (.ins C fs)) (hC : C ∈ Cs) (hl : fs.length < 1000) : sFldS Cs f dv da ρ S = .ok .nx ρ (S2.set n (.ins C (putP f y fs))) := by
  unfold sFldS
  rw [hv, liftE_ok, ha, liftE_ok]
  simp only [h, hC, hl, and_self, if_true]
theorem run_rt {N : Nat} {D : En → Sto → SRes} {xs : List PV} {S S' : Sto} {v : PV} {ρ' : En} (e : D (xs.map some ++ List.replicate (N - xs.length) none) S = .ok (.rt v) ρ' S') : runB N D xs S = .ok v S' := by
  unfold runB
  rw [e]
theorem run_nx {N : Nat} {D : En → Sto → SRes} {xs : List PV} {S S' : Sto} {ρ' : En} (e : D (xs.map some ++ List.replicate (N - xs.length) none) S = .ok .nx ρ' S') : runB N D xs S = .ok .non S' := by
  unfold runB
  rw [e]
theorem make_of {C : Str} {f : FF} {dvs xs : List PV} {dl : En → Sto → Res (List PV)} {ρ : En} {S S1 S2 : Sto} (e : dl ρ S = .ok xs S1) (h : f (.ref S1.length :: (xs ++ dvs)) (S1 ++ [.ins C []]) = .ok .non S2) : eMake C f dvs dl ρ S = .ok (.ref S1.length) S2 := by
  unfold eMake
  rw [e, bind_ok, h]
theorem kept_new {S S' : Sto} {o : LO} (h : Kept S.length (S ++ [o]) S') : S <+: S' := by
  rw [List.prefix_iff_getElem?]
  intro i hi
  refine h i _ ?_ (by omega)
  rw [List.getElem?_append_left hi]
  exact List.getElem?_eq_getElem hi
end FL

/-! FLq: the text of data that is short; lists of ints that ascend. -/
namespace FL
open PySem L2
structure Brief (k : Nat) (d : PyData) : Prop where
  s : d.showable = true
  l : d.leavesShort 8 = true
  w : d.weight ≤ k
theorem log2_lt' {n k : Nat} (h : n < 2 ^ k) (hk : 0 < k) : n.log2 < k := by
  by_cases h0 : n = 0
  · rw [h0]; simpa using hk
  · exact (Nat.log2_lt h0).mpr h
theorem brief_int {i : Int} (h0 : 0 ≤ i) (h1 : i < 1000) : Brief 10 (.int i) := by
  have hl : i.natAbs.log2 < 10 := log2_lt' (by omega) (by decide)
  refine ⟨?_, ?_, ?_⟩
  · simp only [PyData.showable]
    exact decide_eq_true (by omega)
  · have e := int_text_length_le10 (a := i) (k := 7) (by decide) (by omega)
    simp only [PyData.leavesShort, PyData.shown]
    refine decide_eq_true ?_
    rw [ofString_length]
    exact e
  · simp only [PyData.weight]
    split <;> omega
theorem brief_all {k : Nat} : ∀ {ds : List PyData}, (∀ d ∈ ds, Brief k d) → PyData.showableAll ds = true ∧ PyData.leavesShortAll 8 ds = true ∧ PyData.weightAll ds ≤ (k + 1) * ds.length
  | [], _ => ⟨rfl, rfl, by simp [PyData.weightAll]⟩
  | d :: ds, h => by
    obtain ⟨a, b, c⟩ := brief_all (ds := ds) fun d hd => h d (List.mem_cons_of_mem _ hd)
    have hd := h d (List.mem_cons_self ..)
    have hw := hd.w
    refine ⟨by simp [PyData.showableAll, hd.s, a], by simp [PyData.leavesShortAll, hd.l, b], ?_⟩
    have e : (k + 1) * (d :: ds).length = (k + 1) * ds.length + (k + 1) := by simp [Nat.mul_add]
    rw [e]
    simp only [PyData.weightAll]
    omega
theorem brief_list {k : Nat} {ds : List PyData} (h : ∀ d ∈ ds, Brief k d) : Brief ((k + 1) * ds.length) (.list ds) := by
  obtain ⟨a, b, c⟩ := brief_all h
  exact ⟨by simpa only [PyData.showable] using a, by simpa only [PyData.leavesShort] using b, by simpa only [PyData.weight] using c⟩
theorem brief_tup {k : Nat} {ds : List PyData} (h : ∀ d ∈ ds, Brief k d) : Brief ((k + 1) * ds.length) (.tuple ds) := by
  obtain ⟨a, b, c⟩ := brief_all h
  exact ⟨by simpa only [PyData.showable] using a, by simpa only [PyData.leavesShort] using b, by simpa only [PyData.weight] using c⟩
theorem Brief.mono {k k' : Nat} {d : PyData} (h : Brief k d) (e : k ≤ k') : Brief k' d := ⟨h.s, h.l, Nat.le_trans h.w e⟩
theorem repr_brief {S : Sto} {x : PV} {d : PyData} {k : Nat} (e : dOf S x = some d) (h : Brief k d) (hk : k ≤ 9000) : bRepr [x] S = some (.str d.shown, S) := by
  have q := PyData.shown_le 8 (by decide) d h.l
  have w := h.w
  have hl : d.shown.length ≤ big := by
    show _ ≤ 100000
    omega
  unfold bRepr
  simp only [e, h.s, hl, and_self, if_true]
theorem brief_tI {l : List Int} (h : ∀ x ∈ l, 0 ≤ x ∧ x < 1000) : Brief (11 * l.length) (.tuple (l.map .int)) := by
  refine (brief_tup (k := 10) fun d hd => ?_).mono (by simp)
  obtain ⟨x, hx, rfl⟩ := List.mem_map.mp hd
  exact brief_int (h x hx).1 (h x hx).2
theorem brief_wsP {l : List (Int × Int)} (h : ∀ w ∈ l, (0 ≤ w.1 ∧ w.1 < 1000) ∧ 0 ≤ w.2 ∧ w.2 < 1000) : Brief (23 * l.length) (.tuple (l.map fun w => .tuple [.int w.1, .int w.2])) := by
  refine (brief_tup (k := 22) fun d hd => ?_).mono (by simp)
  obtain ⟨w, hw, rfl⟩ := List.mem_map.mp hd
  refine (brief_tup (k := 10) fun d hd => ?_).mono (by simp)
  simp at hd
  rcases hd with rfl | rfl
  · exact brief_int (h w hw).1.1 (h w hw).1.2
  · exact brief_int (h w hw).2.1 (h w hw).2.2
@[simp] theorem pNe_str (S : Sto) (x : Str) : pNe (.str x) (.str x) S = some (.bl false, S) := by
  show (some (PV.bl (!PyData.eqv (.str x) (.str x)), S) : OP) = _
  rw [PyData.eqv]
  simp
/-- a list that ascends -/
abbrev Asc (l : List Int) : Prop := l.Pairwise (· < ·)
theorem mem_isI {x : Int} : ∀ {l : List Int}, x ∈ isI l ↔ x ∈ l
  | [] => by simp [isI, isort]
  | a :: l => by
    show x ∈ ins1 _ a (isI l) ↔ _
    rw [mem_ins1, mem_isI, List.mem_cons]
theorem leI_total : PySem.W.TotalLe fun a b : Int => decide (a ≤ b) where
  total a b := by simp; omega
  trans a b c h1 h2 := by simp at *; omega
theorem isI_perm : ∀ l : List Int, (isI l).Perm l
  | [] => .nil
  | a :: l => by
    have h : ∀ (a : Int) (l : List Int), (ins1 (fun a b : Int => decide (a ≤ b)) a l).Perm (a :: l) := by
      intro a l
      induction l with
      | nil => exact .refl _
      | cons b l ih =>
        unfold ins1
        split
        · exact .refl _
        · exact (List.Perm.cons b ih).trans (List.Perm.swap a b l)
    exact (h a _).trans ((isI_perm l).cons a)
theorem isI_asc {l : List Int} (h : l.Nodup) : Asc (isI l) := by
  have s : (isI l).Pairwise fun x y => decide (x ≤ y) = true := by
    clear h
    induction l with
    | nil => exact .nil
    | cons a l ih => exact ins1_sorted leI_total ih
  have n : (isI l).Nodup := (isI_perm l).nodup_iff.mpr h
  refine List.Pairwise.imp₂ (fun a b h1 h2 => ?_) s n
  simp at h1
  omega
theorem asc_nodup {l : List Int} (h : Asc l) : l.Nodup := h.imp fun h => by omega
theorem asc_ext : ∀ {l m : List Int}, Asc l → Asc m → (∀ x, x ∈ l ↔ x ∈ m) → l = m
  | [], [], _, _, _ => rfl
  | [], b :: m, _, _, h => absurd ((h b).mpr (List.mem_cons_self ..)) (by simp)
  | a :: l, [], _, _, h => absurd ((h a).mp (List.mem_cons_self ..)) (by simp)
  | a :: l, b :: m, h1, h2, h => by
    obtain ⟨p1, q1⟩ := List.pairwise_cons.mp h1
    obtain ⟨p2, q2⟩ := List.pairwise_cons.mp h2
    have e : a = b := by
      rcases List.mem_cons.mp ((h a).mp (List.mem_cons_self ..)) with e | e
      · exact e
      · rcases List.mem_cons.mp ((h b).mpr (List.mem_cons_self ..)) with e' | e'
        · exact e'.symm
        · have := p2 a e
          have := p1 b e'
          omega
    subst e
    rw [asc_ext q1 q2 fun x => ?_]
    have hx := h x
    rw [List.mem_cons, List.mem_cons] at hx
    constructor
    · intro hm
      rcases hx.mp (.inr hm) with e | e
      · have := p1 x hm; omega
      · exact e
    · intro hm
      rcases hx.mpr (.inr hm) with e | e
      · have := p2 x hm; omega
      · exact e
theorem isI_self {l : List Int} (h : Asc l) : isI l = l := asc_ext (isI_asc (asc_nodup h)) h fun _ => mem_isI
theorem asc_len {n : Int} : ∀ {l : List Int} {lo : Int}, Asc l → (∀ x ∈ l, lo ≤ x ∧ x < n) → l.length ≤ (n - lo).toNat
  | [], _, _, _ => Nat.zero_le _
  | a :: l, lo, h, b => by
    obtain ⟨p, q⟩ := List.pairwise_cons.mp h
    have ha := b a (List.mem_cons_self ..)
    have ih := asc_len (lo := a + 1) q fun x hx => by
      have h1 := p x hx
      have h2 := b x (List.mem_cons_of_mem _ hx)
      exact ⟨by omega, h2.2⟩
    have := b a (List.mem_cons_self ..)
    simp only [List.length_cons]
    omega
end FL

/-! FLr: comprehensions over a list of the store. -/
namespace FL
open PySem L2
theorem lc_gen {it : Wlk} {xs : List PV} {dg : Tgt} {dt : En → Sto → Res Bool} {de : En → Sto → Res PV} {vs : List Nat} {ρ : En} (I : Nat → List PV → Sto → Prop) (hit : ∀ i acc S, I i acc S → itAt it S i = some xs[i]?)
    (step : ∀ (i : Nat) (x : PV) (acc : List PV) (S : Sto), xs[i]? = some x → I i acc S → ∃ ρ2 S2 b S3, dg x (wipeE ρ vs) S = some (ρ2, S2) ∧ dt ρ2 S2 = .ok b S3 ∧
      (b = true → acc.length < big ∧ ∃ y S4, de ρ2 S3 = .ok y S4 ∧ I (i + 1) (acc ++ [y]) S4) ∧ (b = false → I (i + 1) acc S3)) :
    ∀ (k i : Nat) (acc : List PV) (S : Sto), i + k = xs.length → I i acc S → ∃ acc' S', lcGo it dg dt de vs ρ (k + 1) i acc S = .ok acc' S' ∧ I xs.length acc' S'
  | 0, i, acc, S, hi, h => by
    have e : xs[i]? = none := List.getElem?_eq_none_iff.mpr (by omega)
    refine ⟨acc, S, ?_, ?_⟩
    · unfold lcGo
      rw [hit i acc S h]
      simp only [e]
    · have : i = xs.length := by omega
      rw [← this]; exact h
  | k + 1, i, acc, S, hi, h => by
    have hl : i < xs.length := by omega
    have e : xs[i]? = some xs[i] := List.getElem?_eq_getElem hl
    obtain ⟨ρ2, S2, b, S3, h1, h2, h3, h4⟩ := step i _ acc S e h
    cases b with
    | true =>
      obtain ⟨hb, y, S4, h5, h6⟩ := h3 rfl
      have ih := lc_gen I hit step k (i + 1) (acc ++ [y]) S4 (by omega) h6
      have hgo : lcGo it dg dt de vs ρ (k + 1 + 1) i acc S = lcGo it dg dt de vs ρ (k + 1) (i + 1) (acc ++ [y]) S4 := by
        rw [lcGo, hit i acc S h]
        simp only [e, h1, h2, h5, if_pos hb]
      rw [hgo]
      exact ih
    | false =>
      have ih := lc_gen I hit step k (i + 1) acc S3 (by omega) (h4 rfl)
      have hgo : lcGo it dg dt de vs ρ (k + 1 + 1) i acc S = lcGo it dg dt de vs ρ (k + 1) (i + 1) acc S3 := by
        rw [lcGo, hit i acc S h]
        simp only [e, h1, h2]
      rw [hgo]
      exact ih
section
variable {α : Type} {di : En → Sto → Res Wlk} {dg : Tgt} {dt : En → Sto → Res Bool} {de : En → Sto → Res PV} {vs : List Nat} {ρ : En} {S S1 : Sto}
/-- over a list of the store; the parts leave the store -/
theorem lc_live (l : List α) (g : α → PV) (t : α → Bool) (f : α → PV) {n : Nat} (hd : di ρ S = .ok (.live n) S1) (hn : S1[n]? = some (.lst (l.map g))) (hl : l.length ≤ big)
    (step : ∀ a ∈ l, ∃ ρ2, dg (g a) (wipeE ρ vs) S1 = some (ρ2, S1) ∧ dt ρ2 S1 = .ok (t a) S1 ∧ (t a = true → de ρ2 S1 = .ok (f a) S1)) :
    ∃ m S', eLc di dg dt de vs ρ S = .ok (.ref m) S' ∧ S'[m]? = some (.lst ((l.filter t).map f)) ∧ S1 <+: S' := by
  obtain ⟨acc, S', h1, h2, h3⟩ := lc_gen (it := .live n) (xs := l.map g) (dg := dg) (dt := dt) (de := de) (vs := vs) (ρ := ρ) (fun i acc T => T = S1 ∧ acc = ((l.take i).filter t).map f) (fun i acc T h => by simp only [itAt, h.1, hn]) (fun i x acc T e ⟨hT, ha⟩ => by
    rw [List.getElem?_map] at e
    cases q : l[i]? with
    | none => rw [q] at e; cases e
    | some a =>
      rw [q] at e; cases e
      obtain ⟨ρ2, s1, s2, s3⟩ := step a (List.mem_of_getElem? q)
      obtain ⟨hi, _⟩ := List.getElem?_eq_some_iff.mp q
      have ht : l.take (i + 1) = l.take i ++ [a] := by rw [List.take_add_one, q]; rfl
      rw [hT]
      refine ⟨ρ2, S1, t a, S1, s1, s2, fun z => ⟨?_, f a, S1, s3 z, rfl, ?_⟩, fun z => ⟨rfl, ?_⟩⟩
      · rw [ha, List.length_map]
        have := List.length_filter_le t (l.take i)
        rw [List.length_take] at this
        omega
      · rw [ht, List.filter_append, List.map_append, ← ha]
        simp [z]
      · rw [ht, List.filter_append, List.map_append, ← ha]
        simp [z]) l.length 0 [] S1 (by simp) ⟨rfl, by simp⟩
  refine ⟨S1.length, S1 ++ [.lst ((l.filter t).map f)], ?_, get_end, List.prefix_append _ _⟩
  unfold eLc
  rw [hd]
  have hf : itFuel (.live n) S1 = l.length + 1 := by simp only [itFuel, hn, List.length_map]
  show ((lcGo (.live n) dg dt de vs ρ (itFuel (.live n) S1) 0 [] S1).bind fun acc S2 => Res.ok (PV.ref (List.length S2)) (S2 ++ [LO.lst acc])) = _
  rw [hf, h1, h2, h3, List.length_map, List.take_length]
  rfl
end
/-! range(n) -/
theorem p62 : (2 : Int) ^ 62 = 4611686018427387904 := by simp
theorem range1i {ρ : En} {S S1 : Sto} {da : En → Sto → Res PV} {j : Int} (h : da ρ S = .ok (.int j) S1) (h0 : 0 ≤ j) (h1 : j < 1000000) : iRg1 (aCons da aNil) ρ S = .ok (.fix (rangeL 0 j.toNat)) S1 := by
  have c : -(2 ^ 62) ≤ j ∧ j < 2 ^ 62 := by
    rw [p62]
    constructor <;> omega
  unfold iRg1
  simp only [aCons_ap, h, bind_ok, aNil_ap, if_pos c]
theorem range1 {ρ : En} {S S1 : Sto} {da : En → Sto → Res PV} {n : Nat} (h : da ρ S = .ok (.int n) S1) (hn : n < 1000000) : iRg1 (aCons da aNil) ρ S = .ok (.fix (rangeL 0 n)) S1 := by
  have q := range1i h (by omega) (by omega)
  rw [Int.toNat_natCast] at q
  exact q
end FL


namespace Law
open PySem PySem.Spec L2 FL
def top (i : Nat) : Stmt := PySem.Challenge.pw_bothvanish_k05_whole_moves.main.body.getD i (.Pass ⟨0, 0, 0, 0⟩)
abbrev s_toggled : Stmt := top 25
abbrev N_toggled : List Str := ["standing", "place", "other"]
abbrev ps_toggled : List Str := ["standing", "place"]
abbrev s_played : Stmt := top 26
abbrev N_played : List Str := ["standing", "way"]
abbrev ps_played : List Str := ["standing", "way"]
abbrev s_ways_from : Stmt := top 27
abbrev N_ways_from : List Str := ["web", "standing", "way"]
abbrev ps_ways_from : List Str := ["web", "standing"]
abbrev s_is_playable : Stmt := top 29
abbrev N_is_playable : List Str := ["web", "standing", "way", "part"]
abbrev ps_is_playable : List Str := ["web", "standing", "way"]
abbrev s_check_way : Stmt := top 30
abbrev N_check_way : List Str := ["web", "standing", "way"]
abbrev ps_check_way : List Str := ["web", "standing", "way"]
abbrev s_is_between : Stmt := top 10
abbrev N_is_between : List Str := ["value", "low", "high"]
abbrev ps_is_between : List Str := ["value", "low", "high"]
abbrev s_wrong_place : Stmt := top 21
abbrev N_wrong_place : List Str := ["standing", "count", "index", "place"]
abbrev ps_wrong_place : List Str := ["standing", "count"]
abbrev s_check_standing : Stmt := top 22
abbrev N_check_standing : List Str := ["value", "count", "index"]
abbrev ps_check_standing : List Str := ["value", "count"]
abbrev s_check_web : Stmt := top 19
abbrev N_check_web : List Str := ["value"]
abbrev ps_check_web : List Str := ["value"]
abbrev s_check_asked : Stmt := top 23
abbrev N_check_asked : List Str := ["web", "standing"]
abbrev ps_check_asked : List Str := ["web", "standing"]
abbrev s_after : Stmt := top 31
abbrev N_after : List Str := ["web", "standing", "way"]
abbrev ps_after : List Str := ["web", "standing", "way"]
abbrev s__law_scoop : Stmt := top 36
abbrev N__law_scoop : List Str := ["_law_pail_here", "_law_many", "_law_digit"]
abbrev ps__law_scoop : List Str := ["_law_pail_here", "_law_many"]
abbrev s__law_one : Stmt := top 37
abbrev N__law_one : List Str := ["_law_pail_here", "_law_things"]
abbrev ps__law_one : List Str := ["_law_pail_here", "_law_things"]
abbrev s_unlike : Stmt := top 32
abbrev N_unlike : List Str := ["one", "other", "found", "place"]
abbrev ps_unlike : List Str := ["one", "other"]
abbrev s_difference : Stmt := top 33
abbrev N_difference : List Str := ["web", "standing", "other"]
abbrev ps_difference : List Str := ["web", "standing", "other"]
abbrev s__law_moved : Stmt := top 41
abbrev N__law_moved : List Str := ["_law_each", "_law_way", "_law_rest", "_law_p"]
abbrev ps__law_moved : List Str := ["_law_each", "_law_way"]
abbrev s_moves : Stmt := top 28
abbrev N_moves : List Str := ["web", "standing"]
abbrev ps_moves : List Str := ["web", "standing"]
abbrev s__law_some : Stmt := top 40
abbrev N__law_some : List Str := ["_law_pail_here", "_law_n", "_law_p"]
abbrev ps__law_some : List Str := ["_law_pail_here", "_law_n"]
abbrev s_goals_of : Stmt := top 15
abbrev N_goals_of : List Str := ["ways", "place", "start", "goal"]
abbrev ps_goals_of : List Str := ["ways", "place"]
abbrev s_does_lead : Stmt := top 16
abbrev N_does_lead : List Str := ["ways", "start", "goal", "seen", "fresh", "place", "further"]
abbrev ps_does_lead : List Str := ["ways", "start", "goal"]
abbrev s_is_way : Stmt := top 12
abbrev N_is_way : List Str := ["value", "count", "place"]
abbrev ps_is_way : List Str := ["value", "count"]
abbrev s_wrong_way : Stmt := top 13
abbrev N_wrong_way : List Str := ["ways", "count", "index", "way"]
abbrev ps_wrong_way : List Str := ["ways", "count"]
abbrev s_check_ways : Stmt := top 14
abbrev N_check_ways : List Str := ["value", "count", "index"]
abbrev ps_check_ways : List Str := ["value", "count"]
abbrev s_check_count : Stmt := top 11
abbrev N_check_count : List Str := ["value", "high"]
abbrev ps_check_count : List Str := ["value", "high"]
abbrev s_Web___init__ : Stmt := inClass (top 17) 0
abbrev N_Web___init__ : List Str := ["self", "count", "ways", "start", "goal"]
abbrev ps_Web___init__ : List Str := ["self", "count", "ways"]
abbrev s__law_ways : Stmt := top 38
abbrev N__law_ways : List Str := ["_law_pail_here", "_law_n", "_law_share", "_law_a", "_law_found", "_law_bend", "_law_b"]
abbrev ps__law_ways : List Str := ["_law_pail_here", "_law_n", "_law_share"]
abbrev s__law_net : Stmt := top 39
abbrev N__law_net : List Str := ["_law_pail_here", "_law_most", "_law_n"]
abbrev ps__law_net : List Str := ["_law_pail_here", "_law_most"]
abbrev s__law_right : Stmt := top 42
abbrev N__law_right : List Str := ["_law_pail_here", "_law_again", "_law_due", "_law_way", "_law_found", "_law_told", "_law_n", "_law_ways_here", "_law_made", "_law_each", "_law_other_here", "_law_apart", "_law_one_here", "_law_two", "_law_first", "_law_last", "_law_p"]
abbrev ps__law_right : List Str := ["_law_pail_here"]
abbrev s__law_pail : Stmt := top 35
abbrev N__law_pail : List Str := ["_law_script", "_law_k", "_law_own", "_law_mixed", "_law_entry"]
abbrev ps__law_pail : List Str := ["_law_script", "_law_k"]
abbrev s_law : Stmt := top 43
abbrev N_law : List Str := ["_law_script", "_law_k"]
abbrev ps_law : List Str := ["_law_script"]
abbrev isc_Web : List (Str × Bool) := [("Web", true)]
def B_toggled : En → Sto → SRes :=
  sSeq (sIf (tOfE (eBin (pIn false) (eVar 1) (eVar 0))) (sRet (eCall bTuple (aCons (eLc (iSeq (eVar 0)) (gNm 2) (tOfE (eBin pNe (eVar 2) (eVar 1))) (eVar 2) [2]) (aNil)))) (sNop))
  (sRet (eCall bTuple (aCons (eCall bSorted (aCons (eLst (aStar (eVar 0) (aCons (eVar 1) (aNil)))) (aNil))) (aNil))))
def F_toggled : FF := runB 3 B_toggled
def B_played : En → Sto → SRes :=
  sRet (eApp F_toggled (aCons (eApp F_toggled (aCons (eVar 0) (aCons (eBin pIx (eVar 1) (eC (.int 0))) (aNil)))) (aCons (eBin pIx (eVar 1) (eC (.int 1))) (aNil))))
def F_played : FF := runB 2 B_played
def B_ways_from : En → Sto → SRes :=
  sRet (eCall bTuple (aCons (eLc (iSeq (eFld ["Web"] "ways" (eVar 0))) (gNm 2) (tOfE (eBin (pIn false) (eBin pIx (eVar 2) (eC (.int 0))) (eVar 1))) (eVar 2) [2]) (aNil)))
def F_ways_from : FF := runB 3 B_ways_from
def B_is_playable : En → Sto → SRes :=
  sSeq (sIf (tOr2 (tNot1 (tOfE (eUn (pIsi "tuple") (eVar 2)))) (tNot1 (tOfE (eCall bAll (aCons (eLc (iSeq (eVar 2)) (gNm 3) (dYes) (eAnd2 (eUn (pIsi "int") (eVar 3)) (eNot1 (eUn (pIsi "bool") (eVar 3)))) [3]) (aNil)))))) (sRet (eC (.bl false))) (sNop))
  (sRet (eBin (pIn false) (eVar 2) (eApp F_ways_from (aCons (eVar 0) (aCons (eVar 1) (aNil))))))
def F_is_playable : FF := runB 4 B_is_playable
def B_check_way : En → Sto → SRes :=
  sIf (tNot1 (tOfE (eApp F_is_playable (aCons (eVar 0) (aCons (eVar 1) (aCons (eVar 2) (aNil))))))) (sNev) (sNop)
def F_check_way : FF := runB 3 B_check_way
def B_is_between : En → Sto → SRes :=
  sRet (eAnd2 (eUn (pIsi "int") (eVar 0)) (eAnd2 (eNot1 (eUn (pIsi "bool") (eVar 0))) (eChain pLe pLe (eVar 1) (eVar 0) (eVar 2))))
def F_is_between : FF := runB 3 B_is_between
def B_wrong_place : En → Sto → SRes :=
  sSeq (sFor (iEn (aCons (eVar 0) (aNil))) (gTp 2 (gCons1 (gNm 2) (gCons1 (gNm 3) (gNil1)))) (sIf (tOr2 (tNot1 (tOfE (eApp F_is_between (aCons (eVar 3) (aCons (eC (.int 0)) (aCons (eBin pSub (eVar 1) (eC (.int 1))) (aNil))))))) (tAnd2 (tOfE (eBin pGt (eVar 2) (eC (.int 0)))) (tOfE (eBin pLe (eVar 3) (eBin pIx (eVar 0) (eBin pSub (eVar 2) (eC (.int 1)))))))) (sRet (eVar 2)) (sNop)))
  (sRet (eC .non))
def F_wrong_place : FF := runB 4 B_wrong_place
def B_check_standing : En → Sto → SRes :=
  sSeq (sIf (tNot1 (tOfE (eUn (pIsi "tuple") (eVar 0)))) (sNev) (sNop))
  (sSeq (sAsg (eApp F_wrong_place (aCons (eVar 0) (aCons (eVar 1) (aNil)))) (gNm 2))
  (sIf (tOfE (eBin pNotN (eVar 2) (eC .non))) (sNev) (sNop)))
def F_check_standing : FF := runB 3 B_check_standing
def B_check_web : En → Sto → SRes :=
  sIf (tNot1 (tOfE (eUn (pIsC isc_Web) (eVar 0)))) (sNev) (sNop)
def F_check_web : FF := runB 1 B_check_web
def B_check_asked : En → Sto → SRes :=
  sSeq (sExp (eApp F_check_web (aCons (eVar 0) (aNil))))
  (sExp (eApp F_check_standing (aCons (eVar 1) (aCons (eFld ["Web"] "count" (eVar 0)) (aNil)))))
def F_check_asked : FF := runB 2 B_check_asked
def B_after : En → Sto → SRes :=
  sSeq (sExp (eApp F_check_asked (aCons (eVar 0) (aCons (eVar 1) (aNil)))))
  (sSeq (sExp (eApp F_check_way (aCons (eVar 0) (aCons (eVar 1) (aCons (eVar 2) (aNil))))))
  (sRet (eApp F_played (aCons (eVar 1) (aCons (eVar 2) (aNil))))))
def F_after : FF := runB 3 B_after
def B__law_scoop : En → Sto → SRes :=
  sSeq (sAsg (eBin pAdd (eBin pIx (eVar 0) (eC (.int 2))) (eC (.int 2))) (gSb setIx (eVar 0) (eC (.int 2))))
  (sSeq (sIf (tOfE (eBin pGt (eBin pIx (eVar 0) (eC (.int 1))) (eC (.int 0)))) (sSeq (sAsg (eCall bDivmod (aCons (eCall bInt (aCons (eBin pIx (eVar 0) (eC (.int 1))) (aNil))) (aCons (eVar 1) (aNil)))) (gTp 2 (gCons1 (gSb setIx (eVar 0) (eC (.int 1))) (gCons1 (gNm 2) (gNil1)))))
  (sRet (eVar 2))) (sNop))
  (sSeq (sAsg (eBin pMod (eCall bInt (aCons (eBin pAdd (eBin pAdd (eBin pMul (eBin pIx (eVar 0) (eC (.int 0))) (eC (.int 46021))) (eBin pMul (eBin pIx (eVar 0) (eC (.int 2))) (eC (.int 90023)))) (eBin pMul (eBin pDiv (eBin pIx (eVar 0) (eC (.int 0))) (eC (.int 7001))) (eC (.int 53)))) (aNil))) (eC (.int 1999999649))) (gSb setIx (eVar 0) (eC (.int 0))))
  (sRet (eBin pMod (eCall bInt (aCons (eBin pDiv (eBin pIx (eVar 0) (eC (.int 0))) (eC (.int 347))) (aNil))) (eVar 1)))))
def F__law_scoop : FF := runB 3 B__law_scoop
def B__law_one : En → Sto → SRes :=
  sRet (eBin pIx (eVar 1) (eApp F__law_scoop (aCons (eVar 0) (aCons (eCall bLen (aCons (eVar 1) (aNil))) (aNil)))))
def F__law_one : FF := runB 2 B__law_one
def B_unlike : En → Sto → SRes :=
  sSeq (sAsg (eLc (iSeq (eVar 0)) (gNm 3) (tOfE (eBin (pIn true) (eVar 3) (eVar 1))) (eVar 3) [3]) (gNm 2))
  (sRet (eCall bTuple (aCons (eCall bSorted (aCons (eBin pAdd (eVar 2) (eLc (iSeq (eVar 1)) (gNm 3) (tOfE (eBin (pIn true) (eVar 3) (eVar 0))) (eVar 3) [3])) (aNil))) (aNil))))
def F_unlike : FF := runB 4 B_unlike
def B_difference : En → Sto → SRes :=
  sSeq (sExp (eApp F_check_asked (aCons (eVar 0) (aCons (eVar 1) (aNil)))))
  (sSeq (sExp (eApp F_check_standing (aCons (eVar 2) (aCons (eFld ["Web"] "count" (eVar 0)) (aNil)))))
  (sRet (eApp F_unlike (aCons (eVar 1) (aCons (eVar 2) (aNil))))))
def F_difference : FF := runB 3 B_difference
def B__law_moved : En → Sto → SRes :=
  sSeq (sAsg (eLc (iSeq (eVar 0)) (gNm 3) (tOfE (eBin pNe (eVar 3) (eBin pIx (eVar 1) (eC (.int 0))))) (eVar 3) [3]) (gNm 2))
  (sRet (eCall bTuple (aCons (eCall bSorted (aCons (eIf (tOfE (eBin (pIn false) (eBin pIx (eVar 1) (eC (.int 1))) (eVar 2))) (eLc (iSeq (eVar 2)) (gNm 3) (tOfE (eBin pNe (eVar 3) (eBin pIx (eVar 1) (eC (.int 1))))) (eVar 3) [3]) (eBin pAdd (eVar 2) (eLst (aCons (eBin pIx (eVar 1) (eC (.int 1))) (aNil))))) (aNil))) (aNil))))
def F__law_moved : FF := runB 4 B__law_moved
def B_moves : En → Sto → SRes :=
  sSeq (sExp (eApp F_check_asked (aCons (eVar 0) (aCons (eVar 1) (aNil)))))
  (sRet (eApp F_ways_from (aCons (eVar 0) (aCons (eVar 1) (aNil)))))
def F_moves : FF := runB 2 B_moves
def B__law_some : En → Sto → SRes :=
  sRet (eCall bTuple (aCons (eLc (iRg1 (aCons (eVar 1) (aNil))) (gNm 2) (tOfE (eBin pEq (eApp F__law_scoop (aCons (eVar 0) (aCons (eC (.int 2)) (aNil)))) (eC (.int 0)))) (eVar 2) [2]) (aNil)))
def F__law_some : FF := runB 3 B__law_some
def B_goals_of : En → Sto → SRes :=
  sRet (eCall bTuple (aCons (eLc (iSeq (eVar 0)) (gTp 2 (gCons1 (gNm 2) (gCons1 (gNm 3) (gNil1)))) (tOfE (eBin pEq (eVar 2) (eVar 1))) (eVar 3) [2, 3]) (aNil)))
def F_goals_of : FF := runB 4 B_goals_of
def B_does_lead : En → Sto → SRes :=
  sSeq (sPar 3 4 (aCons (eLst (aCons (eVar 1) (aNil))) (aCons (eLst (aCons (eVar 1) (aNil))) (aNil))))
  (sSeq (sWh 1000000 (tOfE (eBin pGt (eCall bLen (aCons (eVar 4) (aNil))) (eC (.int 0)))) (sSeq (sAsg (eMt0 mPop (eVar 4)) (gNm 5))
  (sFor (iSeq (eApp F_goals_of (aCons (eVar 0) (aCons (eVar 5) (aNil))))) (gNm 6) (sIf (tOfE (eBin (pIn true) (eVar 6) (eVar 3))) (sSeq (sExp (eMt mAppend (eVar 3) (aCons (eVar 6) (aNil))))
  (sExp (eMt mAppend (eVar 4) (aCons (eVar 6) (aNil))))) (sNop)))))
  (sRet (eBin (pIn false) (eVar 2) (eVar 3))))
def F_does_lead : FF := runB 7 B_does_lead
def B_is_way : En → Sto → SRes :=
  sSeq (sIf (tOr2 (tNot1 (tOfE (eUn (pIsi "tuple") (eVar 0)))) (tOfE (eBin pNe (eCall bLen (aCons (eVar 0) (aNil))) (eC (.int 2))))) (sRet (eC (.bl false))) (sNop))
  (sRet (eAnd2 (eCall bAll (aCons (eLc (iSeq (eVar 0)) (gNm 2) (dYes) (eApp F_is_between (aCons (eVar 2) (aCons (eC (.int 0)) (aCons (eBin pSub (eVar 1) (eC (.int 1))) (aNil))))) [2]) (aNil))) (eBin pNe (eBin pIx (eVar 0) (eC (.int 0))) (eBin pIx (eVar 0) (eC (.int 1))))))
def F_is_way : FF := runB 3 B_is_way
def B_wrong_way : En → Sto → SRes :=
  sSeq (sFor (iEn (aCons (eVar 0) (aNil))) (gTp 2 (gCons1 (gNm 2) (gCons1 (gNm 3) (gNil1)))) (sIf (tOr2 (tNot1 (tOfE (eApp F_is_way (aCons (eVar 3) (aCons (eVar 1) (aNil)))))) (tAnd2 (tOfE (eBin pGt (eVar 2) (eC (.int 0)))) (tOfE (eBin pLe (eVar 3) (eBin pIx (eVar 0) (eBin pSub (eVar 2) (eC (.int 1)))))))) (sRet (eVar 2)) (sNop)))
  (sRet (eC .non))
def F_wrong_way : FF := runB 4 B_wrong_way
def B_check_ways : En → Sto → SRes :=
  sSeq (sIf (tNot1 (tOfE (eUn (pIsi "tuple") (eVar 0)))) (sNev) (sNop))
  (sSeq (sAsg (eApp F_wrong_way (aCons (eVar 0) (aCons (eVar 1) (aNil)))) (gNm 2))
  (sIf (tOfE (eBin pNotN (eVar 2) (eC .non))) (sNev) (sNop)))
def F_check_ways : FF := runB 3 B_check_ways
def B_check_count : En → Sto → SRes :=
  sIf (tNot1 (tOfE (eApp F_is_between (aCons (eVar 0) (aCons (eC (.int 1)) (aCons (eVar 1) (aNil))))))) (sNev) (sNop)
def F_check_count : FF := runB 2 B_check_count
def B_Web___init__ : En → Sto → SRes :=
  sSeq (sExp (eApp F_check_count (aCons (eVar 1) (aCons (eC (.int 8)) (aNil)))))
  (sSeq (sExp (eApp F_check_ways (aCons (eVar 2) (aCons (eVar 1) (aNil)))))
  (sSeq (sFldS ["Web"] "count" (eVar 1) (eVar 0))
  (sSeq (sFldS ["Web"] "ways" (eVar 2) (eVar 0))
  (sSeq (sFldS ["Web"] "told" (eTup (aCons (eVar 1) (aCons (eVar 2) (aNil)))) (eVar 0))
  (sFldS ["Web"] "has_ring" (eCall bAny (aCons (eLc (iSeq (eVar 2)) (gTp 2 (gCons1 (gNm 3) (gCons1 (gNm 4) (gNil1)))) (dYes) (eApp F_does_lead (aCons (eVar 2) (aCons (eVar 4) (aCons (eVar 3) (aNil))))) [3, 4]) (aNil))) (eVar 0))))))
def F_Web___init__ : FF := runB 5 B_Web___init__
def B__law_ways : En → Sto → SRes :=
  sSeq (sPar 4 5 (aCons (eLst (aNil)) (aCons (eApp F__law_scoop (aCons (eVar 0) (aCons (eC (.int 4)) (aNil)))) (aNil))))
  (sSeq (sFor (iRg1 (aCons (eVar 1) (aNil))) (gNm 3) (sFor (iRg1 (aCons (eVar 1) (aNil))) (gNm 6) (sIf (tAnd2 (tOfE (eBin pNe (eVar 3) (eVar 6))) (tAnd2 (tOr2 (tOfE (eBin pGt (eVar 5) (eC (.int 0)))) (tOfE (eBin pGt (eVar 3) (eVar 6)))) (tOfE (eBin pLt (eApp F__law_scoop (aCons (eVar 0) (aCons (eC (.int 12)) (aNil)))) (eVar 2))))) (sExp (eMt mAppend (eVar 4) (aCons (eTup (aCons (eVar 3) (aCons (eVar 6) (aNil)))) (aNil)))) (sNop))))
  (sRet (eCall bTuple (aCons (eVar 4) (aNil)))))
def F__law_ways : FF := runB 7 B__law_ways
def B__law_net : En → Sto → SRes :=
  sSeq (sAsg (eBin pAdd (eC (.int 1)) (eApp F__law_scoop (aCons (eVar 0) (aCons (eVar 1) (aNil))))) (gNm 2))
  (sRet (eTup (aCons (eVar 2) (aCons (eApp F__law_ways (aCons (eVar 0) (aCons (eVar 2) (aCons (eApp F__law_one (aCons (eVar 0) (aCons (eLst (aCons (eC (.int 3)) (aCons (eC (.int 4)) (aCons (eC (.int 5)) (aCons (eC (.int 7)) (aNil)))))) (aNil)))) (aNil))))) (aNil)))))
def F__law_net : FF := runB 3 B__law_net
def B__law_right : En → Sto → SRes :=
  sSeq (sFor (iRg1 (aCons (eC (.int 6)) (aNil))) (gNm 1) (sSeq (sAsg (eApp F__law_net (aCons (eVar 0) (aCons (eC (.int 8)) (aNil)))) (gTp 2 (gCons1 (gNm 6) (gCons1 (gNm 7) (gNil1)))))
  (sSeq (sAsg (eTup (aCons (eMake "Web" F_Web___init__ [] (aCons (eVar 6) (aCons (eVar 7) (aNil)))) (aCons (eApp F__law_some (aCons (eVar 0) (aCons (eVar 6) (aNil)))) (aCons (eApp F__law_some (aCons (eVar 0) (aCons (eVar 6) (aNil)))) (aNil))))) (gTp 3 (gCons1 (gNm 8) (gCons1 (gNm 9) (gCons1 (gNm 10) (gNil1))))))
  (sSeq (sAsg (eCall bTuple (aCons (eLc (iSeq (eVar 7)) (gNm 3) (tOfE (eBin (pIn false) (eBin pIx (eVar 3) (eC (.int 0))) (eVar 9))) (eVar 3) [3]) (aNil))) (gNm 2))
  (sSeq (sIf (tOfE (eBin pNe (eCall bRepr (aCons (eLst (aCons (eApp F_moves (aCons (eVar 8) (aCons (eVar 9) (aNil)))) (aCons (eAppK F_moves [1, 0] (aNil) (aCons (eVar 9) (aCons (eVar 8) (aNil)))) (aNil)))) (aNil))) (eCall bRepr (aCons (eLst (aCons (eVar 2) (aCons (eVar 2) (aNil)))) (aNil))))) (sRet (eC (.bl false))) (sNop))
  (sSeq (sFor (iSeq (eVar 2)) (gNm 3) (sSeq (sAsg (eLst (aCons (eApp F_after (aCons (eVar 8) (aCons (eVar 9) (aCons (eVar 3) (aNil))))) (aCons (eAppK F_after [2, 1, 0] (aNil) (aCons (eVar 3) (aCons (eVar 9) (aCons (eVar 8) (aNil))))) (aNil)))) (gNm 5))
  (sIf (tOfE (eBin pNe (eCall bRepr (aCons (eVar 5) (aNil))) (eCall bRepr (aCons (eBin pMul (eLst (aCons (eApp F__law_moved (aCons (eVar 9) (aCons (eVar 3) (aNil)))) (aNil))) (eC (.int 2))) (aNil))))) (sRet (eC (.bl false))) (sNop))))
  (sSeq (sAsg (eCall bTuple (aCons (eLc (iRg1 (aCons (eVar 6) (aNil))) (gNm 16) (tOfE (eBin pNe (eBin (pIn false) (eVar 16) (eVar 9)) (eBin (pIn false) (eVar 16) (eVar 10)))) (eVar 16) [16]) (aNil))) (gNm 4))
  (sSeq (sAsg (eLst (aCons (eApp F_difference (aCons (eVar 8) (aCons (eVar 9) (aCons (eVar 10) (aNil))))) (aCons (eAppK F_difference [2, 1, 0] (aNil) (aCons (eVar 10) (aCons (eVar 9) (aCons (eVar 8) (aNil))))) (aNil)))) (gNm 5))
  (sSeq (sIf (tOr2 (tOfE (eBin pNe (eCall bRepr (aCons (eVar 5) (aNil))) (eCall bRepr (aCons (eLst (aCons (eVar 4) (aCons (eVar 4) (aNil)))) (aNil))))) (tOfE (eBin pNe (eApp F_difference (aCons (eVar 8) (aCons (eVar 9) (aCons (eVar 9) (aNil))))) (eTup (aNil))))) (sRet (eC (.bl false))) (sNop))
  (sSeq (sIf (tOfE (eBin pNe (eApp F_difference (aCons (eVar 8) (aCons (eVar 9) (aCons (eTup (aNil)) (aNil))))) (eVar 9))) (sRet (eC (.bl false))) (sNop))
  (sSeq (sIf (tOfE (eBin pGt (eCall bLen (aCons (eVar 2) (aNil))) (eC (.int 1)))) (sSeq (sPar 12 13 (aCons (eApp F__law_one (aCons (eVar 0) (aCons (eVar 2) (aNil)))) (aCons (eApp F__law_one (aCons (eVar 0) (aCons (eVar 2) (aNil)))) (aNil))))
  (sSeq (sAsg (eAnd2 (eBin (pIn true) (eBin pIx (eVar 12) (eC (.int 0))) (eVar 13)) (eBin (pIn true) (eBin pIx (eVar 13) (eC (.int 0))) (eVar 12))) (gNm 11))
  (sSeq (sPar 14 15 (aCons (eApp F_after (aCons (eVar 8) (aCons (eVar 9) (aCons (eVar 12) (aNil))))) (aCons (eApp F_after (aCons (eVar 8) (aCons (eVar 9) (aCons (eVar 13) (aNil))))) (aNil))))
  (sIf (tAnd2 (tOfE (eVar 11)) (tOfE (eBin pNe (eApp F_after (aCons (eVar 8) (aCons (eVar 14) (aCons (eVar 13) (aNil))))) (eApp F_after (aCons (eVar 8) (aCons (eVar 15) (aCons (eVar 12) (aNil)))))))) (sRet (eC (.bl false))) (sNop))))) (sNop))
  (sIf (tOfE (eBin pNe (eFld ["Web"] "told" (eVar 8)) (eTup (aCons (eVar 6) (aCons (eVar 7) (aNil)))))) (sRet (eC (.bl false))) (sNop)))))))))))))
  (sRet (eC (.bl true)))
def F__law_right : FF := runB 17 B__law_right
def B__law_pail : En → Sto → SRes :=
  sSeq (sAsg (eIf (tOfE (eBin pLt (eVar 1) (eCall bLen (aCons (eVar 0) (aNil))))) (eCall bInt (aCons (eBin pIx (eVar 0) (eVar 1)) (aNil))) (eBin pAdd (eBin pMul (eC (.int 61)) (eVar 1)) (eC (.int 43)))) (gNm 2))
  (sSeq (sAsg (eBin pAdd (eC (.int 40009)) (eBin pMul (eC (.int 1621)) (eVar 1))) (gNm 3))
  (sSeq (sFor (iSeq (eSl (eVar 0) (oNone) (oSome (eC (.int 14))))) (gNm 4) (sAsg (eBin pMod (eCall bInt (aCons (eBin pAdd (eBin pMul (eVar 3) (eC (.int 42017))) (eBin pMod (eCall bInt (aCons (eVar 4) (aNil))) (eC (.int 1999999649)))) (aNil))) (eC (.int 1999999649))) (gNm 3)))
  (sRet (eLst (aCons (eBin pMod (eCall bInt (aCons (eBin pAdd (eBin pMul (eVar 3) (eC (.int 31))) (eBin pMod (eVar 2) (eC (.int 1999999649)))) (aNil))) (eC (.int 1999999649))) (aCons (eIf (tOr2 (tOfE (eBin pLt (eVar 2) (eC (.int 0)))) (tOfE (eBin pGe (eVar 2) (eBin pPow (eC (.int 10)) (eC (.int 14)))))) (eCall bAbs (aCons (eVar 2) (aNil))) (eC (.int 0))) (aCons (eC (.int 5)) (aNil))))))))
def F__law_pail : FF := runB 5 B__law_pail
def B_law : En → Sto → SRes :=
  sRet (eCall bAll (aCons (eLc (iRg1 (aCons (eCall bMax2 (aCons (eC (.int 2)) (aCons (eCall bMin2 (aCons (eCall bLen (aCons (eVar 0) (aNil))) (aCons (eC (.int 5)) (aNil)))) (aNil)))) (aNil))) (gNm 1) (dYes) (eApp F__law_right (aCons (eApp F__law_pail (aCons (eVar 0) (aCons (eVar 1) (aNil)))) (aNil))) [1]) (aNil)))
def F_law : FF := runB 2 B_law
end Law

namespace Law
open PySem PySem.Spec L2 FL
/-! pails: a row of three numbers that a script gives, from which bounded draws are scooped -/
abbrev MOD : Int := 1999999649
/-- at p stands a pail, scooped n times -/
def Pail (S : Sto) (p n : Nat) : Prop := ∃ a b c : Int, S[p]? = some (.lst [.int a, .int b, .int c]) ∧ 0 ≤ a ∧ a < MOD ∧ 0 ≤ b ∧ 0 ≤ c ∧ c ≤ 5 + 2 * n
theorem Pail.lt {S : Sto} {p n : Nat} (h : Pail S p n) : p < S.length := by
  obtain ⟨a, b, c, e, _⟩ := h
  exact (List.getElem?_eq_some_iff.mp e).1
theorem log2_le {i : Int} {k : Nat} (h : i.natAbs < 2 ^ k) (hk : 0 < k) : i.natAbs.log2 < k := by
  by_cases h0 : i.natAbs = 0
  · rw [h0]; simpa using hk
  · exact (Nat.log2_lt h0).mpr h
theorem mul_ok {i j : Int} {a b : Nat} (h1 : i.natAbs < 2 ^ a) (h2 : j.natAbs < 2 ^ b) (h3 : a + b ≤ 1000000) (ha : 0 < a) (hb : 0 < b) : i.natAbs.log2 + j.natAbs.log2 < 1000000 := by
  have q1 := log2_le h1 ha
  have q2 := log2_le h2 hb
  omega
/-- one scoop -/
theorem scoop {S : Sto} {p n : Nat} {m : Int} (h : Pail S p n) (hm : 0 < m) (hm2 : m < 1073741824) (hn : n < 2 ^ 40) :
    ∃ (d : Int) (x : LO), F__law_scoop [.ref p, .int m] S = .ok (.int d) (S.set p x) ∧ 0 ≤ d ∧ d < m ∧ Pail (S.set p x) p (n + 1) := by
  have hp := h.lt
  obtain ⟨a, b, c, e, a0, a1, b0, c0, c1⟩ := h
  have M0 : (0 : Int) < 1999999649 := by decide
  by_cases hb : 0 < b
  · refine ⟨b % m, .lst [.int a, .int (b / m), .int (c + 2)], ?_, Int.emod_nonneg _ (by omega), Int.emod_lt_of_pos _ hm, a, b / m, c + 2, by simp [hp], a0, a1, Int.ediv_nonneg b0 (by omega), by omega, by push_cast; omega⟩
    simp [F__law_scoop, runB, B__law_scoop, pIx_ref e, setIx_ref e, hp, hb, hm, hm2]
  · have hb0 : b = 0 := by omega
    subst hb0
    have a1' : a < 1999999649 := a1
    have l1 : a.natAbs.log2 + (46021 : Int).natAbs.log2 < 1000000 := mul_ok (a := 31) (b := 17) (by omega) (by decide) (by decide) (by decide) (by decide)
    have l2 : (c + 2).natAbs.log2 + (90023 : Int).natAbs.log2 < 1000000 := mul_ok (a := 60) (b := 17) (by omega) (by decide) (by decide) (by decide) (by decide)
    have l3 : (a / 7001).natAbs.log2 + (53 : Int).natAbs.log2 < 1000000 := mul_ok (a := 31) (b := 6) (by omega) (by decide) (by decide) (by decide) (by decide)
    have l4 : (7001 : Int).natAbs.log2 < 9000 := Nat.lt_trans (log2_le (k := 13) (by decide) (by decide)) (by decide)
    have l5 : (347 : Int).natAbs.log2 < 9000 := Nat.lt_trans (log2_le (k := 9) (by decide) (by decide)) (by decide)
    generalize ea : (a * 46021 + (c + 2) * 90023 + a / 7001 * 53) % 1999999649 = a'
    have h1 : 0 ≤ a' := by rw [← ea]; exact Int.emod_nonneg _ (by decide)
    have h2 : a' < MOD := by rw [← ea]; exact Int.emod_lt_of_pos _ (by decide)
    refine ⟨a' / 347 % m, .lst [.int a', .int 0, .int (c + 2)], ?_, Int.emod_nonneg _ (by omega), Int.emod_lt_of_pos _ hm, a', 0, c + 2, by simp [hp], h1, h2, by decide, by omega, by push_cast; omega⟩
    simp at l1 l2 l3 l4 l5
    simp [F__law_scoop, runB, B__law_scoop, pIx_ref e, setIx_ref e, hp, hm, l1, l2, l3, l4, l5, ea]
theorem rangeL_get {lo : Int} {n i : Nat} {x : PV} (h : (rangeL lo n)[i]? = some x) : i < n ∧ x = .int (lo + (i : Nat)) := by
  unfold rangeL at h
  rw [List.getElem?_map] at h
  by_cases hi : i < n
  · rw [List.getElem?_range hi] at h
    exact ⟨hi, (Option.some.inj h).symm⟩
  · rw [List.getElem?_eq_none_iff.mpr (by simp; omega)] at h
    cases h
/-- one thing of a list or a tuple -/
theorem one_of {S : Sto} {p n : Nat} {xs : List PV} {x : PV} (h : Pail S p n) (hx : lstOf S x = some xs) (hs : ∀ S' : Sto, (∀ i, i ≠ p → S'[i]? = S[i]?) → lstOf S' x = some xs) (h1 : xs ≠ []) (h2 : xs.length < 1000000) (hn : n < 2 ^ 40) :
    ∃ (i : Nat) (hi : i < xs.length) (y : LO), F__law_one [.ref p, x] S = .ok xs[i] (S.set p y) ∧ Pail (S.set p y) p (n + 1) := by
  have hl : 0 < xs.length := List.length_pos_iff.mpr h1
  obtain ⟨d, y, e, d0, d1, hP⟩ := scoop h (m := (xs.length : Int)) (by omega) (by omega) hn
  obtain ⟨i, rfl⟩ := Int.eq_ofNat_of_zero_le d0
  have hi : i < xs.length := by omega
  refine ⟨i, hi, y, ?_, hP⟩
  have e1 : bLen [x] S = some (.int xs.length, S) := by
    cases x with
    | str z => simp [lstOf] at hx
    | tup z => simp [lstOf] at hx; subst hx; rfl
    | kl z => simp [lstOf] at hx; subst hx; rfl
    | ref m =>
      simp only [bLen, hx]
    | non => simp [lstOf] at hx
    | bl _ => simp [lstOf] at hx
    | int _ => simp [lstOf] at hx
    | glb _ => simp [lstOf] at hx
    | ty _ => simp [lstOf] at hx
  have e2 : lstOf (S.set p y) x = some xs := hs _ fun i hi => List.getElem?_set_ne (Ne.symm hi)
  have e3 : pIx x (.int (i : Int)) (S.set p y) = some (xs[i], S.set p y) := by
    unfold pIx
    rw [e2]
    simp only [atI_lt hi]
  simp [F__law_one, runB, B__law_one, e1, e, e3]
theorem cutP_ints (ns : List Int) (lo hi : Option Int) : ∃ ms : List Int, cutP (ns.map PV.int) lo hi = ms.map PV.int := by
  unfold cutP
  rw [← List.map_drop, ← List.map_take]
  exact ⟨_, rfl⟩
/-- a pail drawn from the script -/
theorem pail_of {S : Sto} {ns : List Int} {k : Nat} (hk : k < 64) : ∃ (G : List LO) (x : LO), F__law_pail [.kl (ns.map PV.int), .int (k : Int)] S = .ok (.ref (S ++ G).length) (S ++ G ++ [x]) ∧ Pail (S ++ G ++ [x]) (S ++ G).length 0 := by
  obtain ⟨ms, em⟩ := cutP_ints ns none (some 14)
  have M0 : (0 : Int) < 1999999649 := by decide
  have q1 : (61 : Int).natAbs.log2 + (k : Int).natAbs.log2 < 1000000 := mul_ok (a := 6) (b := 6) (by decide) (by omega) (by decide) (by decide) (by decide)
  have q2 : (1621 : Int).natAbs.log2 + (k : Int).natAbs.log2 < 1000000 := mul_ok (a := 11) (b := 6) (by decide) (by omega) (by decide) (by decide) (by decide)
  -- the number of one's own
  obtain ⟨own, e1⟩ : ∃ own : Int, sAsg (eIf (tOfE (eBin pLt (eVar 1) (eCall bLen (aCons (eVar 0) (aNil))))) (eCall bInt (aCons (eBin pIx (eVar 0) (eVar 1)) (aNil))) (eBin pAdd (eBin pMul (eC (.int 61)) (eVar 1)) (eC (.int 43)))) (gNm 2)
      [some (.kl (ns.map PV.int)), some (.int (k : Int)), none, none, none] S = .ok .nx [some (.kl (ns.map PV.int)), some (.int (k : Int)), some (.int own), none, none] S := by
    by_cases h : k < ns.length
    · have hk' : k < (ns.map PV.int).length := by simpa using h
      exact ⟨ns[k], by simp [atI_lt hk', h]⟩
    · simp at q1
      exact ⟨61 * k + 43, by simp [h, q1]⟩
  let X : PV := .kl (ns.map PV.int)
  let S1 : Sto := S ++ [.lst (ms.map PV.int)]
  have hn1 : S1[S.length]? = some (.lst (ms.map PV.int)) := by simp [S1]
  have hsl : iSeq (eSl (eVar 0) (oNone) (oSome (eC (.int 14)))) [some X, some (.int (k : Int)), some (.int own), some (.int (40009 + 1621 * (k : Int))), none] S = .ok (.live S.length) S1 := by
    have q : pSl X none (some 14) S = some (.ref S.length, S1) := by
      show (some (PV.ref S.length, S ++ [LO.lst (cutP (ns.map PV.int) none (some 14))]) : OP) = _
      rw [em]
    simp [iSeq, eSl, oNone, oSome, q, hn1]
  obtain ⟨ρ', S', eL, hS, m, y, hρ, m0, m1⟩ := sFor_live (xs := ms.map PV.int) (tg := gNm 4) (body := sAsg (eBin pMod (eCall bInt (aCons (eBin pAdd (eBin pMul (eVar 3) (eC (.int 42017))) (eBin pMod (eCall bInt (aCons (eVar 4) (aNil))) (eC (.int 1999999649)))) (aNil))) (eC (.int 1999999649))) (gNm 3))
    (fun i ρ T => T = S1 ∧ ∃ (m : Int) (y : Option PV), ρ = [some X, some (.int (k : Int)), some (.int own), some (.int m), y] ∧ 0 ≤ m ∧ m < 1999999649) hsl hn1
    ⟨rfl, _, none, rfl, by omega, by omega⟩ (fun i ρ T h => by rw [h.1]; exact hn1) (by
      rintro i x ρ T hx ⟨rfl, m, y, rfl, m0, m1⟩
      obtain ⟨e, he⟩ : ∃ e : Int, x = .int e := by
        rw [List.getElem?_map] at hx
        cases q : ms[i]? with
        | none => rw [q] at hx; cases hx
        | some e => rw [q] at hx; exact ⟨e, (Option.some.inj hx).symm⟩
      subst he
      have l1 : m.natAbs.log2 + (42017 : Int).natAbs.log2 < 1000000 := mul_ok (a := 31) (b := 16) (by omega) (by decide) (by decide) (by decide) (by decide)
      simp at l1
      refine ⟨[some X, some (.int (k : Int)), some (.int own), some (.int m), some (.int e)], S1, _, S1, by simp, ?_, rfl, (m * 42017 + e % 1999999649) % 1999999649, some (.int e), rfl, Int.emod_nonneg _ (by decide), Int.emod_lt_of_pos _ (by decide)⟩
      simp [l1])
  subst hS hρ
  have l1 : m.natAbs.log2 + (31 : Int).natAbs.log2 < 1000000 := mul_ok (a := 31) (b := 5) (by omega) (by decide) (by decide) (by decide) (by decide)
  simp at l1 q2
  generalize ex : (m * 31 + own % 1999999649) % 1999999649 = A
  generalize eb : (if own < 0 ∨ 100000000000000 ≤ own then (if own < 0 then -own else own) else 0) = B
  have A0 : 0 ≤ A := by rw [← ex]; exact Int.emod_nonneg _ (by decide)
  have A1 : A < MOD := by rw [← ex]; exact Int.emod_lt_of_pos _ (by decide)
  have B0 : 0 ≤ B := by
    rw [← eb]
    split
    · split <;> omega
    · omega
  have eR : sRet (eLst (aCons (eBin pMod (eCall bInt (aCons (eBin pAdd (eBin pMul (eVar 3) (eC (.int 31))) (eBin pMod (eVar 2) (eC (.int 1999999649)))) (aNil))) (eC (.int 1999999649))) (aCons (eIf (tOr2 (tOfE (eBin pLt (eVar 2) (eC (.int 0)))) (tOfE (eBin pGe (eVar 2) (eBin pPow (eC (.int 10)) (eC (.int 14)))))) (eCall bAbs (aCons (eVar 2) (aNil))) (eC (.int 0))) (aCons (eC (.int 5)) (aNil)))))
      [some X, some (.int (k : Int)), some (.int own), some (.int m), y] S1 = .ok (.rt (.ref S1.length)) [some X, some (.int (k : Int)), some (.int own), some (.int m), y] (S1 ++ [.lst [.int A, .int B, .int 5]]) := by
    have hp : pPow (.int 10) (.int 14) S1 = some (.int 100000000000000, S1) := by
      show (if (0 : Int) ≤ 14 ∧ (14 : Int) ≤ 1000000 ∧ (10 : Int).natAbs < 2 ^ 64 then some (PV.int (10 ^ (14 : Int).toNat), S1) else none) = _
      rw [if_pos (by decide)]
      rfl
    have hb : (3 : Nat) ≤ big := by decide
    subst ex
    by_cases h1 : own < 0
    · simp [h1] at eb
      subst eb
      simp [l1, hp, h1, hb]
    · by_cases h2 : 100000000000000 ≤ own
      · simp [h1, h2] at eb
        subst eb
        simp [l1, hp, h1, h2, hb]
      · simp [h1, h2] at eb
        subst eb
        simp [l1, hp, h1, h2, hb]
  refine ⟨[.lst (ms.map PV.int)], .lst [.int A, .int B, .int 5], ?_, A, B, 5, by simp, A0, A1, B0, by decide, by decide⟩
  have e2 : sAsg (eBin pAdd (eC (.int 40009)) (eBin pMul (eC (.int 1621)) (eVar 1))) (gNm 3) [some X, some (.int (k : Int)), some (.int own), none, none] S = .ok .nx [some X, some (.int (k : Int)), some (.int own), some (.int (40009 + 1621 * (k : Int))), none] S := by
    simp [q2]
  have eB : B__law_pail [some X, some (.int (k : Int)), none, none, none] S = .ok (.rt (.ref S1.length)) [some X, some (.int (k : Int)), some (.int own), some (.int m), y] (S1 ++ [.lst [.int A, .int B, .int 5]]) := by
    unfold B__law_pail
    rw [sSeq_ap, e1]
    simp only
    rw [sSeq_ap, e2]
    simp only
    rw [sSeq_ap, eL]
    exact eR
  show runB 5 B__law_pail [X, .int (k : Int)] S = _
  unfold runB
  show (match B__law_pail [some X, some (.int (k : Int)), none, none, none] S with
    | .ok (.rt v) _ S' => Res.ok v S'
    | .ok .nx _ S' => .ok .non S'
    | .ok _ _ _ => .stk
    | .exc C fs _ S' => .exc C fs S'
    | .stk => .stk) = _
  rw [eB]
/-! webs -/
theorem between (S : Sto) (v lo hi : Int) : F_is_between [.int v, .int lo, .int hi] S = .ok (.bl (decide (lo ≤ v ∧ v ≤ hi))) S := by
  by_cases h : lo ≤ v <;> simp [F_is_between, runB, B_is_between, pIsi, tyN, isiTab, h]
/-- a way between two of n places -/
def OkW (n : Int) (w : Int × Int) : Prop := 0 ≤ w.1 ∧ w.1 < n ∧ 0 ≤ w.2 ∧ w.2 < n ∧ w.1 ≠ w.2
/-- ways that a web may have -/
def OkWs (n : Int) (W : List (Int × Int)) : Prop := (∀ w ∈ W, OkW n w) ∧ W.Pairwise (fun w u => ltW w u = true) ∧ W.length ≤ 64
theorem way_ok {S : Sto} {n : Int} {w : Int × Int} (h : OkW n w) : ∃ S', F_is_way [wP w, .int n] S = .ok (.bl true) S' ∧ S <+: S' := by
  obtain ⟨h1, h2, h3, h4, h5⟩ := h
  obtain ⟨m, S', e, g, x⟩ := lc_over (di := iSeq (eVar 0)) (dg := gNm 2) (dt := dYes) (de := eApp F_is_between (aCons (eVar 2) (aCons (eC (.int 0)) (aCons (eBin pSub (eVar 1) (eC (.int 1))) (aNil))))) (vs := [2])
    (ρ := [some (wP w), some (.int n), none]) (S := S) (S1 := S) [w.1, w.2] PV.int (fun _ => true) (fun a => .bl (decide (0 ≤ a ∧ a ≤ n - 1))) (by simp [iSeq]) (by show 2 ≤ big; decide) (by
      intro a ha
      exact ⟨[some (wP w), some (.int n), some (.int a)], by simp [wipeE], rfl, fun _ => by simp [between]⟩)
  have b := bAll_of (l := [w.1, w.2]) (f := fun a => decide (0 ≤ a ∧ a ≤ n - 1)) (by rw [g]; simp)
  refine ⟨S', ?_, x⟩
  have h2' : w.1 ≤ n - 1 := by omega
  have h4' : w.2 ≤ n - 1 := by omega
  simp only [F_is_way, runB, B_is_way]
  simp [pIsi, tyN, isiTab, e, b, h1, h2', h3, h4', h5]
theorem wrong_none {S : Sto} {n : Int} {W : List (Int × Int)} (h : OkWs n W) : ∃ S', F_wrong_way [wsP W, .int n] S = .ok .non S' ∧ S <+: S' := by
  obtain ⟨h1, h2, h3⟩ := h
  obtain ⟨ρ', S', e, x, y2, y3, hρ⟩ := sFor_all (xs := (W.map wP).mapIdx fun i x => PV.tup [.int (i : Nat), x]) (di := iEn (aCons (eVar 0) (aNil))) (tg := gTp 2 (gCons1 (gNm 2) (gCons1 (gNm 3) (gNil1))))
    (body := (sIf (tOr2 (tNot1 (tOfE (eApp F_is_way (aCons (eVar 3) (aCons (eVar 1) (aNil)))))) (tAnd2 (tOfE (eBin pGt (eVar 2) (eC (.int 0)))) (tOfE (eBin pLe (eVar 3) (eBin pIx (eVar 0) (eBin pSub (eVar 2) (eC (.int 1)))))))) (sRet (eVar 2)) (sNop)))
    (ρ := [some (wsP W), some (.int n), none, none]) (S := S) (S1 := S) (fun i ρ T => S <+: T ∧ ∃ y2 y3, ρ = [some (wsP W), some (.int n), y2, y3]) (by simp [iEn]) ⟨List.prefix_refl _, _, _, rfl⟩ (by
      rintro i x ρ T hx ⟨hT, y2, y3, rfl⟩
      obtain ⟨w, hw, rfl⟩ := enum_get hx
      obtain ⟨hi, _⟩ := List.getElem?_eq_some_iff.mp hw
      obtain ⟨S2, e2, x2⟩ := way_ok (S := T) (h1 w (List.mem_of_getElem? hw))
      refine ⟨[some (wsP W), some (.int n), some (.int i), some (wP w)], T, [some (wsP W), some (.int n), some (.int i), some (wP w)], S2, by simp, ?_, hT.trans x2, _, _, rfl⟩
      by_cases h0 : 0 < i
      · obtain ⟨u, hu, ha⟩ := atI_pred (W := W) (g := wP) h0 hi
        have hlt : ltW u w = true := by
          obtain ⟨q1, q2⟩ := List.getElem?_eq_some_iff.mp hu
          obtain ⟨q3, q4⟩ := List.getElem?_eq_some_iff.mp hw
          have := List.pairwise_iff_getElem.mp h2 (i - 1) i q1 q3 (by omega)
          rw [q2, q4] at this
          exact this
        simp [e2, h0, ha, pLe_wP, hlt]
      · simp [e2, h0])
  refine ⟨S', ?_, x⟩
  subst hρ
  simp only [F_wrong_way, runB, B_wrong_way]
  simp [e]
theorem ways_checked {S : Sto} {n : Int} {W : List (Int × Int)} (h : OkWs n W) : ∃ S', F_check_ways [wsP W, .int n] S = .ok .non S' ∧ S <+: S' := by
  obtain ⟨S', e, x⟩ := wrong_none (S := S) h
  refine ⟨S', ?_, x⟩
  simp [F_check_ways, runB, B_check_ways, e, pIsi, tyN, isiTab, pNotN]
theorem count_checked {S : Sto} {n : Int} (h1 : 1 ≤ n) (h2 : n ≤ 8) : F_check_count [.int n, .int 8] S = .ok .non S := by
  simp [F_check_count, runB, B_check_count, between, h1, h2]
theorem goals_are {S : Sto} {W : List (Int × Int)} {p : Int} (h : W.length ≤ 64) : ∃ S', F_goals_of [wsP W, .int p] S = .ok (tI ((W.filter fun w => w.1 == p).map fun w => w.2)) S' ∧ S <+: S' := by
  obtain ⟨m, S', e, g, x⟩ := lc_over (di := iSeq (eVar 0)) (dg := gTp 2 (gCons1 (gNm 2) (gCons1 (gNm 3) (gNil1)))) (dt := tOfE (eBin pEq (eVar 2) (eVar 1))) (de := eVar 3) (vs := [2, 3])
    (ρ := [some (wsP W), some (.int p), none, none]) (S := S) (S1 := S) W wP (fun w => w.1 == p) (fun w => .int w.2) (by simp [iSeq]) (by show _ ≤ 100000; omega) (by
      intro w hw
      exact ⟨[some (wsP W), some (.int p), some (.int w.1), some (.int w.2)], by simp [wipeE], by simp, fun _ => by simp⟩)
  refine ⟨S', ?_, x⟩
  simp only [F_goals_of, runB, B_goals_of]
  simp [e, bTuple_ref g]
/-! a while with an index that falls -/
theorem wh_idx {c : En → Sto → Res Bool} {body : En → Sto → SRes} (I : Nat → En → Sto → Prop)
    (step : ∀ (k : Nat) (ρ : En) (S : Sto), I k ρ S → ∃ b S1, c ρ S = .ok b S1 ∧ (b = true → ∃ ρ2 S2 k', body ρ S1 = .ok .nx ρ2 S2 ∧ I k' ρ2 S2 ∧ k' < k)) :
    ∀ (fuel k : Nat) (ρ : En) (S : Sto), I k ρ S → k < fuel → ∃ ρ' k' S0 S', whGo c body fuel ρ S = .ok .nx ρ' S' ∧ I k' ρ' S0 ∧ c ρ' S0 = .ok false S'
  | 0, _, _, _, _, hk => absurd hk (Nat.not_lt_zero _)
  | fuel + 1, k, ρ, S, h, hk => by
    obtain ⟨b, S1, h1, h2⟩ := step k ρ S h
    cases b with
    | false =>
      refine ⟨ρ, k, S, S1, ?_, h, h1⟩
      unfold whGo
      simp only [h1]
    | true =>
      obtain ⟨ρ2, S2, k2, h3, h4, h5⟩ := h2 rfl
      obtain ⟨ρ', k', S0, S', a, b, c'⟩ := wh_idx I step fuel k2 ρ2 S2 h4 (by omega)
      refine ⟨ρ', k', S0, S', ?_, b, c'⟩
      rw [whGo]
      simp only [h1, h3]
      exact a
theorem prefix_set {S T : Sto} {a : Nat} {x : LO} (h : S <+: T) (ha : S.length ≤ a) : S <+: T.set a x := by
  rw [List.prefix_iff_getElem?] at h ⊢
  intro i hi
  rw [List.getElem?_set_ne (by omega)]
  exact h i hi
theorem filter_lt {l : List Nat} {p q : Nat → Bool} (hs : ∀ i, q i = true → p i = true) {k : Nat} (hk : k ∈ l) (h1 : p k = true) (h2 : q k = false) : (l.filter q).length < (l.filter p).length := by
  have le : ∀ l : List Nat, (l.filter q).length ≤ (l.filter p).length := by
    intro l
    induction l with
    | nil => simp
    | cons a l ih =>
      by_cases ha : q a = true
      · simp [ha, hs a ha, ih]
      · by_cases hb : p a = true
        · simp [ha, hb]; omega
        · simp [ha, hb, ih]
  induction l with
  | nil => cases hk
  | cons a l ih =>
    rcases List.mem_cons.mp hk with rfl | hk
    · have := le l
      simp [h1, h2]
      omega
    · have := ih hk
      by_cases ha : q a = true
      · simp [ha, hs a ha]; omega
      · by_cases hb : p a = true
        · simp [ha, hb]; omega
        · simp [ha, hb]; omega
/-- how many of n places are not in a list -/
def unseen (n : Nat) (l : List Int) : Nat := ((List.range n).filter fun i : Nat => !decide ((i : Int) ∈ l)).length
theorem unseen_le (n : Nat) (l : List Int) : unseen n l ≤ n := by
  have := List.length_filter_le (fun i : Nat => !decide ((i : Int) ∈ l)) (List.range n)
  simpa [unseen] using this
theorem unseen_add {n : Nat} {l : List Int} {v : Int} (h0 : 0 ≤ v) (h1 : v < n) (h2 : v ∉ l) : unseen n (l ++ [v]) < unseen n l := by
  obtain ⟨k, rfl⟩ := Int.eq_ofNat_of_zero_le h0
  exact filter_lt (k := k) (fun i hi => by simp at hi ⊢; exact hi.1) (by simpa using h1) (by simpa using h2) (by simp)
/-- the search ends -/
theorem leads {S : Sto} {n : Nat} {W : List (Int × Int)} {s g : Int} (hW : OkWs n W) (hn : n ≤ 8) : ∃ b S', F_does_lead [wsP W, .int s, .int g] S = .ok (.bl b) S' ∧ S <+: S' := by
  let J : Nat → En → Sto → Prop := fun k ρ T => ∃ (seen fresh : List Int) (y5 y6 : Option PV), ρ = [some (wsP W), some (.int s), some (.int g), some (.ref S.length), some (.ref (S.length + 1)), y5, y6] ∧
    T[S.length]? = some (.lst (seen.map PV.int)) ∧ T[S.length + 1]? = some (.lst (fresh.map PV.int)) ∧ S <+: T ∧ 2 * unseen n seen + fresh.length ≤ k ∧ seen.length + unseen n seen ≤ 9 ∧ k ≤ 17
  have hu := unseen_le n [s]
  obtain ⟨ρ', k', S0, S', eW, ⟨seen, fresh, y5, y6, hρ, t1, t2, t3, t4, t6, t7⟩, ec⟩ := wh_idx (c := tOfE (eBin pGt (eCall bLen (aCons (eVar 4) (aNil))) (eC (.int 0))))
    (body := (sSeq (sAsg (eMt0 mPop (eVar 4)) (gNm 5)) (sFor (iSeq (eApp F_goals_of (aCons (eVar 0) (aCons (eVar 5) (aNil))))) (gNm 6) (sIf (tOfE (eBin (pIn true) (eVar 6) (eVar 3))) (sSeq (sExp (eMt mAppend (eVar 3) (aCons (eVar 6) (aNil))))
  (sExp (eMt mAppend (eVar 4) (aCons (eVar 6) (aNil))))) (sNop)))))
    J (by
      rintro k ρ T ⟨seen, fresh, y5, y6, rfl, t1, t2, t3, t4, t6, t7⟩
      refine ⟨decide (0 < fresh.length), T, by simp [bLen_ref t2], fun hb => ?_⟩
      have hf : 0 < fresh.length := by simpa using hb
      obtain ⟨fs, f, rfl⟩ : ∃ fs f, fresh = fs ++ [f] := ⟨fresh.dropLast, fresh.getLast (by intro h; simp [h] at hf), (List.dropLast_concat_getLast _).symm⟩
      have e5 : mPop (.ref (S.length + 1)) T = some (.int f, T.set (S.length + 1) (.lst (fs.map PV.int))) := by
        simp only [mPop, t2]
        simp
      obtain ⟨Tg, e6, x6⟩ := goals_are (S := T.set (S.length + 1) (.lst (fs.map PV.int))) (W := W) (p := f) hW.2.2
      generalize eG : ((W.filter fun w => w.1 == f).map fun w => w.2) = G at e6
      have hG : ∀ v ∈ G, 0 ≤ v ∧ v < n := by
        intro v hv
        rw [← eG] at hv
        obtain ⟨w, hw, rfl⟩ := List.mem_map.mp hv
        have := hW.1 w (List.mem_filter.mp hw).1
        exact ⟨this.2.2.1, this.2.2.2.1⟩
      obtain ⟨ρ2, S2, e7, seen2, fresh2, z6, rfl, u1, u2, u3, u4, u6⟩ := sFor_all (xs := G.map PV.int) (di := iSeq (eApp F_goals_of (aCons (eVar 0) (aCons (eVar 5) (aNil))))) (tg := gNm 6) (body := (sIf (tOfE (eBin (pIn true) (eVar 6) (eVar 3))) (sSeq (sExp (eMt mAppend (eVar 3) (aCons (eVar 6) (aNil)))) (sExp (eMt mAppend (eVar 4) (aCons (eVar 6) (aNil))))) (sNop)))
        (ρ := [some (wsP W), some (.int s), some (.int g), some (.ref S.length), some (.ref (S.length + 1)), some (.int f), y6]) (S := T.set (S.length + 1) (.lst (fs.map PV.int))) (S1 := Tg)
        (fun _ ρ T' => ∃ (seen' fresh' : List Int) (y6 : Option PV), ρ = [some (wsP W), some (.int s), some (.int g), some (.ref S.length), some (.ref (S.length + 1)), some (.int f), y6] ∧
          T'[S.length]? = some (.lst (seen'.map PV.int)) ∧ T'[S.length + 1]? = some (.lst (fresh'.map PV.int)) ∧ S <+: T' ∧ 2 * unseen n seen' + fresh'.length ≤ 2 * unseen n seen + fs.length ∧ seen'.length + unseen n seen' ≤ 9)
        (by simp [iSeq, e6])
        ⟨seen, fs, y6, rfl, prefix_get x6 (get_set_ne t1 (by omega)), prefix_get x6 (get_set_eq t2), (prefix_set t3 (by omega)).trans x6, Nat.le_refl _, t6⟩ (by
          rintro i x ρ T' hx ⟨seen', fresh', y6, rfl, u1, u2, u3, u4, u6⟩
          obtain ⟨v, hv, rfl⟩ := map_get hx
          obtain ⟨v0, v1⟩ := hG v (List.mem_of_getElem? hv)
          by_cases hin : v ∈ seen'
          · refine ⟨[some (wsP W), some (.int s), some (.int g), some (.ref S.length), some (.ref (S.length + 1)), some (.int f), some (.int v)], T', [some (wsP W), some (.int s), some (.int g), some (.ref S.length), some (.ref (S.length + 1)), some (.int f), some (.int v)], T', by simp, ?_, seen', fresh', _, rfl, u1, u2, u3, u4, u6⟩
            simp [pIn_list u1, hin]
          · have hd := unseen_add v0 v1 hin
            have a1 := append_ref (y := .int v) u1 (by rw [List.length_map]; show _ < 100000; omega)
            have hu' := unseen_le n seen
            have u2' := get_set_ne (x := LO.lst (seen'.map PV.int ++ [PV.int v])) u2 (j := S.length) (by omega)
            have a2 := append_ref (y := .int v) u2' (by rw [List.length_map]; show _ < 100000; simp at t4; omega)
            refine ⟨[some (wsP W), some (.int s), some (.int g), some (.ref S.length), some (.ref (S.length + 1)), some (.int f), some (.int v)], T', [some (wsP W), some (.int s), some (.int g), some (.ref S.length), some (.ref (S.length + 1)), some (.int f), some (.int v)], (T'.set S.length (.lst (seen'.map PV.int ++ [.int v]))).set (S.length + 1) (.lst (fresh'.map PV.int ++ [.int v])), by simp, ?_, seen' ++ [v], fresh' ++ [v], _, rfl, ?_, ?_, prefix_set (prefix_set u3 (Nat.le_refl _)) (Nat.le_succ _), ?_, ?_⟩
            rotate_left
            · exact (get_set_ne (get_set_eq u1) (by omega)).trans (by simp)
            · exact (get_set_eq u2').trans (by simp)
            · simp; omega
            · simp; omega
            · simp [pIn_list u1, hin, a1, a2, u1, u2'])
      refine ⟨_, S2, 2 * unseen n seen + fs.length, ?_, ⟨seen2, fresh2, some (.int f), z6, rfl, u1, u2, u3, u4, u6, by simp at t4; omega⟩, by simp at t4; omega⟩
      simp [e5]
      exact e7) 1000000 17 [some (wsP W), some (.int s), some (.int g), some (.ref S.length), some (.ref (S.length + 1)), none, none] ((S ++ [.lst [.int s]]) ++ [.lst [.int s]])
    ⟨[s], [s], none, none, rfl, by simp, by simp, (List.prefix_append _ _).trans (List.prefix_append _ _), by simp; omega, by simp; omega, by omega⟩ (by omega)
  subst hρ
  have e0 : S0 = S' := by
    simp [bLen_ref t2] at ec
    exact ec.2
  subst e0
  refine ⟨decide (g ∈ seen), S0, ?_, t3⟩
  have hb : (1 : Nat) ≤ big := by decide
  simp only [F_does_lead, runB, B_does_lead]
  simp [hb, sWh] at eW ⊢
  simp [eW, pIn_list t1]
/-! a web stands -/
def webF (n : Int) (W : List (Int × Int)) (b : Bool) : List (Str × PV) := [("count", .int n), ("ways", wsP W), ("told", .tup [.int n, wsP W]), ("has_ring", .bl b)]
def WebAt (S : Sto) (w : Nat) (n : Int) (W : List (Int × Int)) : Prop := ∃ b, S[w]? = some (.ins "Web" (webF n W b))
theorem WebAt.keep {S S' : Sto} {w p : Nat} {n : Int} {W : List (Int × Int)} (h : WebAt S w n W) (k : Kept p S S') (hp : w ≠ p) : WebAt S' w n W := by
  obtain ⟨b, e⟩ := h
  exact ⟨b, k w _ e hp⟩
theorem WebAt.pre {S S' : Sto} {w : Nat} {n : Int} {W : List (Int × Int)} (h : WebAt S w n W) (k : S <+: S') : WebAt S' w n W := by
  obtain ⟨b, e⟩ := h
  exact ⟨b, prefix_get k e⟩
theorem web_init {S : Sto} {n : Nat} {W : List (Int × Int)} {w : Nat} (hW : OkWs n W) (h1 : 1 ≤ n) (hn : n ≤ 8) (hw : S[w]? = some (.ins "Web" [])) : ∃ S', F_Web___init__ [.ref w, .int n, wsP W] S = .ok .non S' ∧ Kept w S S' ∧ WebAt S' w n W := by
  obtain ⟨S1, e1, x1⟩ := ways_checked (S := S) hW
  have hw1 := prefix_get x1 hw
  have hb2 : (2 : Nat) ≤ big := by decide
  let ρ : En := [some (.ref w), some (.int n), some (wsP W), none, none]
  have c1 : sFldS ["Web"] "count" (eVar 1) (eVar 0) ρ S1 = .ok .nx ρ (S1.set w (.ins "Web" [("count", .int n)])) := sFldS_of (S1 := S1) (S2 := S1) (n := w) (y := .int n) (by simp [ρ]) (by simp [ρ]) hw1 (by simp) (by simp)
  have hw2 : (S1.set w (.ins "Web" [("count", .int n)]))[w]? = some (.ins "Web" [("count", .int n)]) := get_set_eq hw1
  have c2 : sFldS ["Web"] "ways" (eVar 2) (eVar 0) ρ (S1.set w (.ins "Web" [("count", .int n)])) = .ok .nx ρ ((S1.set w (.ins "Web" [("count", .int n)])).set w (.ins "Web" [("count", .int n), ("ways", wsP W)])) := sFldS_of (S1 := S1.set w (.ins "Web" [("count", .int n)])) (S2 := S1.set w (.ins "Web" [("count", .int n)])) (n := w) (y := wsP W) (by simp [ρ]) (by simp [ρ]) hw2 (by simp) (by simp)
  rw [List.set_set] at c2
  have hw3 : (S1.set w (.ins "Web" [("count", .int n), ("ways", wsP W)]))[w]? = some (.ins "Web" [("count", .int n), ("ways", wsP W)]) := get_set_eq hw1
  have c3 : sFldS ["Web"] "told" (eTup (aCons (eVar 1) (aCons (eVar 2) (aNil)))) (eVar 0) ρ (S1.set w (.ins "Web" [("count", .int n), ("ways", wsP W)])) = .ok .nx ρ ((S1.set w (.ins "Web" [("count", .int n), ("ways", wsP W)])).set w (.ins "Web" [("count", .int n), ("ways", wsP W), ("told", .tup [.int n, wsP W])])) :=
    sFldS_of (S1 := S1.set w (.ins "Web" [("count", .int n), ("ways", wsP W)])) (S2 := S1.set w (.ins "Web" [("count", .int n), ("ways", wsP W)])) (n := w) (y := .tup [.int n, wsP W]) (by simp [ρ, hb2]) (by simp [ρ]) hw3 (by simp) (by simp)
  rw [List.set_set] at c3
  generalize eT : S1.set w (.ins "Web" [("count", .int n), ("ways", wsP W), ("told", .tup [.int n, wsP W])]) = T at c3
  have hw4 : T[w]? = some (.ins "Web" [("count", .int n), ("ways", wsP W), ("told", .tup [.int n, wsP W])]) := by rw [← eT]; exact get_set_eq hw1
  -- the ring
  obtain ⟨acc, T1, c4, x4, bs⟩ := eLc_run (xs := W.map wP) (di := iSeq (eVar 2)) (dg := gTp 2 (gCons1 (gNm 3) (gCons1 (gNm 4) (gNil1)))) (dt := dYes) (de := eApp F_does_lead (aCons (eVar 2) (aCons (eVar 4) (aCons (eVar 3) (aNil))))) (vs := [3, 4]) (ρ := ρ) (S := T) (S1 := T)
    (fun i acc T' => T <+: T' ∧ ∃ bs : List Bool, acc = bs.map PV.bl ∧ bs.length = i) (by simp [ρ, iSeq]) ⟨List.prefix_refl _, [], rfl, rfl⟩ (by
      rintro i x acc T' hx ⟨hT, bs, rfl, hl⟩
      obtain ⟨u, hu, rfl⟩ := map_get hx
      obtain ⟨hi, _⟩ := List.getElem?_eq_some_iff.mp hu
      obtain ⟨b, T3, e3, x3⟩ := leads (S := T') (s := u.2) (g := u.1) hW hn
      have := hW.2.2
      refine ⟨[some (.ref w), some (.int n), some (wsP W), some (.int u.1), some (.int u.2)], T', true, T', by simp [ρ, wipeE], rfl, fun _ => ⟨by rw [List.length_map]; show _ < 100000; omega, .bl b, T3, by simp [e3], hT.trans x3, bs ++ [b], by simp, by simp [hl]⟩, fun h => by cases h⟩)
  have hbs := x4
  obtain ⟨bs, rfl, _⟩ := bs
  generalize eT2 : T1 ++ [LO.lst (bs.map PV.bl)] = T2 at c4
  have g4 : T2[T1.length]? = some (.lst (bs.map PV.bl)) := by rw [← eT2]; exact get_end
  have x4 : T <+: T2 := by rw [← eT2]; exact x4.trans (List.prefix_append _ _)
  have c5 : sFldS ["Web"] "has_ring" (eCall bAny (aCons (eLc (iSeq (eVar 2)) (gTp 2 (gCons1 (gNm 3) (gCons1 (gNm 4) (gNil1)))) (dYes) (eApp F_does_lead (aCons (eVar 2) (aCons (eVar 4) (aCons (eVar 3) (aNil))))) [3, 4]) (aNil))) (eVar 0) ρ T = .ok .nx ρ (T2.set w (.ins "Web" (webF n W (bs.any id)))) :=
    sFldS_of (n := w) (y := .bl (bs.any id)) (S1 := T2) (S2 := T2) (by simp [c4, bAny_ref g4 rfl]) (by simp [ρ]) (prefix_get x4 hw4) (by simp) (by simp)
  refine ⟨T2.set w (.ins "Web" (webF n W (bs.any id))), ?_, ?_, bs.any id, get_set_eq (prefix_get x4 hw4)⟩
  · refine run_nx (ρ' := ρ) ?_
    have k1 : sExp (eApp F_check_count (aCons (eVar 1) (aCons (eC (.int 8)) (aNil)))) ρ S = .ok .nx ρ S := by simp [ρ, count_checked (S := S) (n := n) (by omega) (by omega)]
    have k2 : sExp (eApp F_check_ways (aCons (eVar 2) (aCons (eVar 1) (aNil)))) ρ S = .ok .nx ρ S1 := by simp [ρ, e1]
    exact (seq_nx k1).trans ((seq_nx k2).trans ((seq_nx c1).trans ((seq_nx c2).trans ((seq_nx c3).trans c5))))
  · refine ((Kept.of x1).trans ?_).trans ((Kept.of x4).trans .set)
    rw [← eT]
    exact .set
/-! standings and moves -/
def Std (n : Int) (l : List Int) : Prop := Asc l ∧ (∀ x ∈ l, 0 ≤ x ∧ x < n) ∧ n ≤ 8
theorem Std.len {n : Int} {l : List Int} (h : Std n l) : l.length ≤ 8 := by
  have q := asc_len (lo := 0) h.1 h.2.1
  have := h.2.2
  omega
theorem std_nil {n : Int} (h : n ≤ 8) : Std n [] := ⟨.nil, fun _ h => (nomatch h), h⟩
theorem place_none {S : Sto} {n : Int} {l : List Int} (h : Std n l) : F_wrong_place [tI l, .int n] S = .ok .non S := by
  obtain ⟨h1, h2, h3⟩ := h
  obtain ⟨ρ', S', e, rfl, y2, y3, hρ⟩ := sFor_all (xs := (l.map PV.int).mapIdx fun i x => PV.tup [.int (i : Nat), x]) (di := iEn (aCons (eVar 0) (aNil))) (tg := gTp 2 (gCons1 (gNm 2) (gCons1 (gNm 3) (gNil1))))
    (body := (sIf (tOr2 (tNot1 (tOfE (eApp F_is_between (aCons (eVar 3) (aCons (eC (.int 0)) (aCons (eBin pSub (eVar 1) (eC (.int 1))) (aNil))))))) (tAnd2 (tOfE (eBin pGt (eVar 2) (eC (.int 0)))) (tOfE (eBin pLe (eVar 3) (eBin pIx (eVar 0) (eBin pSub (eVar 2) (eC (.int 1)))))))) (sRet (eVar 2)) (sNop)))
    (ρ := [some (tI l), some (.int n), none, none]) (S := S) (S1 := S) (fun i ρ T => S = T ∧ ∃ y2 y3, ρ = [some (tI l), some (.int n), y2, y3]) (by simp [iEn]) ⟨rfl, _, _, rfl⟩ (by
      rintro i x ρ T hx ⟨rfl, y2, y3, rfl⟩
      obtain ⟨v, hv, rfl⟩ := enum_get hx
      obtain ⟨hi, _⟩ := List.getElem?_eq_some_iff.mp hv
      obtain ⟨v0, v1⟩ := h2 v (List.mem_of_getElem? hv)
      have v1' : v ≤ n - 1 := by omega
      refine ⟨[some (tI l), some (.int n), some (.int i), some (.int v)], S, [some (tI l), some (.int n), some (.int i), some (.int v)], S, by simp, ?_, rfl, _, _, rfl⟩
      by_cases h0 : 0 < i
      · obtain ⟨u, hu, ha⟩ := atI_pred (W := l) (g := PV.int) h0 hi
        have hlt : ¬ v ≤ u := by
          obtain ⟨q1, q2⟩ := List.getElem?_eq_some_iff.mp hu
          obtain ⟨q3, q4⟩ := List.getElem?_eq_some_iff.mp hv
          have := List.pairwise_iff_getElem.mp h1 (i - 1) i q1 q3 (by omega)
          omega
        simp [between, v0, v1', h0, ha, hlt]
      · simp [between, v0, v1', h0])
  subst hρ
  simp only [F_wrong_place, runB, B_wrong_place]
  simp [e]
theorem standing_checked {S : Sto} {n : Int} {l : List Int} (h : Std n l) : F_check_standing [tI l, .int n] S = .ok .non S := by
  simp [F_check_standing, runB, B_check_standing, place_none h, pIsi, tyN, isiTab, pNotN]
theorem web_checked {S : Sto} {w : Nat} {n : Int} {W : List (Int × Int)} (h : WebAt S w n W) : F_check_web [.ref w] S = .ok .non S := by
  obtain ⟨b, e⟩ := h
  have q : pIsC isc_Web (.ref w) S = some (.bl true, S) := by
    simp only [pIsC, e]
    rfl
  simp [F_check_web, runB, B_check_web, q]
theorem WebAt.count {S S0 : Sto} {w : Nat} {n : Int} {W : List (Int × Int)} {da : En → Sto → Res PV} {ρ : En} (h : WebAt S w n W) (e : da ρ S0 = .ok (.ref w) S) : eFld ["Web"] "count" da ρ S0 = .ok (.int n) S := by
  obtain ⟨b, q⟩ := h
  exact eFld_of e q (by simp) rfl
theorem WebAt.ways {S S0 : Sto} {w : Nat} {n : Int} {W : List (Int × Int)} {da : En → Sto → Res PV} {ρ : En} (h : WebAt S w n W) (e : da ρ S0 = .ok (.ref w) S) : eFld ["Web"] "ways" da ρ S0 = .ok (wsP W) S := by
  obtain ⟨b, q⟩ := h
  exact eFld_of e q (by simp) rfl
theorem WebAt.told {S S0 : Sto} {w : Nat} {n : Int} {W : List (Int × Int)} {da : En → Sto → Res PV} {ρ : En} (h : WebAt S w n W) (e : da ρ S0 = .ok (.ref w) S) : eFld ["Web"] "told" da ρ S0 = .ok (.tup [.int n, wsP W]) S := by
  obtain ⟨b, q⟩ := h
  exact eFld_of e q (by simp) rfl
theorem asked {S : Sto} {w : Nat} {n : Int} {W : List (Int × Int)} {l : List Int} (h : WebAt S w n W) (hl : Std n l) : F_check_asked [.ref w, tI l] S = .ok .non S := by
  have e : eFld ["Web"] "count" (eVar 0) [some (.ref w), some (tI l)] S = .ok (.int n) S := h.count (by simp)
  simp [F_check_asked, runB, B_check_asked, web_checked h, e, standing_checked hl]
/-- the ways from a standing -/
def due (W : List (Int × Int)) (l : List Int) : List (Int × Int) := W.filter fun w => decide (w.1 ∈ l)
theorem ways_from {S : Sto} {w : Nat} {n : Int} {W : List (Int × Int)} {l : List Int} (h : WebAt S w n W) (hW : W.length ≤ 64) : ∃ S', F_ways_from [.ref w, tI l] S = .ok (wsP (due W l)) S' ∧ S <+: S' := by
  have e0 : eFld ["Web"] "ways" (eVar 0) [some (.ref w), some (tI l), none] S = .ok (wsP W) S := h.ways (by simp)
  obtain ⟨m, S', e, g, x⟩ := lc_over (di := iSeq (eFld ["Web"] "ways" (eVar 0))) (dg := gNm 2) (dt := tOfE (eBin (pIn false) (eBin pIx (eVar 2) (eC (.int 0))) (eVar 1))) (de := eVar 2) (vs := [2])
    (ρ := [some (.ref w), some (tI l), none]) (S := S) (S1 := S) W wP (fun w => decide (w.1 ∈ l)) wP (by simp [iSeq, e0]) (by show _ ≤ 100000; omega) (by
      intro u hu
      exact ⟨[some (.ref w), some (tI l), some (wP u)], by simp [wipeE], by simp, fun _ => by simp⟩)
  refine ⟨S', ?_, x⟩
  simp only [F_ways_from, runB, B_ways_from]
  simp [e, bTuple_ref g, due]
theorem moves_are {S : Sto} {w : Nat} {n : Int} {W : List (Int × Int)} {l : List Int} (h : WebAt S w n W) (hW : W.length ≤ 64) (hl : Std n l) : ∃ S', F_moves [.ref w, tI l] S = .ok (wsP (due W l)) S' ∧ S <+: S' := by
  obtain ⟨S', e, x⟩ := ways_from (l := l) h hW
  exact ⟨S', by simp [F_moves, runB, B_moves, asked h hl, e], x⟩
theorem way_checked {S : Sto} {w : Nat} {n : Int} {W : List (Int × Int)} {l : List Int} {u : Int × Int} (h : WebAt S w n W) (hW : W.length ≤ 64) (hu : u ∈ due W l) : ∃ S', F_check_way [.ref w, tI l, wP u] S = .ok .non S' ∧ S <+: S' := by
  obtain ⟨m, S1, e, g, x⟩ := lc_over (di := iSeq (eVar 2)) (dg := gNm 3) (dt := dYes) (de := eAnd2 (eUn (pIsi "int") (eVar 3)) (eNot1 (eUn (pIsi "bool") (eVar 3)))) (vs := [3])
    (ρ := [some (.ref w), some (tI l), some (wP u), none]) (S := S) (S1 := S) [u.1, u.2] PV.int (fun _ => true) (fun _ => .bl true) (by simp [iSeq]) (by show 2 ≤ big; decide) (by
      intro a ha
      exact ⟨[some (.ref w), some (tI l), some (wP u), some (.int a)], by simp [wipeE], rfl, fun _ => by simp [pIsi, tyN, isiTab]⟩)
  have b := bAll_of (l := [u.1, u.2]) (f := fun _ => true) (by rw [g]; simp)
  obtain ⟨S2, e2, x2⟩ := ways_from (l := l) (h.pre x) hW
  refine ⟨S2, ?_, x.trans x2⟩
  have ep : F_is_playable [.ref w, tI l, wP u] S = .ok (.bl true) S2 := by
    simp only [F_is_playable, runB, B_is_playable]
    simp [pIsi, tyN, isiTab] at e b ⊢
    simp [e, b, e2, hu]
  simp [F_check_way, runB, B_check_way, ep]
/-- a place toggled -/
def togg (p : Int) (l : List Int) : List Int := if p ∈ l then l.filter fun x => !(x == p) else isI (l ++ [p])
theorem mem_togg {p x : Int} {l : List Int} : x ∈ togg p l ↔ ((x ∈ l ∧ x ≠ p) ∨ (x = p ∧ p ∉ l)) := by
  unfold togg
  split
  · rename_i h
    simp
    intro _ h2
    exact absurd h h2
  · rename_i h
    rw [mem_isI]
    simp
    constructor
    · rintro (q | q)
      · exact .inl ⟨q, fun z => h (z ▸ q)⟩
      · exact .inr ⟨q, h⟩
    · rintro (q | q)
      · exact .inl q.1
      · exact .inr q.1
theorem togg_asc {p : Int} {l : List Int} (h : Asc l) : Asc (togg p l) := by
  unfold togg
  split
  · exact h.filter _
  · rename_i hp
    refine isI_asc ?_
    rw [List.nodup_append]
    exact ⟨asc_nodup h, by simp, fun a ha b hb => by rw [List.mem_singleton] at hb; subst hb; exact fun z => hp (z ▸ ha)⟩
theorem togg_std {n p : Int} {l : List Int} (h : Std n l) (h0 : 0 ≤ p) (h1 : p < n) : Std n (togg p l) := by
  refine ⟨togg_asc h.1, fun x hx => ?_, h.2.2⟩
  rcases mem_togg.mp hx with q | q
  · exact h.2.1 x q.1
  · rw [q.1]; exact ⟨h0, h1⟩
theorem toggled {S : Sto} {p : Int} {l : List Int} (hl : l.length ≤ 64) : ∃ S', F_toggled [tI l, .int p] S = .ok (tI (togg p l)) S' ∧ S <+: S' := by
  by_cases hp : p ∈ l
  · obtain ⟨m, S', e, g, x⟩ := lc_over (di := iSeq (eVar 0)) (dg := gNm 2) (dt := tOfE (eBin pNe (eVar 2) (eVar 1))) (de := eVar 2) (vs := [2])
      (ρ := [some (tI l), some (.int p), none]) (S := S) (S1 := S) l PV.int (fun x => !(x == p)) PV.int (by simp [iSeq]) (by show _ ≤ 100000; omega) (by
        intro u hu
        exact ⟨[some (tI l), some (.int p), some (.int u)], by simp [wipeE], by simp, fun _ => by simp⟩)
    refine ⟨S', ?_, x⟩
    simp only [F_toggled, runB, B_toggled]
    simp [e, bTuple_ref g, hp, togg]
  · have h1 : (l.map PV.int ++ [PV.int p]).length ≤ big := by simp; show _ ≤ 100000; omega
    have g1 : (S ++ [LO.lst ((l ++ [p]).map PV.int)])[S.length]? = some (.lst ((l ++ [p]).map PV.int)) := get_end
    have s1 := bSorted_ints g1 (by simp; show _ ≤ 100000; omega)
    generalize eT : S ++ [LO.lst ((l ++ [p]).map PV.int)] = T at s1
    have g2 : (T ++ [LO.lst ((isI (l ++ [p])).map PV.int)])[T.length]? = some (.lst ((isI (l ++ [p])).map PV.int)) := get_end
    refine ⟨T ++ [LO.lst ((isI (l ++ [p])).map PV.int)], ?_, ?_⟩
    · have q : eLst (aStar (eVar 0) (aCons (eVar 1) (aNil))) [some (tI l), some (.int p), none] S = .ok (.ref S.length) T := by
        have : eLst (aStar (eVar 0) (aCons (eVar 1) (aNil))) [some (tI l), some (.int p), none] S = if (l.map PV.int ++ [PV.int p]).length ≤ big then .ok (.ref S.length) (S ++ [.lst (l.map PV.int ++ [PV.int p])]) else .stk := rfl
        rw [this, if_pos h1, ← eT]
        simp
      simp only [F_toggled, runB, B_toggled]
      simp [hp]
      simp at q
      simp [q, s1, bTuple_ref g2, togg, hp]
    · rw [← eT]
      exact (List.prefix_append _ _).trans (List.prefix_append _ _)
/-- a way played -/
def play (l : List Int) (u : Int × Int) : List Int := togg u.2 (togg u.1 l)
theorem play_std {n : Int} {l : List Int} {u : Int × Int} (h : Std n l) (hu : OkW n u) : Std n (play l u) := togg_std (togg_std h hu.1 hu.2.1) hu.2.2.1 hu.2.2.2.1
theorem mem_play {l : List Int} {u : Int × Int} {x : Int} : x ∈ play l u ↔ (decide (x ∈ l) ^^ decide (x = u.1) ^^ decide (x = u.2)) = true := by
  unfold play
  rw [mem_togg, mem_togg, mem_togg]
  by_cases h1 : x = u.1 <;> by_cases h2 : x = u.2
  · have h3 : u.2 = u.1 := h2 ▸ h1
    by_cases h : x ∈ l
    · rw [h1] at h; simp [h1, h3, h]
    · rw [h1] at h; simp [h1, h3, h]
  · by_cases h : x ∈ l
    · rw [h1] at h h2; simp [h1, h2, h]
    · rw [h1] at h h2; simp [h1, h2, h]
  · by_cases h : x ∈ l
    · rw [h2] at h h1; simp [h2, h1, h]
    · rw [h2] at h h1; simp [h2, h1, h]
  · by_cases h : x ∈ l <;> simp [h1, h2, h]
theorem played {S : Sto} {n : Int} {l : List Int} {u : Int × Int} (h : Std n l) (hu : OkW n u) : ∃ S', F_played [tI l, wP u] S = .ok (tI (play l u)) S' ∧ S <+: S' := by
  obtain ⟨S1, e1, x1⟩ := toggled (S := S) (p := u.1) (l := l) (by have := h.len; omega)
  obtain ⟨S2, e2, x2⟩ := toggled (S := S1) (p := u.2) (l := togg u.1 l) (by have := (togg_std h hu.1 hu.2.1).len; omega)
  exact ⟨S2, by simp [F_played, runB, B_played, e1, e2, play], x1.trans x2⟩
theorem after_is {S : Sto} {w : Nat} {n : Int} {W : List (Int × Int)} {l : List Int} {u : Int × Int} (h : WebAt S w n W) (hW : OkWs n W) (hl : Std n l) (hu : u ∈ due W l) : ∃ S', F_after [.ref w, tI l, wP u] S = .ok (tI (play l u)) S' ∧ S <+: S' := by
  obtain ⟨S1, e1, x1⟩ := way_checked h hW.2.2 hu
  obtain ⟨S2, e2, x2⟩ := played (S := S1) hl (hW.1 u (List.mem_filter.mp hu).1)
  exact ⟨S2, by simp [F_after, runB, B_after, asked h hl, e1, e2], x1.trans x2⟩
/-- what is in just one -/
def apart (l m : List Int) : List Int := isI (l.filter (fun x => !decide (x ∈ m)) ++ m.filter fun x => !decide (x ∈ l))
theorem mem_apart {l m : List Int} {x : Int} : x ∈ apart l m ↔ (decide (x ∈ l) ^^ decide (x ∈ m)) = true := by
  unfold apart
  rw [mem_isI]
  by_cases h1 : x ∈ l <;> by_cases h2 : x ∈ m <;> simp [h1, h2]
theorem apart_asc {l m : List Int} (h1 : Asc l) (h2 : Asc m) : Asc (apart l m) := by
  refine isI_asc ?_
  rw [List.nodup_append]
  refine ⟨asc_nodup (h1.filter _), asc_nodup (h2.filter _), fun a ha b hb e => ?_⟩
  subst e
  simp at ha hb
  exact ha.2 hb.1
theorem apart_self {l : List Int} (h : Asc l) : apart l l = [] := asc_ext (apart_asc h h) .nil fun x => by rw [mem_apart]; simp
theorem apart_nil {l : List Int} (h : Asc l) : apart l [] = l := asc_ext (apart_asc h .nil) h fun x => by rw [mem_apart]; simp
theorem unlike_is {S : Sto} {l m : List Int} (hl : l.length ≤ 64) (hm : m.length ≤ 64) : ∃ S', F_unlike [tI l, tI m] S = .ok (tI (apart l m)) S' ∧ S <+: S' := by
  obtain ⟨k1, S1, e1, g1, x1⟩ := lc_over (di := iSeq (eVar 0)) (dg := gNm 3) (dt := tOfE (eBin (pIn true) (eVar 3) (eVar 1))) (de := eVar 3) (vs := [3])
    (ρ := [some (tI l), some (tI m), none, none]) (S := S) (S1 := S) l PV.int (fun x => !decide (x ∈ m)) PV.int (by simp [iSeq]) (by show _ ≤ 100000; omega) (by
      intro u hu
      exact ⟨[some (tI l), some (tI m), none, some (.int u)], by simp [wipeE], by simp, fun _ => by simp⟩)
  obtain ⟨k2, S2, e2, g2, x2⟩ := lc_over (di := iSeq (eVar 1)) (dg := gNm 3) (dt := tOfE (eBin (pIn true) (eVar 3) (eVar 0))) (de := eVar 3) (vs := [3])
    (ρ := [some (tI l), some (tI m), some (.ref k1), none]) (S := S1) (S1 := S1) m PV.int (fun x => !decide (x ∈ l)) PV.int (by simp [iSeq]) (by show _ ≤ 100000; omega) (by
      intro u hu
      exact ⟨[some (tI l), some (tI m), some (.ref k1), some (.int u)], by simp [wipeE], by simp, fun _ => by simp⟩)
  have g1' := prefix_get x2 g1
  have f1 := List.length_filter_le (fun x => !decide (x ∈ m)) l
  have f2 := List.length_filter_le (fun x => !decide (x ∈ l)) m
  have e3 : pAdd (.ref k1) (.ref k2) S2 = some (.ref S2.length, S2 ++ [.lst ((l.filter (fun x => !decide (x ∈ m)) ++ m.filter fun x => !decide (x ∈ l)).map PV.int)]) := by
    show (match S2[k1]?, S2[k2]? with
      | some (.lst xs), some (.lst ys) => if xs.length + ys.length ≤ big then some (PV.ref S2.length, S2 ++ [LO.lst (xs ++ ys)]) else none
      | _, _ => none) = _
    rw [g1', g2]
    simp only [List.length_map, List.map_append]
    rw [if_pos (by show _ ≤ 100000; omega)]
  generalize eD : (l.filter (fun x => !decide (x ∈ m)) ++ m.filter fun x => !decide (x ∈ l)) = D at e3
  have hD : D.length ≤ 128 := by rw [← eD, List.length_append]; omega
  have g3 : (S2 ++ [LO.lst (D.map PV.int)])[S2.length]? = some (.lst (D.map PV.int)) := get_end
  have s1 := bSorted_ints g3 (by show _ ≤ 100000; omega)
  generalize eT : S2 ++ [LO.lst (D.map PV.int)] = T at s1 e3
  have g4 : (T ++ [LO.lst ((isI D).map PV.int)])[T.length]? = some (.lst ((isI D).map PV.int)) := get_end
  refine ⟨T ++ [LO.lst ((isI D).map PV.int)], ?_, ?_⟩
  · have ha : apart l m = isI D := by rw [← eD]; rfl
    simp only [F_unlike, runB, B_unlike, ha]
    simp [e1, e2, e3, s1, bTuple_ref g4]
  · rw [← eT]
    exact (x1.trans x2).trans ((List.prefix_append _ _).trans (List.prefix_append _ _))
theorem difference_is {S : Sto} {w : Nat} {n : Int} {W : List (Int × Int)} {l m : List Int} (h : WebAt S w n W) (hl : Std n l) (hm : Std n m) : ∃ S', F_difference [.ref w, tI l, tI m] S = .ok (tI (apart l m)) S' ∧ S <+: S' := by
  obtain ⟨S1, e1, x1⟩ := unlike_is (S := S) (l := l) (m := m) (by have := hl.len; omega) (by have := hm.len; omega)
  have e : eFld ["Web"] "count" (eVar 0) [some (.ref w), some (tI l), some (tI m)] S = .ok (.int n) S := h.count (by simp)
  exact ⟨S1, by simp [F_difference, runB, B_difference, asked h hl, e, standing_checked hm, e1], x1⟩
/-- the law's own move -/
theorem moved_is {S : Sto} {n : Int} {l : List Int} {u : Int × Int} (hl : Std n l) (hu : OkW n u) (hm : u.1 ∈ l) : ∃ S', F__law_moved [tI l, wP u] S = .ok (tI (play l u)) S' ∧ S <+: S' := by
  have hn := hl.len
  obtain ⟨k1, S1, e1, g1, x1⟩ := lc_over (di := iSeq (eVar 0)) (dg := gNm 3) (dt := tOfE (eBin pNe (eVar 3) (eBin pIx (eVar 1) (eC (.int 0))))) (de := eVar 3) (vs := [3])
    (ρ := [some (tI l), some (wP u), none, none]) (S := S) (S1 := S) l PV.int (fun x => !(x == u.1)) PV.int (by simp [iSeq]) (by show _ ≤ 100000; omega) (by
      intro v hv
      exact ⟨[some (tI l), some (wP u), none, some (.int v)], by simp [wipeE], by simp, fun _ => by simp⟩)
  generalize eR : l.filter (fun x => !(x == u.1)) = R at g1
  have hR : R.length ≤ 8 := by
    rw [← eR]
    have := List.length_filter_le (fun x => !(x == u.1)) l
    omega
  have eRt : togg u.1 l = R := by
    unfold togg
    rw [if_pos hm, eR]
  have ap : play l u = togg u.2 R := by unfold play; rw [eRt]
  have R1 : Asc R := by rw [← eRt]; exact togg_asc hl.1
  -- the list that is sorted
  obtain ⟨k2, T, D, e2, g2, x2, hD, hs⟩ : ∃ (k2 : Nat) (T : Sto) (D : List Int), eIf (tOfE (eBin (pIn false) (eBin pIx (eVar 1) (eC (.int 1))) (eVar 2))) (eLc (iSeq (eVar 2)) (gNm 3) (tOfE (eBin pNe (eVar 3) (eBin pIx (eVar 1) (eC (.int 1))))) (eVar 3) [3]) (eBin pAdd (eVar 2) (eLst (aCons (eBin pIx (eVar 1) (eC (.int 1))) (aNil))))
      [some (tI l), some (wP u), some (.ref k1), none] S1 = .ok (.ref k2) T ∧ T[k2]? = some (.lst (D.map PV.int)) ∧ S1 <+: T ∧ D.length ≤ 9 ∧ isI D = togg u.2 R := by
    by_cases hp : u.2 ∈ R
    · have e0 : iSeq (eVar 2) [some (tI l), some (wP u), some (.ref k1), none] S1 = .ok (.live k1) S1 := by simp [iSeq, g1]
      obtain ⟨m, T, e2, g2, x2⟩ := lc_live (dg := gNm 3) (dt := tOfE (eBin pNe (eVar 3) (eBin pIx (eVar 1) (eC (.int 1))))) (de := eVar 3) (vs := [3]) R PV.int (fun x => !(x == u.2)) PV.int e0 g1 (by show _ ≤ 100000; omega) (by
        intro v hv
        exact ⟨[some (tI l), some (wP u), some (.ref k1), some (.int v)], by simp [wipeE], by simp, fun _ => by simp⟩)
      have et : togg u.2 R = R.filter fun x => !(x == u.2) := by
        unfold togg
        rw [if_pos hp]
      refine ⟨m, T, R.filter fun x => !(x == u.2), ?_, g2, x2, ?_, ?_⟩
      · simp [pIn_list g1, hp, e2]
      · have := List.length_filter_le (fun x => !(x == u.2)) R
        omega
      · rw [et]
        exact isI_self (R1.filter _)
    · have h1 : (1 : Nat) ≤ big := by decide
      have ea : pAdd (.ref k1) (.ref S1.length) (S1 ++ [LO.lst [PV.int u.2]]) = some (.ref (S1.length + 1), (S1 ++ [LO.lst [PV.int u.2]]) ++ [LO.lst ((R ++ [u.2]).map PV.int)]) := by
        show (match (S1 ++ [LO.lst [PV.int u.2]])[k1]?, (S1 ++ [LO.lst [PV.int u.2]])[S1.length]? with
          | some (.lst xs), some (.lst ys) => if xs.length + ys.length ≤ big then some (PV.ref (S1 ++ [LO.lst [PV.int u.2]]).length, (S1 ++ [LO.lst [PV.int u.2]]) ++ [LO.lst (xs ++ ys)]) else none
          | _, _ => none) = _
        rw [get_end, prefix_get (List.prefix_append _ _) g1]
        simp
        show _ ≤ 100000
        omega
      refine ⟨S1.length + 1, (S1 ++ [LO.lst [PV.int u.2]]) ++ [LO.lst ((R ++ [u.2]).map PV.int)], R ++ [u.2], ?_, ?_, (List.prefix_append _ _).trans (List.prefix_append _ _), by simp; omega, ?_⟩
      · simp [pIn_list g1, hp, h1]
        simp at ea
        rw [ea]
        rfl
      · have := get_end (S := S1 ++ [LO.lst [PV.int u.2]]) (o := LO.lst ((R ++ [u.2]).map PV.int))
        rw [List.length_append, List.length_singleton] at this
        exact this
      · unfold togg
        rw [if_neg hp]
  have s1 := bSorted_ints g2 (by show _ ≤ 100000; omega)
  have g4 : (T ++ [LO.lst ((isI D).map PV.int)])[T.length]? = some (.lst ((isI D).map PV.int)) := get_end
  refine ⟨T ++ [LO.lst ((isI D).map PV.int)], ?_, (x1.trans x2).trans (List.prefix_append _ _)⟩
  rw [ap, ← hs]
  simp only [F__law_moved, runB, B__law_moved]
  have e2' := e2
  simp only [sSeq_ap, sAsg_ap, sRet_ap, eCall_ap, aCons_ap, aNil_ap]
  simp [e1]
  simp at e2
  simp [e2, s1, bTuple_ref g4]
/-! what the law draws -/
theorem Pail.mono {S : Sto} {p n m : Nat} (h : Pail S p n) (e : n ≤ m) : Pail S p m := by
  obtain ⟨a, b, c, e1, a0, a1, b0, c0, c1⟩ := h
  exact ⟨a, b, c, e1, a0, a1, b0, c0, by omega⟩
theorem Pail.pre {S S' : Sto} {p n : Nat} (h : Pail S p n) (x : S <+: S') : Pail S' p n := by
  obtain ⟨a, b, c, e1, r⟩ := h
  exact ⟨a, b, c, prefix_get x e1, r⟩
theorem range_get {n i : Nat} {x : PV} (h : (rangeL 0 n)[i]? = some x) : i < n ∧ x = .int (i : Nat) := by
  obtain ⟨a, b⟩ := rangeL_get h
  exact ⟨a, by rw [b]; simp⟩
theorem ltW_iff {w u : Int × Int} : ltW w u = true ↔ w.1 < u.1 ∨ (w.1 = u.1 ∧ w.2 < u.2) := by
  unfold ltW
  exact decide_eq_true_iff
/-- ways drawn up to the pair a, b -/
def Upto (n : Int) (a b : Nat) (W : List (Int × Int)) : Prop := (∀ w ∈ W, OkW n w) ∧ W.Pairwise (fun w u => ltW w u = true) ∧ ∀ w ∈ W, w.1 < a ∨ (w.1 = a ∧ w.2 < b)
theorem Upto.next {n : Int} {a b : Nat} {W : List (Int × Int)} (h : Upto n a b W) : Upto n a (b + 1) W := ⟨h.1, h.2.1, fun w hw => by
  rcases h.2.2 w hw with q | q
  · exact .inl q
  · exact .inr ⟨q.1, by push_cast; omega⟩⟩
theorem Upto.add {n : Int} {a b : Nat} {W : List (Int × Int)} (h : Upto n a b W) (ha : (a : Int) < n) (hb : (b : Int) < n) (e : a ≠ b) : Upto n a (b + 1) (W ++ [((a : Int), (b : Int))]) := by
  refine ⟨fun w hw => ?_, ?_, fun w hw => ?_⟩
  · rcases List.mem_append.mp hw with q | q
    · exact h.1 w q
    · rw [List.mem_singleton] at q; subst q
      exact ⟨by simp, ha, by simp, hb, fun z => e (Int.ofNat.inj z)⟩
  · rw [List.pairwise_append]
    refine ⟨h.2.1, by simp, fun w hw u hu => ?_⟩
    rw [List.mem_singleton] at hu; subst hu
    exact ltW_iff.mpr (h.2.2 w hw)
  · rcases List.mem_append.mp hw with q | q
    · exact h.next.2.2 w q
    · rw [List.mem_singleton] at q; subst q
      exact .inr ⟨rfl, by simp; omega⟩
theorem ways_drawn {S : Sto} {p N n : Nat} {share : Int} (h : Pail S p N) (hN : N < 2 ^ 30) (hn : n ≤ 8) : ∃ W S', F__law_ways [.ref p, .int n, .int share] S = .ok (wsP W) S' ∧ OkWs n W ∧ Kept p S S' ∧ Pail S' p (N + 65) := by
  have hp := h.lt
  have h0 : Pail (S ++ [LO.lst []]) p N := h.pre (List.prefix_append _ _)
  obtain ⟨bend, x0, e0, _, _, P0⟩ := scoop h0 (m := 4) (by decide) (by decide) (by omega)
  have hq0 : ((S ++ [LO.lst []]).set p x0)[S.length]? = some (.lst []) := get_set_ne get_end (by omega)
  have k0 : Kept p S ((S ++ [LO.lst []]).set p x0) := Kept.app.trans Kept.set
  have big0 : (0 : Nat) ≤ big := by decide
  have big2 : (2 : Nat) ≤ big := by decide
  have eP : sPar 4 5 (aCons (eLst (aNil)) (aCons (eApp F__law_scoop (aCons (eVar 0) (aCons (eC (.int 4)) (aNil)))) (aNil))) [some (.ref p), some (.int n), some (.int share), none, none, none, none] S =
      .ok .nx [some (.ref p), some (.int n), some (.int share), none, some (.ref S.length), some (.int bend), none] ((S ++ [LO.lst []]).set p x0) := by
    simp [e0]
  generalize (S ++ [LO.lst []]).set p x0 = T0 at *
  have hqp : S.length ≠ p := by omega
  obtain ⟨ρ', T, eF, W, y3, y6, rfl, t1, t2, t3, t4, t5⟩ := sFor_all (xs := rangeL 0 n) (di := iRg1 (aCons (eVar 1) (aNil))) (tg := gNm 3)
    (body := sFor (iRg1 (aCons (eVar 1) (aNil))) (gNm 6) (sIf (tAnd2 (tOfE (eBin pNe (eVar 3) (eVar 6))) (tAnd2 (tOr2 (tOfE (eBin pGt (eVar 5) (eC (.int 0)))) (tOfE (eBin pGt (eVar 3) (eVar 6)))) (tOfE (eBin pLt (eApp F__law_scoop (aCons (eVar 0) (aCons (eC (.int 12)) (aNil)))) (eVar 2))))) (sExp (eMt mAppend (eVar 4) (aCons (eTup (aCons (eVar 3) (aCons (eVar 6) (aNil)))) (aNil)))) (sNop)))
    (ρ := [some (.ref p), some (.int n), some (.int share), none, some (.ref S.length), some (.int bend), none]) (S := T0) (S1 := T0)
    (fun i ρ T => ∃ (W : List (Int × Int)) (y3 y6 : Option PV), ρ = [some (.ref p), some (.int n), some (.int share), y3, some (.ref S.length), some (.int bend), y6] ∧ T[S.length]? = some (.lst (W.map wP)) ∧ Upto n i 0 W ∧ W.length ≤ 8 * i ∧ Pail T p (N + 1 + 8 * i) ∧ Kept p S T)
    (range1 (by simp) (by omega)) ⟨[], none, none, rfl, hq0, ⟨by simp, .nil, by simp⟩, by simp, P0, k0⟩ (by
      rintro i x ρ T hx ⟨W, y3, y6, rfl, t1, t2, t3, t4, t5⟩
      obtain ⟨hi, rfl⟩ := range_get hx
      obtain ⟨ρ2, T2, eG, W', y6', rfl, u1, u2, u3, u4, u5⟩ := sFor_all (xs := rangeL 0 n) (di := iRg1 (aCons (eVar 1) (aNil))) (tg := gNm 6)
        (body := (sIf (tAnd2 (tOfE (eBin pNe (eVar 3) (eVar 6))) (tAnd2 (tOr2 (tOfE (eBin pGt (eVar 5) (eC (.int 0)))) (tOfE (eBin pGt (eVar 3) (eVar 6)))) (tOfE (eBin pLt (eApp F__law_scoop (aCons (eVar 0) (aCons (eC (.int 12)) (aNil)))) (eVar 2))))) (sExp (eMt mAppend (eVar 4) (aCons (eTup (aCons (eVar 3) (aCons (eVar 6) (aNil)))) (aNil)))) (sNop)))
        (ρ := [some (.ref p), some (.int n), some (.int share), some (.int i), some (.ref S.length), some (.int bend), y6]) (S := T) (S1 := T)
        (fun j ρ T => ∃ (W : List (Int × Int)) (y6 : Option PV), ρ = [some (.ref p), some (.int n), some (.int share), some (.int i), some (.ref S.length), some (.int bend), y6] ∧ T[S.length]? = some (.lst (W.map wP)) ∧ Upto n i j W ∧ W.length ≤ 8 * i + j ∧ Pail T p (N + 1 + 8 * i + j) ∧ Kept p S T)
        (range1 (by simp) (by omega)) ⟨W, y6, rfl, t1, t2, t3, t4, t5⟩ (by
          rintro j x ρ T ex ⟨W, y6, rfl, u1, u2, u3, u4, u5⟩
          obtain ⟨hj, rfl⟩ := range_get ex
          have env : gNm 6 (.int j) [some (.ref p), some (.int n), some (.int share), some (.int i), some (.ref S.length), some (.int bend), y6] T = some ([some (.ref p), some (.int n), some (.int share), some (.int i), some (.ref S.length), some (.int bend), some (.int j)], T) := by simp
          by_cases h1 : i = j
          · exact ⟨_, T, [some (.ref p), some (.int n), some (.int share), some (.int i), some (.ref S.length), some (.int bend), some (.int j)], T, env, by simp [h1], W, _, rfl, u1, u2.next, by omega, u4.mono (by omega), u5⟩
          · have h1' : ¬ ((i : Int) = (j : Int)) := fun z => h1 (Int.ofNat.inj z)
            by_cases h2 : 0 < bend ∨ j < i
            · obtain ⟨d, x1, e1, _, _, P1⟩ := scoop u4 (m := 12) (by decide) (by decide) (by omega)
              have g1 : (T.set p x1)[S.length]? = some (.lst (W.map wP)) := get_set_ne u1 hqp
              have k1 : Kept p S (T.set p x1) := u5.trans Kept.set
              by_cases h4 : d < share
              · have a1 := append_ref (y := wP ((i : Int), (j : Int))) g1 (by rw [List.length_map]; show _ < 100000; omega)
                refine ⟨_, T, [some (.ref p), some (.int n), some (.int share), some (.int i), some (.ref S.length), some (.int bend), some (.int j)], (T.set p x1).set S.length (.lst ((W ++ [((i : Int), (j : Int))]).map wP)), env, ?_, W ++ [((i : Int), (j : Int))], _, rfl, get_set_eq g1, u2.add (by omega) (by omega) h1, by simp; omega, ?_, ?_⟩
                · by_cases h3 : 0 < bend
                  · simp [h1', h3, e1, h4, g1, big2, a1]
                  · simp [h1', h3, h2.resolve_left h3, e1, h4, g1, big2, a1]
                · obtain ⟨a, b, c, q, r⟩ := P1
                  exact ⟨a, b, c, get_set_ne q (Ne.symm hqp), r⟩
                · intro k o e z
                  rw [List.getElem?_set_ne (by have := lt_of_get e; omega)]
                  exact k1 k o e z
              · refine ⟨_, T, [some (.ref p), some (.int n), some (.int share), some (.int i), some (.ref S.length), some (.int bend), some (.int j)], T.set p x1, env, ?_, W, _, rfl, g1, u2.next, by omega, P1, k1⟩
                by_cases h3 : 0 < bend
                · simp [h1', h3, e1, h4]
                · simp [h1', h3, h2.resolve_left h3, e1, h4]
            · have h3 : ¬ 0 < bend := fun z => h2 (.inl z)
              have h4 : ¬ j < i := fun z => h2 (.inr z)
              exact ⟨_, T, [some (.ref p), some (.int n), some (.int share), some (.int i), some (.ref S.length), some (.int bend), some (.int j)], T, env, by simp [h1', h3, h4], W, _, rfl, u1, u2.next, by omega, u4.mono (by omega), u5⟩)
      have hl : (rangeL 0 n).length = n := by simp [rangeL]
      rw [hl] at u2 u3 u4
      refine ⟨_, T, _, T2, by simp, eG, W', _, _, rfl, u1, ⟨u2.1, u2.2.1, fun w hw => ?_⟩, by omega, u4.mono (by omega), u5⟩
      rcases u2.2.2 w hw with q | q
      · exact .inl (by push_cast; omega)
      · exact .inl (by push_cast; omega))
  have hl : (rangeL 0 n).length = n := by simp [rangeL]
  rw [hl] at t2 t3 t4
  refine ⟨W, T, ?_, ⟨t2.1, t2.2.1, by omega⟩, t5, t4.mono (by omega)⟩
  refine run_rt (ρ' := [some (.ref p), some (.int n), some (.int share), y3, some (.ref S.length), some (.int bend), y6]) ?_
  refine (seq_nx eP).trans ((seq_nx eF).trans ?_)
  simp [bTuple_ref t1]
theorem net_drawn {S : Sto} {p N : Nat} (h : Pail S p N) (hN : N < 2 ^ 29) : ∃ (n : Nat) (W : List (Int × Int)) (S' : Sto), F__law_net [.ref p, .int 8] S = .ok (.tup [.int n, wsP W]) S' ∧ 1 ≤ n ∧ n ≤ 8 ∧ OkWs n W ∧ Kept p S S' ∧ Pail S' p (N + 70) := by
  obtain ⟨d, x0, e0, d0, d1, P0⟩ := scoop h (m := 8) (by decide) (by decide) (by omega)
  obtain ⟨k, rfl⟩ := Int.eq_ofNat_of_zero_le d0
  have big4 : (4 : Nat) ≤ big := by decide
  have big2 : (2 : Nat) ≤ big := by decide
  have hp := P0.lt
  have P1 := P0.pre (List.prefix_append (S.set p x0) [LO.lst [.int 3, .int 4, .int 5, .int 7]])
  have hq : (S.set p x0).length ≠ p := by omega
  obtain ⟨i, hi, y, e1, P2⟩ := one_of (x := .ref (S.set p x0).length) (xs := [.int 3, .int 4, .int 5, .int 7]) P1 (by simp [lstOf]) (fun S' hS => by
    have := hS _ hq
    rw [get_end] at this
    simp only [lstOf, this]) (by simp) (by simp) (by omega)
  obtain ⟨share, hs⟩ : ∃ share : Int, [PV.int 3, .int 4, .int 5, .int 7][i] = .int share := by
    have : i < 4 := hi
    match i, hi with
    | 0, _ => exact ⟨_, rfl⟩
    | 1, _ => exact ⟨_, rfl⟩
    | 2, _ => exact ⟨_, rfl⟩
    | 3, _ => exact ⟨_, rfl⟩
  rw [hs] at e1
  have k2 : Kept p S ((S.set p x0 ++ [LO.lst [.int 3, .int 4, .int 5, .int 7]]).set p y) := (Kept.set.trans Kept.app).trans Kept.set
  generalize (S.set p x0 ++ [LO.lst [.int 3, .int 4, .int 5, .int 7]]).set p y = T at *
  obtain ⟨W, T2, e2, hW, k3, P3⟩ := ways_drawn (n := k + 1) (share := share) P2 (by omega) (by omega)
  refine ⟨k + 1, W, T2, ?_, by omega, by omega, hW, k2.trans k3, P3.mono (by omega)⟩
  have ek : (1 : Int) + (k : Int) = ((k + 1 : Nat) : Int) := by omega
  simp only [F__law_net, runB, B__law_net]
  simp [e0, big4, ek]
  simp at e1 e2
  simp [e1, e2, big2]
theorem some_drawn {S : Sto} {p N n : Nat} (h : Pail S p N) (hN : N < 2 ^ 29) (hn : n ≤ 8) : ∃ (l : List Int) (S' : Sto), F__law_some [.ref p, .int n] S = .ok (tI l) S' ∧ Std n l ∧ Kept p S S' ∧ Pail S' p (N + 8) := by
  obtain ⟨acc, T, e, l, rfl, l1, l2, l3, l4, l5⟩ := eLc_run (xs := rangeL 0 n) (di := iRg1 (aCons (eVar 1) (aNil))) (dg := gNm 2) (dt := tOfE (eBin pEq (eApp F__law_scoop (aCons (eVar 0) (aCons (eC (.int 2)) (aNil)))) (eC (.int 0)))) (de := eVar 2) (vs := [2])
    (ρ := [some (.ref p), some (.int n), none]) (S := S) (S1 := S)
    (fun i acc T => ∃ l : List Int, acc = l.map PV.int ∧ Asc l ∧ (∀ x ∈ l, 0 ≤ x ∧ x < i) ∧ l.length ≤ i ∧ Pail T p (N + i) ∧ Kept p S T)
    (range1 (by simp) (by omega)) ⟨[], rfl, .nil, by simp, by simp, h, .refl⟩ (by
      rintro i x acc T hx ⟨l, rfl, l1, l2, l3, l4, l5⟩
      obtain ⟨hi, rfl⟩ := range_get hx
      obtain ⟨d, x1, e1, _, _, P1⟩ := scoop l4 (m := 2) (by decide) (by decide) (by omega)
      refine ⟨[some (.ref p), some (.int n), some (.int i)], T, d == 0, T.set p x1, by simp [wipeE], by simp [e1], fun _ => ⟨by rw [List.length_map]; show _ < 100000; omega, .int i, T.set p x1, by simp, l ++ [(i : Int)], by simp, ?_, ?_, by simp; omega, P1, l5.trans Kept.set⟩, fun _ => ⟨l, rfl, l1, fun x hx => ?_, by omega, P1, l5.trans Kept.set⟩⟩
      · rw [Asc, List.pairwise_append]
        refine ⟨l1, by simp, fun x hx y hy => ?_⟩
        rw [List.mem_singleton] at hy; subst hy
        exact (l2 x hx).2
      · intro x hx
        rcases List.mem_append.mp hx with q | q
        · have := l2 x q
          exact ⟨this.1, by push_cast; omega⟩
        · rw [List.mem_singleton] at q; subst q
          exact ⟨by simp, by push_cast; omega⟩
      · have := l2 x hx
        exact ⟨this.1, by push_cast; omega⟩)
  have hl : (rangeL 0 n).length = n := by simp [rangeL]
  rw [hl] at l2 l3 l4
  have g : (T ++ [LO.lst (l.map PV.int)])[T.length]? = some (.lst (l.map PV.int)) := get_end
  generalize eT : T ++ [LO.lst (l.map PV.int)] = T2 at *
  have x2 : T <+: T2 := by rw [← eT]; exact List.prefix_append _ _
  refine ⟨l, T2, ?_, ⟨l1, l2, by omega⟩, l5.trans (.of x2), (l4.pre x2).mono (by omega)⟩
  refine run_rt (ρ' := [some (.ref p), some (.int n), none]) ?_
  show B__law_some [some (.ref p), some (.int n), none] S = _
  unfold B__law_some
  rw [sRet_ap, eCall_ap, aCons_ap, e]
  simp [bTuple_ref g]
/-! one round -/
theorem repr_two {S : Sto} {n k : Nat} {x : PV} {d : PyData} (h : S[n]? = some (.lst [x, x])) (hx : dataOf S 39 x = some d) (b : Brief k d) (hk : k ≤ 4000) : bRepr [.ref n] S = some (.str (PyData.list [d, d]).shown, S) := by
  refine repr_brief (k := (k + 1) * 2) ?_ (brief_list (ds := [d, d]) fun e he => ?_) (by omega)
  · show dataOf S 40 (.ref n) = _
    simp only [dataOf, h, mapO, hx, Option.map_some]
  · simp at he
    rw [he]; exact b
theorem std_brief {n : Int} {l : List Int} (h : Std n l) : Brief (11 * l.length) (.tuple (l.map .int)) := brief_tI fun x hx => by
  have := h.2.1 x hx
  have := h.2.2
  omega
theorem due_brief {n : Int} {W : List (Int × Int)} {l : List Int} (h : OkWs n W) (hn : n ≤ 8) : Brief 2000 (.tuple ((due W l).map fun w => .tuple [.int w.1, .int w.2])) := by
  refine (brief_wsP fun w hw => ?_).mono (k := 23 * (due W l).length) ?_
  · obtain ⟨a, b, c, d, _⟩ := h.1 w (List.mem_filter.mp hw).1
    omega
  · have := List.length_filter_le (fun w => decide (w.1 ∈ l)) W
    have := h.2.2
    unfold due
    omega
structure Row (p n w : Nat) (W : List (Int × Int)) (l m : List Int) (ρ : En) : Prop where
  len : ρ.length = 17
  h0 : ρ[0]? = some (some (.ref p))
  h2 : ρ[2]? = some (some (wsP (due W l)))
  h6 : ρ[6]? = some (some (.int n))
  h7 : ρ[7]? = some (some (wsP W))
  h8 : ρ[8]? = some (some (.ref w))
  h9 : ρ[9]? = some (some (tI l))
  h10 : ρ[10]? = some (some (tI m))
theorem Row.set {p n w : Nat} {W : List (Int × Int)} {l m : List Int} {ρ : En} {i : Nat} {v : Option PV} (R : Row p n w W l m ρ) (hi : i = 1 ∨ i = 3 ∨ i = 4 ∨ i = 5 ∨ i = 11 ∨ i = 12 ∨ i = 13 ∨ i = 14 ∨ i = 15 ∨ i = 16) : Row p n w W l m (ρ.set i v) where
  len := by rw [List.length_set]; exact R.len
  h0 := by rw [List.getElem?_set_ne (by omega)]; exact R.h0
  h2 := by rw [List.getElem?_set_ne (by omega)]; exact R.h2
  h6 := by rw [List.getElem?_set_ne (by omega)]; exact R.h6
  h7 := by rw [List.getElem?_set_ne (by omega)]; exact R.h7
  h8 := by rw [List.getElem?_set_ne (by omega)]; exact R.h8
  h9 := by rw [List.getElem?_set_ne (by omega)]; exact R.h9
  h10 := by rw [List.getElem?_set_ne (by omega)]; exact R.h10
theorem eVar_of {ρ : En} {i : Nat} {x : PV} (h : ρ[i]? = some (some x)) (S : Sto) : eVar i ρ S = .ok x S := by
  unfold eVar
  rw [h]
theorem gNm_of {ρ : En} {i : Nat} (h : i < ρ.length) (v : PV) (S : Sto) : gNm i v ρ S = some (ρ.set i (some v), S) := by
  unfold gNm
  rw [if_pos h]
structure Rnd (p n w : Nat) (W : List (Int × Int)) (l m : List Int) : Prop where
  n1 : 1 ≤ n
  n8 : n ≤ 8
  hW : OkWs n W
  hl : Std n l
  hm : Std n m
  wp : w ≠ p
/-- the first look: moves -/
theorem look1 {p n w : Nat} {W : List (Int × Int)} {l m : List Int} {ρ : En} {S : Sto} (C : Rnd p n w W l m) (R : Row p n w W l m ρ) (hw : WebAt S w n W) :
    ∃ S', (sIf (tOfE (eBin pNe (eCall bRepr (aCons (eLst (aCons (eApp F_moves (aCons (eVar 8) (aCons (eVar 9) (aNil)))) (aCons (eAppK F_moves [1, 0] (aNil) (aCons (eVar 9) (aCons (eVar 8) (aNil)))) (aNil)))) (aNil))) (eCall bRepr (aCons (eLst (aCons (eVar 2) (aCons (eVar 2) (aNil)))) (aNil))))) (sRet (eC (.bl false))) (sNop)) ρ S = .ok .nx ρ S' ∧ S <+: S' := by
  obtain ⟨S1, e1, x1⟩ := moves_are hw C.hW.2.2 C.hl
  obtain ⟨S2, e2, x2⟩ := moves_are (hw.pre x1) C.hW.2.2 C.hl
  have big2 : (2 : Nat) ≤ big := by decide
  have hb := due_brief (l := l) C.hW (by have := C.n8; omega)
  have r1 := repr_two (S := S2 ++ [LO.lst [wsP (due W l), wsP (due W l)]]) get_end (dOf_wsP _ 36 _) hb (by decide)
  generalize eT : S2 ++ [LO.lst [wsP (due W l), wsP (due W l)]] = T at *
  have r2 := repr_two (S := T ++ [LO.lst [wsP (due W l), wsP (due W l)]]) get_end (dOf_wsP _ 36 _) hb (by decide)
  have xT : S2 <+: T := by rw [← eT]; exact List.prefix_append _ _
  refine ⟨T ++ [LO.lst [wsP (due W l), wsP (due W l)]], ?_, ((x1.trans x2).trans xT).trans (List.prefix_append _ _)⟩
  have q1 : eLst (aCons (eApp F_moves (aCons (eVar 8) (aCons (eVar 9) (aNil)))) (aCons (eAppK F_moves [1, 0] (aNil) (aCons (eVar 9) (aCons (eVar 8) (aNil)))) (aNil))) ρ S = .ok (.ref S2.length) T := by
    simp [R.h8, R.h9, e1, FL.perm, e2, big2, eT]
  have q2 : eLst (aCons (eVar 2) (aCons (eVar 2) (aNil))) ρ T = .ok (.ref T.length) (T ++ [LO.lst [wsP (due W l), wsP (due W l)]]) := by
    simp [R.h2, big2]
  rw [sIf_ap, tOfE_ap, eBin_ap, eCall_ap, aCons_ap, q1]
  simp only [bind_ok, aNil_ap, r1, ofO_some, eCall_ap, aCons_ap, q2, r2, pNe_str, liftE_ok]
  rfl
/-- each way played -/
theorem look2 {p n w : Nat} {W : List (Int × Int)} {l m : List Int} {ρ : En} {S : Sto} (C : Rnd p n w W l m) (R : Row p n w W l m ρ) (hw : WebAt S w n W) :
    ∃ ρ' S', (sFor (iSeq (eVar 2)) (gNm 3) (sSeq (sAsg (eLst (aCons (eApp F_after (aCons (eVar 8) (aCons (eVar 9) (aCons (eVar 3) (aNil))))) (aCons (eAppK F_after [2, 1, 0] (aNil) (aCons (eVar 3) (aCons (eVar 9) (aCons (eVar 8) (aNil))))) (aNil)))) (gNm 5))
  (sIf (tOfE (eBin pNe (eCall bRepr (aCons (eVar 5) (aNil))) (eCall bRepr (aCons (eBin pMul (eLst (aCons (eApp F__law_moved (aCons (eVar 9) (aCons (eVar 3) (aNil)))) (aNil))) (eC (.int 2))) (aNil))))) (sRet (eC (.bl false))) (sNop)))) ρ S = .ok .nx ρ' S' ∧ Row p n w W l m ρ' ∧ S <+: S' := by
  have n8 := C.n8
  have big2 : (2 : Nat) ≤ big := by decide
  have big1 : (1 : Nat) ≤ big := by decide
  obtain ⟨ρ', S', e, R', x⟩ := sFor_all (xs := (due W l).map wP) (di := iSeq (eVar 2)) (tg := gNm 3) (body := (sSeq (sAsg (eLst (aCons (eApp F_after (aCons (eVar 8) (aCons (eVar 9) (aCons (eVar 3) (aNil))))) (aCons (eAppK F_after [2, 1, 0] (aNil) (aCons (eVar 3) (aCons (eVar 9) (aCons (eVar 8) (aNil))))) (aNil)))) (gNm 5))
  (sIf (tOfE (eBin pNe (eCall bRepr (aCons (eVar 5) (aNil))) (eCall bRepr (aCons (eBin pMul (eLst (aCons (eApp F__law_moved (aCons (eVar 9) (aCons (eVar 3) (aNil)))) (aNil))) (eC (.int 2))) (aNil))))) (sRet (eC (.bl false))) (sNop)))) (ρ := ρ) (S := S) (S1 := S)
    (fun i ρ T => Row p n w W l m ρ ∧ S <+: T) (by simp [iSeq, R.h2]) ⟨R, List.prefix_refl _⟩ (by
      rintro i x ρ T hx ⟨R, xT⟩
      obtain ⟨u, hu, rfl⟩ := map_get hx
      have hu := List.mem_of_getElem? hu
      have hw1 := hw.pre xT
      have R1 := R.set (i := 3) (v := some (wP u)) (by decide)
      have h3 : (ρ.set 3 (some (wP u)))[3]? = some (some (wP u)) := List.getElem?_set_self (by rw [R.len]; decide)
      have hlen := R1.len
      generalize eρ : ρ.set 3 (some (wP u)) = ρ1 at *
      have okw := C.hW.1 u (List.mem_filter.mp hu).1
      have u1 : u.1 ∈ l := by simpa [due] using (List.mem_filter.mp hu).2
      obtain ⟨S1, e1, x1⟩ := after_is hw1 C.hW C.hl hu
      obtain ⟨S2, e2, x2⟩ := after_is (hw1.pre x1) C.hW C.hl hu
      have hP := play_std C.hl okw
      have hb := (std_brief hP).mono (k' := 4000) (by have := hP.len; omega)
      have r1 := repr_two (S := S2 ++ [LO.lst [tI (play l u), tI (play l u)]]) get_end (dOf_tI _ 37 _) hb (by decide)
      have q1 : eLst (aCons (eApp F_after (aCons (eVar 8) (aCons (eVar 9) (aCons (eVar 3) (aNil))))) (aCons (eAppK F_after [2, 1, 0] (aNil) (aCons (eVar 3) (aCons (eVar 9) (aCons (eVar 8) (aNil))))) (aNil))) ρ1 T = .ok (.ref S2.length) (S2 ++ [LO.lst [tI (play l u), tI (play l u)]]) := by
        simp [R1.h8, R1.h9, h3, e1, FL.perm, e2, big2]
      generalize eT : S2 ++ [LO.lst [tI (play l u), tI (play l u)]] = T2 at *
      have xT2 : S2 <+: T2 := by rw [← eT]; exact List.prefix_append _ _
      have R2 := R1.set (i := 5) (v := some (.ref S2.length)) (by decide)
      have h3' : (ρ1.set 5 (some (.ref S2.length)))[3]? = some (some (wP u)) := by rw [List.getElem?_set_ne (by decide)]; exact h3
      have h5 : (ρ1.set 5 (some (.ref S2.length)))[5]? = some (some (.ref S2.length)) := List.getElem?_set_self (by rw [hlen]; decide)
      have hA : sAsg (eLst (aCons (eApp F_after (aCons (eVar 8) (aCons (eVar 9) (aCons (eVar 3) (aNil))))) (aCons (eAppK F_after [2, 1, 0] (aNil) (aCons (eVar 3) (aCons (eVar 9) (aCons (eVar 8) (aNil))))) (aNil)))) (gNm 5) ρ1 T = .ok .nx (ρ1.set 5 (some (.ref S2.length))) T2 := by
        rw [sAsg_ap, q1]
        simp [hlen]
      generalize ρ1.set 5 (some (.ref S2.length)) = ρ2 at *
      obtain ⟨S3, e3, x3⟩ := moved_is (S := T2) C.hl okw u1
      have r2 := repr_two (S := (S3 ++ [LO.lst [tI (play l u)]]) ++ [LO.lst [tI (play l u), tI (play l u)]]) get_end (dOf_tI _ 37 _) hb (by decide)
      have q3 : eBin pMul (eLst (aCons (eApp F__law_moved (aCons (eVar 9) (aCons (eVar 3) (aNil)))) (aNil))) (eC (.int 2)) ρ2 T2 = .ok (.ref (S3 ++ [LO.lst [tI (play l u)]]).length) ((S3 ++ [LO.lst [tI (play l u)]]) ++ [LO.lst [tI (play l u), tI (play l u)]]) := by
        have ql : eLst (aCons (eApp F__law_moved (aCons (eVar 9) (aCons (eVar 3) (aNil)))) (aNil)) ρ2 T2 = .ok (.ref S3.length) (S3 ++ [LO.lst [tI (play l u)]]) := by
          simp [R2.h9, h3', e3, big1]
        have qm : pMul (.ref S3.length) (.int 2) (S3 ++ [LO.lst [tI (play l u)]]) = some (.ref (S3 ++ [LO.lst [tI (play l u)]]).length, (S3 ++ [LO.lst [tI (play l u)]]) ++ [LO.lst [tI (play l u), tI (play l u)]]) := by
          show (match (S3 ++ [LO.lst [tI (play l u)]])[S3.length]? with
            | some (.lst xs) => if (-1000 : Int) ≤ 2 ∧ (2 : Int) ≤ 1000 ∧ xs.length ≤ 100 then some (PV.ref (S3 ++ [LO.lst [tI (play l u)]]).length, (S3 ++ [LO.lst [tI (play l u)]]) ++ [LO.lst (List.replicate (2 : Int).toNat xs).flatten]) else none
            | _ => none) = _
          rw [get_end]
          rfl
        rw [eBin_ap, ql]
        simp only [bind_ok, eC_ap, qm, ofO_some]
      refine ⟨ρ1, T, ρ2, (S3 ++ [LO.lst [tI (play l u)]]) ++ [LO.lst [tI (play l u), tI (play l u)]], (gNm_of (by rw [R.len]; decide) _ _).trans (by rw [eρ]), ?_, R2, (((((xT.trans x1).trans x2).trans xT2).trans x3).trans (List.prefix_append _ _)).trans (List.prefix_append _ _)⟩
      rw [seq_nx hA]
      rw [sIf_ap, tOfE_ap, eBin_ap, eCall_ap, aCons_ap, eVar_of h5]
      simp only [bind_ok, aNil_ap, r1, ofO_some, eCall_ap, aCons_ap, q3, r2, pNe_str, liftE_ok]
      rfl)
  exact ⟨ρ', S', e, R', x⟩
/-- the places in just one, by the law's own look -/
theorem found_is {n : Nat} {l m : List Int} (hl : Std n l) (hm : Std n m) : ((List.range n).filter fun i : Nat => !(decide ((i : Int) ∈ l) == decide ((i : Int) ∈ m))).map (fun i : Nat => (i : Int)) = apart l m := by
  refine asc_ext ?_ (apart_asc hl.1 hm.1) fun x => ?_
  · rw [Asc, List.pairwise_map]
    exact (List.pairwise_lt_range.filter _).imp fun h => by omega
  · rw [mem_apart, List.mem_map]
    constructor
    · rintro ⟨i, hi, rfl⟩
      have := (List.mem_filter.mp hi).2
      by_cases h1 : (i : Int) ∈ l <;> by_cases h2 : (i : Int) ∈ m <;> simp [h1, h2] at this ⊢
    · intro h
      have hx : 0 ≤ x ∧ x < n := by
        by_cases h1 : x ∈ l
        · exact hl.2.1 x h1
        · by_cases h2 : x ∈ m
          · exact hm.2.1 x h2
          · simp [h1, h2] at h
      obtain ⟨i, rfl⟩ := Int.eq_ofNat_of_zero_le hx.1
      refine ⟨i, List.mem_filter.mpr ⟨by simp; omega, ?_⟩, rfl⟩
      by_cases h1 : (i : Int) ∈ l <;> by_cases h2 : (i : Int) ∈ m <;> simp [h1, h2] at h ⊢
theorem look3 {p n w : Nat} {W : List (Int × Int)} {l m : List Int} {ρ : En} {S : Sto} (C : Rnd p n w W l m) (R : Row p n w W l m ρ) :
    ∃ S', sAsg (eCall bTuple (aCons (eLc (iRg1 (aCons (eVar 6) (aNil))) (gNm 16) (tOfE (eBin pNe (eBin (pIn false) (eVar 16) (eVar 9)) (eBin (pIn false) (eVar 16) (eVar 10)))) (eVar 16) [16]) (aNil))) (gNm 4) ρ S = .ok .nx (ρ.set 4 (some (tI (apart l m)))) S' ∧ S <+: S' := by
  have n8 := C.n8
  obtain ⟨k, S', e, g, x⟩ := lc_over (dg := gNm 16) (dt := tOfE (eBin pNe (eBin (pIn false) (eVar 16) (eVar 9)) (eBin (pIn false) (eVar 16) (eVar 10)))) (de := eVar 16) (vs := [16])
    (List.range n) (fun i : Nat => PV.int (0 + (i : Nat))) (fun i : Nat => !(decide ((i : Int) ∈ l) == decide ((i : Int) ∈ m))) (fun i : Nat => PV.int (i : Int)) (range1 (eVar_of R.h6 S) (by omega)) (by rw [List.length_range]; show _ ≤ 100000; omega) (by
      intro i hi
      have R1 := R.set (i := 16) (v := none) (by decide)
      have R2 := R1.set (i := 16) (v := some (.int (i : Int))) (by decide)
      have h16 : ((ρ.set 16 none).set 16 (some (.int (i : Int))))[16]? = some (some (.int (i : Int))) := List.getElem?_set_self (by rw [R1.len]; decide)
      refine ⟨(ρ.set 16 none).set 16 (some (.int (i : Int))), ?_, ?_, fun _ => eVar_of h16 S⟩
      · rw [Int.zero_add]
        exact gNm_of (by show 16 < (ρ.set 16 none).length; rw [R1.len]; decide) _ _
      · generalize (ρ.set 16 none).set 16 (some (.int (i : Int))) = ρ2 at *
        rw [tOfE_ap, eBin_ap, eBin_ap, eVar_of h16, bind_ok, eVar_of R2.h9]
        simp only [bind_ok, pIn_tI, ofO_some, eBin_ap, eVar_of h16, eVar_of R2.h10, pNe_bl, Bool.false_xor])
  have eM : (((List.range n).filter fun i : Nat => !(decide ((i : Int) ∈ l) == decide ((i : Int) ∈ m))).map fun i : Nat => PV.int (i : Int)) = (apart l m).map PV.int := by
    rw [← found_is C.hl C.hm, List.map_map]
    rfl
  rw [eM] at g
  refine ⟨S', ?_, x⟩
  rw [sAsg_ap, eCall_ap, aCons_ap, e]
  simp only [bind_ok, aNil_ap, bTuple_ref g, ofO_some, liftE_ok]
  rw [gNm_of (by rw [R.len]; decide)]
theorem apart_std {n : Int} {l m : List Int} (h1 : Std n l) (h2 : Std n m) : Std n (apart l m) := ⟨apart_asc h1.1 h2.1, fun x hx => by
  rw [mem_apart] at hx
  by_cases a : x ∈ l
  · exact h1.2.1 x a
  · by_cases b : x ∈ m
    · exact h2.2.1 x b
    · simp [a, b] at hx, h1.2.2⟩
/-- differences -/
theorem look4 {p n w : Nat} {W : List (Int × Int)} {l m : List Int} {ρ : En} {S : Sto} (C : Rnd p n w W l m) (R : Row p n w W l m ρ) (hw : WebAt S w n W) :
    ∃ k S', sAsg (eLst (aCons (eApp F_difference (aCons (eVar 8) (aCons (eVar 9) (aCons (eVar 10) (aNil))))) (aCons (eAppK F_difference [2, 1, 0] (aNil) (aCons (eVar 10) (aCons (eVar 9) (aCons (eVar 8) (aNil))))) (aNil)))) (gNm 5) ρ S = .ok .nx (ρ.set 5 (some (.ref k))) S' ∧ S <+: S' ∧ S'[k]? = some (.lst [tI (apart l m), tI (apart l m)]) := by
  have big2 : (2 : Nat) ≤ big := by decide
  obtain ⟨S1, e1, x1⟩ := difference_is hw C.hl C.hm
  obtain ⟨S2, e2, x2⟩ := difference_is (hw.pre x1) C.hl C.hm
  have q1 : eLst (aCons (eApp F_difference (aCons (eVar 8) (aCons (eVar 9) (aCons (eVar 10) (aNil))))) (aCons (eAppK F_difference [2, 1, 0] (aNil) (aCons (eVar 10) (aCons (eVar 9) (aCons (eVar 8) (aNil))))) (aNil))) ρ S = .ok (.ref S2.length) (S2 ++ [LO.lst [tI (apart l m), tI (apart l m)]]) := by
    simp [R.h8, R.h9, R.h10, e1, FL.perm, e2, big2]
  refine ⟨S2.length, S2 ++ [LO.lst [tI (apart l m), tI (apart l m)]], ?_, (x1.trans x2).trans (List.prefix_append _ _), get_end⟩
  rw [sAsg_ap, q1, liftE_ok, gNm_of (by rw [R.len]; decide)]
theorem look5 {p n w k : Nat} {W : List (Int × Int)} {l m : List Int} {ρ : En} {S : Sto} (C : Rnd p n w W l m) (R : Row p n w W l m ρ) (hw : WebAt S w n W) (h4 : ρ[4]? = some (some (tI (apart l m)))) (h5 : ρ[5]? = some (some (.ref k))) (hk : S[k]? = some (.lst [tI (apart l m), tI (apart l m)])) :
    ∃ S', (sIf (tOr2 (tOfE (eBin pNe (eCall bRepr (aCons (eVar 5) (aNil))) (eCall bRepr (aCons (eLst (aCons (eVar 4) (aCons (eVar 4) (aNil)))) (aNil))))) (tOfE (eBin pNe (eApp F_difference (aCons (eVar 8) (aCons (eVar 9) (aCons (eVar 9) (aNil))))) (eTup (aNil))))) (sRet (eC (.bl false))) (sNop)) ρ S = .ok .nx ρ S' ∧ S <+: S' := by
  have big2 : (2 : Nat) ≤ big := by decide
  have big0 : (0 : Nat) ≤ big := by decide
  have hA := apart_std C.hl C.hm
  have hb := (std_brief hA).mono (k' := 4000) (by have := hA.len; omega)
  have r1 := repr_two hk (dOf_tI _ 37 _) hb (by decide)
  have q2 : eLst (aCons (eVar 4) (aCons (eVar 4) (aNil))) ρ S = .ok (.ref S.length) (S ++ [LO.lst [tI (apart l m), tI (apart l m)]]) := by
    simp [h4, big2]
  have r2 := repr_two (S := S ++ [LO.lst [tI (apart l m), tI (apart l m)]]) get_end (dOf_tI _ 37 _) hb (by decide)
  have xT : S <+: S ++ [LO.lst [tI (apart l m), tI (apart l m)]] := List.prefix_append _ _
  generalize S ++ [LO.lst [tI (apart l m), tI (apart l m)]] = T at *
  obtain ⟨S3, e3, x3⟩ := difference_is (hw.pre xT) C.hl C.hl
  rw [apart_self C.hl.1] at e3
  refine ⟨S3, ?_, xT.trans x3⟩
  have t1 : tOfE (eBin pNe (eCall bRepr (aCons (eVar 5) (aNil))) (eCall bRepr (aCons (eLst (aCons (eVar 4) (aCons (eVar 4) (aNil)))) (aNil)))) ρ S = .ok false T := by
    rw [tOfE_ap, eBin_ap, eCall_ap, aCons_ap, eVar_of h5]
    simp only [bind_ok, aNil_ap, r1, ofO_some, eCall_ap, aCons_ap, q2, r2, pNe_str]
  have t2 : tOfE (eBin pNe (eApp F_difference (aCons (eVar 8) (aCons (eVar 9) (aCons (eVar 9) (aNil))))) (eTup (aNil))) ρ T = .ok false S3 := by
    have q : pNe (tI []) (.tup []) S3 = some (.bl (!decide (([] : List Int) = [])), S3) := pNe_tI S3 [] []
    rw [tOfE_ap, eBin_ap, eApp_ap]
    simp only [aCons_ap, eVar_of R.h8, eVar_of R.h9, bind_ok, aNil_ap, e3, eTup_ap, List.length_nil, big0, if_true, q, ofO_some]
    simp
  rw [sIf_ap, tOr2_ap, t1, bind_ok]
  simp only [t2, liftE_ok]
  rfl
theorem look6 {p n w : Nat} {W : List (Int × Int)} {l m : List Int} {ρ : En} {S : Sto} (C : Rnd p n w W l m) (R : Row p n w W l m ρ) (hw : WebAt S w n W) :
    ∃ S', (sIf (tOfE (eBin pNe (eApp F_difference (aCons (eVar 8) (aCons (eVar 9) (aCons (eTup (aNil)) (aNil))))) (eVar 9))) (sRet (eC (.bl false))) (sNop)) ρ S = .ok .nx ρ S' ∧ S <+: S' := by
  have big0 : (0 : Nat) ≤ big := by decide
  obtain ⟨S3, e3, x3⟩ := difference_is (m := []) hw C.hl (std_nil (by have := C.n8; omega))
  rw [apart_nil C.hl.1] at e3
  have e3' : F_difference [.ref w, tI l, .tup []] S = .ok (tI l) S3 := e3
  refine ⟨S3, ?_, x3⟩
  rw [sIf_ap, tOfE_ap, eBin_ap, eApp_ap]
  simp only [aCons_ap, eVar_of R.h8, eVar_of R.h9, bind_ok, aNil_ap, eTup_ap, List.length_nil, big0, if_true, e3', pNe_tI, ofO_some, liftE_ok]
  simp
theorem look8 {p n w : Nat} {W : List (Int × Int)} {l m : List Int} {ρ : En} {S : Sto} (R : Row p n w W l m ρ) (hw : WebAt S w n W) :
    (sIf (tOfE (eBin pNe (eFld ["Web"] "told" (eVar 8)) (eTup (aCons (eVar 6) (aCons (eVar 7) (aNil)))))) (sRet (eC (.bl false))) (sNop)) ρ S = .ok .nx ρ S := by
  have big2 : (2 : Nat) ≤ big := by decide
  have e : eFld ["Web"] "told" (eVar 8) ρ S = .ok (.tup [.int n, wsP W]) S := hw.told (eVar_of R.h8 S)
  have q : pNe (.tup [.int n, wsP W]) (.tup [.int n, wsP W]) S = some (.bl false, S) := by
    have d : dOf S (.tup [.int n, wsP W]) = some (.tuple [.int n, .tuple (W.map fun w => .tuple [.int w.1, .int w.2])]) := by
      show (mapO (dataOf S 39) [PV.int n, wsP W]).map PyData.tuple = _
      simp only [mapO, dOf_wsP S 36]
      rfl
    unfold pNe
    rw [d]
    simp only [PyData.eqv, PyData.eqvAll, eqv_pairs]
    simp
  rw [sIf_ap, tOfE_ap, eBin_ap, e]
  simp only [bind_ok, eTup_ap, aCons_ap, eVar_of R.h6, eVar_of R.h7, aNil_ap, List.length_cons, List.length_nil, big2, if_true, q, ofO_some, liftE_ok]
  rfl
theorem play_comm {n : Int} {l : List Int} {u v : Int × Int} (hl : Std n l) (hu : OkW n u) (hv : OkW n v) : play (play l u) v = play (play l v) u := by
  refine asc_ext (play_std (play_std hl hu) hv).1 (play_std (play_std hl hv) hu).1 fun x => ?_
  refine (mem_play (l := play l u) (u := v)).trans (Iff.trans ?_ (mem_play (l := play l v) (u := u)).symm)
  have e1 : decide (x ∈ play l u) = (decide (x ∈ l) ^^ decide (x = u.1) ^^ decide (x = u.2)) := by
    rw [Bool.eq_iff_iff, decide_eq_true_iff]; exact mem_play
  have e2 : decide (x ∈ play l v) = (decide (x ∈ l) ^^ decide (x = v.1) ^^ decide (x = v.2)) := by
    rw [Bool.eq_iff_iff, decide_eq_true_iff]; exact mem_play
  rw [e1, e2]
  generalize decide (x ∈ l) = a
  generalize decide (x = u.1) = b
  generalize decide (x = u.2) = c
  generalize decide (x = v.1) = d
  generalize decide (x = v.2) = e
  cases a <;> cases b <;> cases c <;> cases d <;> cases e <;> simp
theorem due_play {W : List (Int × Int)} {l : List Int} {u v : Int × Int} (hv : v ∈ due W l) (h1 : v.1 ≠ u.1) (h2 : v.1 ≠ u.2) : v ∈ due W (play l u) := by
  obtain ⟨a, b⟩ := List.mem_filter.mp hv
  refine List.mem_filter.mpr ⟨a, decide_eq_true (mem_play.mpr ?_)⟩
  simp at b
  simp [b, h1, h2]
/-- one way of those due -/
theorem one_due {p N : Nat} {D : List (Int × Int)} {S : Sto} (h : Pail S p N) (hD : D ≠ []) (hl : D.length ≤ 64) (hN : N < 2 ^ 30) : ∃ (u : Int × Int) (y : LO), F__law_one [.ref p, wsP D] S = .ok (wP u) (S.set p y) ∧ u ∈ D ∧ Pail (S.set p y) p (N + 1) := by
  obtain ⟨i, hi, y, e, P⟩ := one_of (x := wsP D) (xs := D.map wP) h rfl (fun _ _ => rfl) (by simpa using hD) (by rw [List.length_map]; omega) (by omega)
  have hi' : i < D.length := by simpa using hi
  refine ⟨D[i], y, ?_, List.getElem_mem hi', P⟩
  rw [e, List.getElem_map]
theorem look7 {p n w N : Nat} {W : List (Int × Int)} {l m : List Int} {ρ : En} {S : Sto} (C : Rnd p n w W l m) (R : Row p n w W l m ρ) (hw : WebAt S w n W) (hP : Pail S p N) (hN : N < 2 ^ 29) :
    ∃ ρ' S', (sIf (tOfE (eBin pGt (eCall bLen (aCons (eVar 2) (aNil))) (eC (.int 1)))) (sSeq (sPar 12 13 (aCons (eApp F__law_one (aCons (eVar 0) (aCons (eVar 2) (aNil)))) (aCons (eApp F__law_one (aCons (eVar 0) (aCons (eVar 2) (aNil)))) (aNil))))
  (sSeq (sAsg (eAnd2 (eBin (pIn true) (eBin pIx (eVar 12) (eC (.int 0))) (eVar 13)) (eBin (pIn true) (eBin pIx (eVar 13) (eC (.int 0))) (eVar 12))) (gNm 11))
  (sSeq (sPar 14 15 (aCons (eApp F_after (aCons (eVar 8) (aCons (eVar 9) (aCons (eVar 12) (aNil))))) (aCons (eApp F_after (aCons (eVar 8) (aCons (eVar 9) (aCons (eVar 13) (aNil))))) (aNil))))
  (sIf (tAnd2 (tOfE (eVar 11)) (tOfE (eBin pNe (eApp F_after (aCons (eVar 8) (aCons (eVar 14) (aCons (eVar 13) (aNil))))) (eApp F_after (aCons (eVar 8) (aCons (eVar 15) (aCons (eVar 12) (aNil)))))))) (sRet (eC (.bl false))) (sNop))))) (sNop)) ρ S = .ok .nx ρ' S' ∧ Row p n w W l m ρ' ∧ Kept p S S' ∧ Pail S' p (N + 2) := by
  by_cases hD : 1 < (due W l).length
  · have hne : due W l ≠ [] := by intro z; rw [z] at hD; simp at hD
    have hlen : (due W l).length ≤ 64 := Nat.le_trans (List.length_filter_le _ _) C.hW.2.2
    obtain ⟨u, y1, e1, hu, P1⟩ := one_due hP hne hlen (by omega)
    obtain ⟨v, y2, e2, hv, P2⟩ := one_due P1 hne hlen (by omega)
    have k2 : Kept p S ((S.set p y1).set p y2) := Kept.set.trans Kept.set
    have sA : sPar 12 13 (aCons (eApp F__law_one (aCons (eVar 0) (aCons (eVar 2) (aNil)))) (aCons (eApp F__law_one (aCons (eVar 0) (aCons (eVar 2) (aNil)))) (aNil))) ρ S = .ok .nx ((ρ.set 12 (some (wP u))).set 13 (some (wP v))) ((S.set p y1).set p y2) := by
      rw [sPar_ap, aCons_ap, eApp_ap]
      simp only [aCons_ap, eVar_of R.h0, eVar_of R.h2, bind_ok, aNil_ap, e1, eApp_ap, e2, liftE_ok]
      rw [if_pos (by rw [R.len]; decide)]
    have R1 := (R.set (i := 12) (v := some (wP u)) (by decide)).set (i := 13) (v := some (wP v)) (by decide)
    have h12 : ((ρ.set 12 (some (wP u))).set 13 (some (wP v)))[12]? = some (some (wP u)) := by
      rw [List.getElem?_set_ne (by decide)]
      exact List.getElem?_set_self (by rw [R.len]; decide)
    have h13 : ((ρ.set 12 (some (wP u))).set 13 (some (wP v)))[13]? = some (some (wP v)) := List.getElem?_set_self (by rw [List.length_set, R.len]; decide)
    generalize (ρ.set 12 (some (wP u))).set 13 (some (wP v)) = ρ1 at *
    have hw2 := hw.keep k2 C.wp
    generalize (S.set p y1).set p y2 = S2 at *
    -- apart
    obtain ⟨b, hb, hbt⟩ : ∃ b : Bool, eAnd2 (eBin (pIn true) (eBin pIx (eVar 12) (eC (.int 0))) (eVar 13)) (eBin (pIn true) (eBin pIx (eVar 13) (eC (.int 0))) (eVar 12)) ρ1 S2 = .ok (.bl b) S2 ∧ (b = true → (u.1 ≠ v.1 ∧ u.1 ≠ v.2) ∧ v.1 ≠ u.1 ∧ v.1 ≠ u.2) := by
      have i1 : eBin (pIn true) (eBin pIx (eVar 12) (eC (.int 0))) (eVar 13) ρ1 S2 = .ok (.bl (true ^^ decide (u.1 = v.1 ∨ u.1 = v.2))) S2 := by
        rw [eBin_ap, eBin_ap, eVar_of h12]
        simp only [bind_ok, eC_ap, pIx_tup, atI_0, ofO_some, eVar_of h13, pIn_wP]
      have i2 : eBin (pIn true) (eBin pIx (eVar 13) (eC (.int 0))) (eVar 12) ρ1 S2 = .ok (.bl (true ^^ decide (v.1 = u.1 ∨ v.1 = u.2))) S2 := by
        rw [eBin_ap, eBin_ap, eVar_of h13]
        simp only [bind_ok, eC_ap, pIx_tup, atI_0, ofO_some, eVar_of h12, pIn_wP]
      rw [eAnd2_ap, i1, bind_ok]
      simp only [i2]
      by_cases c1 : u.1 = v.1 ∨ u.1 = v.2
      · exact ⟨false, by simp [c1], fun z => nomatch z⟩
      · by_cases c2 : v.1 = u.1 ∨ v.1 = u.2
        · exact ⟨false, by simp [c1, c2], fun z => nomatch z⟩
        · exact ⟨true, by simp [c1, c2], fun _ => ⟨⟨fun z => c1 (.inl z), fun z => c1 (.inr z)⟩, fun z => c2 (.inl z), fun z => c2 (.inr z)⟩⟩
    have sB : sAsg (eAnd2 (eBin (pIn true) (eBin pIx (eVar 12) (eC (.int 0))) (eVar 13)) (eBin (pIn true) (eBin pIx (eVar 13) (eC (.int 0))) (eVar 12))) (gNm 11) ρ1 S2 = .ok .nx (ρ1.set 11 (some (.bl b))) S2 := by
      rw [sAsg_ap, hb, liftE_ok, gNm_of (by rw [R1.len]; decide)]
    have R2 := R1.set (i := 11) (v := some (.bl b)) (by decide)
    have h11 : (ρ1.set 11 (some (.bl b)))[11]? = some (some (.bl b)) := List.getElem?_set_self (by rw [R1.len]; decide)
    have h12' : (ρ1.set 11 (some (.bl b)))[12]? = some (some (wP u)) := by rw [List.getElem?_set_ne (by decide)]; exact h12
    have h13' : (ρ1.set 11 (some (.bl b)))[13]? = some (some (wP v)) := by rw [List.getElem?_set_ne (by decide)]; exact h13
    generalize ρ1.set 11 (some (.bl b)) = ρ2 at *
    obtain ⟨S3, e3, x3⟩ := after_is hw2 C.hW C.hl hu
    obtain ⟨S4, e4, x4⟩ := after_is (hw2.pre x3) C.hW C.hl hv
    have hw4 := hw2.pre (x3.trans x4)
    have sC : sPar 14 15 (aCons (eApp F_after (aCons (eVar 8) (aCons (eVar 9) (aCons (eVar 12) (aNil))))) (aCons (eApp F_after (aCons (eVar 8) (aCons (eVar 9) (aCons (eVar 13) (aNil))))) (aNil))) ρ2 S2 = .ok .nx ((ρ2.set 14 (some (tI (play l u)))).set 15 (some (tI (play l v)))) S4 := by
      rw [sPar_ap, aCons_ap, eApp_ap]
      simp only [aCons_ap, eVar_of R2.h8, eVar_of R2.h9, eVar_of h12', eVar_of h13', bind_ok, aNil_ap, e3, eApp_ap, e4, liftE_ok]
      rw [if_pos (by rw [R2.len]; decide)]
    have R3 := (R2.set (i := 14) (v := some (tI (play l u))) (by decide)).set (i := 15) (v := some (tI (play l v))) (by decide)
    have h14 : ((ρ2.set 14 (some (tI (play l u)))).set 15 (some (tI (play l v))))[14]? = some (some (tI (play l u))) := by
      rw [List.getElem?_set_ne (by decide)]
      exact List.getElem?_set_self (by rw [R2.len]; decide)
    have h15 : ((ρ2.set 14 (some (tI (play l u)))).set 15 (some (tI (play l v))))[15]? = some (some (tI (play l v))) := List.getElem?_set_self (by rw [List.length_set, R2.len]; decide)
    have g11 : ((ρ2.set 14 (some (tI (play l u)))).set 15 (some (tI (play l v))))[11]? = some (some (.bl b)) := by rw [List.getElem?_set_ne (by decide), List.getElem?_set_ne (by decide)]; exact h11
    have g12 : ((ρ2.set 14 (some (tI (play l u)))).set 15 (some (tI (play l v))))[12]? = some (some (wP u)) := by rw [List.getElem?_set_ne (by decide), List.getElem?_set_ne (by decide)]; exact h12'
    have g13 : ((ρ2.set 14 (some (tI (play l u)))).set 15 (some (tI (play l v))))[13]? = some (some (wP v)) := by rw [List.getElem?_set_ne (by decide), List.getElem?_set_ne (by decide)]; exact h13'
    generalize (ρ2.set 14 (some (tI (play l u)))).set 15 (some (tI (play l v))) = ρ3 at *
    have ou := C.hW.1 u (List.mem_filter.mp hu).1
    have ov := C.hW.1 v (List.mem_filter.mp hv).1
    obtain ⟨S5, sD, x5⟩ : ∃ S5, sIf (tAnd2 (tOfE (eVar 11)) (tOfE (eBin pNe (eApp F_after (aCons (eVar 8) (aCons (eVar 14) (aCons (eVar 13) (aNil))))) (eApp F_after (aCons (eVar 8) (aCons (eVar 15) (aCons (eVar 12) (aNil)))))))) (sRet (eC (.bl false))) (sNop) ρ3 S4 = .ok .nx ρ3 S5 ∧ S4 <+: S5 := by
      cases b with
      | false =>
        refine ⟨S4, ?_, List.prefix_refl _⟩
        rw [sIf_ap, tAnd2_ap, tOfE_ap, eVar_of g11]
        rfl
      | true =>
        obtain ⟨⟨a1, a2⟩, a3, a4⟩ := hbt rfl
        obtain ⟨S5, e5, x5⟩ := after_is hw4 C.hW (play_std C.hl ou) (due_play hv a3 a4)
        obtain ⟨S6, e6, x6⟩ := after_is (hw4.pre x5) C.hW (play_std C.hl ov) (due_play hu a1 a2)
        refine ⟨S6, ?_, x5.trans x6⟩
        rw [sIf_ap, tAnd2_ap, tOfE_ap, eVar_of g11]
        simp only [bind_ok, if_true]
        rw [tOfE_ap, eBin_ap, eApp_ap]
        simp only [aCons_ap, eVar_of R3.h8, eVar_of h14, eVar_of h15, eVar_of g12, eVar_of g13, bind_ok, aNil_ap, e5, eApp_ap, e6, play_comm C.hl ou ov, pNe_tI, ofO_some, liftE_ok]
        simp
    refine ⟨ρ3, S5, ?_, R3, (k2.trans (.of (x3.trans x4))).trans (.of x5), (P2.pre (x3.trans x4)).pre x5⟩
    have e0 : tOfE (eBin pGt (eCall bLen (aCons (eVar 2) (aNil))) (eC (.int 1))) ρ S = .ok true S := by
      rw [tOfE_ap, eBin_ap, eCall_ap, aCons_ap, eVar_of R.h2]
      have : (1 : Int) < (due W l).length := by omega
      simp only [bind_ok, aNil_ap, bLen_tup, ofO_some, eC_ap, pGt_int, List.length_map, this, decide_true]
    rw [sIf_ap, e0, liftE_ok, if_pos rfl]
    exact (seq_nx sA).trans ((seq_nx sB).trans ((seq_nx sC).trans sD))
  · refine ⟨ρ, S, ?_, R, .refl, hP.mono (by omega)⟩
    have e0 : tOfE (eBin pGt (eCall bLen (aCons (eVar 2) (aNil))) (eC (.int 1))) ρ S = .ok false S := by
      rw [tOfE_ap, eBin_ap, eCall_ap, aCons_ap, eVar_of R.h2]
      have : ¬ (1 : Int) < (due W l).length := by omega
      simp only [bind_ok, aNil_ap, bLen_tup, ofO_some, eC_ap, pGt_int, List.length_map, this, decide_false]
    rw [sIf_ap, e0, liftE_ok]
    rfl
/-- a round begins -/
theorem begins {p N : Nat} {ρ : En} {S : Sto} (hl : ρ.length = 17) (h0 : ρ[0]? = some (some (.ref p))) (hP : Pail S p N) (hN : N < 2 ^ 20) :
    ∃ (n w : Nat) (W : List (Int × Int)) (l m : List Int) (ρ' : En) (S' : Sto), Rnd p n w W l m ∧ Row p n w W l m ρ' ∧ WebAt S' w n W ∧ Pail S' p (N + 90) ∧
      ∀ rest, sSeq (sAsg (eApp F__law_net (aCons (eVar 0) (aCons (eC (.int 8)) (aNil)))) (gTp 2 (gCons1 (gNm 6) (gCons1 (gNm 7) (gNil1)))))
  (sSeq (sAsg (eTup (aCons (eMake "Web" F_Web___init__ [] (aCons (eVar 6) (aCons (eVar 7) (aNil)))) (aCons (eApp F__law_some (aCons (eVar 0) (aCons (eVar 6) (aNil)))) (aCons (eApp F__law_some (aCons (eVar 0) (aCons (eVar 6) (aNil)))) (aNil))))) (gTp 3 (gCons1 (gNm 8) (gCons1 (gNm 9) (gCons1 (gNm 10) (gNil1))))))
  (sSeq (sAsg (eCall bTuple (aCons (eLc (iSeq (eVar 7)) (gNm 3) (tOfE (eBin (pIn false) (eBin pIx (eVar 3) (eC (.int 0))) (eVar 9))) (eVar 3) [3]) (aNil))) (gNm 2)) rest)) ρ S = rest ρ' S' := by
  have big3 : (3 : Nat) ≤ big := by decide
  obtain ⟨n, W, S1, e1, n1, n8, hW, k1, P1⟩ := net_drawn hP (by omega)
  have s1 : sAsg (eApp F__law_net (aCons (eVar 0) (aCons (eC (.int 8)) (aNil)))) (gTp 2 (gCons1 (gNm 6) (gCons1 (gNm 7) (gNil1)))) ρ S = .ok .nx ((ρ.set 6 (some (.int n))).set 7 (some (wsP W))) S1 := by
    rw [sAsg_ap, eApp_ap, aCons_ap, eVar_of h0]
    simp only [bind_ok, aCons_ap, eC_ap, aNil_ap, e1, liftE_ok]
    simp [hl]
  have a0 : ((ρ.set 6 (some (.int n))).set 7 (some (wsP W)))[0]? = some (some (.ref p)) := by rw [List.getElem?_set_ne (by decide), List.getElem?_set_ne (by decide)]; exact h0
  have a6 : ((ρ.set 6 (some (.int n))).set 7 (some (wsP W)))[6]? = some (some (.int n)) := by
    rw [List.getElem?_set_ne (by decide)]
    exact List.getElem?_set_self (by rw [hl]; decide)
  have a7 : ((ρ.set 6 (some (.int n))).set 7 (some (wsP W)))[7]? = some (some (wsP W)) := List.getElem?_set_self (by rw [List.length_set, hl]; decide)
  have al : ((ρ.set 6 (some (.int n))).set 7 (some (wsP W))).length = 17 := by rw [List.length_set, List.length_set, hl]
  generalize (ρ.set 6 (some (.int n))).set 7 (some (wsP W)) = ρ1 at *
  obtain ⟨S2, e2, k2, hw2⟩ := web_init (S := S1 ++ [LO.ins "Web" []]) (w := S1.length) hW n1 n8 get_end
  have x2 := kept_new k2
  have wp : S1.length ≠ p := by have := P1.lt; omega
  have q2 : eMake "Web" F_Web___init__ [] (aCons (eVar 6) (aCons (eVar 7) (aNil))) ρ1 S1 = .ok (.ref S1.length) S2 := by
    refine make_of (S1 := S1) (xs := [.int n, wsP W]) ?_ e2
    rw [aCons_ap, eVar_of a6, bind_ok, aCons_ap, eVar_of a7]
    rfl
  obtain ⟨l, S3, e3, l3, k3, P3⟩ := some_drawn (P1.pre x2) (by omega) n8
  obtain ⟨m, S4, e4, m4, k4, P4⟩ := some_drawn P3 (by omega) n8
  have hw4 := (hw2.keep k3 wp).keep k4 wp
  have s2' : ∀ f : FF, f [.ref p, .int n] S2 = .ok (tI l) S3 → f [.ref p, .int n] S3 = .ok (tI m) S4 → ∀ mk : En → Sto → Res PV, mk ρ1 S1 = .ok (.ref S1.length) S2 → sAsg (eTup (aCons mk (aCons (eApp f (aCons (eVar 0) (aCons (eVar 6) (aNil)))) (aCons (eApp f (aCons (eVar 0) (aCons (eVar 6) (aNil)))) (aNil))))) (gTp 3 (gCons1 (gNm 8) (gCons1 (gNm 9) (gCons1 (gNm 10) (gNil1))))) ρ1 S1 =
      .ok .nx (((ρ1.set 8 (some (.ref S1.length))).set 9 (some (tI l))).set 10 (some (tI m))) S4 := by
    intro f e3 e4 mk q2
    rw [sAsg_ap, eTup_ap, aCons_ap, q2]
    simp only [bind_ok, aCons_ap, eApp_ap, eVar_of a0, eVar_of a6, aNil_ap, e3, e4, List.length_cons, List.length_nil, big3, if_true, liftE_ok]
    simp [al]
  have s2 := s2' F__law_some e3 e4 _ q2
  have b0 : (((ρ1.set 8 (some (.ref S1.length))).set 9 (some (tI l))).set 10 (some (tI m)))[0]? = some (some (.ref p)) := by
    rw [List.getElem?_set_ne (by decide), List.getElem?_set_ne (by decide), List.getElem?_set_ne (by decide)]; exact a0
  have b6 : (((ρ1.set 8 (some (.ref S1.length))).set 9 (some (tI l))).set 10 (some (tI m)))[6]? = some (some (.int n)) := by
    rw [List.getElem?_set_ne (by decide), List.getElem?_set_ne (by decide), List.getElem?_set_ne (by decide)]; exact a6
  have b7 : (((ρ1.set 8 (some (.ref S1.length))).set 9 (some (tI l))).set 10 (some (tI m)))[7]? = some (some (wsP W)) := by
    rw [List.getElem?_set_ne (by decide), List.getElem?_set_ne (by decide), List.getElem?_set_ne (by decide)]; exact a7
  have b8 : (((ρ1.set 8 (some (.ref S1.length))).set 9 (some (tI l))).set 10 (some (tI m)))[8]? = some (some (.ref S1.length)) := by
    rw [List.getElem?_set_ne (by decide), List.getElem?_set_ne (by decide)]
    exact List.getElem?_set_self (by rw [al]; decide)
  have b9 : (((ρ1.set 8 (some (.ref S1.length))).set 9 (some (tI l))).set 10 (some (tI m)))[9]? = some (some (tI l)) := by
    rw [List.getElem?_set_ne (by decide)]
    exact List.getElem?_set_self (by rw [List.length_set, al]; decide)
  have b10 : (((ρ1.set 8 (some (.ref S1.length))).set 9 (some (tI l))).set 10 (some (tI m)))[10]? = some (some (tI m)) := List.getElem?_set_self (by rw [List.length_set, List.length_set, al]; decide)
  have bl : (((ρ1.set 8 (some (.ref S1.length))).set 9 (some (tI l))).set 10 (some (tI m))).length = 17 := by rw [List.length_set, List.length_set, List.length_set, al]
  generalize ((ρ1.set 8 (some (.ref S1.length))).set 9 (some (tI l))).set 10 (some (tI m)) = ρ2 at *
  obtain ⟨k, S5, e5, g5, x5⟩ := lc_over (di := iSeq (eVar 7)) (dg := gNm 3) (dt := tOfE (eBin (pIn false) (eBin pIx (eVar 3) (eC (.int 0))) (eVar 9))) (de := eVar 3) (vs := [3]) (ρ := ρ2) (S := S4) (S1 := S4) W wP (fun u => decide (u.1 ∈ l)) wP (by
      unfold iSeq
      rw [eVar_of b7]
      rfl) (by have := hW.2.2; show _ ≤ 100000; omega) (by
      intro u hu
      have c3 : ((ρ2.set 3 none).set 3 (some (wP u)))[3]? = some (some (wP u)) := List.getElem?_set_self (by rw [List.length_set, bl]; decide)
      have c9 : ((ρ2.set 3 none).set 3 (some (wP u)))[9]? = some (some (tI l)) := by rw [List.getElem?_set_ne (by decide), List.getElem?_set_ne (by decide)]; exact b9
      refine ⟨(ρ2.set 3 none).set 3 (some (wP u)), gNm_of (by show 3 < (ρ2.set 3 none).length; rw [List.length_set, bl]; decide) _ _, ?_, fun _ => eVar_of c3 _⟩
      rw [tOfE_ap, eBin_ap, eBin_ap, eVar_of c3]
      simp only [bind_ok, eC_ap, pIx_tup, atI_0, ofO_some, eVar_of c9, pIn_tI, Bool.false_xor])
  have s3 : sAsg (eCall bTuple (aCons (eLc (iSeq (eVar 7)) (gNm 3) (tOfE (eBin (pIn false) (eBin pIx (eVar 3) (eC (.int 0))) (eVar 9))) (eVar 3) [3]) (aNil))) (gNm 2) ρ2 S4 = .ok .nx (ρ2.set 2 (some (wsP (due W l)))) S5 := by
    rw [sAsg_ap, eCall_ap, aCons_ap, e5]
    simp only [bind_ok, aNil_ap, bTuple_ref g5, ofO_some, liftE_ok]
    rw [gNm_of (by rw [bl]; decide)]
    rfl
  refine ⟨n, S1.length, W, l, m, ρ2.set 2 (some (wsP (due W l))), S5, ⟨n1, n8, hW, l3, m4, wp⟩, ⟨?_, ?_, ?_, ?_, ?_, ?_, ?_, ?_⟩, hw4.pre x5, (P4.pre x5).mono (by omega), fun rest => (seq_nx s1).trans ((seq_nx s2).trans (seq_nx s3))⟩
  · rw [List.length_set, bl]
  · rw [List.getElem?_set_ne (by decide)]; exact b0
  · exact List.getElem?_set_self (by rw [bl]; decide)
  · rw [List.getElem?_set_ne (by decide)]; exact b6
  · rw [List.getElem?_set_ne (by decide)]; exact b7
  · rw [List.getElem?_set_ne (by decide)]; exact b8
  · rw [List.getElem?_set_ne (by decide)]; exact b9
  · rw [List.getElem?_set_ne (by decide)]; exact b10
def roundB : En → Sto → SRes :=
  (sSeq (sAsg (eApp F__law_net (aCons (eVar 0) (aCons (eC (.int 8)) (aNil)))) (gTp 2 (gCons1 (gNm 6) (gCons1 (gNm 7) (gNil1)))))
  (sSeq (sAsg (eTup (aCons (eMake "Web" F_Web___init__ [] (aCons (eVar 6) (aCons (eVar 7) (aNil)))) (aCons (eApp F__law_some (aCons (eVar 0) (aCons (eVar 6) (aNil)))) (aCons (eApp F__law_some (aCons (eVar 0) (aCons (eVar 6) (aNil)))) (aNil))))) (gTp 3 (gCons1 (gNm 8) (gCons1 (gNm 9) (gCons1 (gNm 10) (gNil1))))))
  (sSeq (sAsg (eCall bTuple (aCons (eLc (iSeq (eVar 7)) (gNm 3) (tOfE (eBin (pIn false) (eBin pIx (eVar 3) (eC (.int 0))) (eVar 9))) (eVar 3) [3]) (aNil))) (gNm 2))
  (sSeq (sIf (tOfE (eBin pNe (eCall bRepr (aCons (eLst (aCons (eApp F_moves (aCons (eVar 8) (aCons (eVar 9) (aNil)))) (aCons (eAppK F_moves [1, 0] (aNil) (aCons (eVar 9) (aCons (eVar 8) (aNil)))) (aNil)))) (aNil))) (eCall bRepr (aCons (eLst (aCons (eVar 2) (aCons (eVar 2) (aNil)))) (aNil))))) (sRet (eC (.bl false))) (sNop))
  (sSeq (sFor (iSeq (eVar 2)) (gNm 3) (sSeq (sAsg (eLst (aCons (eApp F_after (aCons (eVar 8) (aCons (eVar 9) (aCons (eVar 3) (aNil))))) (aCons (eAppK F_after [2, 1, 0] (aNil) (aCons (eVar 3) (aCons (eVar 9) (aCons (eVar 8) (aNil))))) (aNil)))) (gNm 5))
  (sIf (tOfE (eBin pNe (eCall bRepr (aCons (eVar 5) (aNil))) (eCall bRepr (aCons (eBin pMul (eLst (aCons (eApp F__law_moved (aCons (eVar 9) (aCons (eVar 3) (aNil)))) (aNil))) (eC (.int 2))) (aNil))))) (sRet (eC (.bl false))) (sNop))))
  (sSeq (sAsg (eCall bTuple (aCons (eLc (iRg1 (aCons (eVar 6) (aNil))) (gNm 16) (tOfE (eBin pNe (eBin (pIn false) (eVar 16) (eVar 9)) (eBin (pIn false) (eVar 16) (eVar 10)))) (eVar 16) [16]) (aNil))) (gNm 4))
  (sSeq (sAsg (eLst (aCons (eApp F_difference (aCons (eVar 8) (aCons (eVar 9) (aCons (eVar 10) (aNil))))) (aCons (eAppK F_difference [2, 1, 0] (aNil) (aCons (eVar 10) (aCons (eVar 9) (aCons (eVar 8) (aNil))))) (aNil)))) (gNm 5))
  (sSeq (sIf (tOr2 (tOfE (eBin pNe (eCall bRepr (aCons (eVar 5) (aNil))) (eCall bRepr (aCons (eLst (aCons (eVar 4) (aCons (eVar 4) (aNil)))) (aNil))))) (tOfE (eBin pNe (eApp F_difference (aCons (eVar 8) (aCons (eVar 9) (aCons (eVar 9) (aNil))))) (eTup (aNil))))) (sRet (eC (.bl false))) (sNop))
  (sSeq (sIf (tOfE (eBin pNe (eApp F_difference (aCons (eVar 8) (aCons (eVar 9) (aCons (eTup (aNil)) (aNil))))) (eVar 9))) (sRet (eC (.bl false))) (sNop))
  (sSeq (sIf (tOfE (eBin pGt (eCall bLen (aCons (eVar 2) (aNil))) (eC (.int 1)))) (sSeq (sPar 12 13 (aCons (eApp F__law_one (aCons (eVar 0) (aCons (eVar 2) (aNil)))) (aCons (eApp F__law_one (aCons (eVar 0) (aCons (eVar 2) (aNil)))) (aNil))))
  (sSeq (sAsg (eAnd2 (eBin (pIn true) (eBin pIx (eVar 12) (eC (.int 0))) (eVar 13)) (eBin (pIn true) (eBin pIx (eVar 13) (eC (.int 0))) (eVar 12))) (gNm 11))
  (sSeq (sPar 14 15 (aCons (eApp F_after (aCons (eVar 8) (aCons (eVar 9) (aCons (eVar 12) (aNil))))) (aCons (eApp F_after (aCons (eVar 8) (aCons (eVar 9) (aCons (eVar 13) (aNil))))) (aNil))))
  (sIf (tAnd2 (tOfE (eVar 11)) (tOfE (eBin pNe (eApp F_after (aCons (eVar 8) (aCons (eVar 14) (aCons (eVar 13) (aNil))))) (eApp F_after (aCons (eVar 8) (aCons (eVar 15) (aCons (eVar 12) (aNil)))))))) (sRet (eC (.bl false))) (sNop))))) (sNop))
  (sIf (tOfE (eBin pNe (eFld ["Web"] "told" (eVar 8)) (eTup (aCons (eVar 6) (aCons (eVar 7) (aNil)))))) (sRet (eC (.bl false))) (sNop))))))))))))
theorem right_eq : B__law_right = sSeq (sFor (iRg1 (aCons (eC (.int 6)) (aNil))) (gNm 1) roundB) (sRet (eC (.bl true))) := rfl
theorem round_ok {p N : Nat} {ρ : En} {S : Sto} (hl : ρ.length = 17) (h0 : ρ[0]? = some (some (.ref p))) (hP : Pail S p N) (hN : N < 2 ^ 20) :
    ∃ ρ' S', roundB ρ S = .ok .nx ρ' S' ∧ ρ'.length = 17 ∧ ρ'[0]? = some (some (.ref p)) ∧ Pail S' p (N + 100) := by
  obtain ⟨n, w, W, l, m, ρ1, S1, C, R1, hw1, P1, eb⟩ := begins hl h0 hP hN
  obtain ⟨S2, e2, x2⟩ := look1 C R1 hw1
  have hw2 := hw1.pre x2
  obtain ⟨ρ3, S3, e3, R3, x3⟩ := look2 C R1 hw2
  have hw3 := hw2.pre x3
  obtain ⟨S4, e4, x4⟩ := look3 (S := S3) C R3
  have R4 := R3.set (i := 4) (v := some (tI (apart l m))) (by decide)
  have h4 : (ρ3.set 4 (some (tI (apart l m))))[4]? = some (some (tI (apart l m))) := List.getElem?_set_self (by rw [R3.len]; decide)
  generalize ρ3.set 4 (some (tI (apart l m))) = ρ4 at *
  have hw4 := hw3.pre x4
  obtain ⟨k, S5, e5, x5, hk⟩ := look4 C R4 hw4
  have R5 := R4.set (i := 5) (v := some (.ref k)) (by decide)
  have h4' : (ρ4.set 5 (some (.ref k)))[4]? = some (some (tI (apart l m))) := by rw [List.getElem?_set_ne (by decide)]; exact h4
  have h5 : (ρ4.set 5 (some (.ref k)))[5]? = some (some (.ref k)) := List.getElem?_set_self (by rw [R4.len]; decide)
  generalize ρ4.set 5 (some (.ref k)) = ρ5 at *
  have hw5 := hw4.pre x5
  obtain ⟨S6, e6, x6⟩ := look5 C R5 hw5 h4' h5 hk
  have hw6 := hw5.pre x6
  obtain ⟨S7, e7, x7⟩ := look6 C R5 hw6
  have hw7 := hw6.pre x7
  have P7 := (((((P1.pre x2).pre x3).pre x4).pre x5).pre x6).pre x7
  obtain ⟨ρ8, S8, e8, R8, k8, P8⟩ := look7 C R5 hw7 P7 (by omega)
  have e9 := look8 R8 (hw7.keep k8 C.wp)
  refine ⟨ρ8, S8, ?_, R8.len, R8.h0, P8.mono (by omega)⟩
  exact (eb _).trans ((seq_nx e2).trans ((seq_nx e3).trans ((seq_nx e4).trans ((seq_nx e5).trans ((seq_nx e6).trans ((seq_nx e7).trans ((seq_nx e8).trans e9)))))))
theorem right_true {p : Nat} {S : Sto} (hP : Pail S p 0) : ∃ S', F__law_right [.ref p] S = .ok (.bl true) S' := by
  have hr : iRg1 (aCons (eC (.int 6)) (aNil)) (some (.ref p) :: List.replicate 16 none) S = .ok (.fix (rangeL 0 (6 : Int).toNat)) S := range1i (da := eC (.int 6)) (j := 6) rfl (by decide) (by decide)
  obtain ⟨ρ', S', e, _⟩ := sFor_all (xs := rangeL 0 (6 : Int).toNat) (tg := gNm 1) (body := roundB) (fun i ρ T => ρ.length = 17 ∧ ρ[0]? = some (some (.ref p)) ∧ Pail T p (100 * i)) hr ⟨rfl, rfl, hP⟩ (by
    rintro i x ρ T hx ⟨r1, r2, r3⟩
    have hi : i < 6 := by
      obtain ⟨q, _⟩ := List.getElem?_eq_some_iff.mp hx
      have : (rangeL 0 (6 : Int).toNat).length = 6 := by simp [rangeL]
      omega
    have r2' : (ρ.set 1 (some x))[0]? = some (some (.ref p)) := by rw [List.getElem?_set_ne (by decide)]; exact r2
    obtain ⟨ρ2, S2, e, q1, q2, q3⟩ := round_ok (ρ := ρ.set 1 (some x)) (by rw [List.length_set, r1]) r2' r3 (by omega)
    exact ⟨_, T, ρ2, S2, gNm_of (by rw [r1]; decide) _ _, e, q1, q2, q3.mono (by omega)⟩)
  refine ⟨S', ?_⟩
  show runB 17 B__law_right [.ref p] S = _
  refine run_rt (ρ' := ρ') ?_
  rw [right_eq]
  exact (seq_nx e).trans rfl
theorem law_true (ns : List Int) (h : ns.length ≤ 63) : ∃ S', F_law [.kl (ns.map PV.int)] [] = .ok (.bl true) S' := by
  let K : Int := max 2 (min ns.length 5)
  have e0 : eCall bMax2 (aCons (eC (.int 2)) (aCons (eCall bMin2 (aCons (eCall bLen (aCons (eVar 0) (aNil))) (aCons (eC (.int 5)) (aNil)))) (aNil))) [some (.kl (ns.map PV.int)), none] [] = .ok (.int (if (if (5 : Int) < ns.length then (5 : Int) else ns.length) > 2 then (if (5 : Int) < ns.length then (5 : Int) else ns.length) else 2)) [] := by
    rw [eCall_ap, aCons_ap, eC_ap]
    simp only [bind_ok, aCons_ap, eCall_ap, eVar_of (ρ := [some (.kl (ns.map PV.int)), none]) (i := 0) rfl, bLen_kl, aNil_ap, ofO_some, eC_ap, bMin2_int, bMax2_int, List.length_map]
  generalize eK : (if (if (5 : Int) < ns.length then (5 : Int) else ns.length) > 2 then (if (5 : Int) < ns.length then (5 : Int) else ns.length) else 2) = j at e0
  have j0 : 0 ≤ j ∧ j ≤ 5 := by
    rw [← eK]
    split <;> split <;> omega
  obtain ⟨acc, T, e, bs, rfl, hb⟩ := eLc_run (xs := rangeL 0 j.toNat) (dg := gNm 1) (dt := dYes) (de := eApp F__law_right (aCons (eApp F__law_pail (aCons (eVar 0) (aCons (eVar 1) (aNil)))) (aNil))) (vs := [1]) (ρ := [some (.kl (ns.map PV.int)), none])
    (fun i acc T => ∃ bs : List Bool, acc = bs.map PV.bl ∧ bs.all id = true ∧ bs.length = i) (range1i e0 j0.1 (by omega)) ⟨[], rfl, rfl, rfl⟩ (by
      rintro i x acc T hx ⟨bs, rfl, hb, hlen⟩
      obtain ⟨hi, rfl⟩ := range_get hx
      obtain ⟨G, y, e1, P1⟩ := pail_of (S := T) (ns := ns) (k := i) (by omega)
      obtain ⟨S2, e2⟩ := right_true P1
      refine ⟨[some (.kl (ns.map PV.int)), some (.int i)], T, true, T, rfl, rfl, fun _ => ⟨by rw [List.length_map]; show _ < 100000; omega, .bl true, S2, ?_, bs ++ [true], by simp, by simp; simpa using hb, by simp [hlen]⟩, fun z => nomatch z⟩
      rw [eApp_ap, aCons_ap, eApp_ap, aCons_ap, eVar_of (x := .kl (ns.map PV.int)) rfl, bind_ok, aCons_ap, eVar_of (x := .int i) rfl]
      simp only [bind_ok, aNil_ap, e1, e2])
  have g := bAll_ref (S := T ++ [LO.lst (bs.map PV.bl)]) (bs := bs) get_end rfl
  rw [hb.1] at g
  refine ⟨T ++ [LO.lst (bs.map PV.bl)], ?_⟩
  show runB 2 B_law [.kl (ns.map PV.int)] [] = _
  refine run_rt (ρ' := [some (.kl (ns.map PV.int)), none]) ?_
  show B_law [some (.kl (ns.map PV.int)), none] [] = _
  unfold B_law
  rw [sRet_ap, eCall_ap, aCons_ap, e]
  simp only [bind_ok, aNil_ap, g, ofO_some, liftE_ok]
end Law

namespace Law
open PySem PySem.Spec L2 FL
structure Ad where
  a_toggled : Addr
  d_toggled : FuncData
  a_played : Addr
  d_played : FuncData
  a_ways_from : Addr
  d_ways_from : FuncData
  a_is_playable : Addr
  d_is_playable : FuncData
  a_check_way : Addr
  d_check_way : FuncData
  a_is_between : Addr
  d_is_between : FuncData
  a_wrong_place : Addr
  d_wrong_place : FuncData
  a_check_standing : Addr
  d_check_standing : FuncData
  a_check_web : Addr
  d_check_web : FuncData
  a_check_asked : Addr
  d_check_asked : FuncData
  a_after : Addr
  d_after : FuncData
  a__law_scoop : Addr
  d__law_scoop : FuncData
  a__law_one : Addr
  d__law_one : FuncData
  a_unlike : Addr
  d_unlike : FuncData
  a_difference : Addr
  d_difference : FuncData
  a__law_moved : Addr
  d__law_moved : FuncData
  a_moves : Addr
  d_moves : FuncData
  a__law_some : Addr
  d__law_some : FuncData
  a_goals_of : Addr
  d_goals_of : FuncData
  a_does_lead : Addr
  d_does_lead : FuncData
  a_is_way : Addr
  d_is_way : FuncData
  a_wrong_way : Addr
  d_wrong_way : FuncData
  a_check_ways : Addr
  d_check_ways : FuncData
  a_check_count : Addr
  d_check_count : FuncData
  a_Web___init__ : Addr
  d_Web___init__ : FuncData
  t_Web___init__ : Addr
  a__law_ways : Addr
  d__law_ways : FuncData
  a__law_net : Addr
  d__law_net : FuncData
  a__law_right : Addr
  d__law_right : FuncData
  a__law_pail : Addr
  d__law_pail : FuncData
  a_law : Addr
  d_law : FuncData
  c_Web : Addr
structure Txt (K : PySem.W.Frag) (mg : Str → Option Value) (A : Ad) : Prop where
  m_toggled : mg "toggled" = some (.ref A.a_toggled)
  f_toggled : Fun K "toggled" "toggled" s_toggled A.a_toggled A.d_toggled
  m_played : mg "played" = some (.ref A.a_played)
  f_played : Fun K "played" "played" s_played A.a_played A.d_played
  m_ways_from : mg "ways_from" = some (.ref A.a_ways_from)
  f_ways_from : Fun K "ways_from" "ways_from" s_ways_from A.a_ways_from A.d_ways_from
  m_is_playable : mg "is_playable" = some (.ref A.a_is_playable)
  f_is_playable : Fun K "is_playable" "is_playable" s_is_playable A.a_is_playable A.d_is_playable
  m_check_way : mg "check_way" = some (.ref A.a_check_way)
  f_check_way : Fun K "check_way" "check_way" s_check_way A.a_check_way A.d_check_way
  m_is_between : mg "is_between" = some (.ref A.a_is_between)
  f_is_between : Fun K "is_between" "is_between" s_is_between A.a_is_between A.d_is_between
  m_wrong_place : mg "wrong_place" = some (.ref A.a_wrong_place)
  f_wrong_place : Fun K "wrong_place" "wrong_place" s_wrong_place A.a_wrong_place A.d_wrong_place
  m_check_standing : mg "check_standing" = some (.ref A.a_check_standing)
  f_check_standing : Fun K "check_standing" "check_standing" s_check_standing A.a_check_standing A.d_check_standing
  m_check_web : mg "check_web" = some (.ref A.a_check_web)
  f_check_web : Fun K "check_web" "check_web" s_check_web A.a_check_web A.d_check_web
  m_check_asked : mg "check_asked" = some (.ref A.a_check_asked)
  f_check_asked : Fun K "check_asked" "check_asked" s_check_asked A.a_check_asked A.d_check_asked
  m_after : mg "after" = some (.ref A.a_after)
  f_after : Fun K "after" "after" s_after A.a_after A.d_after
  m__law_scoop : mg "_law_scoop" = some (.ref A.a__law_scoop)
  f__law_scoop : Fun K "_law_scoop" "_law_scoop" s__law_scoop A.a__law_scoop A.d__law_scoop
  m__law_one : mg "_law_one" = some (.ref A.a__law_one)
  f__law_one : Fun K "_law_one" "_law_one" s__law_one A.a__law_one A.d__law_one
  m_unlike : mg "unlike" = some (.ref A.a_unlike)
  f_unlike : Fun K "unlike" "unlike" s_unlike A.a_unlike A.d_unlike
  m_difference : mg "difference" = some (.ref A.a_difference)
  f_difference : Fun K "difference" "difference" s_difference A.a_difference A.d_difference
  m__law_moved : mg "_law_moved" = some (.ref A.a__law_moved)
  f__law_moved : Fun K "_law_moved" "_law_moved" s__law_moved A.a__law_moved A.d__law_moved
  m_moves : mg "moves" = some (.ref A.a_moves)
  f_moves : Fun K "moves" "moves" s_moves A.a_moves A.d_moves
  m__law_some : mg "_law_some" = some (.ref A.a__law_some)
  f__law_some : Fun K "_law_some" "_law_some" s__law_some A.a__law_some A.d__law_some
  m_goals_of : mg "goals_of" = some (.ref A.a_goals_of)
  f_goals_of : Fun K "goals_of" "goals_of" s_goals_of A.a_goals_of A.d_goals_of
  m_does_lead : mg "does_lead" = some (.ref A.a_does_lead)
  f_does_lead : Fun K "does_lead" "does_lead" s_does_lead A.a_does_lead A.d_does_lead
  m_is_way : mg "is_way" = some (.ref A.a_is_way)
  f_is_way : Fun K "is_way" "is_way" s_is_way A.a_is_way A.d_is_way
  m_wrong_way : mg "wrong_way" = some (.ref A.a_wrong_way)
  f_wrong_way : Fun K "wrong_way" "wrong_way" s_wrong_way A.a_wrong_way A.d_wrong_way
  m_check_ways : mg "check_ways" = some (.ref A.a_check_ways)
  f_check_ways : Fun K "check_ways" "check_ways" s_check_ways A.a_check_ways A.d_check_ways
  m_check_count : mg "check_count" = some (.ref A.a_check_count)
  f_check_count : Fun K "check_count" "check_count" s_check_count A.a_check_count A.d_check_count
  e_Web___init__ : Meth K A.c_Web "__init__" A.a_Web___init__
  f_Web___init__ : FunD K "__init__" "Web.__init__" (defArgs s_Web___init__) (defBody s_Web___init__) (defScope s_Web___init__) [.ref A.t_Web___init__] [] A.a_Web___init__ A.d_Web___init__
  m__law_ways : mg "_law_ways" = some (.ref A.a__law_ways)
  f__law_ways : Fun K "_law_ways" "_law_ways" s__law_ways A.a__law_ways A.d__law_ways
  m__law_net : mg "_law_net" = some (.ref A.a__law_net)
  f__law_net : Fun K "_law_net" "_law_net" s__law_net A.a__law_net A.d__law_net
  m__law_right : mg "_law_right" = some (.ref A.a__law_right)
  f__law_right : Fun K "_law_right" "_law_right" s__law_right A.a__law_right A.d__law_right
  m__law_pail : mg "_law_pail" = some (.ref A.a__law_pail)
  f__law_pail : Fun K "_law_pail" "_law_pail" s__law_pail A.a__law_pail A.d__law_pail
  m_law : mg "law" = some (.ref A.a_law)
  f_law : Fun K "law" "law" s_law A.a_law A.d_law
  n_abs : mg "abs" = none
  n_all : mg "all" = none
  n_any : mg "any" = none
  n_bool : mg "bool" = none
  n_divmod : mg "divmod" = none
  n_enumerate : mg "enumerate" = none
  n_int : mg "int" = none
  n_isinstance : mg "isinstance" = none
  n_len : mg "len" = none
  n_max : mg "max" = none
  n_min : mg "min" = none
  n_range : mg "range" = none
  n_repr : mg "repr" = none
  n_sorted : mg "sorted" = none
  n_tuple : mg "tuple" = none
  c_MOST_PLACES : ∃ t, mg "MOST_PLACES" = some (.int 8 t)
  mc_Web : mg "Web" = some (.ref A.c_Web)
  cl_Web : Cls K A.c_Web
  mk_Web : Mk K A.c_Web A.a_Web___init__
  na_Web_count : NoAttr K A.c_Web "count"
  na_Web_has_ring : NoAttr K A.c_Web "has_ring"
  na_Web_told : NoAttr K A.c_Web "told"
  na_Web_ways : NoAttr K A.c_Web "ways"
  isc_Web : IsC K mg A.c_Web isc_Web
section
variable {P : Program} {w : World} {K : PySem.W.Frag} {mg : Str → Option Value} {base : Heap} {A : Ad}
theorem ak_0 (T : Txt K mg A) : AttrOk K mg ["Web"] "told" := attr_cons T.mc_Web T.cl_Web T.na_Web_told (attr_nil)
theorem ak_1 (T : Txt K mg A) : AttrOk K mg ["Web"] "has_ring" := attr_cons T.mc_Web T.cl_Web T.na_Web_has_ring (attr_nil)
theorem ak_2 (T : Txt K mg A) : AttrOk K mg ["Web"] "ways" := attr_cons T.mc_Web T.cl_Web T.na_Web_ways (attr_nil)
theorem ak_3 (T : Txt K mg A) : AttrOk K mg ["Web"] "count" := attr_cons T.mc_Web T.cl_Web T.na_Web_count (attr_nil)
theorem bi_toggled_ (T : Txt K mg A) : Binds K A.d_toggled ps_toggled [] := T.f_toggled.binds (ps := ps_toggled) fun _ _ _ _ _ _ us hl => match us, hl with | [_, _], _ => rfl
theorem bi_played_ (T : Txt K mg A) : Binds K A.d_played ps_played [] := T.f_played.binds (ps := ps_played) fun _ _ _ _ _ _ us hl => match us, hl with | [_, _], _ => rfl
theorem bi_ways_from_ (T : Txt K mg A) : Binds K A.d_ways_from ps_ways_from [] := T.f_ways_from.binds (ps := ps_ways_from) fun _ _ _ _ _ _ us hl => match us, hl with | [_, _], _ => rfl
theorem bi_is_playable_ (T : Txt K mg A) : Binds K A.d_is_playable ps_is_playable [] := T.f_is_playable.binds (ps := ps_is_playable) fun _ _ _ _ _ _ us hl => match us, hl with | [_, _, _], _ => rfl
theorem bi_check_way_ (T : Txt K mg A) : Binds K A.d_check_way ps_check_way [] := T.f_check_way.binds (ps := ps_check_way) fun _ _ _ _ _ _ us hl => match us, hl with | [_, _, _], _ => rfl
theorem bi_is_between_ (T : Txt K mg A) : Binds K A.d_is_between ps_is_between [] := T.f_is_between.binds (ps := ps_is_between) fun _ _ _ _ _ _ us hl => match us, hl with | [_, _, _], _ => rfl
theorem bi_wrong_place_ (T : Txt K mg A) : Binds K A.d_wrong_place ps_wrong_place [] := T.f_wrong_place.binds (ps := ps_wrong_place) fun _ _ _ _ _ _ us hl => match us, hl with | [_, _], _ => rfl
theorem bi_check_standing_ (T : Txt K mg A) : Binds K A.d_check_standing ps_check_standing [] := T.f_check_standing.binds (ps := ps_check_standing) fun _ _ _ _ _ _ us hl => match us, hl with | [_, _], _ => rfl
theorem bi_check_web_ (T : Txt K mg A) : Binds K A.d_check_web ps_check_web [] := T.f_check_web.binds (ps := ps_check_web) fun _ _ _ _ _ _ us hl => match us, hl with | [_], _ => rfl
theorem bi_check_asked_ (T : Txt K mg A) : Binds K A.d_check_asked ps_check_asked [] := T.f_check_asked.binds (ps := ps_check_asked) fun _ _ _ _ _ _ us hl => match us, hl with | [_, _], _ => rfl
theorem bi_after_ (T : Txt K mg A) : Binds K A.d_after ps_after [] := T.f_after.binds (ps := ps_after) fun _ _ _ _ _ _ us hl => match us, hl with | [_, _, _], _ => rfl
theorem bi__law_scoop_ (T : Txt K mg A) : Binds K A.d__law_scoop ps__law_scoop [] := T.f__law_scoop.binds (ps := ps__law_scoop) fun _ _ _ _ _ _ us hl => match us, hl with | [_, _], _ => rfl
theorem bi__law_one_ (T : Txt K mg A) : Binds K A.d__law_one ps__law_one [] := T.f__law_one.binds (ps := ps__law_one) fun _ _ _ _ _ _ us hl => match us, hl with | [_, _], _ => rfl
theorem bi_unlike_ (T : Txt K mg A) : Binds K A.d_unlike ps_unlike [] := T.f_unlike.binds (ps := ps_unlike) fun _ _ _ _ _ _ us hl => match us, hl with | [_, _], _ => rfl
theorem bi_difference_ (T : Txt K mg A) : Binds K A.d_difference ps_difference [] := T.f_difference.binds (ps := ps_difference) fun _ _ _ _ _ _ us hl => match us, hl with | [_, _, _], _ => rfl
theorem bi__law_moved_ (T : Txt K mg A) : Binds K A.d__law_moved ps__law_moved [] := T.f__law_moved.binds (ps := ps__law_moved) fun _ _ _ _ _ _ us hl => match us, hl with | [_, _], _ => rfl
theorem bi_moves_ (T : Txt K mg A) : Binds K A.d_moves ps_moves [] := T.f_moves.binds (ps := ps_moves) fun _ _ _ _ _ _ us hl => match us, hl with | [_, _], _ => rfl
theorem bi__law_some_ (T : Txt K mg A) : Binds K A.d__law_some ps__law_some [] := T.f__law_some.binds (ps := ps__law_some) fun _ _ _ _ _ _ us hl => match us, hl with | [_, _], _ => rfl
theorem bi_goals_of_ (T : Txt K mg A) : Binds K A.d_goals_of ps_goals_of [] := T.f_goals_of.binds (ps := ps_goals_of) fun _ _ _ _ _ _ us hl => match us, hl with | [_, _], _ => rfl
theorem bi_does_lead_ (T : Txt K mg A) : Binds K A.d_does_lead ps_does_lead [] := T.f_does_lead.binds (ps := ps_does_lead) fun _ _ _ _ _ _ us hl => match us, hl with | [_, _, _], _ => rfl
theorem bi_is_way_ (T : Txt K mg A) : Binds K A.d_is_way ps_is_way [] := T.f_is_way.binds (ps := ps_is_way) fun _ _ _ _ _ _ us hl => match us, hl with | [_, _], _ => rfl
theorem bi_wrong_way_ (T : Txt K mg A) : Binds K A.d_wrong_way ps_wrong_way [] := T.f_wrong_way.binds (ps := ps_wrong_way) fun _ _ _ _ _ _ us hl => match us, hl with | [_, _], _ => rfl
theorem bi_check_ways_ (T : Txt K mg A) : Binds K A.d_check_ways ps_check_ways [] := T.f_check_ways.binds (ps := ps_check_ways) fun _ _ _ _ _ _ us hl => match us, hl with | [_, _], _ => rfl
theorem bi_check_count_ (T : Txt K mg A) : Binds K A.d_check_count ps_check_count [] := T.f_check_count.binds (ps := ps_check_count) fun _ _ _ _ _ _ us hl => match us, hl with | [_, _], _ => rfl
theorem bi_Web___init___ (T : Txt K mg A) : Binds K A.d_Web___init__ ps_Web___init__ [] := bindsD T.f_Web___init__ fun _ _ _ _ _ _ _ us its h1 h2 => match us, its, h1, h2 with | [_, _, _], [_], _, _ => ⟨_, rfl, rfl⟩
theorem bi__law_ways_ (T : Txt K mg A) : Binds K A.d__law_ways ps__law_ways [] := T.f__law_ways.binds (ps := ps__law_ways) fun _ _ _ _ _ _ us hl => match us, hl with | [_, _, _], _ => rfl
theorem bi__law_net_ (T : Txt K mg A) : Binds K A.d__law_net ps__law_net [] := T.f__law_net.binds (ps := ps__law_net) fun _ _ _ _ _ _ us hl => match us, hl with | [_, _], _ => rfl
theorem bi__law_right_ (T : Txt K mg A) : Binds K A.d__law_right ps__law_right [] := T.f__law_right.binds (ps := ps__law_right) fun _ _ _ _ _ _ us hl => match us, hl with | [_], _ => rfl
theorem bi__law_pail_ (T : Txt K mg A) : Binds K A.d__law_pail ps__law_pail [] := T.f__law_pail.binds (ps := ps__law_pail) fun _ _ _ _ _ _ us hl => match us, hl with | [_, _], _ => rfl
theorem bi_law_ (T : Txt K mg A) : Binds K A.d_law ps_law [] := T.f_law.binds (ps := ps_law) fun _ _ _ _ _ _ us hl => match us, hl with | [_], _ => rfl
theorem kw_difference_0_ (T : Txt K mg A) : KwOk A.d_difference ps_difference ["other", "standing", "web"] 0 [2, 1, 0] := kwok T.f_difference fun _ _ _ _ _ _ us ws h1 h2 => match us, ws, h1, h2 with | [], [_, _, _], _, _ => rfl
theorem kw_after_1_ (T : Txt K mg A) : KwOk A.d_after ps_after ["way", "standing", "web"] 0 [2, 1, 0] := kwok T.f_after fun _ _ _ _ _ _ us ws h1 h2 => match us, ws, h1, h2 with | [], [_, _, _], _, _ => rfl
theorem kw_moves_2_ (T : Txt K mg A) : KwOk A.d_moves ps_moves ["standing", "web"] 0 [1, 0] := kwok T.f_moves fun _ _ _ _ _ _ us ws h1 h2 => match us, ws, h1, h2 with | [], [_, _], _, _ => rfl
theorem sc_toggled : FnScope N_toggled ps_toggled (defScope s_toggled) := ⟨rfl, rfl, rfl, by decide +kernel, rfl, by decide +kernel, by decide +kernel⟩
theorem ok_toggled (T : Txt K mg A) : FnOk P w K mg base (L2.CX P w) 1 A.a_toggled A.d_toggled ps_toggled (spF K mg 2 F_toggled) := by
  refine fn_fl T.f_toggled sc_toggled fun cdv Ar outer s H E F => ?_
  have C := F.e
  exact fs_cons (fs_if (ft_cmp (o_in C.hu) (fe_var 1) (fe_var 0) (by rfl)) (fs_one (fs_ret (fe_callTy b_tuple rfl T.n_tuple (by decide +kernel) (fa_cons (fe_lcC (own := [("other", 2)]) C (fi_seq (fe_var 0)) (blkOk_by (own := [("other", 2)]) (N := N_toggled) (sc := defScope s_toggled) (by decide +kernel)) (fun s H a cl fp C => pg_name (i := 2) C.nd rfl (Or.inl rfl)) (ct_name (by decide)) (fun s H a cl fp C => fts_one (ft_cmp (o_ne C.hu) (fe_var 2) (fe_var 1))) (fun s H a cl fp C => fe_var 2)) (fa_nil))))) (fs_nil))
      (fs_one (fs_ret (fe_callTy b_tuple rfl T.n_tuple (by decide +kernel) (fa_cons (fe_callB (b_sorted C.hu) rfl T.n_sorted (by decide +kernel) (fa_cons (fe_lst (fa_star (fe_var 0) (fa_cons (fe_var 1) (fa_nil)))) (fa_nil))) (fa_nil)))))
theorem sc_played : FnScope N_played ps_played (defScope s_played) := ⟨rfl, rfl, rfl, by decide +kernel, rfl, by decide +kernel, by decide +kernel⟩
theorem ok_played (T : Txt K mg A) : FnOk P w K mg base (L2.CX P w) 2 A.a_played A.d_played ps_played (spF K mg 2 F_played) := by
  have G_toggled : FnOk P w K mg base (L2.CX P w) 1 A.a_toggled A.d_toggled ps_toggled (spF K mg 2 F_toggled) := ok_toggled T
  have bi_toggled := bi_toggled_ T
  refine fn_fl T.f_played sc_played fun cdv Ar outer s H E F => ?_
  have C := F.e
  exact fs_one (fs_ret (fe_call C G_toggled (by decide) rfl T.m_toggled T.f_toggled.kp bi_toggled (fa_cons (fe_call C G_toggled (by decide) rfl T.m_toggled T.f_toggled.kp bi_toggled (fa_cons (fe_var 0) (fa_cons (fe_ix (fe_var 1) (fe_int) (fun _ _ => rfl)) (fa_nil))) (hlen := (lenC (n := 1) (lenC (n := 0) (fun _ _ _ _ h => len0 h))))) (fa_cons (fe_ix (fe_var 1) (fe_int) (fun _ _ => rfl)) (fa_nil))) (hlen := (lenC (n := 1) (lenC (n := 0) (fun _ _ _ _ h => len0 h))))))
theorem sc_ways_from : FnScope N_ways_from ps_ways_from (defScope s_ways_from) := ⟨rfl, rfl, rfl, by decide +kernel, rfl, by decide +kernel, by decide +kernel⟩
theorem ok_ways_from (T : Txt K mg A) : FnOk P w K mg base (L2.CX P w) 1 A.a_ways_from A.d_ways_from ps_ways_from (spF K mg 2 F_ways_from) := by
  refine fn_fl T.f_ways_from sc_ways_from fun cdv Ar outer s H E F => ?_
  have C := F.e
  exact fs_one (fs_ret (fe_callTy b_tuple rfl T.n_tuple (by decide +kernel) (fa_cons (fe_lcC (own := [("way", 2)]) C (fi_seq (fe_fld (ak_2 T) (fe_var 0))) (blkOk_by (own := [("way", 2)]) (N := N_ways_from) (sc := defScope s_ways_from) (by decide +kernel)) (fun s H a cl fp C => pg_name (i := 2) C.nd rfl (Or.inl rfl)) (ct_name (by decide)) (fun s H a cl fp C => fts_one (ft_cmp (o_in C.hu) (fe_ix (fe_var 2) (fe_int) (fun _ _ => rfl)) (fe_var 1) (by rfl))) (fun s H a cl fp C => fe_var 2)) (fa_nil))))
theorem sc_is_playable : FnScope N_is_playable ps_is_playable (defScope s_is_playable) := ⟨rfl, rfl, rfl, by decide +kernel, rfl, by decide +kernel, by decide +kernel⟩
theorem ok_is_playable (T : Txt K mg A) : FnOk P w K mg base (L2.CX P w) 2 A.a_is_playable A.d_is_playable ps_is_playable (spF K mg 3 F_is_playable) := by
  have G_ways_from : FnOk P w K mg base (L2.CX P w) 1 A.a_ways_from A.d_ways_from ps_ways_from (spF K mg 2 F_ways_from) := ok_ways_from T
  have bi_ways_from := bi_ways_from_ T
  refine fn_fl T.f_is_playable sc_is_playable fun cdv Ar outer s H E F => ?_
  have C := F.e
  exact fs_cons (fs_if (ft_w (fw_or (ft_not (ft_val (fe_isi rfl T.n_isinstance rfl T.n_tuple (by decide +kernel) (by decide +kernel) isi_tuple (fe_var 2)))) (fw_or1 (ft_not (ft_val (fe_callB (b_all C.calm) rfl T.n_all (by decide +kernel) (fa_cons (fe_lcC (own := [("part", 3)]) C (fi_seq (fe_var 2)) (blkOk_by (own := [("part", 3)]) (N := N_is_playable) (sc := defScope s_is_playable) (by decide +kernel)) (fun s H a cl fp C => pg_name (i := 3) C.nd rfl (Or.inl rfl)) (ct_name (by decide)) (fun s H a cl fp C => fts_nil) (fun s H a cl fp C => fe_and (fe_isi rfl T.n_isinstance rfl T.n_int (by decide +kernel) (by decide +kernel) isi_int (fe_var 3)) (fe_one (fe_not (fe_isi rfl T.n_isinstance rfl T.n_bool (by decide +kernel) (by decide +kernel) isi_bool (fe_var 3)))))) (fa_nil)))))))) (fs_one (fs_ret (fe_bl))) (fs_nil))
      (fs_one (fs_ret (fe_cmp (o_in C.hu) (fe_var 2) (fe_call C G_ways_from (by decide) rfl T.m_ways_from T.f_ways_from.kp bi_ways_from (fa_cons (fe_var 0) (fa_cons (fe_var 1) (fa_nil))) (hlen := (lenC (n := 1) (lenC (n := 0) (fun _ _ _ _ h => len0 h))))) (by rfl))))
theorem sc_check_way : FnScope N_check_way ps_check_way (defScope s_check_way) := ⟨rfl, rfl, rfl, by decide +kernel, rfl, by decide +kernel, by decide +kernel⟩
theorem ok_check_way (T : Txt K mg A) : FnOk P w K mg base (L2.CX P w) 3 A.a_check_way A.d_check_way ps_check_way (spF K mg 3 F_check_way) := by
  have G_is_playable : FnOk P w K mg base (L2.CX P w) 2 A.a_is_playable A.d_is_playable ps_is_playable (spF K mg 3 F_is_playable) := ok_is_playable T
  have bi_is_playable := bi_is_playable_ T
  refine fn_fl T.f_check_way sc_check_way fun cdv Ar outer s H E F => ?_
  have C := F.e
  exact fs_one (fs_if (ft_not (ft_val (fe_call C G_is_playable (by decide) rfl T.m_is_playable T.f_is_playable.kp bi_is_playable (fa_cons (fe_var 0) (fa_cons (fe_var 1) (fa_cons (fe_var 2) (fa_nil)))) (hlen := (lenC (n := 2) (lenC (n := 1) (lenC (n := 0) (fun _ _ _ _ h => len0 h)))))))) (fs_one (fs_never)) (fs_nil))
theorem sc_is_between : FnScope N_is_between ps_is_between (defScope s_is_between) := ⟨rfl, rfl, rfl, by decide +kernel, rfl, by decide +kernel, by decide +kernel⟩
theorem ok_is_between (T : Txt K mg A) : FnOk P w K mg base (L2.CX P w) 1 A.a_is_between A.d_is_between ps_is_between (spF K mg 3 F_is_between) := by
  refine fn_fl T.f_is_between sc_is_between fun cdv Ar outer s H E F => ?_
  have C := F.e
  exact fs_one (fs_ret (fe_and (fe_isi rfl T.n_isinstance rfl T.n_int (by decide +kernel) (by decide +kernel) isi_int (fe_var 0)) (fe_and (fe_not (fe_isi rfl T.n_isinstance rfl T.n_bool (by decide +kernel) (by decide +kernel) isi_bool (fe_var 0))) (fe_one (fe_chain (o_le C.hu) (o_le C.hu) (fe_var 1) (fe_var 0) (fe_var 2))))))
theorem sc_wrong_place : FnScope N_wrong_place ps_wrong_place (defScope s_wrong_place) := ⟨rfl, rfl, rfl, by decide +kernel, rfl, by decide +kernel, by decide +kernel⟩
theorem ok_wrong_place (T : Txt K mg A) : FnOk P w K mg base (L2.CX P w) 2 A.a_wrong_place A.d_wrong_place ps_wrong_place (spF K mg 2 F_wrong_place) := by
  have G_is_between : FnOk P w K mg base (L2.CX P w) 1 A.a_is_between A.d_is_between ps_is_between (spF K mg 3 F_is_between) := ok_is_between T
  have bi_is_between := bi_is_between_ T
  refine fn_fl T.f_wrong_place sc_wrong_place fun cdv Ar outer s H E F => ?_
  have C := F.e
  exact fs_cons (fs_for F (fi_enum rfl T.n_enumerate (fa_cons (fe_var 0) (fa_nil))) (fg_tup C.calm (fg_cons (fg_name (i := 2) C.nd rfl (Or.inl rfl)) (fg_cons (fg_name (i := 3) C.nd rfl (Or.inl rfl)) (fg_nil)))) (fs_one (fs_if (ft_w (fw_or (ft_not (ft_val (fe_call C G_is_between (by decide) rfl T.m_is_between T.f_is_between.kp bi_is_between (fa_cons (fe_var 3) (fa_cons (fe_int) (fa_cons (fe_bin o_sub (fe_var 1) (fe_int)) (fa_nil)))) (hlen := (lenC (n := 2) (lenC (n := 1) (lenC (n := 0) (fun _ _ _ _ h => len0 h)))))))) (fw_or1 (ft_w (fw_and (ft_cmp (o_gt C.hu) (fe_var 2) (fe_int)) (fw_and1 (ft_cmp (o_le C.hu) (fe_var 3) (fe_ix (fe_var 0) (fe_bin o_sub (fe_var 2) (fe_int)) (fun _ _ => rfl))))))))) (fs_one (fs_ret (fe_var 2))) (fs_nil))))
      (fs_one (fs_ret (fe_non)))
theorem sc_check_standing : FnScope N_check_standing ps_check_standing (defScope s_check_standing) := ⟨rfl, rfl, rfl, by decide +kernel, rfl, by decide +kernel, by decide +kernel⟩
theorem ok_check_standing (T : Txt K mg A) : FnOk P w K mg base (L2.CX P w) 3 A.a_check_standing A.d_check_standing ps_check_standing (spF K mg 2 F_check_standing) := by
  have G_wrong_place : FnOk P w K mg base (L2.CX P w) 2 A.a_wrong_place A.d_wrong_place ps_wrong_place (spF K mg 2 F_wrong_place) := ok_wrong_place T
  have bi_wrong_place := bi_wrong_place_ T
  refine fn_fl T.f_check_standing sc_check_standing fun cdv Ar outer s H E F => ?_
  have C := F.e
  exact fs_cons (fs_if (ft_not (ft_val (fe_isi rfl T.n_isinstance rfl T.n_tuple (by decide +kernel) (by decide +kernel) isi_tuple (fe_var 0)))) (fs_one (fs_never)) (fs_nil))
      (fs_cons (fs_set (i := 2) C.nd rfl (Or.inl rfl) (fe_call C G_wrong_place (by decide) rfl T.m_wrong_place T.f_wrong_place.kp bi_wrong_place (fa_cons (fe_var 0) (fa_cons (fe_var 1) (fa_nil))) (hlen := (lenC (n := 1) (lenC (n := 0) (fun _ _ _ _ h => len0 h))))))
      (fs_one (fs_if (ft_cmp o_notN (fe_var 2) (fe_non)) (fs_one (fs_never)) (fs_nil))))
theorem sc_check_web : FnScope N_check_web ps_check_web (defScope s_check_web) := ⟨rfl, rfl, rfl, by decide +kernel, rfl, by decide +kernel, by decide +kernel⟩
theorem ok_check_web (T : Txt K mg A) : FnOk P w K mg base (L2.CX P w) 1 A.a_check_web A.d_check_web ps_check_web (spF K mg 1 F_check_web) := by
  refine fn_fl T.f_check_web sc_check_web fun cdv Ar outer s H E F => ?_
  have C := F.e
  exact fs_one (fs_if (ft_not (ft_val (fe_isc T.isc_Web rfl T.n_isinstance rfl T.mc_Web (by decide +kernel) (fe_var 0)))) (fs_one (fs_never)) (fs_nil))
theorem sc_check_asked : FnScope N_check_asked ps_check_asked (defScope s_check_asked) := ⟨rfl, rfl, rfl, by decide +kernel, rfl, by decide +kernel, by decide +kernel⟩
theorem ok_check_asked (T : Txt K mg A) : FnOk P w K mg base (L2.CX P w) 4 A.a_check_asked A.d_check_asked ps_check_asked (spF K mg 2 F_check_asked) := by
  have G_check_standing : FnOk P w K mg base (L2.CX P w) 3 A.a_check_standing A.d_check_standing ps_check_standing (spF K mg 2 F_check_standing) := ok_check_standing T
  have bi_check_standing := bi_check_standing_ T
  have G_check_web : FnOk P w K mg base (L2.CX P w) 1 A.a_check_web A.d_check_web ps_check_web (spF K mg 1 F_check_web) := ok_check_web T
  have bi_check_web := bi_check_web_ T
  refine fn_fl T.f_check_asked sc_check_asked fun cdv Ar outer s H E F => ?_
  have C := F.e
  exact fs_cons (fs_exp (fe_call C G_check_web (by decide) rfl T.m_check_web T.f_check_web.kp bi_check_web (fa_cons (fe_var 0) (fa_nil)) (hlen := (lenC (n := 0) (fun _ _ _ _ h => len0 h)))))
      (fs_one (fs_exp (fe_call C G_check_standing (by decide) rfl T.m_check_standing T.f_check_standing.kp bi_check_standing (fa_cons (fe_var 1) (fa_cons (fe_fld (ak_3 T) (fe_var 0)) (fa_nil))) (hlen := (lenC (n := 1) (lenC (n := 0) (fun _ _ _ _ h => len0 h)))))))
theorem sc_after : FnScope N_after ps_after (defScope s_after) := ⟨rfl, rfl, rfl, by decide +kernel, rfl, by decide +kernel, by decide +kernel⟩
theorem ok_after (T : Txt K mg A) : FnOk P w K mg base (L2.CX P w) 5 A.a_after A.d_after ps_after (spF K mg 3 F_after) := by
  have G_played : FnOk P w K mg base (L2.CX P w) 2 A.a_played A.d_played ps_played (spF K mg 2 F_played) := ok_played T
  have bi_played := bi_played_ T
  have G_check_way : FnOk P w K mg base (L2.CX P w) 3 A.a_check_way A.d_check_way ps_check_way (spF K mg 3 F_check_way) := ok_check_way T
  have bi_check_way := bi_check_way_ T
  have G_check_asked : FnOk P w K mg base (L2.CX P w) 4 A.a_check_asked A.d_check_asked ps_check_asked (spF K mg 2 F_check_asked) := ok_check_asked T
  have bi_check_asked := bi_check_asked_ T
  refine fn_fl T.f_after sc_after fun cdv Ar outer s H E F => ?_
  have C := F.e
  exact fs_cons (fs_exp (fe_call C G_check_asked (by decide) rfl T.m_check_asked T.f_check_asked.kp bi_check_asked (fa_cons (fe_var 0) (fa_cons (fe_var 1) (fa_nil))) (hlen := (lenC (n := 1) (lenC (n := 0) (fun _ _ _ _ h => len0 h))))))
      (fs_cons (fs_exp (fe_call C G_check_way (by decide) rfl T.m_check_way T.f_check_way.kp bi_check_way (fa_cons (fe_var 0) (fa_cons (fe_var 1) (fa_cons (fe_var 2) (fa_nil)))) (hlen := (lenC (n := 2) (lenC (n := 1) (lenC (n := 0) (fun _ _ _ _ h => len0 h)))))))
      (fs_one (fs_ret (fe_call C G_played (by decide) rfl T.m_played T.f_played.kp bi_played (fa_cons (fe_var 1) (fa_cons (fe_var 2) (fa_nil))) (hlen := (lenC (n := 1) (lenC (n := 0) (fun _ _ _ _ h => len0 h))))))))
theorem sc__law_scoop : FnScope N__law_scoop ps__law_scoop (defScope s__law_scoop) := ⟨rfl, rfl, rfl, by decide +kernel, rfl, by decide +kernel, by decide +kernel⟩
theorem ok__law_scoop (T : Txt K mg A) : FnOk P w K mg base (L2.CX P w) 1 A.a__law_scoop A.d__law_scoop ps__law_scoop (spF K mg 2 F__law_scoop) := by
  refine fn_fl T.f__law_scoop sc__law_scoop fun cdv Ar outer s H E F => ?_
  have C := F.e
  exact fs_cons (fs_asg (fe_bin o_add (fe_ix (fe_var 0) (fe_int) (fun _ _ => rfl)) (fe_int)) (fg_sub (fe_var 0) (fe_int) set_ix))
      (fs_cons (fs_if (ft_cmp (o_gt C.hu) (fe_ix (fe_var 0) (fe_int) (fun _ _ => rfl)) (fe_int)) (fs_cons (fs_asg (fe_callB b_divmod rfl T.n_divmod (by decide +kernel) (fa_cons (fe_callTy b_int rfl T.n_int (by decide +kernel) (fa_cons (fe_ix (fe_var 0) (fe_int) (fun _ _ => rfl)) (fa_nil))) (fa_cons (fe_var 1) (fa_nil)))) (fg_tup C.calm (fg_cons (fg_sub (fe_var 0) (fe_int) set_ix) (fg_cons (fg_name (i := 2) C.nd rfl (Or.inl rfl)) (fg_nil)))))
      (fs_one (fs_ret (fe_var 2)))) (fs_nil))
      (fs_cons (fs_asg (fe_bin o_mod (fe_callTy b_int rfl T.n_int (by decide +kernel) (fa_cons (fe_bin o_add (fe_bin o_add (fe_bin o_mul (fe_ix (fe_var 0) (fe_int) (fun _ _ => rfl)) (fe_int)) (fe_bin o_mul (fe_ix (fe_var 0) (fe_int) (fun _ _ => rfl)) (fe_int))) (fe_bin o_mul (fe_bin o_div (fe_ix (fe_var 0) (fe_int) (fun _ _ => rfl)) (fe_int)) (fe_int))) (fa_nil))) (fe_int)) (fg_sub (fe_var 0) (fe_int) set_ix))
      (fs_one (fs_ret (fe_bin o_mod (fe_callTy b_int rfl T.n_int (by decide +kernel) (fa_cons (fe_bin o_div (fe_ix (fe_var 0) (fe_int) (fun _ _ => rfl)) (fe_int)) (fa_nil))) (fe_var 1))))))
theorem sc__law_one : FnScope N__law_one ps__law_one (defScope s__law_one) := ⟨rfl, rfl, rfl, by decide +kernel, rfl, by decide +kernel, by decide +kernel⟩
theorem ok__law_one (T : Txt K mg A) : FnOk P w K mg base (L2.CX P w) 2 A.a__law_one A.d__law_one ps__law_one (spF K mg 2 F__law_one) := by
  have G__law_scoop : FnOk P w K mg base (L2.CX P w) 1 A.a__law_scoop A.d__law_scoop ps__law_scoop (spF K mg 2 F__law_scoop) := ok__law_scoop T
  have bi__law_scoop := bi__law_scoop_ T
  refine fn_fl T.f__law_one sc__law_one fun cdv Ar outer s H E F => ?_
  have C := F.e
  exact fs_one (fs_ret (fe_ix (fe_var 1) (fe_call C G__law_scoop (by decide) rfl T.m__law_scoop T.f__law_scoop.kp bi__law_scoop (fa_cons (fe_var 0) (fa_cons (fe_callB b_len rfl T.n_len (by decide +kernel) (fa_cons (fe_var 1) (fa_nil))) (fa_nil))) (hlen := (lenC (n := 1) (lenC (n := 0) (fun _ _ _ _ h => len0 h))))) (fun _ _ => rfl)))
theorem sc_unlike : FnScope N_unlike ps_unlike (defScope s_unlike) := ⟨rfl, rfl, rfl, by decide +kernel, rfl, by decide +kernel, by decide +kernel⟩
theorem ok_unlike (T : Txt K mg A) : FnOk P w K mg base (L2.CX P w) 1 A.a_unlike A.d_unlike ps_unlike (spF K mg 2 F_unlike) := by
  refine fn_fl T.f_unlike sc_unlike fun cdv Ar outer s H E F => ?_
  have C := F.e
  exact fs_cons (fs_setlcC (i := 2) (own := [("place", 3)]) C rfl rfl (sw_true rfl rfl rfl (by decide +kernel)) (fi_seq (fe_var 0)) (blkOk_by (own := [("place", 3)]) (N := N_unlike) (sc := defScope s_unlike) (by decide +kernel)) (fun s H a cl fp C => pg_name (i := 3) C.nd rfl (Or.inl rfl)) (ct_name (by decide)) (fun s H a cl fp C => fts_one (ft_cmp (o_notin C.hu) (fe_var 3) (fe_var 1) (by rfl))) (fun s H a cl fp C => fe_var 3))
      (fs_one (fs_ret (fe_callTy b_tuple rfl T.n_tuple (by decide +kernel) (fa_cons (fe_callB (b_sorted C.hu) rfl T.n_sorted (by decide +kernel) (fa_cons (fe_bin o_add (fe_var 2) (fe_lcC (own := [("place", 3)]) C (fi_seq (fe_var 1)) (blkOk_by (own := [("place", 3)]) (N := N_unlike) (sc := defScope s_unlike) (by decide +kernel)) (fun s H a cl fp C => pg_name (i := 3) C.nd rfl (Or.inl rfl)) (ct_name (by decide)) (fun s H a cl fp C => fts_one (ft_cmp (o_notin C.hu) (fe_var 3) (fe_var 0) (by rfl))) (fun s H a cl fp C => fe_var 3))) (fa_nil))) (fa_nil)))))
theorem sc_difference : FnScope N_difference ps_difference (defScope s_difference) := ⟨rfl, rfl, rfl, by decide +kernel, rfl, by decide +kernel, by decide +kernel⟩
theorem ok_difference (T : Txt K mg A) : FnOk P w K mg base (L2.CX P w) 5 A.a_difference A.d_difference ps_difference (spF K mg 3 F_difference) := by
  have G_unlike : FnOk P w K mg base (L2.CX P w) 1 A.a_unlike A.d_unlike ps_unlike (spF K mg 2 F_unlike) := ok_unlike T
  have bi_unlike := bi_unlike_ T
  have G_check_standing : FnOk P w K mg base (L2.CX P w) 3 A.a_check_standing A.d_check_standing ps_check_standing (spF K mg 2 F_check_standing) := ok_check_standing T
  have bi_check_standing := bi_check_standing_ T
  have G_check_asked : FnOk P w K mg base (L2.CX P w) 4 A.a_check_asked A.d_check_asked ps_check_asked (spF K mg 2 F_check_asked) := ok_check_asked T
  have bi_check_asked := bi_check_asked_ T
  refine fn_fl T.f_difference sc_difference fun cdv Ar outer s H E F => ?_
  have C := F.e
  exact fs_cons (fs_exp (fe_call C G_check_asked (by decide) rfl T.m_check_asked T.f_check_asked.kp bi_check_asked (fa_cons (fe_var 0) (fa_cons (fe_var 1) (fa_nil))) (hlen := (lenC (n := 1) (lenC (n := 0) (fun _ _ _ _ h => len0 h))))))
      (fs_cons (fs_exp (fe_call C G_check_standing (by decide) rfl T.m_check_standing T.f_check_standing.kp bi_check_standing (fa_cons (fe_var 2) (fa_cons (fe_fld (ak_3 T) (fe_var 0)) (fa_nil))) (hlen := (lenC (n := 1) (lenC (n := 0) (fun _ _ _ _ h => len0 h))))))
      (fs_one (fs_ret (fe_call C G_unlike (by decide) rfl T.m_unlike T.f_unlike.kp bi_unlike (fa_cons (fe_var 1) (fa_cons (fe_var 2) (fa_nil))) (hlen := (lenC (n := 1) (lenC (n := 0) (fun _ _ _ _ h => len0 h))))))))
theorem sc__law_moved : FnScope N__law_moved ps__law_moved (defScope s__law_moved) := ⟨rfl, rfl, rfl, by decide +kernel, rfl, by decide +kernel, by decide +kernel⟩
theorem ok__law_moved (T : Txt K mg A) : FnOk P w K mg base (L2.CX P w) 1 A.a__law_moved A.d__law_moved ps__law_moved (spF K mg 2 F__law_moved) := by
  refine fn_fl T.f__law_moved sc__law_moved fun cdv Ar outer s H E F => ?_
  have C := F.e
  exact fs_cons (fs_setlcC (i := 2) (own := [("_law_p", 3)]) C rfl rfl (sw_true rfl rfl rfl (by decide +kernel)) (fi_seq (fe_var 0)) (blkOk_by (own := [("_law_p", 3)]) (N := N__law_moved) (sc := defScope s__law_moved) (by decide +kernel)) (fun s H a cl fp C => pg_name (i := 3) C.nd rfl (Or.inl rfl)) (ct_name (by decide)) (fun s H a cl fp C => fts_one (ft_cmp (o_ne C.hu) (fe_var 3) (fe_ix (fe_var 1) (fe_int) (fun _ _ => rfl)))) (fun s H a cl fp C => fe_var 3))
      (fs_one (fs_ret (fe_callTy b_tuple rfl T.n_tuple (by decide +kernel) (fa_cons (fe_callB (b_sorted C.hu) rfl T.n_sorted (by decide +kernel) (fa_cons (fe_if (ft_cmp (o_in C.hu) (fe_ix (fe_var 1) (fe_int) (fun _ _ => rfl)) (fe_var 2) (by rfl)) (fe_lcC (own := [("_law_p", 3)]) C (fi_seq (fe_var 2)) (blkOk_by (own := [("_law_p", 3)]) (N := N__law_moved) (sc := defScope s__law_moved) (by decide +kernel)) (fun s H a cl fp C => pg_name (i := 3) C.nd rfl (Or.inl rfl)) (ct_name (by decide)) (fun s H a cl fp C => fts_one (ft_cmp (o_ne C.hu) (fe_var 3) (fe_ix (fe_var 1) (fe_int) (fun _ _ => rfl)))) (fun s H a cl fp C => fe_var 3)) (fe_bin o_add (fe_var 2) (fe_lst (fa_cons (fe_ix (fe_var 1) (fe_int) (fun _ _ => rfl)) (fa_nil))))) (fa_nil))) (fa_nil)))))
theorem sc_moves : FnScope N_moves ps_moves (defScope s_moves) := ⟨rfl, rfl, rfl, by decide +kernel, rfl, by decide +kernel, by decide +kernel⟩
theorem ok_moves (T : Txt K mg A) : FnOk P w K mg base (L2.CX P w) 5 A.a_moves A.d_moves ps_moves (spF K mg 2 F_moves) := by
  have G_ways_from : FnOk P w K mg base (L2.CX P w) 1 A.a_ways_from A.d_ways_from ps_ways_from (spF K mg 2 F_ways_from) := ok_ways_from T
  have bi_ways_from := bi_ways_from_ T
  have G_check_asked : FnOk P w K mg base (L2.CX P w) 4 A.a_check_asked A.d_check_asked ps_check_asked (spF K mg 2 F_check_asked) := ok_check_asked T
  have bi_check_asked := bi_check_asked_ T
  refine fn_fl T.f_moves sc_moves fun cdv Ar outer s H E F => ?_
  have C := F.e
  exact fs_cons (fs_exp (fe_call C G_check_asked (by decide) rfl T.m_check_asked T.f_check_asked.kp bi_check_asked (fa_cons (fe_var 0) (fa_cons (fe_var 1) (fa_nil))) (hlen := (lenC (n := 1) (lenC (n := 0) (fun _ _ _ _ h => len0 h))))))
      (fs_one (fs_ret (fe_call C G_ways_from (by decide) rfl T.m_ways_from T.f_ways_from.kp bi_ways_from (fa_cons (fe_var 0) (fa_cons (fe_var 1) (fa_nil))) (hlen := (lenC (n := 1) (lenC (n := 0) (fun _ _ _ _ h => len0 h)))))))
theorem sc__law_some : FnScope N__law_some ps__law_some (defScope s__law_some) := ⟨rfl, rfl, rfl, by decide +kernel, rfl, by decide +kernel, by decide +kernel⟩
theorem ok__law_some (T : Txt K mg A) : FnOk P w K mg base (L2.CX P w) 2 A.a__law_some A.d__law_some ps__law_some (spF K mg 2 F__law_some) := by
  have G__law_scoop : FnOk P w K mg base (L2.CX P w) 1 A.a__law_scoop A.d__law_scoop ps__law_scoop (spF K mg 2 F__law_scoop) := ok__law_scoop T
  have bi__law_scoop := bi__law_scoop_ T
  refine fn_fl T.f__law_some sc__law_some fun cdv Ar outer s H E F => ?_
  have C := F.e
  exact fs_one (fs_ret (fe_callTy b_tuple rfl T.n_tuple (by decide +kernel) (fa_cons (fe_lcC (own := [("_law_p", 2)]) C (fi_rg1 rfl T.n_range (fa_cons (fe_var 1) (fa_nil))) (blkOk_by (own := [("_law_p", 2)]) (N := N__law_some) (sc := defScope s__law_some) (by decide +kernel)) (fun s H a cl fp C => pg_name (i := 2) C.nd rfl (Or.inl rfl)) (ct_name (by decide)) (fun s H a cl fp C => fts_one (ft_cmp (o_eq C.hu) (fe_call C G__law_scoop (by decide) rfl T.m__law_scoop T.f__law_scoop.kp bi__law_scoop (fa_cons (fe_var 0) (fa_cons (fe_int) (fa_nil))) (hlen := (lenC (n := 1) (lenC (n := 0) (fun _ _ _ _ h => len0 h))))) (fe_int))) (fun s H a cl fp C => fe_var 2)) (fa_nil))))
theorem sc_goals_of : FnScope N_goals_of ps_goals_of (defScope s_goals_of) := ⟨rfl, rfl, rfl, by decide +kernel, rfl, by decide +kernel, by decide +kernel⟩
theorem ok_goals_of (T : Txt K mg A) : FnOk P w K mg base (L2.CX P w) 1 A.a_goals_of A.d_goals_of ps_goals_of (spF K mg 2 F_goals_of) := by
  refine fn_fl T.f_goals_of sc_goals_of fun cdv Ar outer s H E F => ?_
  have C := F.e
  exact fs_one (fs_ret (fe_callTy b_tuple rfl T.n_tuple (by decide +kernel) (fa_cons (fe_lcC (own := [("start", 2), ("goal", 3)]) C (fi_seq (fe_var 0)) (blkOk_by (own := [("start", 2), ("goal", 3)]) (N := N_goals_of) (sc := defScope s_goals_of) (by decide +kernel)) (fun s H a cl fp C => pg_tup C.calm (pgs_cons (pg_name (i := 2) C.nd rfl (Or.inl rfl)) (pgs_cons (pg_name (i := 3) C.nd rfl (Or.inl rfl)) (pgs_nil)))) (ct_tup (cts_cons (ct_name (by decide)) (cts_cons (ct_name (by decide)) (cts_nil)))) (fun s H a cl fp C => fts_one (ft_cmp (o_eq C.hu) (fe_var 2) (fe_var 1))) (fun s H a cl fp C => fe_var 3)) (fa_nil))))
theorem sc_does_lead : FnScope N_does_lead ps_does_lead (defScope s_does_lead) := ⟨rfl, rfl, rfl, by decide +kernel, rfl, by decide +kernel, by decide +kernel⟩
theorem ok_does_lead (T : Txt K mg A) : FnOk P w K mg base (L2.CX P w) 2 A.a_does_lead A.d_does_lead ps_does_lead (spF K mg 3 F_does_lead) := by
  have G_goals_of : FnOk P w K mg base (L2.CX P w) 1 A.a_goals_of A.d_goals_of ps_goals_of (spF K mg 2 F_goals_of) := ok_goals_of T
  have bi_goals_of := bi_goals_of_ T
  refine fn_fl T.f_does_lead sc_does_lead fun cdv Ar outer s H E F => ?_
  have C := F.e
  exact fs_cons (fs_par (i := 3) (j := 4) C.calm C.nd rfl rfl (by decide) rfl rfl (fa_cons (fe_lst (fa_cons (fe_var 1) (fa_nil))) (fa_cons (fe_lst (fa_cons (fe_var 1) (fa_nil))) (fa_nil))) (by rfl))
      (fs_cons (fs_wh 1000000 F (ft_cmp (o_gt C.hu) (fe_callB b_len rfl T.n_len (by decide +kernel) (fa_cons (fe_var 4) (fa_nil))) (fe_int)) (fs_cons (fs_set (i := 5) C.nd rfl (Or.inl rfl) (fe_pop (fe_var 4)))
      (fs_one (fs_for F (fi_seq (fe_call C G_goals_of (by decide) rfl T.m_goals_of T.f_goals_of.kp bi_goals_of (fa_cons (fe_var 0) (fa_cons (fe_var 5) (fa_nil))) (hlen := (lenC (n := 1) (lenC (n := 0) (fun _ _ _ _ h => len0 h)))))) (fg_name (i := 6) C.nd rfl (Or.inl rfl)) (fs_one (fs_if (ft_cmp (o_notin C.hu) (fe_var 6) (fe_var 3) (by rfl)) (fs_cons (fs_exp (fe_append (fe_var 3) (fa_cons (fe_var 6) (fa_nil))))
      (fs_one (fs_exp (fe_append (fe_var 4) (fa_cons (fe_var 6) (fa_nil)))))) (fs_nil)))))))
      (fs_one (fs_ret (fe_cmp (o_in C.hu) (fe_var 2) (fe_var 3) (by rfl)))))
theorem sc_is_way : FnScope N_is_way ps_is_way (defScope s_is_way) := ⟨rfl, rfl, rfl, by decide +kernel, rfl, by decide +kernel, by decide +kernel⟩
theorem ok_is_way (T : Txt K mg A) : FnOk P w K mg base (L2.CX P w) 2 A.a_is_way A.d_is_way ps_is_way (spF K mg 2 F_is_way) := by
  have G_is_between : FnOk P w K mg base (L2.CX P w) 1 A.a_is_between A.d_is_between ps_is_between (spF K mg 3 F_is_between) := ok_is_between T
  have bi_is_between := bi_is_between_ T
  refine fn_fl T.f_is_way sc_is_way fun cdv Ar outer s H E F => ?_
  have C := F.e
  exact fs_cons (fs_if (ft_w (fw_or (ft_not (ft_val (fe_isi rfl T.n_isinstance rfl T.n_tuple (by decide +kernel) (by decide +kernel) isi_tuple (fe_var 0)))) (fw_or1 (ft_cmp (o_ne C.hu) (fe_callB b_len rfl T.n_len (by decide +kernel) (fa_cons (fe_var 0) (fa_nil))) (fe_int))))) (fs_one (fs_ret (fe_bl))) (fs_nil))
      (fs_one (fs_ret (fe_and (fe_callB (b_all C.calm) rfl T.n_all (by decide +kernel) (fa_cons (fe_lcC (own := [("place", 2)]) C (fi_seq (fe_var 0)) (blkOk_by (own := [("place", 2)]) (N := N_is_way) (sc := defScope s_is_way) (by decide +kernel)) (fun s H a cl fp C => pg_name (i := 2) C.nd rfl (Or.inl rfl)) (ct_name (by decide)) (fun s H a cl fp C => fts_nil) (fun s H a cl fp C => fe_call C G_is_between (by decide) rfl T.m_is_between T.f_is_between.kp bi_is_between (fa_cons (fe_var 2) (fa_cons (fe_int) (fa_cons (fe_bin o_sub (fe_var 1) (fe_int)) (fa_nil)))) (hlen := (lenC (n := 2) (lenC (n := 1) (lenC (n := 0) (fun _ _ _ _ h => len0 h))))))) (fa_nil))) (fe_one (fe_cmp (o_ne C.hu) (fe_ix (fe_var 0) (fe_int) (fun _ _ => rfl)) (fe_ix (fe_var 0) (fe_int) (fun _ _ => rfl)))))))
theorem sc_wrong_way : FnScope N_wrong_way ps_wrong_way (defScope s_wrong_way) := ⟨rfl, rfl, rfl, by decide +kernel, rfl, by decide +kernel, by decide +kernel⟩
theorem ok_wrong_way (T : Txt K mg A) : FnOk P w K mg base (L2.CX P w) 3 A.a_wrong_way A.d_wrong_way ps_wrong_way (spF K mg 2 F_wrong_way) := by
  have G_is_way : FnOk P w K mg base (L2.CX P w) 2 A.a_is_way A.d_is_way ps_is_way (spF K mg 2 F_is_way) := ok_is_way T
  have bi_is_way := bi_is_way_ T
  refine fn_fl T.f_wrong_way sc_wrong_way fun cdv Ar outer s H E F => ?_
  have C := F.e
  exact fs_cons (fs_for F (fi_enum rfl T.n_enumerate (fa_cons (fe_var 0) (fa_nil))) (fg_tup C.calm (fg_cons (fg_name (i := 2) C.nd rfl (Or.inl rfl)) (fg_cons (fg_name (i := 3) C.nd rfl (Or.inl rfl)) (fg_nil)))) (fs_one (fs_if (ft_w (fw_or (ft_not (ft_val (fe_call C G_is_way (by decide) rfl T.m_is_way T.f_is_way.kp bi_is_way (fa_cons (fe_var 3) (fa_cons (fe_var 1) (fa_nil))) (hlen := (lenC (n := 1) (lenC (n := 0) (fun _ _ _ _ h => len0 h))))))) (fw_or1 (ft_w (fw_and (ft_cmp (o_gt C.hu) (fe_var 2) (fe_int)) (fw_and1 (ft_cmp (o_le C.hu) (fe_var 3) (fe_ix (fe_var 0) (fe_bin o_sub (fe_var 2) (fe_int)) (fun _ _ => rfl))))))))) (fs_one (fs_ret (fe_var 2))) (fs_nil))))
      (fs_one (fs_ret (fe_non)))
theorem sc_check_ways : FnScope N_check_ways ps_check_ways (defScope s_check_ways) := ⟨rfl, rfl, rfl, by decide +kernel, rfl, by decide +kernel, by decide +kernel⟩
theorem ok_check_ways (T : Txt K mg A) : FnOk P w K mg base (L2.CX P w) 4 A.a_check_ways A.d_check_ways ps_check_ways (spF K mg 2 F_check_ways) := by
  have G_wrong_way : FnOk P w K mg base (L2.CX P w) 3 A.a_wrong_way A.d_wrong_way ps_wrong_way (spF K mg 2 F_wrong_way) := ok_wrong_way T
  have bi_wrong_way := bi_wrong_way_ T
  refine fn_fl T.f_check_ways sc_check_ways fun cdv Ar outer s H E F => ?_
  have C := F.e
  exact fs_cons (fs_if (ft_not (ft_val (fe_isi rfl T.n_isinstance rfl T.n_tuple (by decide +kernel) (by decide +kernel) isi_tuple (fe_var 0)))) (fs_one (fs_never)) (fs_nil))
      (fs_cons (fs_set (i := 2) C.nd rfl (Or.inl rfl) (fe_call C G_wrong_way (by decide) rfl T.m_wrong_way T.f_wrong_way.kp bi_wrong_way (fa_cons (fe_var 0) (fa_cons (fe_var 1) (fa_nil))) (hlen := (lenC (n := 1) (lenC (n := 0) (fun _ _ _ _ h => len0 h))))))
      (fs_one (fs_if (ft_cmp o_notN (fe_var 2) (fe_non)) (fs_one (fs_never)) (fs_nil))))
theorem sc_check_count : FnScope N_check_count ps_check_count (defScope s_check_count) := ⟨rfl, rfl, rfl, by decide +kernel, rfl, by decide +kernel, by decide +kernel⟩
theorem ok_check_count (T : Txt K mg A) : FnOk P w K mg base (L2.CX P w) 2 A.a_check_count A.d_check_count ps_check_count (spF K mg 2 F_check_count) := by
  have G_is_between : FnOk P w K mg base (L2.CX P w) 1 A.a_is_between A.d_is_between ps_is_between (spF K mg 3 F_is_between) := ok_is_between T
  have bi_is_between := bi_is_between_ T
  refine fn_fl T.f_check_count sc_check_count fun cdv Ar outer s H E F => ?_
  have C := F.e
  exact fs_one (fs_if (ft_not (ft_val (fe_call C G_is_between (by decide) rfl T.m_is_between T.f_is_between.kp bi_is_between (fa_cons (fe_var 0) (fa_cons (fe_int) (fa_cons (fe_var 1) (fa_nil)))) (hlen := (lenC (n := 2) (lenC (n := 1) (lenC (n := 0) (fun _ _ _ _ h => len0 h)))))))) (fs_one (fs_never)) (fs_nil))
theorem sc_Web___init__ : FnScope N_Web___init__ ps_Web___init__ (defScope s_Web___init__) := ⟨rfl, rfl, rfl, by decide +kernel, rfl, by decide +kernel, by decide +kernel⟩
theorem ok_Web___init__ (T : Txt K mg A) : FnOk P w K mg base (L2.CX P w) 5 A.a_Web___init__ A.d_Web___init__ ps_Web___init__ (spF K mg 3 F_Web___init__) := by
  have G_does_lead : FnOk P w K mg base (L2.CX P w) 2 A.a_does_lead A.d_does_lead ps_does_lead (spF K mg 3 F_does_lead) := ok_does_lead T
  have bi_does_lead := bi_does_lead_ T
  have G_check_ways : FnOk P w K mg base (L2.CX P w) 4 A.a_check_ways A.d_check_ways ps_check_ways (spF K mg 2 F_check_ways) := ok_check_ways T
  have bi_check_ways := bi_check_ways_ T
  have G_check_count : FnOk P w K mg base (L2.CX P w) 2 A.a_check_count A.d_check_count ps_check_count (spF K mg 2 F_check_count) := ok_check_count T
  have bi_check_count := bi_check_count_ T
  refine fnD_fl T.f_Web___init__ sc_Web___init__ fun cdv Ar outer s H E F => ?_
  have C := F.e
  exact fs_cons (fs_exp (fe_call C G_check_count (by decide) rfl T.m_check_count T.f_check_count.kp bi_check_count (fa_cons (fe_var 1) (fa_cons (fe_gint rfl T.c_MOST_PLACES.choose_spec) (fa_nil))) (hlen := (lenC (n := 1) (lenC (n := 0) (fun _ _ _ _ h => len0 h))))))
      (fs_cons (fs_exp (fe_call C G_check_ways (by decide) rfl T.m_check_ways T.f_check_ways.kp bi_check_ways (fa_cons (fe_var 2) (fa_cons (fe_var 1) (fa_nil))) (hlen := (lenC (n := 1) (lenC (n := 0) (fun _ _ _ _ h => len0 h))))))
      (fs_cons (fs_fld (ak_3 T) (fe_var 0) (fe_var 1))
      (fs_cons (fs_fld (ak_2 T) (fe_var 0) (fe_var 2))
      (fs_cons (fs_fld (ak_0 T) (fe_var 0) (fe_tup (fa_cons (fe_var 1) (fa_cons (fe_var 2) (fa_nil)))))
      (fs_one (fs_fld (ak_1 T) (fe_var 0) (fe_callB (b_any C.calm) rfl T.n_any (by decide +kernel) (fa_cons (fe_lcC (own := [("start", 3), ("goal", 4)]) C (fi_seq (fe_var 2)) (blkOk_by (own := [("start", 3), ("goal", 4)]) (N := N_Web___init__) (sc := defScope s_Web___init__) (by decide +kernel)) (fun s H a cl fp C => pg_tup C.calm (pgs_cons (pg_name (i := 3) C.nd rfl (Or.inl rfl)) (pgs_cons (pg_name (i := 4) C.nd rfl (Or.inl rfl)) (pgs_nil)))) (ct_tup (cts_cons (ct_name (by decide)) (cts_cons (ct_name (by decide)) (cts_nil)))) (fun s H a cl fp C => fts_nil) (fun s H a cl fp C => fe_call C G_does_lead (by decide) rfl T.m_does_lead T.f_does_lead.kp bi_does_lead (fa_cons (fe_var 2) (fa_cons (fe_var 4) (fa_cons (fe_var 3) (fa_nil)))) (hlen := (lenC (n := 2) (lenC (n := 1) (lenC (n := 0) (fun _ _ _ _ h => len0 h))))))) (fa_nil)))))))))
theorem sc__law_ways : FnScope N__law_ways ps__law_ways (defScope s__law_ways) := ⟨rfl, rfl, rfl, by decide +kernel, rfl, by decide +kernel, by decide +kernel⟩
theorem ok__law_ways (T : Txt K mg A) : FnOk P w K mg base (L2.CX P w) 2 A.a__law_ways A.d__law_ways ps__law_ways (spF K mg 3 F__law_ways) := by
  have G__law_scoop : FnOk P w K mg base (L2.CX P w) 1 A.a__law_scoop A.d__law_scoop ps__law_scoop (spF K mg 2 F__law_scoop) := ok__law_scoop T
  have bi__law_scoop := bi__law_scoop_ T
  refine fn_fl T.f__law_ways sc__law_ways fun cdv Ar outer s H E F => ?_
  have C := F.e
  exact fs_cons (fs_par (i := 4) (j := 5) C.calm C.nd rfl rfl (by decide) rfl rfl (fa_cons (fe_lst (fa_nil)) (fa_cons (fe_call C G__law_scoop (by decide) rfl T.m__law_scoop T.f__law_scoop.kp bi__law_scoop (fa_cons (fe_var 0) (fa_cons (fe_int) (fa_nil))) (hlen := (lenC (n := 1) (lenC (n := 0) (fun _ _ _ _ h => len0 h))))) (fa_nil))) (by rfl))
      (fs_cons (fs_for F (fi_rg1 rfl T.n_range (fa_cons (fe_var 1) (fa_nil))) (fg_name (i := 3) C.nd rfl (Or.inl rfl)) (fs_one (fs_for F (fi_rg1 rfl T.n_range (fa_cons (fe_var 1) (fa_nil))) (fg_name (i := 6) C.nd rfl (Or.inl rfl)) (fs_one (fs_if (ft_w (fw_and (ft_cmp (o_ne C.hu) (fe_var 3) (fe_var 6)) (fw_and (ft_w (fw_or (ft_cmp (o_gt C.hu) (fe_var 5) (fe_int)) (fw_or1 (ft_cmp (o_gt C.hu) (fe_var 3) (fe_var 6))))) (fw_and1 (ft_cmp (o_lt C.hu) (fe_call C G__law_scoop (by decide) rfl T.m__law_scoop T.f__law_scoop.kp bi__law_scoop (fa_cons (fe_var 0) (fa_cons (fe_int) (fa_nil))) (hlen := (lenC (n := 1) (lenC (n := 0) (fun _ _ _ _ h => len0 h))))) (fe_var 2)))))) (fs_one (fs_exp (fe_append (fe_var 4) (fa_cons (fe_tup (fa_cons (fe_var 3) (fa_cons (fe_var 6) (fa_nil)))) (fa_nil))))) (fs_nil))))))
      (fs_one (fs_ret (fe_callTy b_tuple rfl T.n_tuple (by decide +kernel) (fa_cons (fe_var 4) (fa_nil))))))
theorem sc__law_net : FnScope N__law_net ps__law_net (defScope s__law_net) := ⟨rfl, rfl, rfl, by decide +kernel, rfl, by decide +kernel, by decide +kernel⟩
theorem ok__law_net (T : Txt K mg A) : FnOk P w K mg base (L2.CX P w) 3 A.a__law_net A.d__law_net ps__law_net (spF K mg 2 F__law_net) := by
  have G__law_ways : FnOk P w K mg base (L2.CX P w) 2 A.a__law_ways A.d__law_ways ps__law_ways (spF K mg 3 F__law_ways) := ok__law_ways T
  have bi__law_ways := bi__law_ways_ T
  have G__law_one : FnOk P w K mg base (L2.CX P w) 2 A.a__law_one A.d__law_one ps__law_one (spF K mg 2 F__law_one) := ok__law_one T
  have bi__law_one := bi__law_one_ T
  have G__law_scoop : FnOk P w K mg base (L2.CX P w) 1 A.a__law_scoop A.d__law_scoop ps__law_scoop (spF K mg 2 F__law_scoop) := ok__law_scoop T
  have bi__law_scoop := bi__law_scoop_ T
  refine fn_fl T.f__law_net sc__law_net fun cdv Ar outer s H E F => ?_
  have C := F.e
  exact fs_cons (fs_set (i := 2) C.nd rfl (Or.inl rfl) (fe_bin o_add (fe_int) (fe_call C G__law_scoop (by decide) rfl T.m__law_scoop T.f__law_scoop.kp bi__law_scoop (fa_cons (fe_var 0) (fa_cons (fe_var 1) (fa_nil))) (hlen := (lenC (n := 1) (lenC (n := 0) (fun _ _ _ _ h => len0 h)))))))
      (fs_one (fs_ret (fe_tup (fa_cons (fe_var 2) (fa_cons (fe_call C G__law_ways (by decide) rfl T.m__law_ways T.f__law_ways.kp bi__law_ways (fa_cons (fe_var 0) (fa_cons (fe_var 2) (fa_cons (fe_call C G__law_one (by decide) rfl T.m__law_one T.f__law_one.kp bi__law_one (fa_cons (fe_var 0) (fa_cons (fe_lst (fa_cons (fe_int) (fa_cons (fe_int) (fa_cons (fe_int) (fa_cons (fe_int) (fa_nil)))))) (fa_nil))) (hlen := (lenC (n := 1) (lenC (n := 0) (fun _ _ _ _ h => len0 h))))) (fa_nil)))) (hlen := (lenC (n := 2) (lenC (n := 1) (lenC (n := 0) (fun _ _ _ _ h => len0 h)))))) (fa_nil))))))
theorem sc__law_right : FnScope N__law_right ps__law_right (defScope s__law_right) := ⟨rfl, rfl, rfl, by decide +kernel, rfl, by decide +kernel, by decide +kernel⟩
theorem ok__law_right (T : Txt K mg A) : FnG P w K mg base 7 A.a__law_right A.d__law_right ps__law_right (spF K mg 1 F__law_right) := by
  have G_after : FnOk P w K mg base (L2.CX P w) 5 A.a_after A.d_after ps_after (spF K mg 3 F_after) := ok_after T
  have bi_after := bi_after_ T
  have G__law_one : FnOk P w K mg base (L2.CX P w) 2 A.a__law_one A.d__law_one ps__law_one (spF K mg 2 F__law_one) := ok__law_one T
  have bi__law_one := bi__law_one_ T
  have G_difference : FnOk P w K mg base (L2.CX P w) 5 A.a_difference A.d_difference ps_difference (spF K mg 3 F_difference) := ok_difference T
  have bi_difference := bi_difference_ T
  have G__law_moved : FnOk P w K mg base (L2.CX P w) 1 A.a__law_moved A.d__law_moved ps__law_moved (spF K mg 2 F__law_moved) := ok__law_moved T
  have bi__law_moved := bi__law_moved_ T
  have G_moves : FnOk P w K mg base (L2.CX P w) 5 A.a_moves A.d_moves ps_moves (spF K mg 2 F_moves) := ok_moves T
  have bi_moves := bi_moves_ T
  have G__law_some : FnOk P w K mg base (L2.CX P w) 2 A.a__law_some A.d__law_some ps__law_some (spF K mg 2 F__law_some) := ok__law_some T
  have bi__law_some := bi__law_some_ T
  have G_Web___init__ : FnOk P w K mg base (L2.CX P w) 5 A.a_Web___init__ A.d_Web___init__ ps_Web___init__ (spF K mg 3 F_Web___init__) := ok_Web___init__ T
  have bi_Web___init__ := bi_Web___init___ T
  have G__law_net : FnOk P w K mg base (L2.CX P w) 3 A.a__law_net A.d__law_net ps__law_net (spF K mg 2 F__law_net) := ok__law_net T
  have bi__law_net := bi__law_net_ T
  have kw_difference_0 := kw_difference_0_ T
  have kw_after_1 := kw_after_1_ T
  have kw_moves_2 := kw_moves_2_ T
  refine fnG_fl T.f__law_right sc__law_right fun cdv Ar outer s H E gd F => ?_
  have gd : (cxL P w K mg base N__law_right "_law_right" s__law_right A.a__law_right cdv Ar outer s H E).A.guards = some [] := gd
  have C := F.e
  exact fs_cons (fs_for F (fi_rg1 rfl T.n_range (fa_cons (fe_int) (fa_nil))) (fg_name (i := 1) C.nd rfl (Or.inl rfl)) (fs_cons (fs_asg (fe_call C G__law_net (by decide) rfl T.m__law_net T.f__law_net.kp bi__law_net (fa_cons (fe_var 0) (fa_cons (fe_int) (fa_nil))) (hlen := (lenC (n := 1) (lenC (n := 0) (fun _ _ _ _ h => len0 h))))) (fg_tup C.calm (fg_cons (fg_name (i := 6) C.nd rfl (Or.inl rfl)) (fg_cons (fg_name (i := 7) C.nd rfl (Or.inl rfl)) (fg_nil)))))
      (fs_cons (fs_asg (fe_tup (fa_cons (fe_make C T.mk_Web G_Web___init__ (by decide) rfl T.mc_Web bi_Web___init__ .nil (fun _ _ => .nil) (fa_cons (fe_var 6) (fa_cons (fe_var 7) (fa_nil))) (hlen := lenM (lenC (n := 1) (lenC (n := 0) (fun _ _ _ _ h => len0 h))))) (fa_cons (fe_call C G__law_some (by decide) rfl T.m__law_some T.f__law_some.kp bi__law_some (fa_cons (fe_var 0) (fa_cons (fe_var 6) (fa_nil))) (hlen := (lenC (n := 1) (lenC (n := 0) (fun _ _ _ _ h => len0 h))))) (fa_cons (fe_call C G__law_some (by decide) rfl T.m__law_some T.f__law_some.kp bi__law_some (fa_cons (fe_var 0) (fa_cons (fe_var 6) (fa_nil))) (hlen := (lenC (n := 1) (lenC (n := 0) (fun _ _ _ _ h => len0 h))))) (fa_nil))))) (fg_tup C.calm (fg_cons (fg_name (i := 8) C.nd rfl (Or.inl rfl)) (fg_cons (fg_name (i := 9) C.nd rfl (Or.inr rfl)) (fg_cons (fg_name (i := 10) C.nd rfl (Or.inr rfl)) (fg_nil))))))
      (fs_cons (fs_set (i := 2) C.nd rfl (Or.inl rfl) (fe_callTy b_tuple rfl T.n_tuple (by decide +kernel) (fa_cons (fe_lcC (own := [("_law_way", 3)]) C (fi_seq (fe_var 7)) (blkOk_by (own := [("_law_way", 3)]) (N := N__law_right) (sc := defScope s__law_right) (by decide +kernel)) (fun s H a cl fp C => pg_name (i := 3) C.nd rfl (Or.inl rfl)) (ct_name (by decide)) (fun s H a cl fp C => fts_one (ft_cmp (o_in C.hu) (fe_ix (fe_var 3) (fe_int) (fun _ _ => rfl)) (fe_var 9) (by rfl))) (fun s H a cl fp C => fe_var 3)) (fa_nil))))
      (fs_cons (fs_if (ft_cmp (o_ne C.hu) (fe_callB (b_repr gd C.hu) rfl T.n_repr (by decide +kernel) (fa_cons (fe_lst (fa_cons (fe_call C G_moves (by decide) rfl T.m_moves T.f_moves.kp bi_moves (fa_cons (fe_var 8) (fa_cons (fe_var 9) (fa_nil))) (hlen := (lenC (n := 1) (lenC (n := 0) (fun _ _ _ _ h => len0 h))))) (fa_cons (fe_callK0 (x := "moves") C gd (FnG.of G_moves) (by decide) rfl T.m_moves T.f_moves.kp kw_moves_2 (fun l h => match l, h with | [_, _], _ => rfl) (fk_cons (fe_var 9) (fk_cons (fe_var 8) (fk_nil))) (lenC (n := 1) (lenC (n := 0) (fun _ _ _ _ h => len0 h)))) (fa_nil)))) (fa_nil))) (fe_callB (b_repr gd C.hu) rfl T.n_repr (by decide +kernel) (fa_cons (fe_lst (fa_cons (fe_var 2) (fa_cons (fe_var 2) (fa_nil)))) (fa_nil)))) (fs_one (fs_ret (fe_bl))) (fs_nil))
      (fs_cons (fs_for F (fi_seq (fe_var 2)) (fg_name (i := 3) C.nd rfl (Or.inl rfl)) (fs_cons (fs_set (i := 5) C.nd rfl (Or.inl rfl) (fe_lst (fa_cons (fe_call C G_after (by decide) rfl T.m_after T.f_after.kp bi_after (fa_cons (fe_var 8) (fa_cons (fe_var 9) (fa_cons (fe_var 3) (fa_nil)))) (hlen := (lenC (n := 2) (lenC (n := 1) (lenC (n := 0) (fun _ _ _ _ h => len0 h)))))) (fa_cons (fe_callK0 (x := "after") C gd (FnG.of G_after) (by decide) rfl T.m_after T.f_after.kp kw_after_1 (fun l h => match l, h with | [_, _, _], _ => rfl) (fk_cons (fe_var 3) (fk_cons (fe_var 9) (fk_cons (fe_var 8) (fk_nil)))) (lenC (n := 2) (lenC (n := 1) (lenC (n := 0) (fun _ _ _ _ h => len0 h))))) (fa_nil)))))
      (fs_one (fs_if (ft_cmp (o_ne C.hu) (fe_callB (b_repr gd C.hu) rfl T.n_repr (by decide +kernel) (fa_cons (fe_var 5) (fa_nil))) (fe_callB (b_repr gd C.hu) rfl T.n_repr (by decide +kernel) (fa_cons (fe_bin o_mul (fe_lst (fa_cons (fe_call C G__law_moved (by decide) rfl T.m__law_moved T.f__law_moved.kp bi__law_moved (fa_cons (fe_var 9) (fa_cons (fe_var 3) (fa_nil))) (hlen := (lenC (n := 1) (lenC (n := 0) (fun _ _ _ _ h => len0 h))))) (fa_nil))) (fe_int)) (fa_nil)))) (fs_one (fs_ret (fe_bl))) (fs_nil)))))
      (fs_cons (fs_set (i := 4) C.nd rfl (Or.inl rfl) (fe_callTy b_tuple rfl T.n_tuple (by decide +kernel) (fa_cons (fe_lcC (own := [("_law_p", 16)]) C (fi_rg1 rfl T.n_range (fa_cons (fe_var 6) (fa_nil))) (blkOk_by (own := [("_law_p", 16)]) (N := N__law_right) (sc := defScope s__law_right) (by decide +kernel)) (fun s H a cl fp C => pg_name (i := 16) C.nd rfl (Or.inl rfl)) (ct_name (by decide)) (fun s H a cl fp C => fts_one (ft_cmp (o_ne C.hu) (fe_cmp (o_in C.hu) (fe_var 16) (fe_var 9) (by rfl)) (fe_cmp (o_in C.hu) (fe_var 16) (fe_var 10) (by rfl)))) (fun s H a cl fp C => fe_var 16)) (fa_nil))))
      (fs_cons (fs_set (i := 5) C.nd rfl (Or.inl rfl) (fe_lst (fa_cons (fe_call C G_difference (by decide) rfl T.m_difference T.f_difference.kp bi_difference (fa_cons (fe_var 8) (fa_cons (fe_var 9) (fa_cons (fe_var 10) (fa_nil)))) (hlen := (lenC (n := 2) (lenC (n := 1) (lenC (n := 0) (fun _ _ _ _ h => len0 h)))))) (fa_cons (fe_callK0 (x := "difference") C gd (FnG.of G_difference) (by decide) rfl T.m_difference T.f_difference.kp kw_difference_0 (fun l h => match l, h with | [_, _, _], _ => rfl) (fk_cons (fe_var 10) (fk_cons (fe_var 9) (fk_cons (fe_var 8) (fk_nil)))) (lenC (n := 2) (lenC (n := 1) (lenC (n := 0) (fun _ _ _ _ h => len0 h))))) (fa_nil)))))
      (fs_cons (fs_if (ft_w (fw_or (ft_cmp (o_ne C.hu) (fe_callB (b_repr gd C.hu) rfl T.n_repr (by decide +kernel) (fa_cons (fe_var 5) (fa_nil))) (fe_callB (b_repr gd C.hu) rfl T.n_repr (by decide +kernel) (fa_cons (fe_lst (fa_cons (fe_var 4) (fa_cons (fe_var 4) (fa_nil)))) (fa_nil)))) (fw_or1 (ft_cmp (o_ne C.hu) (fe_call C G_difference (by decide) rfl T.m_difference T.f_difference.kp bi_difference (fa_cons (fe_var 8) (fa_cons (fe_var 9) (fa_cons (fe_var 9) (fa_nil)))) (hlen := (lenC (n := 2) (lenC (n := 1) (lenC (n := 0) (fun _ _ _ _ h => len0 h)))))) (fe_tup (fa_nil)))))) (fs_one (fs_ret (fe_bl))) (fs_nil))
      (fs_cons (fs_if (ft_cmp (o_ne C.hu) (fe_call C G_difference (by decide) rfl T.m_difference T.f_difference.kp bi_difference (fa_cons (fe_var 8) (fa_cons (fe_var 9) (fa_cons (fe_tup (fa_nil)) (fa_nil)))) (hlen := (lenC (n := 2) (lenC (n := 1) (lenC (n := 0) (fun _ _ _ _ h => len0 h)))))) (fe_var 9)) (fs_one (fs_ret (fe_bl))) (fs_nil))
      (fs_cons (fs_if (ft_cmp (o_gt C.hu) (fe_callB b_len rfl T.n_len (by decide +kernel) (fa_cons (fe_var 2) (fa_nil))) (fe_int)) (fs_cons (fs_par (i := 12) (j := 13) C.calm C.nd rfl rfl (by decide) rfl rfl (fa_cons (fe_call C G__law_one (by decide) rfl T.m__law_one T.f__law_one.kp bi__law_one (fa_cons (fe_var 0) (fa_cons (fe_var 2) (fa_nil))) (hlen := (lenC (n := 1) (lenC (n := 0) (fun _ _ _ _ h => len0 h))))) (fa_cons (fe_call C G__law_one (by decide) rfl T.m__law_one T.f__law_one.kp bi__law_one (fa_cons (fe_var 0) (fa_cons (fe_var 2) (fa_nil))) (hlen := (lenC (n := 1) (lenC (n := 0) (fun _ _ _ _ h => len0 h))))) (fa_nil))) (by rfl))
      (fs_cons (fs_set (i := 11) C.nd rfl (Or.inl rfl) (fe_and (fe_cmp (o_notin C.hu) (fe_ix (fe_var 12) (fe_int) (fun _ _ => rfl)) (fe_var 13) (by rfl)) (fe_one (fe_cmp (o_notin C.hu) (fe_ix (fe_var 13) (fe_int) (fun _ _ => rfl)) (fe_var 12) (by rfl)))))
      (fs_cons (fs_par (i := 14) (j := 15) C.calm C.nd rfl rfl (by decide) rfl rfl (fa_cons (fe_call C G_after (by decide) rfl T.m_after T.f_after.kp bi_after (fa_cons (fe_var 8) (fa_cons (fe_var 9) (fa_cons (fe_var 12) (fa_nil)))) (hlen := (lenC (n := 2) (lenC (n := 1) (lenC (n := 0) (fun _ _ _ _ h => len0 h)))))) (fa_cons (fe_call C G_after (by decide) rfl T.m_after T.f_after.kp bi_after (fa_cons (fe_var 8) (fa_cons (fe_var 9) (fa_cons (fe_var 13) (fa_nil)))) (hlen := (lenC (n := 2) (lenC (n := 1) (lenC (n := 0) (fun _ _ _ _ h => len0 h)))))) (fa_nil))) (by rfl))
      (fs_one (fs_if (ft_w (fw_and (ft_val (fe_var 11)) (fw_and1 (ft_cmp (o_ne C.hu) (fe_call C G_after (by decide) rfl T.m_after T.f_after.kp bi_after (fa_cons (fe_var 8) (fa_cons (fe_var 14) (fa_cons (fe_var 13) (fa_nil)))) (hlen := (lenC (n := 2) (lenC (n := 1) (lenC (n := 0) (fun _ _ _ _ h => len0 h)))))) (fe_call C G_after (by decide) rfl T.m_after T.f_after.kp bi_after (fa_cons (fe_var 8) (fa_cons (fe_var 15) (fa_cons (fe_var 12) (fa_nil)))) (hlen := (lenC (n := 2) (lenC (n := 1) (lenC (n := 0) (fun _ _ _ _ h => len0 h)))))))))) (fs_one (fs_ret (fe_bl))) (fs_nil)))))) (fs_nil))
      (fs_one (fs_if (ft_cmp (o_ne C.hu) (fe_fld (ak_0 T) (fe_var 8)) (fe_tup (fa_cons (fe_var 6) (fa_cons (fe_var 7) (fa_nil))))) (fs_one (fs_ret (fe_bl))) (fs_nil))))))))))))))
      (fs_one (fs_ret (fe_bl)))
theorem sc__law_pail : FnScope N__law_pail ps__law_pail (defScope s__law_pail) := ⟨rfl, rfl, rfl, by decide +kernel, rfl, by decide +kernel, by decide +kernel⟩
theorem ok__law_pail (T : Txt K mg A) : FnOk P w K mg base (L2.CX P w) 1 A.a__law_pail A.d__law_pail ps__law_pail (spF K mg 2 F__law_pail) := by
  refine fn_fl T.f__law_pail sc__law_pail fun cdv Ar outer s H E F => ?_
  have C := F.e
  exact fs_cons (fs_set (i := 2) C.nd rfl (Or.inl rfl) (fe_if (ft_cmp (o_lt C.hu) (fe_var 1) (fe_callB b_len rfl T.n_len (by decide +kernel) (fa_cons (fe_var 0) (fa_nil)))) (fe_callTy b_int rfl T.n_int (by decide +kernel) (fa_cons (fe_ix (fe_var 0) (fe_var 1) (fun _ _ => rfl)) (fa_nil))) (fe_bin o_add (fe_bin o_mul (fe_int) (fe_var 1)) (fe_int))))
      (fs_cons (fs_set (i := 3) C.nd rfl (Or.inl rfl) (fe_bin o_add (fe_int) (fe_bin o_mul (fe_int) (fe_var 1))))
      (fs_cons (fs_for F (fi_seq (fe_sl (fe_var 0) (fo_none) (fo_some (fe_int)))) (fg_name (i := 4) C.nd rfl (Or.inl rfl)) (fs_one (fs_set (i := 3) C.nd rfl (Or.inl rfl) (fe_bin o_mod (fe_callTy b_int rfl T.n_int (by decide +kernel) (fa_cons (fe_bin o_add (fe_bin o_mul (fe_var 3) (fe_int)) (fe_bin o_mod (fe_callTy b_int rfl T.n_int (by decide +kernel) (fa_cons (fe_var 4) (fa_nil))) (fe_int))) (fa_nil))) (fe_int)))))
      (fs_one (fs_ret (fe_lst (fa_cons (fe_bin o_mod (fe_callTy b_int rfl T.n_int (by decide +kernel) (fa_cons (fe_bin o_add (fe_bin o_mul (fe_var 3) (fe_int)) (fe_bin o_mod (fe_var 2) (fe_int))) (fa_nil))) (fe_int)) (fa_cons (fe_if (ft_w (fw_or (ft_cmp (o_lt C.hu) (fe_var 2) (fe_int)) (fw_or1 (ft_cmp (o_ge C.hu) (fe_var 2) (fe_bin o_pow (fe_int) (fe_int)))))) (fe_callB b_abs rfl T.n_abs (by decide +kernel) (fa_cons (fe_var 2) (fa_nil))) (fe_int)) (fa_cons (fe_int) (fa_nil)))))))))
theorem sc_law : FnScope N_law ps_law (defScope s_law) := ⟨rfl, rfl, rfl, by decide +kernel, rfl, by decide +kernel, by decide +kernel⟩
theorem ok_law (T : Txt K mg A) : FnG P w K mg base 8 A.a_law A.d_law ps_law (spF K mg 1 F_law) := by
  have G__law_right : FnG P w K mg base 7 A.a__law_right A.d__law_right ps__law_right (spF K mg 1 F__law_right) := ok__law_right T
  have bi__law_right := bi__law_right_ T
  have G__law_pail : FnOk P w K mg base (L2.CX P w) 1 A.a__law_pail A.d__law_pail ps__law_pail (spF K mg 2 F__law_pail) := ok__law_pail T
  have bi__law_pail := bi__law_pail_ T
  refine fnG_fl T.f_law sc_law fun cdv Ar outer s H E gd F => ?_
  have gd : (cxL P w K mg base N_law "law" s_law A.a_law cdv Ar outer s H E).A.guards = some [] := gd
  have C := F.e
  exact fs_one (fs_ret (fe_callB (b_all C.calm) rfl T.n_all (by decide +kernel) (fa_cons (fe_lcC (own := [("_law_k", 1)]) C (fi_rg1 rfl T.n_range (fa_cons (fe_callB (b_max2 C.calm) rfl T.n_max (by decide +kernel) (fa_cons (fe_int) (fa_cons (fe_callB (b_min2 C.calm) rfl T.n_min (by decide +kernel) (fa_cons (fe_callB b_len rfl T.n_len (by decide +kernel) (fa_cons (fe_var 0) (fa_nil))) (fa_cons (fe_int) (fa_nil)))) (fa_nil)))) (fa_nil))) (blkOk_by (own := [("_law_k", 1)]) (N := N_law) (sc := defScope s_law) (by decide +kernel)) (fun s H a cl fp C => pg_name (i := 1) C.nd rfl (Or.inl rfl)) (ct_name (by decide)) (fun s H a cl fp C => fts_nil) (fun s H a cl fp C => fe_callG C gd G__law_right (by decide) rfl T.m__law_right T.f__law_right.kp bi__law_right (fa_cons (fe_call C G__law_pail (by decide) rfl T.m__law_pail T.f__law_pail.kp bi__law_pail (fa_cons (fe_var 0) (fa_cons (fe_var 1) (fa_nil))) (hlen := (lenC (n := 1) (lenC (n := 0) (fun _ _ _ _ h => len0 h))))) (fa_nil)) (hlen := (lenC (n := 0) (fun _ _ _ _ h => len0 h))))) (fa_nil))))
end
theorem all_mk {l : PySem.W.OpenLaw} {w : World} {K : PySem.W.Frag} {h : Heap} {mg : Str → Option Value} {fa : Addr} (X : K.In h) (G : h.Ns mainGlobals mg) (hfa : mg "law" = some (.ref fa))
    {c_Web : Addr}
    {a_toggled : Addr} {od_toggled an_toggled : Option Addr} {sl_toggled : Array (Option Value)} {oc_toggled kV_toggled dc_toggled pm_toggled cd_toggled ct_toggled : Value}
    {a_played : Addr} {od_played an_played : Option Addr} {sl_played : Array (Option Value)} {oc_played kV_played dc_played pm_played cd_played ct_played : Value}
    {a_ways_from : Addr} {od_ways_from an_ways_from : Option Addr} {sl_ways_from : Array (Option Value)} {oc_ways_from kV_ways_from dc_ways_from pm_ways_from cd_ways_from ct_ways_from : Value}
    {a_is_playable : Addr} {od_is_playable an_is_playable : Option Addr} {sl_is_playable : Array (Option Value)} {oc_is_playable kV_is_playable dc_is_playable pm_is_playable cd_is_playable ct_is_playable : Value}
    {a_check_way : Addr} {od_check_way an_check_way : Option Addr} {sl_check_way : Array (Option Value)} {oc_check_way kV_check_way dc_check_way pm_check_way cd_check_way ct_check_way : Value}
    {a_is_between : Addr} {od_is_between an_is_between : Option Addr} {sl_is_between : Array (Option Value)} {oc_is_between kV_is_between dc_is_between pm_is_between cd_is_between ct_is_between : Value}
    {a_wrong_place : Addr} {od_wrong_place an_wrong_place : Option Addr} {sl_wrong_place : Array (Option Value)} {oc_wrong_place kV_wrong_place dc_wrong_place pm_wrong_place cd_wrong_place ct_wrong_place : Value}
    {a_check_standing : Addr} {od_check_standing an_check_standing : Option Addr} {sl_check_standing : Array (Option Value)} {oc_check_standing kV_check_standing dc_check_standing pm_check_standing cd_check_standing ct_check_standing : Value}
    {a_check_web : Addr} {od_check_web an_check_web : Option Addr} {sl_check_web : Array (Option Value)} {oc_check_web kV_check_web dc_check_web pm_check_web cd_check_web ct_check_web : Value}
    {a_check_asked : Addr} {od_check_asked an_check_asked : Option Addr} {sl_check_asked : Array (Option Value)} {oc_check_asked kV_check_asked dc_check_asked pm_check_asked cd_check_asked ct_check_asked : Value}
    {a_after : Addr} {od_after an_after : Option Addr} {sl_after : Array (Option Value)} {oc_after kV_after dc_after pm_after cd_after ct_after : Value}
    {a__law_scoop : Addr} {od__law_scoop an__law_scoop : Option Addr} {sl__law_scoop : Array (Option Value)} {oc__law_scoop kV__law_scoop dc__law_scoop pm__law_scoop cd__law_scoop ct__law_scoop : Value}
    {a__law_one : Addr} {od__law_one an__law_one : Option Addr} {sl__law_one : Array (Option Value)} {oc__law_one kV__law_one dc__law_one pm__law_one cd__law_one ct__law_one : Value}
    {a_unlike : Addr} {od_unlike an_unlike : Option Addr} {sl_unlike : Array (Option Value)} {oc_unlike kV_unlike dc_unlike pm_unlike cd_unlike ct_unlike : Value}
    {a_difference : Addr} {od_difference an_difference : Option Addr} {sl_difference : Array (Option Value)} {oc_difference kV_difference dc_difference pm_difference cd_difference ct_difference : Value}
    {a__law_moved : Addr} {od__law_moved an__law_moved : Option Addr} {sl__law_moved : Array (Option Value)} {oc__law_moved kV__law_moved dc__law_moved pm__law_moved cd__law_moved ct__law_moved : Value}
    {a_moves : Addr} {od_moves an_moves : Option Addr} {sl_moves : Array (Option Value)} {oc_moves kV_moves dc_moves pm_moves cd_moves ct_moves : Value}
    {a__law_some : Addr} {od__law_some an__law_some : Option Addr} {sl__law_some : Array (Option Value)} {oc__law_some kV__law_some dc__law_some pm__law_some cd__law_some ct__law_some : Value}
    {a_goals_of : Addr} {od_goals_of an_goals_of : Option Addr} {sl_goals_of : Array (Option Value)} {oc_goals_of kV_goals_of dc_goals_of pm_goals_of cd_goals_of ct_goals_of : Value}
    {a_does_lead : Addr} {od_does_lead an_does_lead : Option Addr} {sl_does_lead : Array (Option Value)} {oc_does_lead kV_does_lead dc_does_lead pm_does_lead cd_does_lead ct_does_lead : Value}
    {a_is_way : Addr} {od_is_way an_is_way : Option Addr} {sl_is_way : Array (Option Value)} {oc_is_way kV_is_way dc_is_way pm_is_way cd_is_way ct_is_way : Value}
    {a_wrong_way : Addr} {od_wrong_way an_wrong_way : Option Addr} {sl_wrong_way : Array (Option Value)} {oc_wrong_way kV_wrong_way dc_wrong_way pm_wrong_way cd_wrong_way ct_wrong_way : Value}
    {a_check_ways : Addr} {od_check_ways an_check_ways : Option Addr} {sl_check_ways : Array (Option Value)} {oc_check_ways kV_check_ways dc_check_ways pm_check_ways cd_check_ways ct_check_ways : Value}
    {a_check_count : Addr} {od_check_count an_check_count : Option Addr} {sl_check_count : Array (Option Value)} {oc_check_count kV_check_count dc_check_count pm_check_count cd_check_count ct_check_count : Value}
    {a_Web___init__ : Addr} {od_Web___init__ an_Web___init__ : Option Addr} {sl_Web___init__ : Array (Option Value)} {oc_Web___init__ kV_Web___init__ dc_Web___init__ pm_Web___init__ cd_Web___init__ ct_Web___init__ : Value}
    {t_Web___init__ u_Web___init__ : Addr} {tc_Web___init__ : Value} {td_Web___init__ : Option Addr} {ts_Web___init__ : Array (Option Value)} {tn_Web___init__ : Nat}
    {a__law_ways : Addr} {od__law_ways an__law_ways : Option Addr} {sl__law_ways : Array (Option Value)} {oc__law_ways kV__law_ways dc__law_ways pm__law_ways cd__law_ways ct__law_ways : Value}
    {a__law_net : Addr} {od__law_net an__law_net : Option Addr} {sl__law_net : Array (Option Value)} {oc__law_net kV__law_net dc__law_net pm__law_net cd__law_net ct__law_net : Value}
    {a__law_right : Addr} {od__law_right an__law_right : Option Addr} {sl__law_right : Array (Option Value)} {oc__law_right kV__law_right dc__law_right pm__law_right cd__law_right ct__law_right : Value}
    {a__law_pail : Addr} {od__law_pail an__law_pail : Option Addr} {sl__law_pail : Array (Option Value)} {oc__law_pail kV__law_pail dc__law_pail pm__law_pail cd__law_pail ct__law_pail : Value}
    {a_law : Addr} {od_law an_law : Option Addr} {sl_law : Array (Option Value)} {oc_law kV_law dc_law pm_law cd_law ct_law : Value}
    {tk_MOST_PLACES : Tok}
    {cd_Web : ClassData}
    (aC_Web : PySem.W.nsIn K mainGlobals "Web" = some (some (.ref c_Web)))
    (h_toggled : PySem.W.nsIn K mainGlobals "toggled" = some (some (.ref a_toggled)))
    (l_toggled : K.lookup a_toggled = some ⟨oc_toggled, od_toggled, .func (PySem.W.fnOf "toggled" "toggled" (defArgs s_toggled) (defBody s_toggled) (defScope s_toggled) .none kV_toggled dc_toggled pm_toggled an_toggled cd_toggled ct_toggled), sl_toggled⟩)
    (q_toggled : PySem.W.codeIn K cd_toggled "toggled" = true)
    (k_toggled : PySem.W.keepIn K (.ref a_toggled) = true)
    (h_played : PySem.W.nsIn K mainGlobals "played" = some (some (.ref a_played)))
    (l_played : K.lookup a_played = some ⟨oc_played, od_played, .func (PySem.W.fnOf "played" "played" (defArgs s_played) (defBody s_played) (defScope s_played) .none kV_played dc_played pm_played an_played cd_played ct_played), sl_played⟩)
    (q_played : PySem.W.codeIn K cd_played "played" = true)
    (k_played : PySem.W.keepIn K (.ref a_played) = true)
    (h_ways_from : PySem.W.nsIn K mainGlobals "ways_from" = some (some (.ref a_ways_from)))
    (l_ways_from : K.lookup a_ways_from = some ⟨oc_ways_from, od_ways_from, .func (PySem.W.fnOf "ways_from" "ways_from" (defArgs s_ways_from) (defBody s_ways_from) (defScope s_ways_from) .none kV_ways_from dc_ways_from pm_ways_from an_ways_from cd_ways_from ct_ways_from), sl_ways_from⟩)
    (q_ways_from : PySem.W.codeIn K cd_ways_from "ways_from" = true)
    (k_ways_from : PySem.W.keepIn K (.ref a_ways_from) = true)
    (h_is_playable : PySem.W.nsIn K mainGlobals "is_playable" = some (some (.ref a_is_playable)))
    (l_is_playable : K.lookup a_is_playable = some ⟨oc_is_playable, od_is_playable, .func (PySem.W.fnOf "is_playable" "is_playable" (defArgs s_is_playable) (defBody s_is_playable) (defScope s_is_playable) .none kV_is_playable dc_is_playable pm_is_playable an_is_playable cd_is_playable ct_is_playable), sl_is_playable⟩)
    (q_is_playable : PySem.W.codeIn K cd_is_playable "is_playable" = true)
    (k_is_playable : PySem.W.keepIn K (.ref a_is_playable) = true)
    (h_check_way : PySem.W.nsIn K mainGlobals "check_way" = some (some (.ref a_check_way)))
    (l_check_way : K.lookup a_check_way = some ⟨oc_check_way, od_check_way, .func (PySem.W.fnOf "check_way" "check_way" (defArgs s_check_way) (defBody s_check_way) (defScope s_check_way) .none kV_check_way dc_check_way pm_check_way an_check_way cd_check_way ct_check_way), sl_check_way⟩)
    (q_check_way : PySem.W.codeIn K cd_check_way "check_way" = true)
    (k_check_way : PySem.W.keepIn K (.ref a_check_way) = true)
    (h_is_between : PySem.W.nsIn K mainGlobals "is_between" = some (some (.ref a_is_between)))
    (l_is_between : K.lookup a_is_between = some ⟨oc_is_between, od_is_between, .func (PySem.W.fnOf "is_between" "is_between" (defArgs s_is_between) (defBody s_is_between) (defScope s_is_between) .none kV_is_between dc_is_between pm_is_between an_is_between cd_is_between ct_is_between), sl_is_between⟩)
    (q_is_between : PySem.W.codeIn K cd_is_between "is_between" = true)
    (k_is_between : PySem.W.keepIn K (.ref a_is_between) = true)
    (h_wrong_place : PySem.W.nsIn K mainGlobals "wrong_place" = some (some (.ref a_wrong_place)))
    (l_wrong_place : K.lookup a_wrong_place = some ⟨oc_wrong_place, od_wrong_place, .func (PySem.W.fnOf "wrong_place" "wrong_place" (defArgs s_wrong_place) (defBody s_wrong_place) (defScope s_wrong_place) .none kV_wrong_place dc_wrong_place pm_wrong_place an_wrong_place cd_wrong_place ct_wrong_place), sl_wrong_place⟩)
    (q_wrong_place : PySem.W.codeIn K cd_wrong_place "wrong_place" = true)
    (k_wrong_place : PySem.W.keepIn K (.ref a_wrong_place) = true)
    (h_check_standing : PySem.W.nsIn K mainGlobals "check_standing" = some (some (.ref a_check_standing)))
    (l_check_standing : K.lookup a_check_standing = some ⟨oc_check_standing, od_check_standing, .func (PySem.W.fnOf "check_standing" "check_standing" (defArgs s_check_standing) (defBody s_check_standing) (defScope s_check_standing) .none kV_check_standing dc_check_standing pm_check_standing an_check_standing cd_check_standing ct_check_standing), sl_check_standing⟩)
    (q_check_standing : PySem.W.codeIn K cd_check_standing "check_standing" = true)
    (k_check_standing : PySem.W.keepIn K (.ref a_check_standing) = true)
    (h_check_web : PySem.W.nsIn K mainGlobals "check_web" = some (some (.ref a_check_web)))
    (l_check_web : K.lookup a_check_web = some ⟨oc_check_web, od_check_web, .func (PySem.W.fnOf "check_web" "check_web" (defArgs s_check_web) (defBody s_check_web) (defScope s_check_web) .none kV_check_web dc_check_web pm_check_web an_check_web cd_check_web ct_check_web), sl_check_web⟩)
    (q_check_web : PySem.W.codeIn K cd_check_web "check_web" = true)
    (k_check_web : PySem.W.keepIn K (.ref a_check_web) = true)
    (h_check_asked : PySem.W.nsIn K mainGlobals "check_asked" = some (some (.ref a_check_asked)))
    (l_check_asked : K.lookup a_check_asked = some ⟨oc_check_asked, od_check_asked, .func (PySem.W.fnOf "check_asked" "check_asked" (defArgs s_check_asked) (defBody s_check_asked) (defScope s_check_asked) .none kV_check_asked dc_check_asked pm_check_asked an_check_asked cd_check_asked ct_check_asked), sl_check_asked⟩)
    (q_check_asked : PySem.W.codeIn K cd_check_asked "check_asked" = true)
    (k_check_asked : PySem.W.keepIn K (.ref a_check_asked) = true)
    (h_after : PySem.W.nsIn K mainGlobals "after" = some (some (.ref a_after)))
    (l_after : K.lookup a_after = some ⟨oc_after, od_after, .func (PySem.W.fnOf "after" "after" (defArgs s_after) (defBody s_after) (defScope s_after) .none kV_after dc_after pm_after an_after cd_after ct_after), sl_after⟩)
    (q_after : PySem.W.codeIn K cd_after "after" = true)
    (k_after : PySem.W.keepIn K (.ref a_after) = true)
    (h__law_scoop : PySem.W.nsIn K mainGlobals "_law_scoop" = some (some (.ref a__law_scoop)))
    (l__law_scoop : K.lookup a__law_scoop = some ⟨oc__law_scoop, od__law_scoop, .func (PySem.W.fnOf "_law_scoop" "_law_scoop" (defArgs s__law_scoop) (defBody s__law_scoop) (defScope s__law_scoop) .none kV__law_scoop dc__law_scoop pm__law_scoop an__law_scoop cd__law_scoop ct__law_scoop), sl__law_scoop⟩)
    (q__law_scoop : PySem.W.codeIn K cd__law_scoop "_law_scoop" = true)
    (k__law_scoop : PySem.W.keepIn K (.ref a__law_scoop) = true)
    (h__law_one : PySem.W.nsIn K mainGlobals "_law_one" = some (some (.ref a__law_one)))
    (l__law_one : K.lookup a__law_one = some ⟨oc__law_one, od__law_one, .func (PySem.W.fnOf "_law_one" "_law_one" (defArgs s__law_one) (defBody s__law_one) (defScope s__law_one) .none kV__law_one dc__law_one pm__law_one an__law_one cd__law_one ct__law_one), sl__law_one⟩)
    (q__law_one : PySem.W.codeIn K cd__law_one "_law_one" = true)
    (k__law_one : PySem.W.keepIn K (.ref a__law_one) = true)
    (h_unlike : PySem.W.nsIn K mainGlobals "unlike" = some (some (.ref a_unlike)))
    (l_unlike : K.lookup a_unlike = some ⟨oc_unlike, od_unlike, .func (PySem.W.fnOf "unlike" "unlike" (defArgs s_unlike) (defBody s_unlike) (defScope s_unlike) .none kV_unlike dc_unlike pm_unlike an_unlike cd_unlike ct_unlike), sl_unlike⟩)
    (q_unlike : PySem.W.codeIn K cd_unlike "unlike" = true)
    (k_unlike : PySem.W.keepIn K (.ref a_unlike) = true)
    (h_difference : PySem.W.nsIn K mainGlobals "difference" = some (some (.ref a_difference)))
    (l_difference : K.lookup a_difference = some ⟨oc_difference, od_difference, .func (PySem.W.fnOf "difference" "difference" (defArgs s_difference) (defBody s_difference) (defScope s_difference) .none kV_difference dc_difference pm_difference an_difference cd_difference ct_difference), sl_difference⟩)
    (q_difference : PySem.W.codeIn K cd_difference "difference" = true)
    (k_difference : PySem.W.keepIn K (.ref a_difference) = true)
    (h__law_moved : PySem.W.nsIn K mainGlobals "_law_moved" = some (some (.ref a__law_moved)))
    (l__law_moved : K.lookup a__law_moved = some ⟨oc__law_moved, od__law_moved, .func (PySem.W.fnOf "_law_moved" "_law_moved" (defArgs s__law_moved) (defBody s__law_moved) (defScope s__law_moved) .none kV__law_moved dc__law_moved pm__law_moved an__law_moved cd__law_moved ct__law_moved), sl__law_moved⟩)
    (q__law_moved : PySem.W.codeIn K cd__law_moved "_law_moved" = true)
    (k__law_moved : PySem.W.keepIn K (.ref a__law_moved) = true)
    (h_moves : PySem.W.nsIn K mainGlobals "moves" = some (some (.ref a_moves)))
    (l_moves : K.lookup a_moves = some ⟨oc_moves, od_moves, .func (PySem.W.fnOf "moves" "moves" (defArgs s_moves) (defBody s_moves) (defScope s_moves) .none kV_moves dc_moves pm_moves an_moves cd_moves ct_moves), sl_moves⟩)
    (q_moves : PySem.W.codeIn K cd_moves "moves" = true)
    (k_moves : PySem.W.keepIn K (.ref a_moves) = true)
    (h__law_some : PySem.W.nsIn K mainGlobals "_law_some" = some (some (.ref a__law_some)))
    (l__law_some : K.lookup a__law_some = some ⟨oc__law_some, od__law_some, .func (PySem.W.fnOf "_law_some" "_law_some" (defArgs s__law_some) (defBody s__law_some) (defScope s__law_some) .none kV__law_some dc__law_some pm__law_some an__law_some cd__law_some ct__law_some), sl__law_some⟩)
    (q__law_some : PySem.W.codeIn K cd__law_some "_law_some" = true)
    (k__law_some : PySem.W.keepIn K (.ref a__law_some) = true)
    (h_goals_of : PySem.W.nsIn K mainGlobals "goals_of" = some (some (.ref a_goals_of)))
    (l_goals_of : K.lookup a_goals_of = some ⟨oc_goals_of, od_goals_of, .func (PySem.W.fnOf "goals_of" "goals_of" (defArgs s_goals_of) (defBody s_goals_of) (defScope s_goals_of) .none kV_goals_of dc_goals_of pm_goals_of an_goals_of cd_goals_of ct_goals_of), sl_goals_of⟩)
    (q_goals_of : PySem.W.codeIn K cd_goals_of "goals_of" = true)
    (k_goals_of : PySem.W.keepIn K (.ref a_goals_of) = true)
    (h_does_lead : PySem.W.nsIn K mainGlobals "does_lead" = some (some (.ref a_does_lead)))
    (l_does_lead : K.lookup a_does_lead = some ⟨oc_does_lead, od_does_lead, .func (PySem.W.fnOf "does_lead" "does_lead" (defArgs s_does_lead) (defBody s_does_lead) (defScope s_does_lead) .none kV_does_lead dc_does_lead pm_does_lead an_does_lead cd_does_lead ct_does_lead), sl_does_lead⟩)
    (q_does_lead : PySem.W.codeIn K cd_does_lead "does_lead" = true)
    (k_does_lead : PySem.W.keepIn K (.ref a_does_lead) = true)
    (h_is_way : PySem.W.nsIn K mainGlobals "is_way" = some (some (.ref a_is_way)))
    (l_is_way : K.lookup a_is_way = some ⟨oc_is_way, od_is_way, .func (PySem.W.fnOf "is_way" "is_way" (defArgs s_is_way) (defBody s_is_way) (defScope s_is_way) .none kV_is_way dc_is_way pm_is_way an_is_way cd_is_way ct_is_way), sl_is_way⟩)
    (q_is_way : PySem.W.codeIn K cd_is_way "is_way" = true)
    (k_is_way : PySem.W.keepIn K (.ref a_is_way) = true)
    (h_wrong_way : PySem.W.nsIn K mainGlobals "wrong_way" = some (some (.ref a_wrong_way)))
    (l_wrong_way : K.lookup a_wrong_way = some ⟨oc_wrong_way, od_wrong_way, .func (PySem.W.fnOf "wrong_way" "wrong_way" (defArgs s_wrong_way) (defBody s_wrong_way) (defScope s_wrong_way) .none kV_wrong_way dc_wrong_way pm_wrong_way an_wrong_way cd_wrong_way ct_wrong_way), sl_wrong_way⟩)
    (q_wrong_way : PySem.W.codeIn K cd_wrong_way "wrong_way" = true)
    (k_wrong_way : PySem.W.keepIn K (.ref a_wrong_way) = true)
    (h_check_ways : PySem.W.nsIn K mainGlobals "check_ways" = some (some (.ref a_check_ways)))
    (l_check_ways : K.lookup a_check_ways = some ⟨oc_check_ways, od_check_ways, .func (PySem.W.fnOf "check_ways" "check_ways" (defArgs s_check_ways) (defBody s_check_ways) (defScope s_check_ways) .none kV_check_ways dc_check_ways pm_check_ways an_check_ways cd_check_ways ct_check_ways), sl_check_ways⟩)
    (q_check_ways : PySem.W.codeIn K cd_check_ways "check_ways" = true)
    (k_check_ways : PySem.W.keepIn K (.ref a_check_ways) = true)
    (h_check_count : PySem.W.nsIn K mainGlobals "check_count" = some (some (.ref a_check_count)))
    (l_check_count : K.lookup a_check_count = some ⟨oc_check_count, od_check_count, .func (PySem.W.fnOf "check_count" "check_count" (defArgs s_check_count) (defBody s_check_count) (defScope s_check_count) .none kV_check_count dc_check_count pm_check_count an_check_count cd_check_count ct_check_count), sl_check_count⟩)
    (q_check_count : PySem.W.codeIn K cd_check_count "check_count" = true)
    (k_check_count : PySem.W.keepIn K (.ref a_check_count) = true)
    (h_Web___init__ : PySem.W.findIn K (.ref c_Web) "__init__" = some (some (.ref a_Web___init__)))
    (i_Web___init__ : PySem.W.isFn K (.ref a_Web___init__) = true)
    (l_Web___init__ : K.lookup a_Web___init__ = some ⟨oc_Web___init__, od_Web___init__, .func (PySem.W.fnOf "__init__" "Web.__init__" (defArgs s_Web___init__) (defBody s_Web___init__) (defScope s_Web___init__) (.ref t_Web___init__) kV_Web___init__ dc_Web___init__ pm_Web___init__ an_Web___init__ cd_Web___init__ ct_Web___init__), sl_Web___init__⟩)
    (q_Web___init__ : PySem.W.codeIn K cd_Web___init__ "Web.__init__" = true)
    (k_Web___init__ : PySem.W.keepIn K (.ref a_Web___init__) = true)
    (lt_Web___init__ : K.lookup t_Web___init__ = some ⟨tc_Web___init__, td_Web___init__, .seq #[.ref u_Web___init__] tn_Web___init__, ts_Web___init__⟩)
    (h__law_ways : PySem.W.nsIn K mainGlobals "_law_ways" = some (some (.ref a__law_ways)))
    (l__law_ways : K.lookup a__law_ways = some ⟨oc__law_ways, od__law_ways, .func (PySem.W.fnOf "_law_ways" "_law_ways" (defArgs s__law_ways) (defBody s__law_ways) (defScope s__law_ways) .none kV__law_ways dc__law_ways pm__law_ways an__law_ways cd__law_ways ct__law_ways), sl__law_ways⟩)
    (q__law_ways : PySem.W.codeIn K cd__law_ways "_law_ways" = true)
    (k__law_ways : PySem.W.keepIn K (.ref a__law_ways) = true)
    (h__law_net : PySem.W.nsIn K mainGlobals "_law_net" = some (some (.ref a__law_net)))
    (l__law_net : K.lookup a__law_net = some ⟨oc__law_net, od__law_net, .func (PySem.W.fnOf "_law_net" "_law_net" (defArgs s__law_net) (defBody s__law_net) (defScope s__law_net) .none kV__law_net dc__law_net pm__law_net an__law_net cd__law_net ct__law_net), sl__law_net⟩)
    (q__law_net : PySem.W.codeIn K cd__law_net "_law_net" = true)
    (k__law_net : PySem.W.keepIn K (.ref a__law_net) = true)
    (h__law_right : PySem.W.nsIn K mainGlobals "_law_right" = some (some (.ref a__law_right)))
    (l__law_right : K.lookup a__law_right = some ⟨oc__law_right, od__law_right, .func (PySem.W.fnOf "_law_right" "_law_right" (defArgs s__law_right) (defBody s__law_right) (defScope s__law_right) .none kV__law_right dc__law_right pm__law_right an__law_right cd__law_right ct__law_right), sl__law_right⟩)
    (q__law_right : PySem.W.codeIn K cd__law_right "_law_right" = true)
    (k__law_right : PySem.W.keepIn K (.ref a__law_right) = true)
    (h__law_pail : PySem.W.nsIn K mainGlobals "_law_pail" = some (some (.ref a__law_pail)))
    (l__law_pail : K.lookup a__law_pail = some ⟨oc__law_pail, od__law_pail, .func (PySem.W.fnOf "_law_pail" "_law_pail" (defArgs s__law_pail) (defBody s__law_pail) (defScope s__law_pail) .none kV__law_pail dc__law_pail pm__law_pail an__law_pail cd__law_pail ct__law_pail), sl__law_pail⟩)
    (q__law_pail : PySem.W.codeIn K cd__law_pail "_law_pail" = true)
    (k__law_pail : PySem.W.keepIn K (.ref a__law_pail) = true)
    (h_law : PySem.W.nsIn K mainGlobals "law" = some (some (.ref a_law)))
    (l_law : K.lookup a_law = some ⟨oc_law, od_law, .func (PySem.W.fnOf "law" "law" (defArgs s_law) (defBody s_law) (defScope s_law) .none kV_law dc_law pm_law an_law cd_law ct_law), sl_law⟩)
    (q_law : PySem.W.codeIn K cd_law "law" = true)
    (k_law : PySem.W.keepIn K (.ref a_law) = true)
    (pg_Web : PySem.W.plainGet K c_Web Str.empty = true)
    (hd_Web : PySem.W.hasDictIn K c_Web = true)
    (po_Web : PySem.W.plainOver K c_Web = true)
    (sa_Web : PySem.W.findIn K (.ref c_Web) "__setattr__" = some (some (.builtin "object.__setattr__")))
    (mk_Web : PySem.W.makesIn K c_Web = true)
    (kc_Web : PySem.W.keepIn K (.ref c_Web) = true)
    (na_Web_count : PySem.W.findIn K (.ref c_Web) "count" = some none)
    (na_Web_has_ring : PySem.W.findIn K (.ref c_Web) "has_ring" = some none)
    (na_Web_told : PySem.W.findIn K (.ref c_Web) "told" = some none)
    (na_Web_ways : PySem.W.findIn K (.ref c_Web) "ways" = some none)
    (n_abs : PySem.W.nsIn K mainGlobals "abs" = some none)
    (n_all : PySem.W.nsIn K mainGlobals "all" = some none)
    (n_any : PySem.W.nsIn K mainGlobals "any" = some none)
    (n_bool : PySem.W.nsIn K mainGlobals "bool" = some none)
    (n_divmod : PySem.W.nsIn K mainGlobals "divmod" = some none)
    (n_enumerate : PySem.W.nsIn K mainGlobals "enumerate" = some none)
    (n_int : PySem.W.nsIn K mainGlobals "int" = some none)
    (n_isinstance : PySem.W.nsIn K mainGlobals "isinstance" = some none)
    (n_len : PySem.W.nsIn K mainGlobals "len" = some none)
    (n_max : PySem.W.nsIn K mainGlobals "max" = some none)
    (n_min : PySem.W.nsIn K mainGlobals "min" = some none)
    (n_range : PySem.W.nsIn K mainGlobals "range" = some none)
    (n_repr : PySem.W.nsIn K mainGlobals "repr" = some none)
    (n_sorted : PySem.W.nsIn K mainGlobals "sorted" = some none)
    (n_tuple : PySem.W.nsIn K mainGlobals "tuple" = some none)
    (g_MOST_PLACES : PySem.W.nsIn K mainGlobals "MOST_PLACES" = some (some (.int 8 tk_MOST_PLACES)))
    (ic_Web : PySem.W.clsIn K c_Web = some cd_Web)
    (it_Web : PySem.W.typeIn K (.ref c_Web) = some (.type "type"))
    (it_Web_NoneType : PySem.W.subIn K (.type "NoneType") (.ref c_Web) = some false)
    (it_Web_bool : PySem.W.subIn K (.type "bool") (.ref c_Web) = some false)
    (it_Web_int : PySem.W.subIn K (.type "int") (.ref c_Web) = some false)
    (it_Web_str : PySem.W.subIn K (.type "str") (.ref c_Web) = some false)
    (it_Web_tuple : PySem.W.subIn K (.type "tuple") (.ref c_Web) = some false)
    (it_Web_list : PySem.W.subIn K (.type "list") (.ref c_Web) = some false)
    (it_Web_dict : PySem.W.subIn K (.type "dict") (.ref c_Web) = some false)
    (io_Web_Web : PySem.W.subIn K (.ref c_Web) (.ref c_Web) = some true)
    (oc_Web : PySem.W.findIn K (.ref c_Web) "__class__" = some (some (.builtin "object.__class__")))
    (om_Web : PySem.W.mroIn K c_Web (.type "object") = some true)
    (gt_ : PySem.W.specialIn K (.builtin "object.__class__") "__get__" = some (some (.builtin "getset_descriptor.__get__")))
    (tk_ : PySem.W.takesIn K (.builtin "object.__class__") = some true)
    : ∃ fd : FuncData, (∀ (s : Shared) (v : Value), BindsTo s fd ⟨[v], []⟩ [("_law_script", v)]) ∧ ∀ base : Heap, K.In base → base.Ns mainGlobals mg → FnG l.prog w K mg base 8 fa fd ["_law_script"] (spF K mg 1 F_law) := by
  have e := hfa.symm.trans (PySem.W.mg_of X G h_law)
  cases e
  let A : Ad := ⟨a_toggled, PySem.W.fnOf "toggled" "toggled" (defArgs s_toggled) (defBody s_toggled) (defScope s_toggled) .none kV_toggled dc_toggled pm_toggled an_toggled cd_toggled ct_toggled, a_played, PySem.W.fnOf "played" "played" (defArgs s_played) (defBody s_played) (defScope s_played) .none kV_played dc_played pm_played an_played cd_played ct_played, a_ways_from, PySem.W.fnOf "ways_from" "ways_from" (defArgs s_ways_from) (defBody s_ways_from) (defScope s_ways_from) .none kV_ways_from dc_ways_from pm_ways_from an_ways_from cd_ways_from ct_ways_from, a_is_playable, PySem.W.fnOf "is_playable" "is_playable" (defArgs s_is_playable) (defBody s_is_playable) (defScope s_is_playable) .none kV_is_playable dc_is_playable pm_is_playable an_is_playable cd_is_playable ct_is_playable, a_check_way, PySem.W.fnOf "check_way" "check_way" (defArgs s_check_way) (defBody s_check_way) (defScope s_check_way) .none kV_check_way dc_check_way pm_check_way an_check_way cd_check_way ct_check_way, a_is_between, PySem.W.fnOf "is_between" "is_between" (defArgs s_is_between) (defBody s_is_between) (defScope s_is_between) .none kV_is_between dc_is_between pm_is_between an_is_between cd_is_between ct_is_between, a_wrong_place, PySem.W.fnOf "wrong_place" "wrong_place" (defArgs s_wrong_place) (defBody s_wrong_place) (defScope s_wrong_place) .none kV_wrong_place dc_wrong_place pm_wrong_place an_wrong_place cd_wrong_place ct_wrong_place, a_check_standing, PySem.W.fnOf "check_standing" "check_standing" (defArgs s_check_standing) (defBody s_check_standing) (defScope s_check_standing) .none kV_check_standing dc_check_standing pm_check_standing an_check_standing cd_check_standing ct_check_standing, a_check_web, PySem.W.fnOf "check_web" "check_web" (defArgs s_check_web) (defBody s_check_web) (defScope s_check_web) .none kV_check_web dc_check_web pm_check_web an_check_web cd_check_web ct_check_web, a_check_asked, PySem.W.fnOf "check_asked" "check_asked" (defArgs s_check_asked) (defBody s_check_asked) (defScope s_check_asked) .none kV_check_asked dc_check_asked pm_check_asked an_check_asked cd_check_asked ct_check_asked, a_after, PySem.W.fnOf "after" "after" (defArgs s_after) (defBody s_after) (defScope s_after) .none kV_after dc_after pm_after an_after cd_after ct_after, a__law_scoop, PySem.W.fnOf "_law_scoop" "_law_scoop" (defArgs s__law_scoop) (defBody s__law_scoop) (defScope s__law_scoop) .none kV__law_scoop dc__law_scoop pm__law_scoop an__law_scoop cd__law_scoop ct__law_scoop, a__law_one, PySem.W.fnOf "_law_one" "_law_one" (defArgs s__law_one) (defBody s__law_one) (defScope s__law_one) .none kV__law_one dc__law_one pm__law_one an__law_one cd__law_one ct__law_one, a_unlike, PySem.W.fnOf "unlike" "unlike" (defArgs s_unlike) (defBody s_unlike) (defScope s_unlike) .none kV_unlike dc_unlike pm_unlike an_unlike cd_unlike ct_unlike, a_difference, PySem.W.fnOf "difference" "difference" (defArgs s_difference) (defBody s_difference) (defScope s_difference) .none kV_difference dc_difference pm_difference an_difference cd_difference ct_difference, a__law_moved, PySem.W.fnOf "_law_moved" "_law_moved" (defArgs s__law_moved) (defBody s__law_moved) (defScope s__law_moved) .none kV__law_moved dc__law_moved pm__law_moved an__law_moved cd__law_moved ct__law_moved, a_moves, PySem.W.fnOf "moves" "moves" (defArgs s_moves) (defBody s_moves) (defScope s_moves) .none kV_moves dc_moves pm_moves an_moves cd_moves ct_moves, a__law_some, PySem.W.fnOf "_law_some" "_law_some" (defArgs s__law_some) (defBody s__law_some) (defScope s__law_some) .none kV__law_some dc__law_some pm__law_some an__law_some cd__law_some ct__law_some, a_goals_of, PySem.W.fnOf "goals_of" "goals_of" (defArgs s_goals_of) (defBody s_goals_of) (defScope s_goals_of) .none kV_goals_of dc_goals_of pm_goals_of an_goals_of cd_goals_of ct_goals_of, a_does_lead, PySem.W.fnOf "does_lead" "does_lead" (defArgs s_does_lead) (defBody s_does_lead) (defScope s_does_lead) .none kV_does_lead dc_does_lead pm_does_lead an_does_lead cd_does_lead ct_does_lead, a_is_way, PySem.W.fnOf "is_way" "is_way" (defArgs s_is_way) (defBody s_is_way) (defScope s_is_way) .none kV_is_way dc_is_way pm_is_way an_is_way cd_is_way ct_is_way, a_wrong_way, PySem.W.fnOf "wrong_way" "wrong_way" (defArgs s_wrong_way) (defBody s_wrong_way) (defScope s_wrong_way) .none kV_wrong_way dc_wrong_way pm_wrong_way an_wrong_way cd_wrong_way ct_wrong_way, a_check_ways, PySem.W.fnOf "check_ways" "check_ways" (defArgs s_check_ways) (defBody s_check_ways) (defScope s_check_ways) .none kV_check_ways dc_check_ways pm_check_ways an_check_ways cd_check_ways ct_check_ways, a_check_count, PySem.W.fnOf "check_count" "check_count" (defArgs s_check_count) (defBody s_check_count) (defScope s_check_count) .none kV_check_count dc_check_count pm_check_count an_check_count cd_check_count ct_check_count, a_Web___init__, PySem.W.fnOf "__init__" "Web.__init__" (defArgs s_Web___init__) (defBody s_Web___init__) (defScope s_Web___init__) (.ref t_Web___init__) kV_Web___init__ dc_Web___init__ pm_Web___init__ an_Web___init__ cd_Web___init__ ct_Web___init__, u_Web___init__, a__law_ways, PySem.W.fnOf "_law_ways" "_law_ways" (defArgs s__law_ways) (defBody s__law_ways) (defScope s__law_ways) .none kV__law_ways dc__law_ways pm__law_ways an__law_ways cd__law_ways ct__law_ways, a__law_net, PySem.W.fnOf "_law_net" "_law_net" (defArgs s__law_net) (defBody s__law_net) (defScope s__law_net) .none kV__law_net dc__law_net pm__law_net an__law_net cd__law_net ct__law_net, a__law_right, PySem.W.fnOf "_law_right" "_law_right" (defArgs s__law_right) (defBody s__law_right) (defScope s__law_right) .none kV__law_right dc__law_right pm__law_right an__law_right cd__law_right ct__law_right, a__law_pail, PySem.W.fnOf "_law_pail" "_law_pail" (defArgs s__law_pail) (defBody s__law_pail) (defScope s__law_pail) .none kV__law_pail dc__law_pail pm__law_pail an__law_pail cd__law_pail ct__law_pail, fa, PySem.W.fnOf "law" "law" (defArgs s_law) (defBody s_law) (defScope s_law) .none kV_law dc_law pm_law an_law cd_law ct_law, c_Web⟩
  have T : Txt K mg A := by
    constructor
    · exact PySem.W.mg_of X G h_toggled
    · exact fun_mk (st := s_toggled) l_toggled q_toggled k_toggled
    · exact PySem.W.mg_of X G h_played
    · exact fun_mk (st := s_played) l_played q_played k_played
    · exact PySem.W.mg_of X G h_ways_from
    · exact fun_mk (st := s_ways_from) l_ways_from q_ways_from k_ways_from
    · exact PySem.W.mg_of X G h_is_playable
    · exact fun_mk (st := s_is_playable) l_is_playable q_is_playable k_is_playable
    · exact PySem.W.mg_of X G h_check_way
    · exact fun_mk (st := s_check_way) l_check_way q_check_way k_check_way
    · exact PySem.W.mg_of X G h_is_between
    · exact fun_mk (st := s_is_between) l_is_between q_is_between k_is_between
    · exact PySem.W.mg_of X G h_wrong_place
    · exact fun_mk (st := s_wrong_place) l_wrong_place q_wrong_place k_wrong_place
    · exact PySem.W.mg_of X G h_check_standing
    · exact fun_mk (st := s_check_standing) l_check_standing q_check_standing k_check_standing
    · exact PySem.W.mg_of X G h_check_web
    · exact fun_mk (st := s_check_web) l_check_web q_check_web k_check_web
    · exact PySem.W.mg_of X G h_check_asked
    · exact fun_mk (st := s_check_asked) l_check_asked q_check_asked k_check_asked
    · exact PySem.W.mg_of X G h_after
    · exact fun_mk (st := s_after) l_after q_after k_after
    · exact PySem.W.mg_of X G h__law_scoop
    · exact fun_mk (st := s__law_scoop) l__law_scoop q__law_scoop k__law_scoop
    · exact PySem.W.mg_of X G h__law_one
    · exact fun_mk (st := s__law_one) l__law_one q__law_one k__law_one
    · exact PySem.W.mg_of X G h_unlike
    · exact fun_mk (st := s_unlike) l_unlike q_unlike k_unlike
    · exact PySem.W.mg_of X G h_difference
    · exact fun_mk (st := s_difference) l_difference q_difference k_difference
    · exact PySem.W.mg_of X G h__law_moved
    · exact fun_mk (st := s__law_moved) l__law_moved q__law_moved k__law_moved
    · exact PySem.W.mg_of X G h_moves
    · exact fun_mk (st := s_moves) l_moves q_moves k_moves
    · exact PySem.W.mg_of X G h__law_some
    · exact fun_mk (st := s__law_some) l__law_some q__law_some k__law_some
    · exact PySem.W.mg_of X G h_goals_of
    · exact fun_mk (st := s_goals_of) l_goals_of q_goals_of k_goals_of
    · exact PySem.W.mg_of X G h_does_lead
    · exact fun_mk (st := s_does_lead) l_does_lead q_does_lead k_does_lead
    · exact PySem.W.mg_of X G h_is_way
    · exact fun_mk (st := s_is_way) l_is_way q_is_way k_is_way
    · exact PySem.W.mg_of X G h_wrong_way
    · exact fun_mk (st := s_wrong_way) l_wrong_way q_wrong_way k_wrong_way
    · exact PySem.W.mg_of X G h_check_ways
    · exact fun_mk (st := s_check_ways) l_check_ways q_check_ways k_check_ways
    · exact PySem.W.mg_of X G h_check_count
    · exact fun_mk (st := s_check_count) l_check_count q_check_count k_check_count
    · exact ⟨h_Web___init__, i_Web___init__, k_Web___init__⟩
    · exact ⟨⟨oc_Web___init__, od_Web___init__, .ref t_Web___init__, kV_Web___init__, dc_Web___init__, pm_Web___init__, an_Web___init__, cd_Web___init__, ct_Web___init__, sl_Web___init__, rfl, l_Web___init__, q_Web___init__, .inr ⟨by simp, t_Web___init__, _, [.ref u_Web___init__], tn_Web___init__, rfl, lt_Web___init__, rfl, .cons rfl .nil⟩, .inl rfl⟩, k_Web___init__⟩
    · exact PySem.W.mg_of X G h__law_ways
    · exact fun_mk (st := s__law_ways) l__law_ways q__law_ways k__law_ways
    · exact PySem.W.mg_of X G h__law_net
    · exact fun_mk (st := s__law_net) l__law_net q__law_net k__law_net
    · exact PySem.W.mg_of X G h__law_right
    · exact fun_mk (st := s__law_right) l__law_right q__law_right k__law_right
    · exact PySem.W.mg_of X G h__law_pail
    · exact fun_mk (st := s__law_pail) l__law_pail q__law_pail k__law_pail
    · exact PySem.W.mg_of X G h_law
    · exact fun_mk (st := s_law) l_law q_law k_law
    · exact PySem.W.mg_none_of X G n_abs
    · exact PySem.W.mg_none_of X G n_all
    · exact PySem.W.mg_none_of X G n_any
    · exact PySem.W.mg_none_of X G n_bool
    · exact PySem.W.mg_none_of X G n_divmod
    · exact PySem.W.mg_none_of X G n_enumerate
    · exact PySem.W.mg_none_of X G n_int
    · exact PySem.W.mg_none_of X G n_isinstance
    · exact PySem.W.mg_none_of X G n_len
    · exact PySem.W.mg_none_of X G n_max
    · exact PySem.W.mg_none_of X G n_min
    · exact PySem.W.mg_none_of X G n_range
    · exact PySem.W.mg_none_of X G n_repr
    · exact PySem.W.mg_none_of X G n_sorted
    · exact PySem.W.mg_none_of X G n_tuple
    · exact ⟨_, PySem.W.mg_of X G g_MOST_PLACES⟩
    · exact PySem.W.mg_of X G aC_Web
    · exact ⟨pg_Web, hd_Web, po_Web, sa_Web⟩
    · exact ⟨mk_Web, h_Web___init__, i_Web___init__, kc_Web⟩
    · exact na_Web_count
    · exact na_Web_has_ring
    · exact na_Web_told
    · exact na_Web_ways
    · exact ⟨(fun n hn => by
      simp only [List.mem_cons, List.not_mem_nil, or_false] at hn
      rcases hn with rfl | rfl | rfl | rfl | rfl | rfl | rfl <;> exact kit_ty_own ic_Web it_Web (by assumption)), (fun p hp => (List.mem_cons.mp hp).elim (fun e => by rw [e]; exact ⟨c_Web, PySem.W.mg_of X G aC_Web, kit_own_own ic_Web it_Web io_Web_Web (.inl rfl), ⟨pg_Web, hd_Web, po_Web, sa_Web⟩, oc_Web, om_Web⟩) ((fun _ h => nomatch h) p)), gt_, tk_⟩
  exact ⟨_, fun s v => .of_eq rfl, fun base _ _ => ok_law T⟩
end Law

open PySem PySem.W PyProof.Rows in
set_option maxRecDepth 100000 in
set_option maxHeartbeats 0 in
theorem PySem.Challenge.cw_bothvanish_k05_whole_moves_holds : PySem.Challenge.rw_bothvanish_k05_whole_moves.Holds := by
  w_on; o_law; k_head; (case hw => w_witness2)
  k_fill
  refine FL.walkG (l := PySem.Challenge.rw_bothvanish_k05_whole_moves) (k := 8) (x := "_law_script") (F := Law.F_law) rfl rfl ⟨rfl, by decide, by decide⟩ (fun w h Y => PySem.W.kIn_of Y) ?F Law.law_true
  case F =>
    intro w mg fa h KX G hmg
    refine' Law.all_mk KX G hmg ?aC_Web ?h_toggled ?l_toggled ?q_toggled ?k_toggled ?h_played ?l_played ?q_played ?k_played ?h_ways_from ?l_ways_from ?q_ways_from ?k_ways_from ?h_is_playable ?l_is_playable ?q_is_playable ?k_is_playable ?h_check_way ?l_check_way ?q_check_way ?k_check_way ?h_is_between ?l_is_between ?q_is_between ?k_is_between ?h_wrong_place ?l_wrong_place ?q_wrong_place ?k_wrong_place ?h_check_standing ?l_check_standing ?q_check_standing ?k_check_standing ?h_check_web ?l_check_web ?q_check_web ?k_check_web ?h_check_asked ?l_check_asked ?q_check_asked ?k_check_asked ?h_after ?l_after ?q_after ?k_after ?h__law_scoop ?l__law_scoop ?q__law_scoop ?k__law_scoop ?h__law_one ?l__law_one ?q__law_one ?k__law_one ?h_unlike ?l_unlike ?q_unlike ?k_unlike ?h_difference ?l_difference ?q_difference ?k_difference ?h__law_moved ?l__law_moved ?q__law_moved ?k__law_moved ?h_moves ?l_moves ?q_moves ?k_moves ?h__law_some ?l__law_some ?q__law_some ?k__law_some ?h_goals_of ?l_goals_of ?q_goals_of ?k_goals_of ?h_does_lead ?l_does_lead ?q_does_lead ?k_does_lead ?h_is_way ?l_is_way ?q_is_way ?k_is_way ?h_wrong_way ?l_wrong_way ?q_wrong_way ?k_wrong_way ?h_check_ways ?l_check_ways ?q_check_ways ?k_check_ways ?h_check_count ?l_check_count ?q_check_count ?k_check_count ?h_Web___init__ ?i_Web___init__ ?l_Web___init__ ?q_Web___init__ ?k_Web___init__ ?lt_Web___init__ ?h__law_ways ?l__law_ways ?q__law_ways ?k__law_ways ?h__law_net ?l__law_net ?q__law_net ?k__law_net ?h__law_right ?l__law_right ?q__law_right ?k__law_right ?h__law_pail ?l__law_pail ?q__law_pail ?k__law_pail ?h_law ?l_law ?q_law ?k_law ?pg_Web ?hd_Web ?po_Web ?sa_Web ?mk_Web ?kc_Web ?na_Web_count ?na_Web_has_ring ?na_Web_told ?na_Web_ways ?n_abs ?n_all ?n_any ?n_bool ?n_divmod ?n_enumerate ?n_int ?n_isinstance ?n_len ?n_max ?n_min ?n_range ?n_repr ?n_sorted ?n_tuple ?g_MOST_PLACES ?ic_Web ?it_Web ?it_Web_NoneType ?it_Web_bool ?it_Web_int ?it_Web_str ?it_Web_tuple ?it_Web_list ?it_Web_dict ?io_Web_Web ?oc_Web ?om_Web ?gt_ ?tk_
    (case aC_Web => k_is)
    (case h_toggled => k_is)
    (case l_toggled => k_is)
    (case q_toggled => k_is)
    (case k_toggled => k_is)
    (case h_played => k_is)
    (case l_played => k_is)
    (case q_played => k_is)
    (case k_played => k_is)
    (case h_ways_from => k_is)
    (case l_ways_from => k_is)
    (case q_ways_from => k_is)
    (case k_ways_from => k_is)
    (case h_is_playable => k_is)
    (case l_is_playable => k_is)
    (case q_is_playable => k_is)
    (case k_is_playable => k_is)
    (case h_check_way => k_is)
    (case l_check_way => k_is)
    (case q_check_way => k_is)
    (case k_check_way => k_is)
    (case h_is_between => k_is)
    (case l_is_between => k_is)
    (case q_is_between => k_is)
    (case k_is_between => k_is)
    (case h_wrong_place => k_is)
    (case l_wrong_place => k_is)
    (case q_wrong_place => k_is)
    (case k_wrong_place => k_is)
    (case h_check_standing => k_is)
    (case l_check_standing => k_is)
    (case q_check_standing => k_is)
    (case k_check_standing => k_is)
    (case h_check_web => k_is)
    (case l_check_web => k_is)
    (case q_check_web => k_is)
    (case k_check_web => k_is)
    (case h_check_asked => k_is)
    (case l_check_asked => k_is)
    (case q_check_asked => k_is)
    (case k_check_asked => k_is)
    (case h_after => k_is)
    (case l_after => k_is)
    (case q_after => k_is)
    (case k_after => k_is)
    (case h__law_scoop => k_is)
    (case l__law_scoop => k_is)
    (case q__law_scoop => k_is)
    (case k__law_scoop => k_is)
    (case h__law_one => k_is)
    (case l__law_one => k_is)
    (case q__law_one => k_is)
    (case k__law_one => k_is)
    (case h_unlike => k_is)
    (case l_unlike => k_is)
    (case q_unlike => k_is)
    (case k_unlike => k_is)
    (case h_difference => k_is)
    (case l_difference => k_is)
    (case q_difference => k_is)
    (case k_difference => k_is)
    (case h__law_moved => k_is)
    (case l__law_moved => k_is)
    (case q__law_moved => k_is)
    (case k__law_moved => k_is)
    (case h_moves => k_is)
    (case l_moves => k_is)
    (case q_moves => k_is)
    (case k_moves => k_is)
    (case h__law_some => k_is)
    (case l__law_some => k_is)
    (case q__law_some => k_is)
    (case k__law_some => k_is)
    (case h_goals_of => k_is)
    (case l_goals_of => k_is)
    (case q_goals_of => k_is)
    (case k_goals_of => k_is)
    (case h_does_lead => k_is)
    (case l_does_lead => k_is)
    (case q_does_lead => k_is)
    (case k_does_lead => k_is)
    (case h_is_way => k_is)
    (case l_is_way => k_is)
    (case q_is_way => k_is)
    (case k_is_way => k_is)
    (case h_wrong_way => k_is)
    (case l_wrong_way => k_is)
    (case q_wrong_way => k_is)
    (case k_wrong_way => k_is)
    (case h_check_ways => k_is)
    (case l_check_ways => k_is)
    (case q_check_ways => k_is)
    (case k_check_ways => k_is)
    (case h_check_count => k_is)
    (case l_check_count => k_is)
    (case q_check_count => k_is)
    (case k_check_count => k_is)
    (case h_Web___init__ => k_is)
    (case i_Web___init__ => k_is)
    (case l_Web___init__ => k_is)
    (case q_Web___init__ => k_is)
    (case k_Web___init__ => k_is)
    (case lt_Web___init__ => k_is)
    (case h__law_ways => k_is)
    (case l__law_ways => k_is)
    (case q__law_ways => k_is)
    (case k__law_ways => k_is)
    (case h__law_net => k_is)
    (case l__law_net => k_is)
    (case q__law_net => k_is)
    (case k__law_net => k_is)
    (case h__law_right => k_is)
    (case l__law_right => k_is)
    (case q__law_right => k_is)
    (case k__law_right => k_is)
    (case h__law_pail => k_is)
    (case l__law_pail => k_is)
    (case q__law_pail => k_is)
    (case k__law_pail => k_is)
    (case h_law => k_is)
    (case l_law => k_is)
    (case q_law => k_is)
    (case k_law => k_is)
    (case pg_Web => k_is)
    (case hd_Web => k_is)
    (case po_Web => k_is)
    (case sa_Web => k_is)
    (case mk_Web => k_is)
    (case kc_Web => k_is)
    (case na_Web_count => k_is)
    (case na_Web_has_ring => k_is)
    (case na_Web_told => k_is)
    (case na_Web_ways => k_is)
    (case n_abs => k_is)
    (case n_all => k_is)
    (case n_any => k_is)
    (case n_bool => k_is)
    (case n_divmod => k_is)
    (case n_enumerate => k_is)
    (case n_int => k_is)
    (case n_isinstance => k_is)
    (case n_len => k_is)
    (case n_max => k_is)
    (case n_min => k_is)
    (case n_range => k_is)
    (case n_repr => k_is)
    (case n_sorted => k_is)
    (case n_tuple => k_is)
    (case g_MOST_PLACES => k_is)
    (case ic_Web => k_is)
    (case it_Web => k_is)
    (case it_Web_NoneType => k_is)
    (case it_Web_bool => k_is)
    (case it_Web_int => k_is)
    (case it_Web_str => k_is)
    (case it_Web_tuple => k_is)
    (case it_Web_list => k_is)
    (case it_Web_dict => k_is)
    (case io_Web_Web => k_is)
    (case oc_Web => k_is)
    (case om_Web => k_is)
    (case gt_ => k_is)
    (case tk_ => k_is)

