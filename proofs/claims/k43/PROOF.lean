import PyProof.Rows.All
import Wide.All
import OpenK.AllK
import Wide.FinOn
import HandS.ForMost
import HandS.ForExc
import HandS.CallSlots
import HandS.Defaults
import HandS.HeadHook2
import HandS.TupAny
import HandS.IsInst
import HandS.StrMore
import HandS.More
import HandS.FStr
import HandS.Conv
import HandS.Zip
import Lean
import KE.KStateDown
import HandS.Head0
import HandS.Head1
import HandS.Head2
import HandS.HeadEnd
import HandS.HeadHook1
import PySem.Challenge.RW_accorded_k43_ord_is_things
set_option Elab.async false
set_option linter.all false
set_option maxRecDepth 100000
set_option maxHeartbeats 0
set_option autoImplicit false
/-! Dx: a reading of Python's values as plain data. Values that never change are data (D); lists and dicts stand in a store (Sto) by number; each piece of syntax gets a plain function over these. -/
namespace Dx
open PySem PySem.Spec PyProof.Rows L2

inductive D where
  | non | bl (b : Bool) | int (i : Int) | str (x : Str) | tup (ds : List D) | sq (ds : List D) | ref (n : Nat) | ty (n : String)

inductive DO where
  | lst (ds : List D) | dK (kvs : List (Key × D)) | dT (kvs : List (List Key × D))
abbrev Sto := List DO
abbrev Gam := List (Option D)
structure Exn where
  cls : Str
  flds : List (Str × D)

/-! ### what a value is worth -/
/-- a list that is never written: locked, or of the written part -/
def SqI (K : PySem.W.Frag) (H : Hp) (a : Addr) (xs : List V) : Prop :=
  (∃ o, H a = some (.frz o (.lst xs))) ∨
    ∃ (o : Obj) (its : Array Value) (n : Nat), K.lookup a = some o ∧ o.cls = .type "list" ∧ o.dict = none ∧ o.data = .seq its n ∧ its.size ≤ sizeLine ∧ Vals xs its.toList
theorem SqI.l {K : PySem.W.Frag} {H : Hp} {a : Addr} {xs : List V} (h : SqI K H a xs) : SqL K H a xs := by
  rcases h with h | h
  · exact .inl (.inr h)
  · exact .inr h
section
variable (K : PySem.W.Frag) (ι : Nat → Addr) (n : Nat) (H : Hp)
mutual
def RD : D → V → Prop
  | .non, v => v = .non
  | .bl b, v => v = .bl b
  | .int i, v => v = .int i
  | .str x, v => v = .str x
  | .ty x, v => v = .ty x
  | .ref i, v => i < n ∧ v = .ref (ι i)
  | .tup ds, v => ∃ a vs, v = .ref a ∧ H a = some (.tup vs) ∧ RDs ds vs
  | .sq ds, v => ∃ a vs, v = .ref a ∧ SqI K H a vs ∧ RDs ds vs
def RDs : List D → List V → Prop
  | [], vs => vs = []
  | d :: ds, vs => ∃ v r, vs = v :: r ∧ RD d v ∧ RDs ds r
end
def RO : DO → HO → Prop
  | .lst ds, .lst vs => RDs K ι n H ds vs
  | .dK kds, .dK kvs => Paired (fun (p : Key × D) (q : Key × V) => p.1 = q.1 ∧ RD K ι n H p.2 q.2) kds kvs
  | .dT kds, .dT kvs => Paired (fun (p : List Key × D) (q : List Key × V) => p.1 = q.1 ∧ RD K ι n H p.2 q.2) kds kvs
  | _, _ => False
end
structure Sat (K : PySem.W.Frag) (ι : Nat → Addr) (S : Sto) (H : Hp) : Prop where
  inj : ∀ i j, i < S.length → j < S.length → ι i = ι j → i = j
  ent : ∀ i o, S[i]? = some o → ∃ ho, H (ι i) = some ho ∧ RO K ι S.length H o ho
/-- from (ι, S, H) on to (ι', S', H'): what is not in the store is kept, what is new was free -/
structure Ext (K : PySem.W.Frag) (ι : Nat → Addr) (S : Sto) (H : Hp) (ι' : Nat → Addr) (S' : Sto) (H' : Hp) : Prop where
  ag : ∀ i, i < S.length → ι' i = ι i
  len : S.length ≤ S'.length
  keep : ∀ a o, H a = some o → (¬ Mut (some o) ∨ ∀ i, i < S.length → ι i ≠ a) → H' a = some o
  grow : ∀ a, H a ≠ none → H' a ≠ none
  fresh : ∀ j, S.length ≤ j → j < S'.length → H (ι' j) = none
  sat : Sat K ι' S' H'
structure Rel (K : PySem.W.Frag) (ι : Nat → Addr) (S : Sto) (H : Hp) (σ : L2.St) (Γ : Gam) : Prop where
  sat : Sat K ι S H
  len : σ.length = Γ.length
  env : ∀ (i : Nat) (d : D), Γ[i]? = some (some d) → ∃ v, σ[i]? = some (some v) ∧ RD K ι S.length H d v

theorem RO.mut {K : PySem.W.Frag} {ι : Nat → Addr} {n : Nat} {H : Hp} {o : DO} {ho : HO} (h : RO K ι n H o ho) : Mut (some ho) := by
  cases o <;> cases ho <;> first | trivial | exact h.elim

section
variable {K : PySem.W.Frag} {ι ι' ι2 : Nat → Addr} {n n' : Nat} {S S' S2 : Sto} {H H' H2 : Hp} {σ : L2.St} {Γ : Gam}

structure Keeps (K : PySem.W.Frag) (ι : Nat → Addr) (n : Nat) (H : Hp) (ι' : Nat → Addr) (n' : Nat) (H' : Hp) : Prop where
  tup : ∀ a xs, H a = some (.tup xs) → H' a = some (.tup xs)
  sq : ∀ a xs, SqI K H a xs → SqI K H' a xs
  ag : ∀ i, i < n → ι' i = ι i
  len : n ≤ n'
mutual
theorem RD.mono (k : Keeps K ι n H ι' n' H') : ∀ (d : D) (v : V), RD K ι n H d v → RD K ι' n' H' d v
  | .non, _, h => h
  | .bl _, _, h => h
  | .int _, _, h => h
  | .str _, _, h => h
  | .ty _, _, h => h
  | .ref i, _, h => by
    obtain ⟨h1, h2⟩ : i < n ∧ _ = V.ref (ι i) := h
    exact ⟨Nat.lt_of_lt_of_le h1 k.len, by rw [h2, k.ag i h1]⟩
  | .tup ds, _, h => by
    obtain ⟨a, vs, e, q, r⟩ := h
    exact ⟨a, vs, e, k.tup a vs q, RDs.mono k ds vs r⟩
  | .sq ds, _, h => by
    obtain ⟨a, vs, e, q, r⟩ := h
    exact ⟨a, vs, e, k.sq a vs q, RDs.mono k ds vs r⟩
theorem RDs.mono (k : Keeps K ι n H ι' n' H') : ∀ (ds : List D) (vs : List V), RDs K ι n H ds vs → RDs K ι' n' H' ds vs
  | [], _, h => h
  | d :: ds, _, h => by
    obtain ⟨v, r, e, h1, h2⟩ := h
    exact ⟨v, r, e, RD.mono k d v h1, RDs.mono k ds r h2⟩
end
theorem pmap {α β : Type} {F G : α → β → Prop} : ∀ {l₁ : List α} {l₂ : List β}, Paired F l₁ l₂ → (∀ a b, F a b → G a b) → Paired G l₁ l₂
  | _, _, .nil, _ => .nil
  | _, _, .cons r t, f => .cons (f _ _ r) (pmap t f)
theorem RO.mono (k : Keeps K ι n H ι' n' H') : ∀ (o : DO) (ho : HO), RO K ι n H o ho → RO K ι' n' H' o ho := fun o ho h => by
  cases o with
  | lst ds => cases ho with
    | lst vs => exact RDs.mono k ds vs h
    | _ => exact h.elim
  | dK kds => cases ho with
    | dK kvs => exact pmap (show Paired _ kds kvs from h) fun a b z => ⟨z.1, RD.mono k _ _ z.2⟩
    | _ => exact h.elim
  | dT kds => cases ho with
    | dT kvs => exact pmap (show Paired _ kds kvs from h) fun a b z => ⟨z.1, RD.mono k _ _ z.2⟩
    | _ => exact h.elim

theorem Ext.keeps (e : Ext K ι S H ι' S' H') : Keeps K ι S.length H ι' S'.length H' where
  tup := fun a xs h => e.keep a _ h (.inl fun z => z)
  sq := fun a xs h => by
    rcases h with ⟨o, h⟩ | h
    · exact .inl ⟨o, e.keep a _ h (.inl fun z => z)⟩
    · exact .inr h
  ag := e.ag
  len := e.len
theorem Ext.refl (s : Sat K ι S H) : Ext K ι S H ι S H := ⟨fun _ _ => rfl, Nat.le_refl _, fun _ _ h _ => h, fun _ h => h, fun j h1 h2 => absurd h2 (Nat.not_lt.mpr h1), s⟩
theorem Ext.trans (a : Ext K ι S H ι' S' H') (b : Ext K ι' S' H' ι2 S2 H2) : Ext K ι S H ι2 S2 H2 where
  ag := fun i hi => by rw [b.ag i (Nat.lt_of_lt_of_le hi a.len), a.ag i hi]
  len := Nat.le_trans a.len b.len
  keep := fun x o h c => by
    refine b.keep x o (a.keep x o h c) ?_
    rcases c with c | c
    · exact .inl c
    · refine .inr fun i hi z => ?_
      by_cases hj : i < S.length
      · rw [a.ag i hj] at z; exact c i hj z
      · have := a.fresh i (Nat.le_of_not_lt hj) hi
        rw [z, h] at this; cases this
  grow := fun x h => b.grow x (a.grow x h)
  fresh := fun j h1 h2 => by
    by_cases hj : j < S'.length
    · rw [b.ag j hj]; exact a.fresh j h1 hj
    · have q := b.fresh j (Nat.le_of_not_lt hj) h2
      cases z : H (ι2 j) with
      | none => rfl
      | some o => exact absurd q (a.grow _ (by rw [z]; exact fun w => nomatch w))
  sat := b.sat
theorem Rel.ext (r : Rel K ι S H σ Γ) (e : Ext K ι S H ι' S' H') : Rel K ι' S' H' σ Γ := ⟨e.sat, r.len, fun i d h => by
  obtain ⟨v, h1, h2⟩ := r.env i d h
  exact ⟨v, h1, RD.mono e.keeps d v h2⟩⟩
end
end Dx
namespace Dx
open PySem PySem.Spec PyProof.Rows L2
/-! ### results -/
inductive R (α : Type) where
  | ok (a : α) (S : Sto) | ex (x : Exn) (S : Sto) | err
def R.sat {α : Type} (r : R α) (P : α → Sto → Prop) (E : Exn → Sto → Prop) : Prop := match r with
  | .ok a S => P a S
  | .ex x S => E x S
  | .err => False
def R.bind {α β : Type} (r : R α) (k : α → Sto → R β) : R β := match r with
  | .ok a S => k a S
  | .ex x S => .ex x S
  | .err => .err
theorem R.sat_bind {α β : Type} {r : R α} {k : α → Sto → R β} {P : β → Sto → Prop} {E : Exn → Sto → Prop} (h : (r.bind k).sat P E) : r.sat (fun a S => (k a S).sat P E) E := by
  cases r with
  | ok a S => exact h
  | ex x S => exact h
  | err => exact h
theorem R.sat_imp {α : Type} {r : R α} {P P' : α → Sto → Prop} {E E' : Exn → Sto → Prop} (h : r.sat P E) (hP : ∀ a S, P a S → P' a S) (hE : ∀ x S, E x S → E' x S) : r.sat P' E' := by
  cases r with
  | ok a S => exact hP _ _ h
  | ex x S => exact hE _ _ h
  | err => exact h

/-- an exception of an own class, with its attributes -/
def RX (K : PySem.W.Frag) (mg : Str → Option Value) (ι : Nat → Addr) (n : Nat) (H : Hp) (x : Exn) (c : Value) (dd : Option Addr) : Prop :=
  ∃ C d fs, mg x.cls = some (.ref C) ∧ c = .ref C ∧ dd = some d ∧ H d = some (.xd fs) ∧ Paired (fun (p : Str × D) (q : Str × V) => p.1 = q.1 ∧ RD K ι n H p.2 q.2) x.flds fs

def PD (K : PySem.W.Frag) (ι : Nat → Addr) (S : Sto) (H : Hp) (Q : VK) (d : D) (S' : Sto) : Prop := ∀ ι' H' v, Ext K ι S H ι' S' H' → RD K ι' S'.length H' d v → Q v H'
def PB (K : PySem.W.Frag) (ι : Nat → Addr) (S : Sto) (H : Hp) (Q : Bool → Hp → Prop) (b : Bool) (S' : Sto) : Prop := ∀ ι' H', Ext K ι S H ι' S' H' → Q b H'
def PL (K : PySem.W.Frag) (ι : Nat → Addr) (S : Sto) (H : Hp) (Q : List V → Hp → Prop) (ds : List D) (S' : Sto) : Prop := ∀ ι' H' vs, Ext K ι S H ι' S' H' → RDs K ι' S'.length H' ds vs → Q vs H'
def PX (K : PySem.W.Frag) (mg : Str → Option Value) (ι : Nat → Addr) (S : Sto) (H : Hp) (σ : L2.St) (W : WX) (x : Exn) (S' : Sto) : Prop :=
  ∀ ι' H' c dd, Ext K ι S H ι' S' H' → RX K mg ι' S'.length H' x c dd → W c dd σ H'
section
variable {K : PySem.W.Frag} {mg : Str → Option Value} {ι ι' : Nat → Addr} {S S' S2 : Sto} {H H' : Hp} {σ : L2.St} {W : WX}
theorem PD.ext {Q : VK} {d : D} (h : PD K ι S H Q d S2) (e : Ext K ι S H ι' S' H') : PD K ι' S' H' Q d S2 := fun i2 H2 v e2 r => h i2 H2 v (e.trans e2) r
theorem PB.ext {Q : Bool → Hp → Prop} {b : Bool} (h : PB K ι S H Q b S2) (e : Ext K ι S H ι' S' H') : PB K ι' S' H' Q b S2 := fun i2 H2 e2 => h i2 H2 (e.trans e2)
theorem PL.ext {Q : List V → Hp → Prop} {ds : List D} (h : PL K ι S H Q ds S2) (e : Ext K ι S H ι' S' H') : PL K ι' S' H' Q ds S2 := fun i2 H2 vs e2 r => h i2 H2 vs (e.trans e2) r
theorem PX.ext {x : Exn} (h : PX K mg ι S H σ W x S2) (e : Ext K ι S H ι' S' H') : PX K mg ι' S' H' σ W x S2 := fun i2 H2 c dd e2 r => h i2 H2 c dd (e.trans e2) r

/-! ### what an operation may do -/
theorem PD.same {Q : VK} {d : D} (h : PD K ι S H Q d S) (s : Sat K ι S H) {v : V} (r : RD K ι S.length H d v) : Q v H := h ι H v (Ext.refl s) r
theorem keeps_new {p : Addr} {ho : HO} (hp : H p = none) : Keeps K ι S.length H ι S.length (upd H p ho) := ⟨fun a xs h => by rw [upd_ne (ne_of_none h hp)]; exact h, fun a xs h => by
    rcases h with ⟨o, h⟩ | h
    · exact .inl ⟨o, by rw [upd_ne (ne_of_none h hp)]; exact h⟩
    · exact .inr h, fun _ _ => rfl, Nat.le_refl _⟩
theorem sat_tup {p : Addr} {ho : HO} (s : Sat K ι S H) (hp : H p = none) : Sat K ι S (upd H p ho) := ⟨s.inj, fun i o e => by
  obtain ⟨u, h1, h2⟩ := s.ent i o e
  exact ⟨u, by rw [upd_ne (ne_of_none h1 hp)]; exact h1, RO.mono (keeps_new hp) _ _ h2⟩⟩
theorem ext_tup {p : Addr} {ho : HO} (s : Sat K ι S H) (hp : H p = none) : Ext K ι S H ι S (upd H p ho) := ⟨fun _ _ => rfl, Nat.le_refl _, fun a o h _ => by rw [upd_ne (ne_of_none h hp)]; exact h,
  fun a h => by
    by_cases e : a = p
    · rw [e, upd_same]; exact fun z => nomatch z
    · rw [upd_ne e]; exact h, fun j h1 h2 => absurd h2 (Nat.not_lt.mpr h1), sat_tup s hp⟩
/-- a new tuple -/
theorem PD.tup {Q : VK} {ds : List D} {vs : List V} (h : PD K ι S H Q (.tup ds) S) (s : Sat K ι S H) (r : RDs K ι S.length H ds vs) : ∀ p, H p = none → Q (.ref p) (upd H p (.tup vs)) := fun p hp =>
  h ι _ _ (ext_tup s hp) ⟨p, vs, rfl, upd_same, RDs.mono (keeps_new hp) _ _ r⟩
def ins1 (ι : Nat → Addr) (n : Nat) (p : Addr) : Nat → Addr := fun j => if j = n then p else ι j
theorem ins1_lt {n i : Nat} {p : Addr} (h : i < n) : ins1 ι n p i = ι i := by unfold ins1; rw [if_neg (Nat.ne_of_lt h)]
theorem ins1_at {n : Nat} {p : Addr} : ins1 ι n p n = p := by unfold ins1; rw [if_pos rfl]
theorem keeps_ins {p : Addr} {ho : HO} (hp : H p = none) : Keeps K ι S.length H (ins1 ι S.length p) (S.length + 1) (upd H p ho) := by
  obtain ⟨a, b, _, _⟩ := keeps_new (K := K) (ι := ι) (S := S) (ho := ho) hp
  exact ⟨a, b, fun i hi => ins1_lt hi, Nat.le_succ _⟩
theorem sat_new {p : Addr} {ho : HO} {o : DO} (s : Sat K ι S H) (hp : H p = none) (ro : RO K ι S.length H o ho) : Sat K (ins1 ι S.length p) (S ++ [o]) (upd H p ho) := by
  have hl : (S ++ [o]).length = S.length + 1 := by simp
  have np : ∀ i, i < S.length → ι i ≠ p := fun i hi e => by
    obtain ⟨u, h1, _⟩ := s.ent i S[i] (by simp [hi])
    rw [e, hp] at h1; cases h1
  refine ⟨fun i j hi hj e => ?_, fun i u e => ?_⟩
  · rw [hl] at hi hj
    by_cases hi' : i < S.length
    · rw [ins1_lt hi'] at e
      by_cases hj' : j < S.length
      · rw [ins1_lt hj'] at e; exact s.inj i j hi' hj' e
      · have : j = S.length := by omega
        subst this; rw [ins1_at] at e; exact absurd e (np i hi')
    · have : i = S.length := by omega
      subst this
      rw [ins1_at] at e
      by_cases hj' : j < S.length
      · rw [ins1_lt hj'] at e; exact absurd e.symm (np j hj')
      · omega
  · rw [hl]
    by_cases hi' : i < S.length
    · rw [List.getElem?_append_left hi'] at e
      obtain ⟨x, h1, h2⟩ := s.ent i u e
      rw [ins1_lt hi']
      exact ⟨x, by rw [upd_ne (np i hi')]; exact h1, RO.mono (keeps_ins hp) _ _ h2⟩
    · have hlt : i < (S ++ [o]).length := by
        obtain ⟨q, _⟩ := List.getElem?_eq_some_iff.mp e
        exact q
      have : i = S.length := by omega
      subst this
      have e' : u = o := by simpa using e.symm
      subst e'
      rw [ins1_at]
      exact ⟨ho, upd_same, RO.mono (keeps_ins hp) _ _ ro⟩
theorem ext_new {p : Addr} {ho : HO} {o : DO} (s : Sat K ι S H) (hp : H p = none) (ro : RO K ι S.length H o ho) : Ext K ι S H (ins1 ι S.length p) (S ++ [o]) (upd H p ho) := ⟨fun i hi => ins1_lt hi, by simp, fun a o h _ => by rw [upd_ne (ne_of_none h hp)]; exact h,
  fun a h => by
    by_cases e : a = p
    · rw [e, upd_same]; exact fun z => nomatch z
    · rw [upd_ne e]; exact h, fun j h1 h2 => by
    have : j = S.length := by simp at h2; omega
    subst this; rw [ins1_at]; exact hp, sat_new s hp ro⟩
/-- a new list or dict -/
theorem PD.new {Q : VK} {o : DO} {ho : HO} (h : PD K ι S H Q (.ref S.length) (S ++ [o])) (s : Sat K ι S H) (ro : RO K ι S.length H o ho) : ∀ p, H p = none → Q (.ref p) (upd H p ho) := fun p hp =>
  h _ _ _ (ext_new s hp ro) ⟨by simp, by rw [ins1_at]⟩
theorem keeps_set {i : Nat} {ho ho' : HO} (h1 : H (ι i) = some ho) (m : Mut (some ho)) : Keeps K ι S.length H ι S.length (upd H (ι i) ho') := by
  have ne : ∀ b u, H b = some u → ¬ Mut (some u) → b ≠ ι i := fun b u q nm z => by subst z; rw [h1] at q; cases q; exact nm m
  exact ⟨fun a xs h => by rw [upd_ne (ne _ _ h fun z => z)]; exact h, fun a xs h => by
    rcases h with ⟨o, h⟩ | h
    · exact .inl ⟨o, by rw [upd_ne (ne _ _ h fun z => z)]; exact h⟩
    · exact .inr h, fun _ _ => rfl, Nat.le_refl _⟩
/-- the object i of the store is changed -/
theorem ext_set {i : Nat} {o o' : DO} {ho' : HO} (s : Sat K ι S H) (hi : S[i]? = some o) (ro : RO K ι S.length H o' ho') : Ext K ι S H ι (S.set i o') (upd H (ι i) ho') := by
  obtain ⟨ho, h1, h2⟩ := s.ent i o hi
  have hlt : i < S.length := (List.getElem?_eq_some_iff.mp hi).1
  have k := keeps_set (K := K) (S := S) (ho' := ho') h1 h2.mut
  refine ⟨fun _ _ => rfl, by simp, fun a u h c => ?_, fun a h => ?_, fun j z1 z2 => absurd z2 (by simp; omega), fun j l hj hl e => ?_, fun j u e => ?_⟩
  · rw [upd_ne]
    · exact h
    · rintro rfl
      rcases c with c | c
      · rw [h1] at h; cases h; exact c h2.mut
      · exact c i hlt rfl
  · by_cases e : a = ι i
    · rw [e, upd_same]; exact fun z => nomatch z
    · rw [upd_ne e]; exact h
  · simp at hj hl; exact s.inj j l hj hl e
  · rw [List.length_set]
    by_cases hj : i = j
    · subst hj
      rw [List.getElem?_set_self hlt] at e
      cases e
      exact ⟨ho', upd_same, RO.mono k _ _ ro⟩
    · rw [List.getElem?_set_ne hj] at e
      obtain ⟨x, q1, q2⟩ := s.ent j u e
      have hjl : j < S.length := (List.getElem?_eq_some_iff.mp e).1
      exact ⟨x, by rw [upd_ne fun z => hj (s.inj j i hjl hlt z).symm]; exact q1, RO.mono k _ _ q2⟩
theorem PD.set {Q : VK} {i : Nat} {o o' : DO} {ho' : HO} {d : D} {v : V} (h : PD K ι S H Q d (S.set i o')) (s : Sat K ι S H) (hi : S[i]? = some o) (ro : RO K ι S.length H o' ho') (rd : RD K ι S.length H d v) : Q v (upd H (ι i) ho') := by
  obtain ⟨ho, h1, h2⟩ := s.ent i o hi
  exact h _ _ _ (ext_set s hi ro) (by rw [List.length_set]; exact RD.mono (keeps_set h1 h2.mut) _ _ rd)
theorem Sat.lst {i : Nat} {ds : List D} (s : Sat K ι S H) (h : S[i]? = some (.lst ds)) : ∃ vs, H (ι i) = some (.lst vs) ∧ RDs K ι S.length H ds vs := by
  obtain ⟨ho, h1, h2⟩ := s.ent i _ h
  cases ho with
  | lst vs => exact ⟨vs, h1, h2⟩
  | _ => exact (show False from h2).elim
theorem Sat.dK {i : Nat} {ds : List (Key × D)} (s : Sat K ι S H) (h : S[i]? = some (.dK ds)) : ∃ vs, H (ι i) = some (.dK vs) ∧ Paired (fun (p : Key × D) (q : Key × V) => p.1 = q.1 ∧ RD K ι S.length H p.2 q.2) ds vs := by
  obtain ⟨ho, h1, h2⟩ := s.ent i _ h
  cases ho with
  | dK vs => exact ⟨vs, h1, h2⟩
  | _ => exact (show False from h2).elim
theorem Sat.dT {i : Nat} {ds : List (List Key × D)} (s : Sat K ι S H) (h : S[i]? = some (.dT ds)) : ∃ vs, H (ι i) = some (.dT vs) ∧ Paired (fun (p : List Key × D) (q : List Key × V) => p.1 = q.1 ∧ RD K ι S.length H p.2 q.2) ds vs := by
  obtain ⟨ho, h1, h2⟩ := s.ent i _ h
  cases ho with
  | dT vs => exact ⟨vs, h1, h2⟩
  | _ => exact (show False from h2).elim
end

/-! ### lists of data -/
section
variable {K : PySem.W.Frag} {ι : Nat → Addr} {n : Nat} {H : Hp}
theorem RDs.length : ∀ {ds : List D} {vs : List V}, RDs K ι n H ds vs → ds.length = vs.length
  | [], vs, h => by
    have e : vs = [] := h
    subst e
    rfl
  | _ :: ds, _, h => by
    obtain ⟨v, r, e, _, h2⟩ := h
    rw [e, List.length_cons, List.length_cons, RDs.length h2]
theorem RDs.get : ∀ {ds : List D} {vs : List V} {i : Nat} {d : D}, RDs K ι n H ds vs → ds[i]? = some d → ∃ v, vs[i]? = some v ∧ RD K ι n H d v
  | [], _, _, _, _, e => by simp at e
  | _ :: ds, _, 0, _, h, e => by
    obtain ⟨v, r, e1, h1, h2⟩ := h
    simp at e; subst e
    exact ⟨v, by rw [e1]; rfl, h1⟩
  | _ :: ds, _, i + 1, _, h, e => by
    obtain ⟨v, r, e1, h1, h2⟩ := h
    obtain ⟨u, q1, q2⟩ := RDs.get (i := i) h2 (by simpa using e)
    exact ⟨u, by rw [e1]; simpa using q1, q2⟩
theorem RDs.append : ∀ {ds es : List D} {vs us : List V}, RDs K ι n H ds vs → RDs K ι n H es us → RDs K ι n H (ds ++ es) (vs ++ us)
  | [], _, _, _, h, h' => by rw [show _ = [] from h]; exact h'
  | _ :: ds, _, _, _, h, h' => by
    obtain ⟨v, r, e, h1, h2⟩ := h
    exact ⟨v, r ++ _, by rw [e]; rfl, h1, RDs.append h2 h'⟩
theorem RDs.one {d : D} {v : V} (h : RD K ι n H d v) : RDs K ι n H [d] [v] := ⟨v, [], rfl, h, rfl⟩
theorem RDs.take : ∀ {ds : List D} {vs : List V} (k : Nat), RDs K ι n H ds vs → RDs K ι n H (ds.take k) (vs.take k)
  | _, _, 0, _ => rfl
  | [], _, _ + 1, h => by rw [show _ = [] from h]; rfl
  | _ :: ds, _, k + 1, h => by
    obtain ⟨v, r, e, h1, h2⟩ := h
    exact ⟨v, r.take k, by rw [e]; rfl, h1, RDs.take k h2⟩
theorem RDs.drop : ∀ {ds : List D} {vs : List V} (k : Nat), RDs K ι n H ds vs → RDs K ι n H (ds.drop k) (vs.drop k)
  | _, _, 0, h => h
  | [], _, _ + 1, h => by rw [show _ = [] from h]; rfl
  | _ :: ds, _, k + 1, h => by
    obtain ⟨v, r, e, h1, h2⟩ := h
    rw [e]
    exact RDs.drop k h2
theorem RDs.set : ∀ {ds : List D} {vs : List V} {d : D} {v : V} (i : Nat), RDs K ι n H ds vs → RD K ι n H d v → RDs K ι n H (ds.set i d) (vs.set i v)
  | [], _, _, _, _, h, _ => by rw [show _ = [] from h]; rfl
  | _ :: ds, _, _, _, 0, h, q => by
    obtain ⟨v, r, e, h1, h2⟩ := h
    exact ⟨_, r, by rw [e]; rfl, q, h2⟩
  | _ :: ds, _, _, _, i + 1, h, q => by
    obtain ⟨v, r, e, h1, h2⟩ := h
    exact ⟨v, r.set i _, by rw [e]; rfl, h1, RDs.set i h2 q⟩
end
end Dx
namespace Dx
open PySem PySem.Spec PyProof.Rows L2
/-! ### the judgements, by plain functions -/
abbrev XE := Gam → Sto → R D
abbrev XB := Gam → Sto → R Bool
abbrev XA := Gam → Sto → R (List D)
def teD (X : Cx) (W : WX) (f : XE) : TE := fun σ H Q => ∃ ι S Γ, Rel X.K ι S H σ Γ ∧ (f Γ S).sat (PD X.K ι S H Q) (PX X.K X.mg ι S H σ W)
def teB (X : Cx) (W : WX) (f : XB) : TT := fun σ H Q => ∃ ι S Γ, Rel X.K ι S H σ Γ ∧ (f Γ S).sat (PB X.K ι S H Q) (PX X.K X.mg ι S H σ W)
def teL (X : Cx) (W : WX) (f : XA) : TA := fun σ H Q => ∃ ι S Γ, Rel X.K ι S H σ Γ ∧ (f Γ S).sat (PL X.K ι S H Q) (PX X.K X.mg ι S H σ W)
def EOk (X : Cx) (W : WX) (e : Expr) (f : XE) : Prop := PE X e (teD X W f)
def TOk (X : Cx) (W : WX) (e : Expr) (f : XB) : Prop := PT X e (teB X W f)
def WOk (X : Cx) (W : WX) (e : Expr) (f : XB) : Prop := PW X e (teB X W f)
def AOk (X : Cx) (W : WX) (es : List Expr) (f : XA) : Prop := PA X es (teL X W f)

section
variable {X : Cx} {W : WX} {e : Expr} {es : List Expr} {pins : List (Addr × Obj)} {s : Shared} {σ : L2.St} {H : Hp} {ι : Nat → Addr} {S : Sto} {Γ : Gam}
theorem EOk.go {f : XE} (h : EOk X W e f) (I : Inv X pins σ H s) (r : Rel X.K ι S H σ Γ) {P : D → Sto → Prop} {E : Exn → Sto → Prop} (hs : (f Γ S).sat P E) (hE : ∀ x S', E x S' → PX X.K X.mg ι S H σ W x S')
    {Qv : Value → Shared → Prop} (hk : ∀ d S' ι' H' v u s', P d S' → Ext X.K ι S H ι' S' H' → RD X.K ι' S'.length H' d v → Inv X pins σ H' s' → RelV v u → Rel X.K ι' S' H' σ Γ → Qv u s') :
    wpAny (model X.prog X.w) X.A (eval e X.env) Qv X.xe s := by
  refine thn (h.run pins s σ H (fun v H' => ∃ d S' ι', P d S' ∧ Ext X.K ι S H ι' S' H' ∧ RD X.K ι' S'.length H' d v) I ⟨ι, S, Γ, r, R.sat_imp hs (fun d S' p ι' H' v e rd => ⟨d, S', ι', p, e, rd⟩) hE⟩) ?_
  rintro u s' ⟨v, H', I', rv, d, S', ι', p, ex, rd⟩
  exact hk d S' ι' H' v u s' p ex rd I' rv (r.ext ex)
theorem TOk.go {f : XB} (h : TOk X W e f) (I : Inv X pins σ H s) (r : Rel X.K ι S H σ Γ) {P : Bool → Sto → Prop} {E : Exn → Sto → Prop} (hs : (f Γ S).sat P E) (hE : ∀ x S', E x S' → PX X.K X.mg ι S H σ W x S')
    {Qv : Bool → Shared → Prop} (hk : ∀ b S' ι' H' s', P b S' → Ext X.K ι S H ι' S' H' → Inv X pins σ H' s' → Rel X.K ι' S' H' σ Γ → Qv b s') :
    wpAny (model X.prog X.w) X.A (isTrue e X.env (eval e X.env)) Qv X.xe s := by
  refine thn (h.run pins s σ H (fun b H' => ∃ S' ι', P b S' ∧ Ext X.K ι S H ι' S' H') I ⟨ι, S, Γ, r, R.sat_imp hs (fun d S' p ι' H' e => ⟨S', ι', p, e⟩) hE⟩) ?_
  rintro u s' ⟨H', I', S', ι', p, ex⟩
  exact hk u S' ι' H' s' p ex I' (r.ext ex)
theorem WOk.go {f : XB} (h : WOk X W e f) (I : Inv X pins σ H s) (r : Rel X.K ι S H σ Γ) {P : Bool → Sto → Prop} {E : Exn → Sto → Prop} (hs : (f Γ S).sat P E) (hE : ∀ x S', E x S' → PX X.K X.mg ι S H σ W x S')
    {wh : Sem Value} {Qv : Bool → Shared → Prop} (hk : ∀ b S' ι' H' s', P b S' → Ext X.K ι S H ι' S' H' → Inv X pins σ H' s' → Rel X.K ι' S' H' σ Γ → Qv b s') :
    wpAny (model X.prog X.w) X.A (isTrue e X.env wh) Qv X.xe s := by
  refine thn (h.run wh pins s σ H (fun b H' => ∃ S' ι', P b S' ∧ Ext X.K ι S H ι' S' H') I ⟨ι, S, Γ, r, R.sat_imp hs (fun d S' p ι' H' e => ⟨S', ι', p, e⟩) hE⟩) ?_
  rintro u s' ⟨H', I', S', ι', p, ex⟩
  exact hk u S' ι' H' s' p ex I' (r.ext ex)
theorem WOk.t {f : XB} (h : WOk X W e f) : TOk X W e f := PW.pt h

abbrev O1 := D → Sto → Option (D × Sto)
abbrev O2 := D → D → Sto → Option (D × Sto)
abbrev OL := List D → Sto → Option (D × Sto)
def R.of {α : Type} : Option (α × Sto) → R α
  | some (a, S) => .ok a S
  | none => .err
theorem R.sat_of {α : Type} {o : Option (α × Sto)} {P : α → Sto → Prop} {E : Exn → Sto → Prop} (h : (R.of o).sat P E) : ∃ a S, o = some (a, S) ∧ P a S := by
  cases o with
  | none => exact h.elim
  | some q => exact ⟨q.1, q.2, rfl, h⟩
/-- two-place operations on values, by data -/
def OpD (X : Cx) (F : Value → Value → Sem Value) (o : O2) : Prop :=
  ∀ (pins : List (Addr × Obj)) (s : Shared) (σ : L2.St) (H : Hp) (ι : Nat → Addr) (S : Sto) (dx dy : D) (x y : V) (v u : Value) (Q : VK) (d : D) (S' : Sto), Inv X pins σ H s → Sat X.K ι S H → RD X.K ι S.length H dx x → RD X.K ι S.length H dy y → RelV x v → RelV y u →
    o dx dy S = some (d, S') → PD X.K ι S H Q d S' → wpAny (model X.prog X.w) X.A (F v u) (EP X pins σ Q) X.xe s
theorem OpD.of {F : Value → Value → Sem Value} {o : O2} {r : R2} (ho : OpR X F r)
    (h : ∀ (H : Hp) (ι : Nat → Addr) (S : Sto) (dx dy : D) (x y : V) (Q : VK) (d : D) (S' : Sto), Sat X.K ι S H → RD X.K ι S.length H dx x → RD X.K ι S.length H dy y → o dx dy S = some (d, S') → PD X.K ι S H Q d S' → r x y H Q) : OpD X F o :=
  fun pins s σ H ι S dx dy x y v u Q d S' I st rx ry vx vy e hs => ho pins s σ H x y v u Q I vx vy (h H ι S dx dy x y Q d S' st rx ry e hs)
def UnD (X : Cx) (F : Value → Sem Value) (o : O1) : Prop :=
  ∀ (pins : List (Addr × Obj)) (s : Shared) (σ : L2.St) (H : Hp) (ι : Nat → Addr) (S : Sto) (dx : D) (x : V) (v : Value) (Q : VK) (d : D) (S' : Sto), Inv X pins σ H s → Sat X.K ι S H → RD X.K ι S.length H dx x → RelV x v →
    o dx S = some (d, S') → PD X.K ι S H Q d S' → wpAny (model X.prog X.w) X.A (F v) (EP X pins σ Q) X.xe s
/-- calls of values that are known -/
def CallD (X : Cx) (f : Value) (o : OL) : Prop :=
  ∀ (pins : List (Addr × Obj)) (s : Shared) (σ : L2.St) (H : Hp) (ι : Nat → Addr) (S : Sto) (ds : List D) (xs : List V) (us : List Value) (Q : VK) (d : D) (S' : Sto), Inv X pins σ H s → Sat X.K ι S H → RDs X.K ι S.length H ds xs → Vals xs us →
    o ds S = some (d, S') → PD X.K ι S H Q d S' → wpAny (model X.prog X.w) X.A (call f us) (EP X pins σ Q) X.xe s
theorem CallD.of {f : Value} {o : OL} {r : List V → Hp → VK → Prop} (ho : CallR X f r)
    (h : ∀ (H : Hp) (ι : Nat → Addr) (S : Sto) (ds : List D) (xs : List V) (Q : VK) (d : D) (S' : Sto), Sat X.K ι S H → RDs X.K ι S.length H ds xs → o ds S = some (d, S') → PD X.K ι S H Q d S' → r xs H Q) : CallD X f o :=
  fun pins s σ H ι S ds xs us Q d S' I st rx vs e hs => ho pins s σ H xs us Q I vs (h H ι S ds xs Q d S' st rx e hs)
theorem CallD.or {f : Value} {o o' : OL} (h : CallD X f o) (h' : CallD X f o') : CallD X f (fun ds S => (o ds S).or (o' ds S)) :=
  fun pins s σ H ι S ds xs us Q d S' I st rx vs e hs => by
    cases q : o ds S with
    | none => simp only [q, Option.none_or] at e; exact h' pins s σ H ι S ds xs us Q d S' I st rx vs e hs
    | some z => simp only [q, Option.some_or] at e; exact h pins s σ H ι S ds xs us Q d S' I st rx vs (by rw [q]; exact e) hs
theorem OpD.or {f : Value → Value → Sem Value} {o o' : O2} (h : OpD X f o) (h' : OpD X f o') : OpD X f (fun a b S => (o a b S).or (o' a b S)) :=
  fun pins s σ H ι S dx dy x y v u Q d S' I st rx ry vx vy e hs => by
    cases q : o dx dy S with
    | none => simp only [q, Option.none_or] at e; exact h' pins s σ H ι S dx dy x y v u Q d S' I st rx ry vx vy e hs
    | some z => simp only [q, Option.some_or] at e; exact h pins s σ H ι S dx dy x y v u Q d S' I st rx ry vx vy (by rw [q]; exact e) hs

/-! ### names, constants -/
def xVar (i : Nat) : XE := fun Γ S => match Γ[i]? with
  | some (some d) => .ok d S
  | _ => .err
def xC (d : D) : XE := fun _ S => .ok d S
theorem d_var {i : Nat} {x : Str} {pos : Pos} (hN : X.N[i]? = some x) (hv : Vis X.env.scope x) (hd : (x == ("__debug__" : Str)) = false := by decide +kernel) (hcd : (x == ("__classdict__" : Str)) = false := by decide +kernel) : EOk X W (.Name x pos) (xVar i) := by
  refine ⟨fun pins s σ H Q I h => ?_⟩
  obtain ⟨ι, S, Γ, r, hs⟩ := h
  unfold xVar at hs
  cases hg : Γ[i]? with
  | none => rw [hg] at hs; exact hs.elim
  | some o =>
    cases o with
    | none => rw [hg] at hs; exact hs.elim
    | some d =>
      rw [hg] at hs
      obtain ⟨v, h1, h2⟩ := r.env i d hg
      exact (pe_var hN hv hd hcd).run pins s σ H Q I ⟨v, h1, PD.same hs r.sat h2⟩
theorem EOk.const {d : D} {v : V} {t : TE} (h : PE X e t) (ht : ∀ σ H Q, Q v H → t σ H Q) (hd : ∀ K ι n H, RD K ι n H d v) : EOk X W e (xC d) := by
  refine ⟨fun pins s σ H Q I h' => ?_⟩
  obtain ⟨ι, S, Γ, r, hs⟩ := h'
  exact h.run pins s σ H Q I (ht σ H Q (PD.same hs r.sat (hd _ _ _ _)))
theorem d_int {i : Int} {j : Nat} {pos : Pos} : EOk X W (.Constant (.int i) j pos) (xC (.int i)) := EOk.const (v := .int i) pe_int (fun _ _ _ h => h) fun _ _ _ _ => rfl
theorem d_bl {i : Bool} {j : Nat} {pos : Pos} : EOk X W (.Constant (.bool i) j pos) (xC (.bl i)) := EOk.const (v := .bl i) pe_bl (fun _ _ _ h => h) fun _ _ _ _ => rfl
theorem d_non {j : Nat} {pos : Pos} : EOk X W (.Constant .none j pos) (xC .non) := EOk.const (v := .non) pe_non (fun _ _ _ h => h) fun _ _ _ _ => rfl
theorem d_str {x : Str} {j : Nat} {pos : Pos} : EOk X W (.Constant (.str x) j pos) (xC (.str x)) := EOk.const (v := .str x) pe_str (fun _ _ _ h => h) fun _ _ _ _ => rfl
/-- a module's constant: an int, a text -/
theorem d_glob {x : Str} {d : D} {v : V} {u : Value} {pos : Pos} (hg : Gl X x) (hm : X.mg x = some u) (r : RelV v u) (hd : ∀ ι n H, RD X.K ι n H d v) (hdb : (x == ("__debug__" : Str)) = false := by decide +kernel) : EOk X W (.Name x pos) (xC d) := by
  refine ⟨fun pins s σ H Q I h' => ?_⟩
  obtain ⟨ι, S, Γ, rr, hs⟩ := h'
  exact (pe_glob hg hm r hdb).run pins s σ H Q I (PD.same hs rr.sat (hd _ _ _))
/-- a built-in type or the like, by name -/
theorem d_bltn {x : Str} {n : String} {pos : Pos} (hg : Gl X x) (hm : X.mg x = none) (hv : bootBuiltins x = some (.type n)) (hn : x ≠ "__name__" := by decide +kernel) (hdb : (x == ("__debug__" : Str)) = false := by decide +kernel) : EOk X W (.Name x pos) (xC (.ty n)) := by
  refine ⟨fun pins s σ H Q I h' => ?_⟩
  obtain ⟨ι, S, Γ, rr, hs⟩ := h'
  exact (pe_bltn (v := .ty n) hg hm hv rfl hn hdb).run pins s σ H Q I (PD.same hs rr.sat rfl)

/-! ### operators -/
def xOp (o : O2) (f g : XE) : XE := fun Γ S => (f Γ S).bind fun x S1 => (g Γ S1).bind fun y S2 => R.of (o x y S2)
def xUn (o : O1) (f : XE) : XE := fun Γ S => (f Γ S).bind fun x S1 => R.of (o x S1)
variable {a b c : Expr} {f g k : XE} {pos : Pos}
theorem bin_go {F : Value → Value → Sem Value} {o : O2} (ho : OpD X F o) (ha : EOk X W a f) (hb : EOk X W b g) (I : Inv X pins σ H s) {Q : VK} (h : teD X W (xOp o f g) σ H Q) :
    wpAny (model X.prog X.w) X.A (eval a X.env) (fun v s₁ => wpAny (model X.prog X.w) X.A (eval b X.env) (fun u s₂ => wpAny (model X.prog X.w) X.A (F v u) (EP X pins σ Q) X.xe s₂) X.xe s₁) X.xe s := by
  obtain ⟨ι, S, Γ, r, hs⟩ := h
  refine ha.go I r (R.sat_bind hs) (fun _ _ z => z) fun d S1 ι1 H1 v u s1 p e1 rd1 I1 rv1 r1 => ?_
  refine hb.go I1 r1 (R.sat_bind p) (fun _ _ z => z.ext e1) fun d2 S2 ι2 H2 v2 u2 s2 p2 e2 rd2 I2 rv2 r2 => ?_
  obtain ⟨d3, S3, q1, q2⟩ := R.sat_of p2
  exact ho pins s2 σ H2 ι2 S2 d d2 v v2 u u2 Q d3 S3 I2 r2.sat (RD.mono e2.keeps _ _ rd1) rd2 rv1 rv2 q1 ((q2.ext e1).ext e2)
theorem d_op {op : Operator} {o : O2} (ho : OpD X (binaryOp op) o) (ha : EOk X W a f) (hb : EOk X W b g) : EOk X W (.BinOp a op b pos) (xOp o f g) :=
  ⟨fun pins s σ H Q I h => wpAny_BinOp (bin_go ho ha hb I h)⟩
theorem d_un {op : UnaryOp} {o : O1} (ho : UnD X (unaryOp op) o) (ha : EOk X W a f) : EOk X W (.UnaryOp op a pos) (xUn o f) := by
  refine ⟨fun pins s σ H Q I h => ?_⟩
  obtain ⟨ι, S, Γ, r, hs⟩ := h
  refine UnaryOp_ (ha.go I r (R.sat_bind hs) (fun _ _ z => z) fun d S1 ι1 H1 v u s1 p e1 rd1 I1 rv1 r1 => ?_)
  obtain ⟨d3, S3, q1, q2⟩ := R.sat_of p
  exact ho pins s1 σ H1 ι1 S1 d v u Q d3 S3 I1 r1.sat rd1 rv1 q1 (q2.ext e1)
theorem d_cmp {op : CmpOp} {o : O2} (ho : OpD X (compareOp op) o) (ha : EOk X W a f) (hb : EOk X W b g) (hm : behindInMarks op b = false) : EOk X W (.Compare a [op] [b] pos) (xOp o f g) :=
  ⟨fun pins s σ H Q I h => wpAny_Compare1 (bin_go ho ha hb I h) hm⟩
/-- a bool's value as a test -/
def xTB (f : XE) : XB := fun Γ S => (f Γ S).bind fun d S1 => match d with
  | .bl b => .ok b S1
  | _ => .err
theorem t_bool (ha : EOk X W a f) (he : ∀ whole, isTrue a X.env whole = (do let v ← whole; standAt a.pos; holding [v] (truthy v))) : TOk X W a (xTB f) := by
  refine ⟨fun pins s σ H Q I h => ?_⟩
  obtain ⟨ι, S, Γ, r, hs⟩ := h
  refine isTrue_plain (ha.go I r (R.sat_bind hs) (fun _ _ z => z) fun d S1 ι1 H1 v u s1 p e1 rd1 I1 rv1 r1 => ?_) (he _)
  cases d with
  | bl b =>
    cases (show v = .bl b from rd1)
    cases rv1
    exact wpAny_truthy_bool ⟨H1, I1, p _ _ e1⟩
  | _ => exact p.elim
theorem t_cmp {op : CmpOp} {o : O2} (ho : OpD X (compareOp op) o) (ha : EOk X W a f) (hb : EOk X W b g) (hm : behindInMarks op b = false) : TOk X W (.Compare a [op] [b] pos) (xTB (xOp o f g)) := by
  refine ⟨fun pins s σ H Q I h => ?_⟩
  obtain ⟨ι, S, Γ, r, hs⟩ := h
  refine wpAny_isTrue_Compare1 (thn (bin_go (Q := fun v H' => ∃ b, v = .bl b ∧ Q b H') ho ha hb I ⟨ι, S, Γ, r, R.sat_imp (R.sat_bind hs) (fun d S' p ι' H' v e rd => ?_) fun _ _ z => z⟩) fun v s1 h1 => thn h1 fun u s2 h2 => thn h2 fun c s3 ⟨x, H1, I1, r1, b, e, q⟩ => ?_) hm
  · cases d with
    | bl b => exact ⟨b, rd, p _ _ e⟩
    | _ => exact p.elim
  · subst e
    cases r1
    exact wpAny_truthy_bool ⟨H1, I1, q⟩

/-! ### truth -/
def tru : D → Sto → Option Bool
  | .non, _ => some false
  | .bl b, _ => some b
  | .int i, _ => some (i != 0)
  | .str x, _ => if x.length ≤ sizeLine then some ((x.length : Int) != 0) else none
  | .tup ds, _ => some (!ds.isEmpty)
  | .sq ds, _ => some (!ds.isEmpty)
  | .ref n, S => match S[n]? with
    | some (.lst ds) => some (!ds.isEmpty)
    | some (.dK kvs) => some (!kvs.isEmpty)
    | _ => none
  | _, _ => none
theorem RDs.emp {K : PySem.W.Frag} {ι : Nat → Addr} {n : Nat} {H : Hp} {ds : List D} {vs : List V} (h : RDs K ι n H ds vs) : ds.isEmpty = vs.isEmpty := by
  have := h.length
  cases ds <;> cases vs <;> simp_all
theorem tru_V {K : PySem.W.Frag} {d : D} {v : V} {b : Bool} (st : Sat K ι S H) (rd : RD K ι S.length H d v) (h : tru d S = some b) : TruV K v H b := by
  unfold tru at h
  split at h
  · cases rd; cases h; rfl
  · cases rd; cases h; rfl
  · cases rd; cases h; rfl
  · cases rd
    split at h
    · rename_i hz
      cases h
      exact ⟨hz, rfl⟩
    · cases h
  · obtain ⟨a, vs, rfl, q, r⟩ := rd
    cases h
    exact .inr (.inl ⟨vs, SqT.of q, by rw [r.emp]⟩)
  · obtain ⟨a, vs, rfl, q, r⟩ := rd
    cases h
    exact .inl ⟨vs, q.l, by rw [r.emp]⟩
  · rename_i S n
    obtain ⟨hn, rfl⟩ : n < _ ∧ v = V.ref (ι n) := rd
    split at h
    · rename_i ds e
      cases h
      obtain ⟨vs, q, r⟩ := st.lst e
      exact .inl ⟨vs, SqL.of q, by rw [r.emp]⟩
    · rename_i kvs e
      cases h
      obtain ⟨vs, q, r⟩ := st.dK e
      exact .inr (.inr ⟨vs, q, by cases r <;> rfl⟩)
    · cases h
  · cases h
def xT (f : XE) : XB := fun Γ S => (f Γ S).bind fun d S1 => match tru d S1 with
  | some b => .ok b S1
  | none => .err
theorem tru_go {d : D} {v : V} {u : Value} {b : Bool} {Q : Bool → Shared → Prop} (I : Inv X pins σ H s) (st : Sat X.K ι S H) (rd : RD X.K ι S.length H d v) (rv : RelV v u) (h : tru d S = some b) (q : ∀ s', Inv X pins σ H s' → Q b s') :
    wpAny (model X.prog X.w) X.A (truthy u) Q X.xe s := by
  refine thn (tru_ok pins s σ H v u (fun b' H' => b' = b ∧ H' = H) I rv ⟨b, tru_V st rd h, rfl, rfl⟩) fun b' s' ⟨H', I', e1, e2⟩ => ?_
  subst e1 e2
  exact q s' I'
theorem t_truth (ha : EOk X W a f) (he : ∀ whole, isTrue a X.env whole = (do let v ← whole; standAt a.pos; holding [v] (truthy v))) : TOk X W a (xT f) := by
  refine ⟨fun pins s σ H Q I h => ?_⟩
  obtain ⟨ι, S, Γ, r, hs⟩ := h
  refine isTrue_plain (ha.go I r (R.sat_bind hs) (fun _ _ z => z) fun d S1 ι1 H1 v u s1 p e1 rd1 I1 rv1 r1 => ?_) (he _)
  cases q : tru d S1 with
  | none => simp only [q] at p; exact p.elim
  | some b =>
    simp only [q] at p
    exact tru_go I1 r1.sat rd1 rv1 q fun s' I' => ⟨H1, I', p _ _ e1⟩

/-! ### and, or, not -/
variable {rest : List Expr} {t u : XB}
def xAndT (t u : XB) : XB := fun Γ S => (t Γ S).bind fun b S1 => if b = true then u Γ S1 else .ok false S1
def xOrT (t u : XB) : XB := fun Γ S => (t Γ S).bind fun b S1 => if b = true then .ok true S1 else u Γ S1
def xNotT (t : XB) : XB := fun Γ S => (t Γ S).bind fun b S1 => .ok (!b) S1
theorem w_and1 (ha : TOk X W a t) : WOk X W (.BoolOp .And [a] pos) t := pw_and1 ha
theorem w_or1 (ha : TOk X W a t) : WOk X W (.BoolOp .Or [a] pos) t := pw_or1 ha
theorem w_and (ha : TOk X W a t) (hb : WOk X W (.BoolOp .And (b :: rest) pos) u) : WOk X W (.BoolOp .And (a :: b :: rest) pos) (xAndT t u) := by
  refine ⟨fun wh pins s σ H Q I h => ?_⟩
  obtain ⟨ι, S, Γ, r, hs⟩ := h
  refine isTrue_and (ha.go I r (R.sat_bind hs) (fun _ _ z => z) fun c S1 ι1 H1 s1 p e1 I1 r1 => ?_)
  cases c with
  | true => exact hb.run wh pins s1 σ H1 Q I1 ⟨ι1, S1, Γ, r1, R.sat_imp p (fun _ _ z => z.ext e1) fun _ _ z => z.ext e1⟩
  | false => exact ⟨H1, I1, p _ _ e1⟩
theorem w_or (ha : TOk X W a t) (hb : WOk X W (.BoolOp .Or (b :: rest) pos) u) : WOk X W (.BoolOp .Or (a :: b :: rest) pos) (xOrT t u) := by
  refine ⟨fun wh pins s σ H Q I h => ?_⟩
  obtain ⟨ι, S, Γ, r, hs⟩ := h
  refine isTrue_or (ha.go I r (R.sat_bind hs) (fun _ _ z => z) fun c S1 ι1 H1 s1 p e1 I1 r1 => ?_)
  cases c with
  | false => exact hb.run wh pins s1 σ H1 Q I1 ⟨ι1, S1, Γ, r1, R.sat_imp p (fun _ _ z => z.ext e1) fun _ _ z => z.ext e1⟩
  | true => exact ⟨H1, I1, p _ _ e1⟩
theorem t_not (ha : TOk X W a t) : TOk X W (.UnaryOp .Not a pos) (xNotT t) := by
  refine ⟨fun pins s σ H Q I h => ?_⟩
  obtain ⟨ι, S, Γ, r, hs⟩ := h
  exact isTrue_not (ha.go I r (R.sat_bind hs) (fun _ _ z => z) fun c S1 ι1 H1 s1 p e1 I1 r1 => ⟨H1, I1, p _ _ e1⟩)
/-- as values: by truth -/
def xAnd (f g : XE) : XE := fun Γ S => (f Γ S).bind fun d S1 => match tru d S1 with
  | some true => g Γ S1
  | some false => .ok d S1
  | none => .err
def xOr (f g : XE) : XE := fun Γ S => (f Γ S).bind fun d S1 => match tru d S1 with
  | some true => .ok d S1
  | some false => g Γ S1
  | none => .err
def xNot (f : XE) : XE := fun Γ S => (f Γ S).bind fun d S1 => match tru d S1 with
  | some b => .ok (.bl (!b)) S1
  | none => .err
theorem d_one {op : BoolOp} (h : EOk X W a f) : EOk X W (.BoolOp op [a] pos) f := pe_one h
theorem d_and (ha : EOk X W a f) (hb : EOk X W (.BoolOp .And (b :: rest) pos) g) : EOk X W (.BoolOp .And (a :: b :: rest) pos) (xAnd f g) := by
  refine ⟨fun pins s σ H Q I h => ?_⟩
  obtain ⟨ι, S, Γ, r, hs⟩ := h
  refine BoolOp_and (ha.go I r (R.sat_bind hs) (fun _ _ z => z) fun d S1 ι1 H1 v u s1 p e1 rd1 I1 rv1 r1 => ?_)
  cases q : tru d S1 with
  | none => simp only [q] at p; exact p.elim
  | some b =>
    refine tru_go I1 r1.sat rd1 rv1 q fun s' I' => ?_
    cases b with
    | true =>
      simp only [q] at p
      exact hb.run pins s' σ H1 Q I' ⟨ι1, S1, Γ, r1, R.sat_imp p (fun _ _ z => z.ext e1) fun _ _ z => z.ext e1⟩
    | false =>
      simp only [q] at p
      exact ⟨v, H1, I', rv1, p _ _ _ e1 rd1⟩
theorem d_or (ha : EOk X W a f) (hb : EOk X W (.BoolOp .Or (b :: rest) pos) g) : EOk X W (.BoolOp .Or (a :: b :: rest) pos) (xOr f g) := by
  refine ⟨fun pins s σ H Q I h => ?_⟩
  obtain ⟨ι, S, Γ, r, hs⟩ := h
  refine BoolOp_or (ha.go I r (R.sat_bind hs) (fun _ _ z => z) fun d S1 ι1 H1 v u s1 p e1 rd1 I1 rv1 r1 => ?_)
  cases q : tru d S1 with
  | none => simp only [q] at p; exact p.elim
  | some b =>
    refine tru_go I1 r1.sat rd1 rv1 q fun s' I' => ?_
    cases b with
    | false =>
      simp only [q] at p
      exact hb.run pins s' σ H1 Q I' ⟨ι1, S1, Γ, r1, R.sat_imp p (fun _ _ z => z.ext e1) fun _ _ z => z.ext e1⟩
    | true =>
      simp only [q] at p
      exact ⟨v, H1, I', rv1, p _ _ _ e1 rd1⟩
theorem d_not (ha : EOk X W a f) : EOk X W (.UnaryOp .Not a pos) (xNot f) := by
  refine ⟨fun pins s σ H Q I h => ?_⟩
  obtain ⟨ι, S, Γ, r, hs⟩ := h
  refine UnaryOp_ (ha.go I r (R.sat_bind hs) (fun _ _ z => z) fun d S1 ι1 H1 v u s1 p e1 rd1 I1 rv1 r1 => ?_)
  cases q : tru d S1 with
  | none => simp only [q] at p; exact p.elim
  | some b =>
    simp only [q] at p
    exact not_of (tru_go I1 r1.sat rd1 rv1 q fun s' I' => ⟨.bl (!b), H1, I', rfl, p _ _ _ e1 rfl⟩)
def xIf (t : XB) (f g : XE) : XE := fun Γ S => (t Γ S).bind fun b S1 => if b = true then f Γ S1 else g Γ S1
theorem d_if (hc : TOk X W c t) (ha : EOk X W a f) (hb : EOk X W b g) : EOk X W (.IfExp c a b pos) (xIf t f g) := by
  refine ⟨fun pins s σ H Q I h => ?_⟩
  obtain ⟨ι, S, Γ, r, hs⟩ := h
  refine wpAny_IfExp (hc.go I r (R.sat_bind hs) (fun _ _ z => z) fun c S1 ι1 H1 s1 p e1 I1 r1 => ?_)
  cases c with
  | true => exact ha.run pins s1 σ H1 Q I1 ⟨ι1, S1, Γ, r1, R.sat_imp p (fun _ _ z => z.ext e1) fun _ _ z => z.ext e1⟩
  | false => exact hb.run pins s1 σ H1 Q I1 ⟨ι1, S1, Γ, r1, R.sat_imp p (fun _ _ z => z.ext e1) fun _ _ z => z.ext e1⟩

/-! ### arguments, displays -/
def xNil : XA := fun _ S => .ok [] S
def xCons (f : XE) (g : XA) : XA := fun Γ S => (f Γ S).bind fun d S1 => (g Γ S1).bind fun ds S2 => .ok (d :: ds) S2
theorem AOk.go {f : XA} (h : AOk X W es f) (cpos : Pos) (I : Inv X pins σ H s) (r : Rel X.K ι S H σ Γ) {P : List D → Sto → Prop} {E : Exn → Sto → Prop} (hs : (f Γ S).sat P E) (hE : ∀ x S', E x S' → PX X.K X.mg ι S H σ W x S')
    {Qv : List Value → Shared → Prop} (hk : ∀ ds S' ι' H' vs us s', P ds S' → Ext X.K ι S H ι' S' H' → RDs X.K ι' S'.length H' ds vs → Inv X pins σ H' s' → Vals vs us → Rel X.K ι' S' H' σ Γ → Qv us s') :
    wpAny (model X.prog X.w) X.A (spliced (backTo cpos (starEach es X.env))) Qv X.xe s := by
  refine thn (h.run cpos pins s σ H (fun vs H' => ∃ ds S' ι', P ds S' ∧ Ext X.K ι S H ι' S' H' ∧ RDs X.K ι' S'.length H' ds vs) I ⟨ι, S, Γ, r, R.sat_imp hs (fun d S' p ι' H' v e rd => ⟨d, S', ι', p, e, rd⟩) hE⟩) ?_
  rintro u s' ⟨v, H', I', rv, d, S', ι', p, ex, rd⟩
  exact hk d S' ι' H' v u s' p ex rd I' rv (r.ext ex)
theorem a_nil : AOk X W [] xNil := by
  refine ⟨fun pos pins s σ H Q I h => ?_⟩
  obtain ⟨ι, S, Γ, r, hs⟩ := h
  exact pa_nil.run pos pins s σ H Q I (hs _ _ _ (Ext.refl r.sat) rfl)
theorem a_cons {g : XA} (ha : EOk X W e f) (hr : AOk X W es g) (hst : starEach (e :: es) X.env = (false, eval e X.env) :: starEach es X.env := by rfl) : AOk X W (e :: es) (xCons f g) := by
  refine ⟨fun pos pins s σ H Q I h => ?_⟩
  obtain ⟨ι, S, Γ, r, hs⟩ := h
  rw [hst]
  show wpAny _ _ (spliced ((false, eval e X.env) :: backTo pos (starEach es X.env))) _ _ s
  refine Calls.spliced_cons (ha.go I r (R.sat_bind hs) (fun _ _ z => z) fun d S1 ι1 H1 v u s1 p e1 rd1 I1 rv1 r1 => ?_)
  refine hr.go pos I1 r1 (R.sat_bind p) (fun _ _ z => z.ext e1) fun ds S2 ι2 H2 vs us s2 p2 e2 rd2 I2 rv2 r2 => ?_
  exact ⟨v :: vs, H2, I2, .cons rv1 rv2, p2 _ _ _ (e1.trans e2) ⟨v, vs, rfl, RD.mono e2.keeps _ _ rd1, rd2⟩⟩
def xTup (f : XA) : XE := fun Γ S => (f Γ S).bind fun ds S1 => if ds.length ≤ sizeLine then .ok (.tup ds) S1 else .err
def xLst (f : XA) : XE := fun Γ S => (f Γ S).bind fun ds S1 => if ds.length ≤ sizeLine then .ok (.ref S1.length) (S1 ++ [.lst ds]) else .err
theorem d_tup {f : XA} {x1 : Nat} (h : AOk X W es f) : EOk X W (.Tuple es x1 pos) (xTup f) := by
  refine ⟨fun pins s σ H Q I hq => ?_⟩
  obtain ⟨ι, S, Γ, r, hs⟩ := hq
  refine wpAny_Tuple_spliced (h.go pos I r (R.sat_bind hs) (fun _ _ z => z) fun ds S1 ι1 H1 vs us s1 p e1 rd1 I1 rv1 r1 => ?_)
  by_cases z : ds.length ≤ sizeLine
  · simp only [z, if_true] at p
    have zv : vs.length ≤ sizeLine := by rw [← rd1.length]; exact z
    refine ⟨by rw [← rv1.length]; exact zv, ?_⟩
    have hf : H1 s1.heap.objs.size = none := I1.hok.fresh (Nat.le_refl _)
    exact ⟨.ref s1.heap.objs.size, upd H1 s1.heap.objs.size (.tup vs), I1.laid (t' := s1.toks) (fun b u e => Heap.get?_push_of_some _ e) (Nat.le_refl _) ⟨zv, us, rv1, ⟨_, Heap.get?_push_size _ rfl, rfl, _, rfl⟩⟩, rfl, PD.tup (PD.ext p e1) r1.sat rd1 _ hf⟩
  · simp only [z, if_false] at p; exact p.elim
theorem d_lst {f : XA} (h : AOk X W es f) : EOk X W (.List es pos) (xLst f) := by
  refine ⟨fun pins s σ H Q I hq => ?_⟩
  obtain ⟨ι, S, Γ, r, hs⟩ := hq
  refine wpAny_List_spliced (h.go pos I r (R.sat_bind hs) (fun _ _ z => z) fun ds S1 ι1 H1 vs us s1 p e1 rd1 I1 rv1 r1 => ?_)
  by_cases z : ds.length ≤ sizeLine
  · simp only [z, if_true] at p
    have zv : vs.length ≤ sizeLine := by rw [← rd1.length]; exact z
    refine ⟨by rw [← rv1.length]; exact zv, ?_⟩
    have hf : H1 s1.heap.objs.size = none := I1.hok.fresh (Nat.le_refl _)
    exact ⟨.ref s1.heap.objs.size, upd H1 s1.heap.objs.size (.lst vs), I1.laid (t' := s1.toks) (fun b u e => Heap.get?_push_of_some _ e) (Nat.le_refl _) ⟨zv, us, 0, rv1, Heap.get?_push_size _ rfl⟩, rfl, PD.new (PD.ext p e1) r1.sat (show RO _ _ _ _ (.lst ds) (.lst vs) from rd1) _ hf⟩
  · simp only [z, if_false] at p; exact p.elim
end
end Dx
namespace Dx
open PySem PySem.Spec PyProof.Rows L2
/-! ### statements -/
inductive RS where
  | nx (Γ : Gam) (S : Sto) | rt (d : D) (S : Sto) | bk (Γ : Gam) (S : Sto) | ct (Γ : Gam) (S : Sto) | ex (x : Exn) (Γ : Gam) (S : Sto) | err
abbrev XS := Gam → Sto → RS
abbrev XG := D → Gam → Sto → Option (Gam × Sto)
def R.then {α : Type} (r : R α) (Γ : Gam) (k : α → Sto → RS) : RS := match r with
  | .ok a S => k a S
  | .ex x S => .ex x Γ S
  | .err => .err
def RS.then (r : RS) (k : Gam → Sto → RS) : RS := match r with
  | .nx Γ S => k Γ S
  | o => o
def PF (X : Cx) (W : WX) (ι : Nat → Addr) (S : Sto) (H : Hp) (D : Ends) : RS → Prop
  | .nx Γ S' => ∀ ι' H' σ, Ext X.K ι S H ι' S' H' → Rel X.K ι' S' H' σ Γ → D.nx σ H'
  | .rt d S' => ∀ ι' H' v, Ext X.K ι S H ι' S' H' → RD X.K ι' S'.length H' d v → D.rt v H'
  | .bk Γ S' => ∀ ι' H' σ, Ext X.K ι S H ι' S' H' → Rel X.K ι' S' H' σ Γ → D.bk σ H'
  | .ct Γ S' => ∀ ι' H' σ, Ext X.K ι S H ι' S' H' → Rel X.K ι' S' H' σ Γ → D.ct σ H'
  | .ex x Γ S' => ∀ ι' H' σ c dd, Ext X.K ι S H ι' S' H' → Rel X.K ι' S' H' σ Γ → RX X.K X.mg ι' S'.length H' x c dd → W c dd σ H'
  | .err => False
theorem PF.ext {X : Cx} {W : WX} {ι ι' : Nat → Addr} {S S' : Sto} {H H' : Hp} {D : Ends} {r : RS} (h : PF X W ι S H D r) (e : Ext X.K ι S H ι' S' H') : PF X W ι' S' H' D r := by
  cases r with
  | nx Γ S2 => exact fun i2 H2 σ e2 r => h i2 H2 σ (e.trans e2) r
  | rt d S2 => exact fun i2 H2 σ e2 r => h i2 H2 σ (e.trans e2) r
  | bk Γ S2 => exact fun i2 H2 σ e2 r => h i2 H2 σ (e.trans e2) r
  | ct Γ S2 => exact fun i2 H2 σ e2 r => h i2 H2 σ (e.trans e2) r
  | ex x Γ S2 => exact fun i2 H2 σ c dd e2 r => h i2 H2 σ c dd (e.trans e2) r
  | err => exact h
theorem PF.then {X : Cx} {W : WX} {ι : Nat → Addr} {S : Sto} {H : Hp} {D : Ends} {α : Type} {r : R α} {Γ : Gam} {k : α → Sto → RS} {σ : L2.St} (rel : Rel X.K ι S H σ Γ) (h : PF X W ι S H D (r.then Γ k)) :
    r.sat (fun a S1 => PF X W ι S H D (k a S1)) (PX X.K X.mg ι S H σ W) := by
  cases r with
  | ok a S1 => exact h
  | ex x S1 => exact fun ι' H' c dd e rx => h ι' H' σ c dd e (rel.ext e) rx
  | err => exact h
def tsD (X : Cx) (W : WX) (f : XS) : TS := fun D σ H => ∃ ι S Γ, Rel X.K ι S H σ Γ ∧ PF X W ι S H D (f Γ S)
def SOk (X : Cx) (W : WX) (st : Stmt) (f : XS) : Prop := PS X st (tsD X W f)
def BOk (X : Cx) (W : WX) (sts : List Stmt) (f : XS) : Prop := PSs X sts (tsD X W f)
/-- targets -/
def tgD (X : Cx) (g : XG) : TG := fun v σ H Q => ∃ ι S Γ d Γ' S', Rel X.K ι S H σ Γ ∧ RD X.K ι S.length H d v ∧ g d Γ S = some (Γ', S') ∧ ∀ ι' H' σ', Ext X.K ι S H ι' S' H' → Rel X.K ι' S' H' σ' Γ' → Q σ' H'
def GOk (X : Cx) (tg : Expr) (g : XG) : Prop := PG X tg (tgD X g)
abbrev XGs := List D → Gam → Sto → Option (Gam × Sto)
def tgsD (X : Cx) (g : XGs) : TGs := fun vs σ H Q => ∃ ι S Γ ds Γ' S', Rel X.K ι S H σ Γ ∧ RDs X.K ι S.length H ds vs ∧ g ds Γ S = some (Γ', S') ∧ ∀ ι' H' σ', Ext X.K ι S H ι' S' H' → Rel X.K ι' S' H' σ' Γ' → Q σ' H'
def GsOk (X : Cx) (ts : List Expr) (g : XGs) : Prop := PGs X ts (tgsD X g)

section
variable {X : Cx} {W : WX} {e : Expr} {es : List Expr} {st : Stmt} {sts : List Stmt} {pins : List (Addr × Obj)} {s : Shared} {σ : L2.St} {H : Hp} {ι : Nat → Addr} {S : Sto} {Γ : Gam} {pos : Pos} {f g : XE} {F G : XS}

def xSkip : XS := fun Γ S => .nx Γ S
def xSeq (F G : XS) : XS := fun Γ S => (F Γ S).then G
theorem b_nil : BOk X W [] xSkip := by
  refine ⟨fun pins s σ H D I h => ?_⟩
  obtain ⟨ι, S, Γ, r, hs⟩ := h
  exact pss_nil.run pins s σ H D I (hs _ _ _ (Ext.refl r.sat) r)
theorem b_cons (h1 : SOk X W st F) (h2 : BOk X W sts G) : BOk X W (st :: sts) (xSeq F G) := by
  refine ⟨fun pins s σ H D I h => ?_⟩
  obtain ⟨ι, S, Γ, r, hs⟩ := h
  refine (pss_cons h1 h2).run pins s σ H D I ⟨ι, S, Γ, r, ?_⟩
  unfold xSeq at hs
  cases q : F Γ S with
  | nx Γ1 S1 =>
    rw [q] at hs
    exact fun ι1 H1 σ1 e1 r1 => ⟨ι1, S1, Γ1, r1, PF.ext (show PF X W ι S H D (G Γ1 S1) from hs) e1⟩
  | _ => rw [q] at hs; exact hs
theorem b_one (h1 : SOk X W st F) : BOk X W [st] F := pss_one h1
theorem s_pass : SOk X W (.Pass pos) xSkip := by
  refine ⟨fun pins s σ H D I h => ?_⟩
  obtain ⟨ι, S, Γ, r, hs⟩ := h
  exact ps_pass.run pins s σ H D I (hs _ _ _ (Ext.refl r.sat) r)
def xBrk : XS := fun Γ S => .bk Γ S
def xCnt : XS := fun Γ S => .ct Γ S
theorem s_break : SOk X W (.Break pos) xBrk := by
  refine ⟨fun pins s σ H D I h => ?_⟩
  obtain ⟨ι, S, Γ, r, hs⟩ := h
  exact ps_break.run pins s σ H D I (hs _ _ _ (Ext.refl r.sat) r)
theorem s_continue : SOk X W (.Continue pos) xCnt := by
  refine ⟨fun pins s σ H D I h => ?_⟩
  obtain ⟨ι, S, Γ, r, hs⟩ := h
  exact ps_continue.run pins s σ H D I (hs _ _ _ (Ext.refl r.sat) r)
def xDrop (f : XE) : XS := fun Γ S => (f Γ S).then Γ fun _ S1 => .nx Γ S1
theorem s_expr (he : EOk X W e f) (hs : swapsWith e none pos.line X.env = pure false := by rfl) : SOk X W (.Expr e pos) (xDrop f) := by
  refine ⟨fun pins s σ H D I h => ?_⟩
  obtain ⟨ι, S, Γ, r, hs'⟩ := h
  exact wpAny_Expr_any (he.go I r (PF.then r hs') (fun _ _ z => z) fun d S1 ι1 H1 v u s1 p e1 rd1 I1 rv1 r1 => ⟨σ, H1, I1, p _ _ _ e1 r1⟩) I.quiet hs
def xRet (f : XE) : XS := fun Γ S => (f Γ S).then Γ fun d S1 => .rt d S1
theorem s_ret (he : EOk X W e f) : SOk X W (.Return (some e) pos) (xRet f) := by
  refine ⟨fun pins s σ H D I h => ?_⟩
  obtain ⟨ι, S, Γ, r, hs'⟩ := h
  exact wpAny_Return_some (he.go I r (PF.then r hs') (fun _ _ z => z) fun d S1 ι1 H1 v u s1 p e1 rd1 I1 rv1 r1 => ⟨v, σ, H1, I1, rv1, p _ _ _ e1 rd1⟩)
def xRetN : XS := fun Γ S => .rt .non S
theorem s_retN : SOk X W (.Return none pos) xRetN := by
  refine ⟨fun pins s σ H D I h => ?_⟩
  obtain ⟨ι, S, Γ, r, hs⟩ := h
  exact ps_retN.run pins s σ H D I (hs _ _ _ (Ext.refl r.sat) rfl)
def xIfS (t : XB) (F G : XS) : XS := fun Γ S => (t Γ S).then Γ fun b S1 => if b = true then F Γ S1 else G Γ S1
theorem s_if {c : Expr} {a b : List Stmt} {t : XB} (hc : TOk X W c t) (ha : BOk X W a F) (hb : BOk X W b G) : SOk X W (.If c a b pos) (xIfS t F G) := by
  refine ⟨fun pins s σ H D I h => ?_⟩
  obtain ⟨ι, S, Γ, r, hs⟩ := h
  refine wpAny_If (hc.go I r (PF.then r hs) (fun _ _ z => z) fun c S1 ι1 H1 s1 p e1 I1 r1 => ?_)
  cases c with
  | true => exact ha.run pins s1 σ H1 D I1 ⟨ι1, S1, Γ, r1, PF.ext p e1⟩
  | false => exact hb.run pins s1 σ H1 D I1 ⟨ι1, S1, Γ, r1, PF.ext p e1⟩

/-! ### targets -/
def gVar (i : Nat) : XG := fun d Γ S => if i < Γ.length then some (Γ.set i (some d), S) else none
theorem Rel.set {K : PySem.W.Frag} (r : Rel K ι S H σ Γ) {i : Nat} {d : D} {v : V} (rd : RD K ι S.length H d v) : Rel K ι S H (σ.set i (some v)) (Γ.set i (some d)) := ⟨r.sat, by rw [List.length_set, List.length_set, r.len], fun j d' h => by
  by_cases hj : i = j
  · subst hj
    by_cases hl : i < Γ.length
    · rw [List.getElem?_set_self hl] at h
      cases h
      exact ⟨v, by rw [List.getElem?_set_self (by rw [r.len]; exact hl)], rd⟩
    · rw [List.getElem?_eq_none (by rw [List.length_set]; omega)] at h; cases h
  · rw [List.getElem?_set_ne hj] at h
    obtain ⟨v', h1, h2⟩ := r.env j d' h
    exact ⟨v', by rw [List.getElem?_set_ne hj]; exact h1, h2⟩⟩
theorem g_var {i : Nat} {x : Str} (hN : X.N.Nodup) (hi : X.N[i]? = some x) (hx : Loc X.env.scope x) (hf : X.fn x = true ∨ X.env.scope.names.lookup x = some .local := by first | exact .inl rfl | exact .inr rfl | assumption) : GOk X (.Name x pos) (gVar i) := by
  refine ⟨fun pins s σ H v u Q I rv h => ?_⟩
  obtain ⟨ι, S, Γ, d, Γ', S', r, rd, hs, hq⟩ := h
  unfold gVar at hs
  split at hs
  · cases hs
    exact (pg_name hN hi hx hf).run pins s σ H v u Q I rv (hq _ _ _ (Ext.refl r.sat) (r.set rd))
  · cases hs
def gNil : XGs := fun ds Γ S => match ds with
  | [] => some (Γ, S)
  | _ => none
def gCons (g : XG) (gs : XGs) : XGs := fun ds Γ S => match ds with
  | d :: r => (g d Γ S).bind fun q => gs r q.1 q.2
  | _ => none
theorem gs_nil : GsOk X [] gNil := by
  refine ⟨fun pins s σ H vs us Q I rv h => ?_⟩
  obtain ⟨ι, S, Γ, ds, Γ', S', r, rd, hs, hq⟩ := h
  unfold gNil at hs
  cases ds with
  | nil =>
    cases hs
    exact pgs_nil.run pins s σ H vs us Q I rv ⟨rd, hq _ _ _ (Ext.refl r.sat) r⟩
  | cons => cases hs
theorem gs_cons {ge : XG} {gs : XGs} (h1 : GOk X e ge) (h2 : GsOk X es gs) (hs : (assignEach (e :: es) X.env).map (·.2) = assign e X.env :: (assignEach es X.env).map (·.2) := by rfl) : GsOk X (e :: es) (gCons ge gs) := by
  refine ⟨fun pins s σ H vs us Q I rv h => ?_⟩
  obtain ⟨ι, S, Γ, ds, Γ', S', r, rd, hs', hq⟩ := h
  unfold gCons at hs'
  cases ds with
  | nil => cases hs'
  | cons d ds =>
    obtain ⟨v, vr, rfl, rd1, rd2⟩ := rd
    obtain ⟨⟨Γ1, S1⟩, q1, q2⟩ := Option.bind_eq_some_iff.mp hs'
    refine (pgs_cons h1 h2 hs).run pins s σ H _ us Q I rv ⟨v, vr, rfl, ι, S, Γ, d, Γ1, S1, r, rd1, q1, fun ι1 H1 σ1 e1 r1 => ?_⟩
    exact ⟨ι1, S1, Γ1, ds, Γ', S', r1, RDs.mono e1.keeps _ _ rd2, q2, fun ι2 H2 σ2 e2 r2 => hq _ _ _ (e1.trans e2) r2⟩
def gTup (n : Nat) (gs : XGs) : XG := fun d Γ S => match d with
  | .tup ds => if ds.length = n then gs ds Γ S else none
  | _ => none
theorem g_tup {n k : Nat} {gs : XGs} (hc : X.calm = true) (h : GsOk X es gs) (hn : (assignEach es X.env).length = n := by rfl) (hst : (assignEach es X.env).findIdx? (·.1) = none := by rfl) : GOk X (.Tuple es k pos) (gTup n gs) := by
  refine ⟨fun pins s σ H v u Q I rv h' => ?_⟩
  obtain ⟨ι, S, Γ, d, Γ', S', r, rd, hs, hq⟩ := h'
  unfold gTup at hs
  cases d with
  | tup ds =>
    obtain ⟨a, vs, rfl, q, rds⟩ := rd
    simp only at hs
    split at hs
    · rename_i hl
      exact (pg_tup hc h hn hst).run pins s σ H _ u Q I rv ⟨a, vs, rfl, SqT.of q, by rw [← rds.length]; exact hl, ι, S, Γ, ds, Γ', S', r, rds, hs, hq⟩
    · cases hs
  | _ => cases hs
def xAsg (f : XE) (g : XG) : XS := fun Γ S => (f Γ S).then Γ fun d S1 => match g d Γ S1 with
  | some (Γ', S') => .nx Γ' S'
  | none => .err
theorem asg_fin {tg : Expr} {ge : XG} (hg : GOk X tg ge) {d : D} {D : Ends} {v : V} {u : Value} (I : Inv X pins σ H s) (r : Rel X.K ι S H σ Γ) (rd : RD X.K ι S.length H d v) (rv : RelV v u)
    (p : PF X W ι S H D (match ge d Γ S with | some (Γ', S') => .nx Γ' S' | none => .err)) : wpAny (model X.prog X.w) X.A (assign tg X.env u) (fun _ s' => ∃ σ' H', Inv X pins σ' H' s' ∧ D.nx σ' H') X.xe s := by
  cases q : ge d Γ S with
  | none => rw [q] at p; exact p.elim
  | some z =>
    rw [q] at p
    exact hg.run pins s σ H v u D.nx I rv ⟨ι, S, Γ, d, z.1, z.2, r, rd, q, p⟩
theorem s_asg {tg : Expr} {ge : XG} (he : EOk X W e f) (hg : GOk X tg ge) (hs : swapsWithSole [tg] e pos.line X.env = pure false := by rfl) (hw : swappedStores [tg] e X.env = pure none := by rfl)
    (h1 : (assignEach [tg] X.env).map (·.2) = [assign tg X.env] := by rfl) : SOk X W (.Assign [tg] e pos) (xAsg f ge) := by
  refine ⟨fun pins s σ H D I h => ?_⟩
  obtain ⟨ι, S, Γ, r, hs'⟩ := h
  refine wpAny_Assign_stores (he.go I r (PF.then r hs') (fun _ _ z => z) fun d S1 ι1 H1 v u s1 p e1 rd1 I1 rv1 r1 => ?_) hs hw
  rw [h1]
  exact asg_fin hg I1 r1 rd1 rv1 (PF.ext p e1)
theorem s_set {i : Nat} {x : Str} {pos' : Pos} (hN : X.N.Nodup) (hi : X.N[i]? = some x) (hx : Loc X.env.scope x) (he : EOk X W e f) (hs : swapsWith e (some (.Name x pos')) pos.line X.env = pure false := by rfl) (hf : X.fn x = true ∨ X.env.scope.names.lookup x = some .local := by first | exact .inl rfl | exact .inr rfl | assumption) :
    SOk X W (.Assign [.Name x pos'] e pos) (xAsg f (gVar i)) := by
  refine ⟨fun pins s σ H D I h => ?_⟩
  obtain ⟨ι, S, Γ, r, hs'⟩ := h
  refine wpAny_Assign_Name (he.go I r (PF.then r hs') (fun _ _ z => z) fun d S1 ι1 H1 v u s1 p e1 rd1 I1 rv1 r1 => ?_) hs
  have q := PF.ext p e1
  unfold gVar at q
  by_cases hl : i < Γ.length
  · simp only [hl, if_true] at q
    exact store_ok I1 hN hi hx rv1 (fun s2 I2 => ⟨_, H1, I2, q _ _ _ (Ext.refl r1.sat) (r1.set rd1)⟩) hf
  · simp only [hl, if_false] at q; exact q.elim

/-! ### loops -/
structure ItD where
  items : List D
  live : Sto → Prop
def GoodIt (K : PySem.W.Frag) (ι0 : Nat → Addr) (S0 : Sto) (H0 : Hp) (J : It) (q : ItD) : Prop :=
  ∀ ι S H, Ext K ι0 S0 H0 ι S H → q.live S →
    (∀ (i : Nat) (d : D), q.items[i]? = some d → J.go i H ∧ ∀ x H', J.yld i H x H' → Ext K ι S H ι S H' ∧ RD K ι S.length H' d x) ∧ (∀ i, q.items.length ≤ i → J.stop i H)
abbrev XI := Gam → Sto → R ItD
def tiD (X : Cx) (W : WX) (f : XI) : TI := fun σ H Q => ∃ ι S Γ, Rel X.K ι S H σ Γ ∧ (f Γ S).sat (fun q S' => ∀ ι' H' J, Ext X.K ι S H ι' S' H' → GoodIt X.K ι' S' H' J q → Q J H') (PX X.K X.mg ι S H σ W)
def IOk (X : Cx) (W : WX) (tg iter : Expr) (f : XI) : Prop := PI X tg iter (tiD X W f)
open Classical in
noncomputable def forL (g : XG) (body : XS) (live : Sto → Prop) : List D → XS
  | [], Γ, S => if live S then .nx Γ S else .err
  | d :: ds, Γ, S => if live S then (match g d Γ S with
      | some (Γ1, S1) => match body Γ1 S1 with
        | .nx Γ2 S2 => forL g body live ds Γ2 S2
        | .ct Γ2 S2 => forL g body live ds Γ2 S2
        | .bk Γ2 S2 => .nx Γ2 S2
        | .rt d S2 => .rt d S2
        | .ex x Γ2 S2 => .ex x Γ2 S2
        | .err => .err
      | none => .err) else .err
noncomputable def xFor (it : XI) (g : XG) (body : XS) : XS := fun Γ S => (it Γ S).then Γ fun q S1 => forL g body q.live q.items Γ S1
theorem s_for {tg iter : Expr} {body : List Stmt} {it : XI} {ge : XG} (hp : PassesOwn (model X.prog X.w) X.A X.env X.xe) (hc : X.calm = true) (hi : IOk X W tg iter it) (hg : GOk X tg ge) (hb : BOk X W body F)
    (hs : ∀ x, foldedSetIterable iter X.env x = pure x := by intro _; rfl) : SOk X W (.For tg iter body [] pos) (xFor it ge F) := by
  refine ⟨fun pins s σ H D I h => ?_⟩
  obtain ⟨ι, S, Γ, r, hs'⟩ := h
  refine (ps_for hp hc hi hg hb hs).run pins s σ H D I ⟨ι, S, Γ, r, R.sat_imp (PF.then r hs') (fun q S1 p ι1 H1 J e1 gd => ?_) fun _ _ z => z⟩
  refine ⟨fun i m σ' H' => m = q.items.length - i ∧ i ≤ q.items.length ∧ ∃ ι' S' Γ', Ext X.K ι1 S1 H1 ι' S' H' ∧ Rel X.K ι' S' H' σ' Γ' ∧ PF X W ι' S' H' D (forL ge F q.live (q.items.drop i) Γ' S'),
    ⟨q.items.length, rfl, Nat.zero_le _, ι1, S1, Γ, Ext.refl e1.sat, r.ext e1, PF.ext p e1⟩, ?_⟩
  rintro i m σ' H' ⟨rfl, hi', ι', S', Γ', e', r', p'⟩
  by_cases hlt : i < q.items.length
  · right
    rw [List.drop_eq_getElem_cons hlt] at p'
    unfold forL at p'
    split at p'
    · rename_i hl
      obtain ⟨h1, h2⟩ := (gd ι' S' H' e' hl).1 i q.items[i] (by simp [hlt])
      refine ⟨h1, fun σ2 H2 => ∃ ι2 S2 Γ2, Ext X.K ι1 S1 H1 ι2 S2 H2 ∧ Rel X.K ι2 S2 H2 σ2 Γ2 ∧ PF X W ι2 S2 H2 D (forL ge F q.live (q.items.drop (i + 1)) Γ2 S2), ?_, fun x H2 y => ?_⟩
      · rintro σ2 H2 ⟨ι2, S2, Γ2, e2, r2, p2⟩
        exact ⟨q.items.length - (i + 1), by omega, rfl, hlt, ι2, S2, Γ2, e2, r2, p2⟩
      · obtain ⟨e2, rd⟩ := h2 x H2 y
        cases qg : ge q.items[i] Γ' S' with
        | none => rw [qg] at p'; exact p'.elim
        | some z =>
          obtain ⟨Γ3, S3⟩ := z
          rw [qg] at p'
          refine ⟨ι', S', Γ', q.items[i], Γ3, S3, r'.ext e2, rd, qg, fun ι3 H3 σ3 e3 r3 => ?_⟩
          refine ⟨ι3, S3, Γ3, r3, ?_⟩
          have p3 := PF.ext p' (e2.trans e3)
          simp only at p3
          cases qb : F Γ3 S3 with
          | nx Γ4 S4 =>
            rw [qb] at p3
            exact fun ι4 H4 σ4 e4 r4 => ⟨ι4, S4, Γ4, e'.trans (e2.trans (e3.trans e4)), r4, PF.ext p3 e4⟩
          | ct Γ4 S4 =>
            rw [qb] at p3
            exact fun ι4 H4 σ4 e4 r4 => ⟨ι4, S4, Γ4, e'.trans (e2.trans (e3.trans e4)), r4, PF.ext p3 e4⟩
          | bk Γ4 S4 => rw [qb] at p3; exact p3
          | rt d S4 => rw [qb] at p3; exact p3
          | ex x Γ4 S4 => rw [qb] at p3; exact p3
          | err => rw [qb] at p3; exact p3
    · exact p'.elim
  · left
    rw [List.drop_of_length_le (by omega)] at p'
    unfold forL at p'
    split at p'
    · rename_i hl
      exact ⟨(gd ι' S' H' e' hl).2 i (by omega), p' _ _ _ (Ext.refl r'.sat) r'⟩
    · exact p'.elim
def whileF (t : XB) (body : XS) : Nat → XS
  | 0, _, _ => .err
  | n + 1, Γ, S => (t Γ S).then Γ fun b S1 => if b = true then (match body Γ S1 with
      | .nx Γ2 S2 => whileF t body n Γ2 S2
      | .ct Γ2 S2 => whileF t body n Γ2 S2
      | .bk Γ2 S2 => .nx Γ2 S2
      | .rt d S2 => .rt d S2
      | .ex x Γ2 S2 => .ex x Γ2 S2
      | .err => .err) else .nx Γ S1
open Classical in
noncomputable def xWhile (t : XB) (body : XS) : XS := fun Γ S => if h : ∃ n, whileF t body n Γ S ≠ .err then whileF t body (Classical.choose h) Γ S else .err
theorem whileF_mono {t : XB} {body : XS} : ∀ (n m : Nat) (Γ : Gam) (S : Sto), n ≤ m → whileF t body n Γ S ≠ .err → whileF t body m Γ S = whileF t body n Γ S
  | 0, _, _, _, _, h => absurd rfl h
  | n + 1, 0, _, _, hm, _ => absurd hm (by omega)
  | n + 1, m + 1, Γ, S, hm, h => by
    unfold whileF at h ⊢
    cases q : t Γ S with
    | ex x S1 => rfl
    | err => rfl
    | ok b S1 =>
      simp only [q, R.then] at h ⊢
      cases b with
      | false => rfl
      | true =>
        simp only [if_true] at h ⊢
        cases qb : body Γ S1 with
        | nx Γ2 S2 => simp only [qb] at h ⊢; exact whileF_mono n m Γ2 S2 (by omega) h
        | ct Γ2 S2 => simp only [qb] at h ⊢; exact whileF_mono n m Γ2 S2 (by omega) h
        | _ => rfl
theorem xWhile_of {t : XB} {body : XS} {n : Nat} {Γ : Gam} {S : Sto} {r : RS} (h : whileF t body n Γ S = r) (hr : r ≠ .err) : xWhile t body Γ S = r := by
  have hx : ∃ n, whileF t body n Γ S ≠ .err := ⟨n, by rw [h]; exact hr⟩
  unfold xWhile
  rw [dif_pos hx]
  rcases Nat.le_total n (Classical.choose hx) with hl | hl
  · rw [whileF_mono n _ Γ S hl (by rw [h]; exact hr), h]
  · rw [← whileF_mono _ n Γ S hl (Classical.choose_spec hx), h]
theorem s_while {c : Expr} {body : List Stmt} {t : XB} (hp : PassesOwn (model X.prog X.w) X.A X.env X.xe) (hc : TOk X W c t) (hb : BOk X W body F) : SOk X W (.While c body [] pos) (xWhile t F) := by
  refine ⟨fun pins s σ H D I h => ?_⟩
  obtain ⟨ι, S, Γ, r, hs⟩ := h
  unfold xWhile at hs
  split at hs
  · rename_i hx
    refine (ps_while hp hc hb).run pins s σ H D I ⟨fun m σ' H' => ∃ ι' S' Γ', Rel X.K ι' S' H' σ' Γ' ∧ PF X W ι' S' H' D (whileF t F m Γ' S'), ⟨_, ι, S, Γ, r, hs⟩, ?_⟩
    rintro m σ' H' ⟨ι', S', Γ', r', p'⟩
    cases m with
    | zero => exact p'.elim
    | succ n =>
      unfold whileF at p'
      refine ⟨ι', S', Γ', r', R.sat_imp (PF.then r' p') (fun b S1 p ι1 H1 e1 => ?_) fun _ _ z => z⟩
      have p1 := PF.ext p e1
      have r1 := r'.ext e1
      cases b with
      | false => exact p1 _ _ _ (Ext.refl r1.sat) r1
      | true =>
        simp only [if_true] at p1 ⊢
        refine ⟨fun σ2 H2 => ∃ ι2 S2 Γ2, Rel X.K ι2 S2 H2 σ2 Γ2 ∧ PF X W ι2 S2 H2 D (whileF t F n Γ2 S2), fun σ2 H2 z => ⟨n, Nat.lt_succ_self n, z⟩, ι1, S1, Γ', r1, ?_⟩
        cases qb : F Γ' S1 with
        | nx Γ4 S4 =>
          rw [qb] at p1
          exact fun ι4 H4 σ4 e4 r4 => ⟨ι4, S4, Γ4, r4, PF.ext p1 e4⟩
        | ct Γ4 S4 =>
          rw [qb] at p1
          exact fun ι4 H4 σ4 e4 r4 => ⟨ι4, S4, Γ4, r4, PF.ext p1 e4⟩
        | bk Γ4 S4 => rw [qb] at p1; exact p1
        | rt d S4 => rw [qb] at p1; exact p1
        | ex x Γ4 S4 => rw [qb] at p1; exact p1
        | err => rw [qb] at p1; exact p1
  · exact hs.elim
end
end Dx
namespace Dx
open PySem PySem.Spec PyProof.Rows L2
/-! ### defs -/
abbrev Fn := List D → Sto → R D
def spF (K : PySem.W.Frag) (mg : Str → Option Value) (ar : Nat) (F : Fn) : Sp := fun vs H Q E => vs.length = ar ∧ ∃ ι S ds, Sat K ι S H ∧ RDs K ι S.length H ds vs ∧
  (F ds S).sat (PD K ι S H Q) (fun x S' => ∀ ι' H' c dd, Ext K ι S H ι' S' H' → RX K mg ι' S'.length H' x c dd → E c dd H')
/-- the def x of ar parameters computes F, in k levels -/
structure HasFn (P : Program) (w : World) (K : PySem.W.Frag) (mg : Str → Option Value) (base : Heap) (x : Str) (ar k : Nat) (F : Fn) : Prop where
  ex : ∃ f fd ps, mg x = some (.ref f) ∧ PySem.W.keepIn K (.ref f) = true ∧ ps.length = ar ∧ Binds K fd ps [] ∧ FnOk P w K mg base (L2.CX P w) k f fd ps (spF K mg ar F)
abbrev Has (X : Cx) (x : Str) (ar k : Nat) (F : Fn) : Prop := HasFn X.prog X.w X.K X.mg X.base x ar k F
theorem HasFn.mono {P : Program} {w : World} {K : PySem.W.Frag} {mg : Str → Option Value} {base : Heap} {x : Str} {ar j k : Nat} {F : Fn} (h : HasFn P w K mg base x ar j F) (hk : j ≤ k) : HasFn P w K mg base x ar k F := by
  obtain ⟨f, fd, ps, h1, h2, h3, h4, h5⟩ := h.ex
  exact ⟨f, fd, ps, h1, h2, h3, h4, h5.mono hk⟩
/-- another function that does the same where it does something -/
theorem HasFn.imp {P : Program} {w : World} {K : PySem.W.Frag} {mg : Str → Option Value} {base : Heap} {x : Str} {ar k : Nat} {F G : Fn} (h : HasFn P w K mg base x ar k F) (hk : ∀ ds S, G ds S = .err ∨ G ds S = F ds S) : HasFn P w K mg base x ar k G := by
  obtain ⟨f, fd, ps, h1, h2, h3, h4, h5⟩ := h.ex
  refine ⟨f, fd, ps, h1, h2, h3, h4, h5.imp fun vs H Q E => ?_⟩
  rintro ⟨hl, ι, S, ds, st, rd, hs⟩
  rcases hk ds S with e | e
  · rw [e] at hs; exact hs.elim
  · rw [e] at hs; exact ⟨hl, ι, S, ds, st, rd, hs⟩
/-- what a body is worth -/
def bodyF (N : Nat) (B : XS) : Fn := fun ds S => match B (ds.map some ++ List.replicate (N - ds.length) none) S with
  | .nx _ S' => .ok .non S'
  | .rt d S' => .ok d S'
  | .ex x _ S' => .ex x S'
  | _ => .err
theorem rel_start {K : PySem.W.Frag} {ι : Nat → Addr} {S : Sto} {H : Hp} {ds : List D} {vs : List V} {N : List Str} (st : Sat K ι S H) (rd : RDs K ι S.length H ds vs) : Rel K ι S H (L2.start N vs) (ds.map some ++ List.replicate (N.length - ds.length) none) := by
  have hl := rd.length
  refine ⟨st, by unfold L2.start; simp [hl], fun i d h => ?_⟩
  by_cases hi : i < ds.length
  · rw [List.getElem?_append_left (by simpa using hi), List.getElem?_map] at h
    cases q : ds[i]? with
    | none => rw [q] at h; cases h
    | some d' =>
      rw [q] at h
      cases h
      obtain ⟨v, h1, h2⟩ := rd.get q
      refine ⟨v, ?_, h2⟩
      unfold L2.start
      rw [List.getElem?_append_left (by simp; omega), List.getElem?_map, h1]
      rfl
  · rw [List.getElem?_append_right (by simpa using hi), List.getElem?_replicate] at h
    split at h <;> cases h
abbrev WE (E : XK) : WX := fun cls d _ H => E cls d H
section
variable {P : Program} {w : World} {K : PySem.W.Frag} {mg : Str → Option Value} {base : Heap}
/-- THE RULE: a def computes what its body does -/
theorem def_fn {x qual : Str} {params : Arguments} {body : List Stmt} {scope : Scope} {f : Addr} {fd : FuncData} {N ps : List Str} {k : Nat} {B : XS} (F : FunD K x qual params body scope [] [] f fd) (Sc : FnScope N ps scope)
    (hb : ∀ (kV doc pm : Value) (an : Option Addr) (cdv ct : Value) (us : List Value), us.length = ps.length → bindArgs (PySem.W.fnOf x qual params body scope .none kV doc pm an cdv ct) ⟨us, []⟩ = pure (ps.zip us))
    (hB : ∀ (cdv : Value) (A : Around) (outer : List Env) (s : Shared) (H : Hp) (E : XK), Room k (A.deeper (envOfC qual scope s.heap.objs.size f cdv)) → BOk (cxOf (L2.CX P w) P w K mg base N qual scope f cdv A outer s H E) (WE E) body B) :
    FnOk P w K mg base (L2.CX P w) (k + 1) f fd ps (spF K mg ps.length (bodyF N.length B)) := by
  refine F.ok Sc (fun vs H Q E h => h.1) fun cdv A outer s H vs Q E hr h => ?_
  obtain ⟨hl, ι, S, ds, st, rd, hs⟩ := h
  refine ⟨_, hB cdv A outer s H E hr, ι, S, _, rel_start (N := N) st rd, ?_⟩
  unfold bodyF at hs
  cases q : B (ds.map some ++ List.replicate (N.length - ds.length) none) S with
  | nx Γ S' => rw [q] at hs; exact fun ι' H' σ e _ => hs ι' H' _ e rfl
  | rt d S' => rw [q] at hs; exact fun ι' H' v e r => hs ι' H' v e r
  | ex y Γ S' => rw [q] at hs; exact fun ι' H' σ c dd e _ r => hs ι' H' c dd e r
  | bk Γ S' => rw [q] at hs; exact hs.elim
  | ct Γ S' => rw [q] at hs; exact hs.elim
  | err => rw [q] at hs; exact hs.elim
theorem def_ok {x qual : Str} {params : Arguments} {body : List Stmt} {scope : Scope} {f : Addr} {fd : FuncData} {N ps : List Str} {k : Nat} {B : XS} (F : FunD K x qual params body scope [] [] f fd) (hf : mg x = some (.ref f)) (Sc : FnScope N ps scope)
    (hb : ∀ (kV doc pm : Value) (an : Option Addr) (cdv ct : Value) (us : List Value), us.length = ps.length → bindArgs (PySem.W.fnOf x qual params body scope .none kV doc pm an cdv ct) ⟨us, []⟩ = pure (ps.zip us))
    (hB : ∀ (cdv : Value) (A : Around) (outer : List Env) (s : Shared) (H : Hp) (E : XK), Room k (A.deeper (envOfC qual scope s.heap.objs.size f cdv)) → BOk (cxOf (L2.CX P w) P w K mg base N qual scope f cdv A outer s H E) (WE E) body B) :
    HasFn P w K mg base x ps.length (k + 1) (bodyF N.length B) := ⟨f, fd, ps, hf, F.kp, rfl, F.bindsN hb, def_fn F Sc hb hB⟩
/-- what nothing is asked of -/
theorem has_err {x qual : Str} {params : Arguments} {body : List Stmt} {scope : Scope} {f : Addr} {fd : FuncData} {ps : List Str} {k : Nat} (F : FunD K x qual params body scope [] [] f fd) (hf : mg x = some (.ref f))
    (hb : ∀ (kV doc pm : Value) (an : Option Addr) (cdv ct : Value) (us : List Value), us.length = ps.length → bindArgs (PySem.W.fnOf x qual params body scope .none kV doc pm an cdv ct) ⟨us, []⟩ = pure (ps.zip us)) :
    HasFn P w K mg base x ps.length k fun _ _ => .err :=
  ⟨f, fd, ps, hf, F.kp, rfl, F.bindsN hb, ⟨fun vs H Q E h => h.1, fun A outer s H args us vs Q E hr he hb' hv hs => by
    obtain ⟨_, _, _, _, _, _, h⟩ := hs
    exact h.elim⟩⟩
end
/-! ### calls -/
def xCall (ar : Nat) (F : Fn) (a : XA) : XE := fun Γ S => (a Γ S).bind fun ds S1 => if ds.length = ar then F ds S1 else .err
section
variable {X : Cx} {W : WX} {e : Expr} {es : List Expr} {pins : List (Addr × Obj)} {s : Shared} {σ : L2.St} {H : Hp} {ι : Nat → Addr} {S : Sto} {Γ : Gam} {p pos : Pos} {g : XA}
theorem call_go {ar k : Nat} {F : Fn} {f : Addr} {fd : FuncData} {ps : List Str} (hb : Binds X.K fd ps []) (hF : FnOk X.prog X.w X.K X.mg X.base (L2.CX X.prog X.w) k f fd ps (spF X.K X.mg ar F)) (hr : Room k X.A) (tk : Takes X W)
    (I : Inv X pins σ H s) (st : Sat X.K ι S H) {ds : List D} {vs : List V} {us : List Value} (rd : RDs X.K ι S.length H ds vs) (rv : Vals vs us) (hl : ds.length = ar) {Q : VK} (hs : (F ds S).sat (PD X.K ι S H Q) (PX X.K X.mg ι S H σ W)) :
    wpAny (model X.prog X.w) X.A (call (.ref f) us) (EP X pins σ Q) X.xe s :=
  run_fnS (E := L2.WE W) hF hr hb (passAt tk σ) I rv ⟨by rw [← rd.length]; exact hl, ι, S, ds, st, rd, hs⟩
theorem d_call {x : Str} {ar k : Nat} {F : Fn} (hF : Has X x ar k F) (hr : Room k X.A) (tk : Takes X W) (hg : Gl X x) (ha : AOk X W (e :: es) g)
    (hdb : (x == ("__debug__" : Str)) = false := by decide +kernel) (he : starEach (e :: es) X.env = (false, eval e X.env) :: starEach es X.env := by rfl) (hpl : (backTo pos (starEach es X.env)).any (·.1) = false := by rfl) :
    EOk X W (.Call (.Name x p) (e :: es) [] pos) (xCall ar F g) := by
  obtain ⟨f, fd, ps, h1, h2, h3, h4, h5⟩ := hF.ex
  refine ⟨fun pins s σ H Q I h => ?_⟩
  obtain ⟨ι, S, Γ, r, hs⟩ := h
  refine wpAny_Call_Name_kw (ld_glob I hg h1 ?_ hdb)
  refine PySem.W.callWith_K (h₀ := X.base) I.ok.mod.kin h2 (ha.go pos I r (R.sat_bind hs) (fun _ _ z => z) fun ds S1 ι1 H1 vs us s1 p e1 rd1 I1 rv1 r1 => ⟨I1.kIn, ?_⟩) he hpl
  by_cases hl : ds.length = ar
  · simp only [hl, if_true] at p
    exact call_go h4 h5 hr tk I1 r1.sat rd1 rv1 hl (R.sat_imp p (fun _ _ z => z.ext e1) fun _ _ z => z.ext e1)
  · simp only [hl, if_false] at p; exact p.elim
theorem d_call0 {x : Str} {k : Nat} {F : Fn} (hF : Has X x 0 k F) (hr : Room k X.A) (tk : Takes X W) (hg : Gl X x) (hdb : (x == ("__debug__" : Str)) = false := by decide +kernel) :
    EOk X W (.Call (.Name x p) [] [] pos) (xCall 0 F xNil) := by
  obtain ⟨f, fd, ps, h1, h2, h3, h4, h5⟩ := hF.ex
  refine ⟨fun pins s σ H Q I h => ?_⟩
  obtain ⟨ι, S, Γ, r, hs⟩ := h
  refine wpAny_Call_Name_kw (ld_glob I hg h1 ?_ hdb)
  exact PySem.W.callWith_K0 I.kIn h2 (call_go (ds := []) (vs := []) (us := []) h4 h5 hr tk I r.sat rfl .nil rfl hs)
/-- a built-in, by its name -/
def xCB (o : OL) (a : XA) : XE := fun Γ S => (a Γ S).bind fun ds S1 => R.of (o ds S1)
theorem d_callB {x : Str} {id : String} {o : OL} (hc : CallD X (.builtin id) o) (hg : Gl X x) (hm : X.mg x = none) (hv : bootBuiltins x = some (.builtin id)) (ha : AOk X W (e :: es) g) (hn : x ≠ "__name__" := by decide +kernel) (hdb : (x == ("__debug__" : Str)) = false := by decide +kernel)
    (he : starEach (e :: es) X.env = (false, eval e X.env) :: starEach es X.env := by rfl) (hpl : (backTo pos (starEach es X.env)).any (·.1) = false := by rfl) : EOk X W (.Call (.Name x p) (e :: es) [] pos) (xCB o g) := by
  refine ⟨fun pins s σ H Q I h => ?_⟩
  obtain ⟨ι, S, Γ, r, hs⟩ := h
  refine wpAny_Call_Name_kw (ld_blt I hg hm hv ?_ hn hdb)
  refine PyProof.Rows.callWith_builtin1 (ha.go pos I r (R.sat_bind hs) (fun _ _ z => z) fun ds S1 ι1 H1 vs us s1 p e1 rd1 I1 rv1 r1 => ?_) he hpl
  obtain ⟨d3, S3, q1, q2⟩ := R.sat_of p
  exact hc pins s1 σ H1 ι1 S1 ds vs us Q d3 S3 I1 r1.sat rd1 rv1 q1 (q2.ext e1)
theorem d_callTy {x : Str} {T : String} {o : OL} (hc : CallD X (.type T) o) (hg : Gl X x) (hm : X.mg x = none) (hv : bootBuiltins x = some (.type T)) (ha : AOk X W (e :: es) g) (hn : x ≠ "__name__" := by decide +kernel) (hdb : (x == ("__debug__" : Str)) = false := by decide +kernel)
    (he : starEach (e :: es) X.env = (false, eval e X.env) :: starEach es X.env := by rfl) (hpl : (backTo pos (starEach es X.env)).any (·.1) = false := by rfl) : EOk X W (.Call (.Name x p) (e :: es) [] pos) (xCB o g) := by
  refine ⟨fun pins s σ H Q I h => ?_⟩
  obtain ⟨ι, S, Γ, r, hs⟩ := h
  refine wpAny_Call_Name_kw (ld_blt I hg hm hv ?_ hn hdb)
  refine PyProof.Rows.callWith_type1 (ha.go pos I r (R.sat_bind hs) (fun _ _ z => z) fun ds S1 ι1 H1 vs us s1 p e1 rd1 I1 rv1 r1 => ?_) he hpl
  obtain ⟨d3, S3, q1, q2⟩ := R.sat_of p
  exact hc pins s1 σ H1 ι1 S1 ds vs us Q d3 S3 I1 r1.sat rd1 rv1 q1 (q2.ext e1)
end
end Dx
namespace Dx
open PySem PySem.Spec PyProof.Rows L2
/-! ### == of data -/
mutual
def eqD : D → D → Bool
  | .non, .non => true
  | .bl a, .bl b => a == b
  | .bl a, .int b => (if a then 1 else 0) == b
  | .int a, .bl b => a == (if b then 1 else 0)
  | .int a, .int b => a == b
  | .str a, .str b => a == b
  | .tup a, .tup b => eqDs a b
  | _, _ => false
def eqDs : List D → List D → Bool
  | [], [] => true
  | x :: xs, y :: ys => eqD x y && eqDs xs ys
  | _, _ => false
end
/-- plain data, at most n deep -/
def shD : Nat → D → Bool
  | _, .non => true
  | _, .bl _ => true
  | _, .int _ => true
  | _, .str _ => true
  | n + 1, .tup ds => ds.all (shD n)
  | _, _ => false
mutual
theorem eqD_refl : ∀ (n : Nat) (d : D), shD n d = true → eqD d d = true
  | _, .non, _ => rfl
  | _, .bl b, _ => by simp [eqD]
  | _, .int b, _ => by simp [eqD]
  | _, .str b, _ => by simp [eqD]
  | 0, .tup ds, h => by simp [shD] at h
  | n + 1, .tup ds, h => by
    rw [eqD]
    exact eqDs_refl n ds (by simpa [shD] using h)
  | _, .ref _, h => by simp [shD] at h
  | _, .sq _, h => by simp [shD] at h
  | _, .ty _, h => by simp [shD] at h
theorem eqDs_refl : ∀ (n : Nat) (ds : List D), (∀ d ∈ ds, shD n d = true) → eqDs ds ds = true
  | _, [], _ => rfl
  | n, d :: ds, h => by
    rw [eqDs, eqD_refl n d (h d List.mem_cons_self), eqDs_refl n ds fun x hx => h x (List.mem_cons_of_mem _ hx)]
    rfl
end
section
variable {X : Cx} {pins : List (Addr × Obj)} {s : Shared} {σ : L2.St} {H : Hp} {ι : Nat → Addr} {n : Nat}
mutual
theorem RD.fun' (I : Inv X pins σ H s) : ∀ (m k : Nat) (d e : D) (v : V), shD m d = true → shD k e = true → RD X.K ι n H d v → RD X.K ι n H e v → d = e
  | m, k, .non, e, v, h1, h2, r1, r2 => by
    cases (show v = .non from r1)
    cases e with
    | non => rfl
    | tup => obtain ⟨a, vs, z, _⟩ := r2; cases z
    | ref => simp [shD] at h2
    | sq => simp [shD] at h2
    | ty => simp [shD] at h2
    | _ => cases r2
  | m, k, .bl b, e, v, h1, h2, r1, r2 => by
    cases (show v = .bl b from r1)
    cases e with
    | tup => obtain ⟨a, vs, z, _⟩ := r2; cases z
    | ref => simp [shD] at h2
    | sq => simp [shD] at h2
    | ty => simp [shD] at h2
    | _ => cases r2 <;> rfl
  | m, k, .int b, e, v, h1, h2, r1, r2 => by
    cases (show v = .int b from r1)
    cases e with
    | tup => obtain ⟨a, vs, z, _⟩ := r2; cases z
    | ref => simp [shD] at h2
    | sq => simp [shD] at h2
    | ty => simp [shD] at h2
    | _ => cases r2 <;> rfl
  | m, k, .str b, e, v, h1, h2, r1, r2 => by
    cases (show v = .str b from r1)
    cases e with
    | tup => obtain ⟨a, vs, z, _⟩ := r2; cases z
    | ref => simp [shD] at h2
    | sq => simp [shD] at h2
    | ty => simp [shD] at h2
    | _ => cases r2 <;> rfl
  | 0, k, .tup ds, e, v, h1, h2, r1, r2 => by simp [shD] at h1
  | m + 1, k, .tup ds, e, v, h1, h2, r1, r2 => by
    obtain ⟨a, vs, rfl, q, rs⟩ := r1
    cases e with
    | tup es =>
      cases k with
      | zero => simp [shD] at h2
      | succ k =>
        obtain ⟨a', vs', z, q', rs'⟩ := r2
        cases z
        have := I.tuple_inj (SqT.of q) (SqT.of q')
        subst this
        rw [RDs.fun' I m k ds es vs (by simpa [shD] using h1) (by simpa [shD] using h2) rs rs']
    | ref => simp [shD] at h2
    | sq => simp [shD] at h2
    | ty => simp [shD] at h2
    | _ => cases r2
  | m, k, .ref _, e, v, h1, h2, r1, r2 => by simp [shD] at h1
  | m, k, .sq _, e, v, h1, h2, r1, r2 => by simp [shD] at h1
  | m, k, .ty _, e, v, h1, h2, r1, r2 => by simp [shD] at h1
theorem RDs.fun' (I : Inv X pins σ H s) : ∀ (m k : Nat) (ds es : List D) (vs : List V), (∀ d ∈ ds, shD m d = true) → (∀ d ∈ es, shD k d = true) → RDs X.K ι n H ds vs → RDs X.K ι n H es vs → ds = es
  | m, k, [], es, vs, h1, h2, r1, r2 => by
    cases (show vs = [] from r1)
    cases es with
    | nil => rfl
    | cons => obtain ⟨v, r, z, _⟩ := r2; cases z
  | m, k, d :: ds, es, vs, h1, h2, r1, r2 => by
    obtain ⟨v, r, rfl, q1, q2⟩ := r1
    cases es with
    | nil => cases (show v :: r = [] from r2)
    | cons e es =>
      obtain ⟨v', r', z, q3, q4⟩ := r2
      cases z
      rw [RD.fun' I m k d e v (h1 d List.mem_cons_self) (h2 e List.mem_cons_self) q1 q3, RDs.fun' I m k ds es r (fun x hx => h1 x (List.mem_cons_of_mem _ hx)) (fun x hx => h2 x (List.mem_cons_of_mem _ hx)) q2 q4]
end
theorem eqDs_range : ∀ (ds es : List D), eqDs ds es = ((List.range (min ds.length es.length)).all (fun j => eqD (ds.getD j .non) (es.getD j .non)) && ds.length == es.length)
  | [], [] => rfl
  | [], _ :: _ => by simp [eqDs]
  | _ :: _, [] => by simp [eqDs]
  | d :: ds, e :: es => by
    rw [eqDs, eqDs_range ds es, List.length_cons, List.length_cons, Nat.add_min_add_right, List.range_succ_eq_map, List.all_cons, List.all_map]
    simp [Bool.and_assoc, Function.comp_def]
/-- an item of a list of values -/
theorem item_of {ds : List D} {vs : List V} {us : List Value} (rd : RDs X.K ι n H ds vs) (rv : Vals vs us) {j : Nat} (hj : j < us.toArray.size) : ∃ v, RD X.K ι n H (ds.getD j .non) v ∧ RelV v us.toArray[j] ∧ ds.getD j .non ∈ ds := by
  have l1 := rd.length
  have l2 := rv.length
  have hj' : j < us.length := by simpa using hj
  have hd : ds[j]? = some ds[j] := by rw [List.getElem?_eq_getElem]
  obtain ⟨v, q1, q2⟩ := rd.get hd
  obtain ⟨u, q3, q4⟩ := rv.get q1
  have e : us.toArray[j] = u := by
    rw [List.getElem?_eq_getElem hj'] at q3
    simpa using q3
  rw [e]
  have e2 : ds.getD j .non = ds[j] := by rw [List.getD_eq_getElem?_getD, hd]; rfl
  rw [e2]
  exact ⟨v, q2, q4, List.getElem_mem _⟩
theorem eqAt_flat {A : Around} (I : Inv X pins σ H s) (m : Nat) (d e : D) (v w : V) (u z : Value) (hu : A.units < cLine) (h1 : shD 0 d = true) (h2 : shD m e = true) (r1 : RD X.K ι n H d v) (r2 : RD X.K ι n H e w) (v1 : RelV v u) (v2 : RelV w z) :
    SeqAt.RcAt A s u z (eqD d e) ∧ SeqAt.EqAt A s u z (eqD d e) := by
  cases d with
  | tup => simp [shD] at h1
  | ref => simp [shD] at h1
  | sq => simp [shD] at h1
  | ty => simp [shD] at h1
  | non =>
    cases (show v = .non from r1); cases v1
    cases e with
    | non => cases (show w = .non from r2); cases v2; exact ⟨SeqAt.RcAt.none_none, SeqAt.EqAt.same _⟩
    | bl b => cases (show w = .bl b from r2); cases v2; exact ⟨SeqAt.RcAt.none_bool b, SeqAt.EqAt.none_bool b⟩
    | int b => cases (show w = .int b from r2); obtain ⟨t, rfl⟩ := v2; exact ⟨SeqAt.RcAt.none_int b t, SeqAt.EqAt.none_int b t⟩
    | str b => cases (show w = .str b from r2); obtain ⟨t, rfl⟩ := v2; exact ⟨SeqAt.RcAt.none_str b t, SeqAt.EqAt.none_str b t⟩
    | tup es =>
      obtain ⟨a, vs, rfl, q, rs⟩ := r2
      cases v2
      obtain ⟨its, r, ht, hz⟩ := I.tuple (SqT.of q)
      exact ⟨SeqAt.RcAt.none_tuple (show s.heap.IsTuple a its.toArray from ht) hu, SeqAt.EqAt.none_tuple (show s.heap.IsTuple a its.toArray from ht) hu⟩
    | ref => simp [shD] at h2
    | sq => simp [shD] at h2
    | ty => simp [shD] at h2
  | bl c =>
    cases (show v = .bl c from r1); cases v1
    cases e with
    | non => cases (show w = .non from r2); cases v2; exact ⟨SeqAt.RcAt.bool_none c, SeqAt.EqAt.bool_none c⟩
    | bl b => cases (show w = .bl b from r2); cases v2; exact ⟨SeqAt.RcAt.bool_bool c b, SeqAt.EqAt.bool_bool c b⟩
    | int b => cases (show w = .int b from r2); obtain ⟨t, rfl⟩ := v2; exact ⟨SeqAt.RcAt.bool_int c b t, SeqAt.EqAt.bool_int c b t⟩
    | str b => cases (show w = .str b from r2); obtain ⟨t, rfl⟩ := v2; exact ⟨SeqAt.RcAt.bool_str c b t, SeqAt.EqAt.bool_str c b t⟩
    | tup es =>
      obtain ⟨a, vs, rfl, q, rs⟩ := r2
      cases v2
      obtain ⟨its, r, ht, hz⟩ := I.tuple (SqT.of q)
      exact ⟨SeqAt.RcAt.bool_tuple c (show s.heap.IsTuple a its.toArray from ht) hu, SeqAt.EqAt.bool_tuple c (show s.heap.IsTuple a its.toArray from ht) hu⟩
    | ref => simp [shD] at h2
    | sq => simp [shD] at h2
    | ty => simp [shD] at h2
  | int c =>
    cases (show v = .int c from r1); obtain ⟨t', rfl⟩ := v1
    cases e with
    | non => cases (show w = .non from r2); cases v2; exact ⟨SeqAt.RcAt.int_none c t', SeqAt.EqAt.int_none c t'⟩
    | bl b => cases (show w = .bl b from r2); cases v2; exact ⟨SeqAt.RcAt.int_bool c t' b, SeqAt.EqAt.int_bool c t' b⟩
    | int b => cases (show w = .int b from r2); obtain ⟨t, rfl⟩ := v2; exact ⟨SeqAt.RcAt.int_int c t' b t, SeqAt.EqAt.int_int c t' b t⟩
    | str b => cases (show w = .str b from r2); obtain ⟨t, rfl⟩ := v2; exact ⟨SeqAt.RcAt.int_str c t' b t, SeqAt.EqAt.int_str c t' b t⟩
    | tup es =>
      obtain ⟨a, vs, rfl, q, rs⟩ := r2
      cases v2
      obtain ⟨its, r, ht, hz⟩ := I.tuple (SqT.of q)
      exact ⟨SeqAt.RcAt.int_tuple c t' (show s.heap.IsTuple a its.toArray from ht) hu, SeqAt.EqAt.int_tuple c t' (show s.heap.IsTuple a its.toArray from ht) hu⟩
    | ref => simp [shD] at h2
    | sq => simp [shD] at h2
    | ty => simp [shD] at h2
  | str c =>
    cases (show v = .str c from r1); obtain ⟨t', rfl⟩ := v1
    cases e with
    | non => cases (show w = .non from r2); cases v2; exact ⟨SeqAt.RcAt.str_none c t', SeqAt.EqAt.str_none c t'⟩
    | bl b => cases (show w = .bl b from r2); cases v2; exact ⟨SeqAt.RcAt.str_bool c t' b, SeqAt.EqAt.str_bool c t' b⟩
    | int b => cases (show w = .int b from r2); obtain ⟨t, rfl⟩ := v2; exact ⟨SeqAt.RcAt.str_int c t' b t, SeqAt.EqAt.str_int c t' b t⟩
    | str b => cases (show w = .str b from r2); obtain ⟨t, rfl⟩ := v2; exact ⟨SeqAt.RcAt.str_str c t' b t, SeqAt.EqAt.str_str c t' b t⟩
    | tup es =>
      obtain ⟨a, vs, rfl, q, rs⟩ := r2
      cases v2
      obtain ⟨its, r, ht, hz⟩ := I.tuple (SqT.of q)
      exact ⟨SeqAt.RcAt.str_tuple c t' (show s.heap.IsTuple a its.toArray from ht) hu, SeqAt.EqAt.str_tuple c t' (show s.heap.IsTuple a its.toArray from ht) hu⟩
    | ref => simp [shD] at h2
    | sq => simp [shD] at h2
    | ty => simp [shD] at h2
theorem eqAt_D : ∀ (k : Nat) {A : Around} (I : Inv X pins σ H s) (m : Nat) (d e : D) (v w : V) (u z : Value), A.units + k < cLine → shD k d = true → shD m e = true → RD X.K ι n H d v → RD X.K ι n H e w → RelV v u → RelV w z →
    SeqAt.RcAt A s u z (eqD d e) ∧ SeqAt.EqAt A s u z (eqD d e) := by
  intro k
  induction k with
  | zero =>
    intro A I m d e v w u z hu h1 h2 r1 r2 v1 v2
    exact eqAt_flat I m d e v w u z (by omega) h1 h2 r1 r2 v1 v2
  | succ k ih =>
    intro A I m d e v w u z hu h1 h2 r1 r2 v1 v2
    cases d with
    | tup ds =>
      have h1' : ∀ d ∈ ds, shD k d = true := by simpa [shD] using h1
      obtain ⟨a, vs, rfl, q, rs⟩ := r1
      cases v1
      obtain ⟨its, rv, ht, hz⟩ := I.tuple (SqT.of q)
      have ht' : s.heap.IsTuple a its.toArray := ht
      cases e with
      | non => cases (show w = .non from r2); cases v2; exact ⟨SeqAt.RcAt.tuple_none ht' (by omega), SeqAt.EqAt.tuple_none ht' (by omega)⟩
      | bl b => cases (show w = .bl b from r2); cases v2; exact ⟨SeqAt.RcAt.tuple_bool b ht' (by omega), SeqAt.EqAt.tuple_bool b ht' (by omega)⟩
      | int b => cases (show w = .int b from r2); obtain ⟨t, rfl⟩ := v2; exact ⟨SeqAt.RcAt.tuple_int b t ht' (by omega), SeqAt.EqAt.tuple_int b t ht' (by omega)⟩
      | str b => cases (show w = .str b from r2); obtain ⟨t, rfl⟩ := v2; exact ⟨SeqAt.RcAt.tuple_str b t ht' (by omega), SeqAt.EqAt.tuple_str b t ht' (by omega)⟩
      | tup es =>
        cases m with
        | zero => simp [shD] at h2
        | succ m =>
          have h2' : ∀ d ∈ es, shD m d = true := by simpa [shD] using h2
          obtain ⟨a', vs', rfl, q', rs'⟩ := r2
          cases v2
          obtain ⟨its', rv', ht2, hz'⟩ := I.tuple (SqT.of q')
          have hrc : SeqAt.RcAt A s (.ref a) (.ref a') (eqD (.tup ds) (.tup es)) := by
            have e1 : eqD (.tup ds) (.tup es) = ((List.range (min its.toArray.size its'.toArray.size)).all (fun j => eqD (ds.getD j .non) (es.getD j .non)) && its.toArray.size == its'.toArray.size) := by
              have l1 := rs.length
              have l2 := rv.length
              have l3 := rs'.length
              have l4 := rv'.length
              rw [eqD, eqDs_range, List.size_toArray, List.size_toArray, ← l2, ← l4, ← l1, ← l3]
            rw [e1]
            refine SeqAt.RcAt.tuples ht' (show s.heap.IsTuple a' its'.toArray from ht2) (by omega) fun j g1 g2 => ?_
            obtain ⟨x1, y1, y2, y3⟩ := item_of rs rv g1
            obtain ⟨x2, y4, y5, y6⟩ := item_of rs' rv' g2
            exact (ih (A := A.in1) I m _ _ x1 x2 _ _ (by show A.units + 1 + k < cLine; omega) (h1' _ y3) (h2' _ y6) y1 y4 y2 y5).2
          refine ⟨hrc, ?_⟩
          by_cases ha : a = a'
          · subst ha
            have := I.tuple_inj (SqT.of q) (SqT.of q')
            subst this
            have := RDs.fun' I k m ds es vs h1' h2' rs rs'
            subst this
            rw [eqD_refl (k + 1) (.tup ds) h1]
            exact SeqAt.EqAt.same _
          · exact .of_refs ha hrc
      | ref => simp [shD] at h2
      | sq => simp [shD] at h2
      | ty => simp [shD] at h2
    | ref => simp [shD] at h1
    | sq => simp [shD] at h1
    | ty => simp [shD] at h1
    | _ => exact eqAt_flat I m _ e v w u z (by omega) rfl h2 r1 r2 v1 v2
/-- items of lists -/
theorem eqAt_items {A : Around} (I : Inv X pins σ H s) {k m : Nat} {ds es : List D} {vs ws : List V} {us zs : List Value} (hu : A.units + k < cLine) (h1 : ∀ d ∈ ds, shD k d = true) (h2 : ∀ d ∈ es, shD m d = true) (r1 : RDs X.K ι n H ds vs) (r2 : RDs X.K ι n H es ws) (v1 : Vals vs us) (v2 : Vals ws zs)
    (j : Nat) (g1 : j < us.toArray.size) (g2 : j < zs.toArray.size) : SeqAt.EqAt A s us.toArray[j] zs.toArray[j] (eqD (ds.getD j .non) (es.getD j .non)) := by
  obtain ⟨x1, y1, y2, y3⟩ := item_of r1 v1 g1
  obtain ⟨x2, y4, y5, y6⟩ := item_of r2 v2 g2
  exact (eqAt_D k I m _ _ x1 x2 _ _ hu (h1 _ y3) (h2 _ y6) y1 y4 y2 y5).2
end
/-! ### ==, != -/
def oEqB (x y : D) (S : Sto) : Option Bool := match x, y with
  | .ref n, .ref m => (match S[n]?, S[m]? with
    | some (.lst a), some (.lst b) => if a.all (shD 40) && b.all (shD 40) then some (eqDs a b) else none
    | _, _ => none)
  | x, y => if shD 40 x && shD 40 y then some (eqD x y) else none
def oEq : O2 := fun x y S => (oEqB x y S).map fun b => (.bl b, S)
theorem op_eqL {X : Cx} (hu : X.A.units + 64 < cLine) : OpD X (compareOp .Eq) oEq := by
  intro pins s σ H ι S dx dy x y v u Q d S' I st rx ry vx vy h hq
  unfold oEq at h
  cases hb : oEqB dx dy S with
  | none => rw [hb] at h; cases h
  | some b =>
    rw [hb] at h
    cases h
    have fin : EP X pins σ Q (.bool b) s := ⟨.bl b, H, I, rfl, PD.same hq st rfl⟩
    unfold oEqB at hb
    split at hb
    · rename_i n m
      obtain ⟨_, rfl⟩ : n < _ ∧ x = V.ref (ι n) := rx
      obtain ⟨_, rfl⟩ : m < _ ∧ y = V.ref (ι m) := ry
      split at hb
      · rename_i a c e1 e2
        split at hb
        · rename_i hs
          simp only [Bool.and_eq_true, List.all_eq_true] at hs
          cases hb
          obtain ⟨vs, q1, r1⟩ := st.lst e1
          obtain ⟨ws, q2, r2⟩ := st.lst e2
          cases vx
          cases vy
          obtain ⟨its, rv, p1, _⟩ := I.list (SqL.of q1)
          obtain ⟨its2, rv2, p2, _⟩ := I.list (SqL.of q2)
          have l1 := r1.length
          have l2 := rv.length
          have l3 := r2.length
          have l4 := rv2.length
          have ee := eqDs_range a c
          by_cases hl : a.length = c.length
          · have hsz : its.toArray.size = its2.toArray.size := by simp only [List.size_toArray]; omega
            have e3 : eqDs a c = (List.range its.toArray.size).all (fun j => eqD (a.getD j .non) (c.getD j .non)) := by
              rw [ee, List.size_toArray, ← l2, ← l1, hl, Nat.min_self]
              simp
            rw [e3] at fin
            exact SeqAt.RcAt.lists p1.isList p2.isList hsz (by omega) (fun j g1 g2 => eqAt_items (A := X.A.in1) (k := 40) (m := 40) I (by show X.A.units + 1 + 40 < cLine; omega) hs.1 hs.2 r1 r2 rv rv2 j g1 g2) _ _ _ _ fin
          · have e3 : eqDs a c = false := by
              rw [ee]
              simp [hl]
            rw [e3] at fin
            exact SeqAt.RcAt.lists_lengths p1.isList p2.isList (by simp only [List.size_toArray, bne_iff_ne, ne_eq]; omega) (by omega) _ _ _ _ fin
        · cases hb
      · cases hb
    · split at hb
      · rename_i hs
        simp only [Bool.and_eq_true] at hs
        cases hb
        exact (eqAt_D 40 (A := X.A) I 40 dx dy x y v u (by omega) hs.1 hs.2 rx ry vx vy).1 _ _ _ _ fin
      · cases hb
end Dx
namespace Dx
open PySem PySem.Spec PyProof.Rows L2
mutual
def toPy : D → PyData
  | .bl b => .bool b
  | .int i => .int i
  | .str x => .str x
  | .tup ds => .tuple (toPys ds)
  | _ => .none
def toPys : List D → List PyData
  | [] => []
  | d :: ds => toPy d :: toPys ds
end
def okS (x : Str) : Bool := x.cps.all (· < 0x110000)
def shN : Nat → D → Bool
  | _, .non => true
  | _, .bl _ => true
  | _, .int _ => true
  | _, .str x => okS x
  | n + 1, .tup ds => ds.all (shN n)
  | _, _ => false
section
variable {K : PySem.W.Frag} {ι : Nat → Addr} {n : Nat} {H : Hp}
mutual
theorem toPy_dp : ∀ (m : Nat) (d : D) (v : V), shN m d = true → RD K ι n H d v → Dp K H v (toPy d)
  | _, .non, v, h, r => by cases (show v = .non from r); exact .non
  | _, .bl b, v, h, r => by cases (show v = .bl b from r); exact .bl b
  | _, .int b, v, h, r => by cases (show v = .int b from r); exact .int b
  | _, .str b, v, h, r => by cases (show v = .str b from r); exact .str b
  | 0, .tup ds, v, h, r => by simp [shN] at h
  | m + 1, .tup ds, v, h, r => by
    obtain ⟨a, vs, rfl, q, rs⟩ := r
    rw [toPy]
    exact .tup (SqT.of q) (toPys_dp m ds vs (by simpa [shN] using h) rs)
  | _, .ref _, v, h, r => by simp [shN] at h
  | _, .sq _, v, h, r => by simp [shN] at h
  | _, .ty _, v, h, r => by simp [shN] at h
theorem toPys_dp : ∀ (m : Nat) (ds : List D) (vs : List V), (∀ d ∈ ds, shN m d = true) → RDs K ι n H ds vs → DpAll K H vs (toPys ds)
  | _, [], vs, h, r => by cases (show vs = [] from r); exact .nil
  | m, d :: ds, vs, h, r => by
    obtain ⟨v, r', rfl, r1, r2⟩ := r
    rw [toPys]
    exact .cons (toPy_dp m d v (h d List.mem_cons_self) r1) (toPys_dp m ds r' (fun x hx => h x (List.mem_cons_of_mem _ hx)) r2)
end
mutual
theorem toPy_lay : ∀ (m : Nat) (d : D), shN m d = true → (toPy d).canLay0 = true ∧ (toPy d).depth ≤ m
  | _, .non, h => ⟨rfl, Nat.zero_le _⟩
  | _, .bl b, h => ⟨rfl, Nat.zero_le _⟩
  | _, .int b, h => ⟨rfl, Nat.zero_le _⟩
  | _, .str b, h => ⟨by simpa [shN, toPy, okS, PyData.canLay0, PyData.strOk] using h, Nat.zero_le _⟩
  | 0, .tup ds, h => by simp [shN] at h
  | m + 1, .tup ds, h => by
    obtain ⟨h1, h2⟩ := toPys_lay m ds (by simpa [shN] using h)
    rw [toPy]
    exact ⟨by rw [PyData.canLay0]; exact h1, by rw [PyData.depth]; omega⟩
  | _, .ref _, h => by simp [shN] at h
  | _, .sq _, h => by simp [shN] at h
  | _, .ty _, h => by simp [shN] at h
theorem toPys_lay : ∀ (m : Nat) (ds : List D), (∀ d ∈ ds, shN m d = true) → PyData.canLayAll0 (toPys ds) = true ∧ PyData.depthAll (toPys ds) ≤ m
  | _, [], h => ⟨rfl, Nat.zero_le _⟩
  | m, d :: ds, h => by
    obtain ⟨h1, h2⟩ := toPy_lay m d (h d List.mem_cons_self)
    obtain ⟨h3, h4⟩ := toPys_lay m ds fun x hx => h x (List.mem_cons_of_mem _ hx)
    rw [toPys]
    exact ⟨by rw [PyData.canLayAll0, h1, h3]; rfl, by rw [PyData.depthAll]; omega⟩
end
mutual
theorem toPy_eqv : ∀ (m k : Nat) (d e : D), shN m d = true → shN k e = true → PyData.eqv (toPy d) (toPy e) = eqD d e
  | m, k, .non, e, h1, h2 => by cases e <;> simp [shN, toPy, PyData.eqv, eqD] at h2 ⊢
  | m, k, .bl _, e, h1, h2 => by cases e <;> simp [shN, toPy, PyData.eqv, eqD] at h2 ⊢
  | m, k, .int _, e, h1, h2 => by cases e <;> simp [shN, toPy, PyData.eqv, eqD] at h2 ⊢
  | m, k, .str _, e, h1, h2 => by cases e <;> simp [shN, toPy, PyData.eqv, eqD] at h2 ⊢
  | 0, k, .tup ds, e, h1, h2 => by simp [shN] at h1
  | m + 1, 0, .tup ds, e, h1, h2 => by cases e <;> simp [shN, toPy, PyData.eqv, eqD] at h2 ⊢
  | m + 1, k + 1, .tup ds, e, h1, h2 => by
    cases e with
    | tup es =>
      rw [toPy, toPy, PyData.eqv, eqD]
      exact toPys_eqv m k ds es (by simpa [shN] using h1) (by simpa [shN] using h2)
    | _ => simp [shN, toPy, PyData.eqv, eqD] at h2 ⊢
  | m, k, .ref _, e, h1, h2 => by simp [shN] at h1
  | m, k, .sq _, e, h1, h2 => by simp [shN] at h1
  | m, k, .ty _, e, h1, h2 => by simp [shN] at h1
theorem toPys_eqv : ∀ (m k : Nat) (ds es : List D), (∀ d ∈ ds, shN m d = true) → (∀ d ∈ es, shN k d = true) → PyData.eqvAll (toPys ds) (toPys es) = eqDs ds es
  | _, _, [], [], _, _ => rfl
  | _, _, [], _ :: _, _, _ => rfl
  | _, _, _ :: _, [], _, _ => rfl
  | m, k, d :: ds, e :: es, h1, h2 => by
    rw [toPys, toPys, PyData.eqvAll, eqDs, toPy_eqv m k d e (h1 d List.mem_cons_self) (h2 e List.mem_cons_self), toPys_eqv m k ds es (fun x hx => h1 x (List.mem_cons_of_mem _ hx)) fun x hx => h2 x (List.mem_cons_of_mem _ hx)]
end
end
def scalD : D → D → Bool
  | .non, .non => true | .non, .int _ => true | .int _, .non => true | .non, .bl _ => true | .bl _, .non => true | .non, .str _ => true | .str _, .non => true
  | .int _, .int _ => true | .bl _, .bl _ => true | .str _, .str _ => true
  | .int _, .str _ => true | .str _, .int _ => true | .bl _, .str _ => true | .str _, .bl _ => true
  | _, _ => false
def oNeB (x y : D) (S : Sto) : Option Bool := match x, y with
  | .ref n, .ref m => (match S[n]?, S[m]? with
    | some (.lst a), some (.lst b) => if a.all (shN 40) && b.all (shN 40) then some (!eqDs a b) else none
    | _, _ => none)
  | x, y => if scalD x y = true then some (!eqD x y) else if shN 40 x && shN 40 y then some (!eqD x y) else none
def oNe : O2 := fun x y S => (oNeB x y S).map fun b => (.bl b, S)
theorem shaped_of {d : D} (h : shN 40 d = true) : SeqAt.shaped (toPy d) = true := by
  obtain ⟨h1, h2⟩ := toPy_lay 40 d h
  unfold SeqAt.shaped
  rw [h1]
  simp
  omega
theorem shapedL_of {ds : List D} (h : ∀ d ∈ ds, shN 40 d = true) : SeqAt.shaped (.list (toPys ds)) = true := by
  obtain ⟨h1, h2⟩ := toPys_lay 40 ds h
  unfold SeqAt.shaped
  rw [PyData.canLay0, PyData.depth, h1]
  simp
  omega
theorem op_neL {X : Cx} (hu : X.A.units + 64 < cLine) : OpD X (compareOp .NotEq) oNe := by
  intro pins s σ H ι S dx dy x y v u Q d S' I st rx ry vx vy h hq
  unfold oNe at h
  cases hb : oNeB dx dy S with
  | none => rw [hb] at h; cases h
  | some b =>
    rw [hb] at h
    cases h
    have hQ : Q (.bl b) H := PD.same hq st rfl
    unfold oNeB at hb
    split at hb
    · rename_i n m
      obtain ⟨_, rfl⟩ : n < _ ∧ x = V.ref (ι n) := rx
      obtain ⟨_, rfl⟩ : m < _ ∧ y = V.ref (ι m) := ry
      split at hb
      · rename_i a c e1 e2
        split at hb
        · rename_i hs
          simp only [Bool.and_eq_true, List.all_eq_true] at hs
          cases hb
          obtain ⟨vs, q1, r1⟩ := st.lst e1
          obtain ⟨ws, q2, r2⟩ := st.lst e2
          refine op_neD hu pins s σ H _ _ v u Q I vx vy ⟨_, _, .lst (SqL.of q1) (toPys_dp 40 a vs hs.1 r1), .lst (SqL.of q2) (toPys_dp 40 c ws hs.2 r2), shapedL_of hs.1, shapedL_of hs.2, ?_⟩
          rw [PyData.eqv, toPys_eqv 40 40 a c hs.1 hs.2]
          exact hQ
        · cases hb
      · cases hb
    · split at hb
      · rename_i hs
        cases hb
        refine op_ne pins s σ H x y v u Q I vx vy ?_
        cases dx <;> cases dy <;> first
          | exact absurd (show false = true from hs) Bool.false_ne_true
          | (cases rx; cases ry; refine ⟨rfl, ?_⟩; first | (rw [dec_int]; exact hQ) | (rw [dec_bl]; exact hQ) | (rw [dec_str]; exact hQ) | simpa [eqD] using hQ)
      · split at hb
        · rename_i hs
          simp only [Bool.and_eq_true] at hs
          cases hb
          refine op_neD hu pins s σ H x y v u Q I vx vy ⟨_, _, toPy_dp 40 dx x hs.1 rx, toPy_dp 40 dy y hs.2 ry, shaped_of hs.1, shaped_of hs.2, ?_⟩
          rw [toPy_eqv 40 40 dx dy hs.1 hs.2]
          exact hQ
        · cases hb
end Dx
namespace Dx
open PySem PySem.Spec PyProof.Rows L2
/-! ### operators by data -/
section
variable {X : Cx}
def oAdd : O2 := fun x y S => match x, y with
  | .int i, .int j => some (.int (i + j), S)
  | .str a, .str b => if a.length + b.length ≤ sizeLine then some (.str (a ++ b), S) else none
  | .tup a, .tup b => if a.length + b.length ≤ sizeLine then some (.tup (a ++ b), S) else none
  | .ref n, .ref m => (match S[n]?, S[m]? with
    | some (.lst a), some (.lst b) => if a.length + b.length ≤ sizeLine then some (.ref S.length, S ++ [.lst (a ++ b)]) else none
    | _, _ => none)
  | _, _ => none
theorem o_add : OpD X (binaryOp .Add) oAdd := by
  intro pins s σ H ι S dx dy x y v u Q d S' I st rx ry vx vy h hq
  unfold oAdd at h
  split at h
  · cases rx; cases ry; cases h
    exact op_add pins s σ H _ _ v u Q I vx vy ⟨_, _, rfl, rfl, PD.same hq st rfl⟩
  · cases rx; cases ry
    split at h
    · rename_i hz
      cases h
      exact op_add_str pins s σ H _ _ v u Q I vx vy ⟨_, _, rfl, rfl, hz, PD.same hq st rfl⟩
    · cases h
  · rename_i a b
    obtain ⟨p1, vs, rfl, q1, r1⟩ := rx
    obtain ⟨p2, ws, rfl, q2, r2⟩ := ry
    split at h
    · rename_i hz
      cases h
      have l1 := r1.length
      have l2 := r2.length
      refine op_catA pins s σ H _ _ v u Q I vx vy ⟨_, _, vs, ws, rfl, rfl, SqT.of q1, SqT.of q2, by omega, fun e => ?_, fun e1 e2 => ?_, fun e1 e2 => PD.tup hq st (r1.append r2)⟩
      · subst e
        have : a = [] := List.eq_nil_of_length_eq_zero (by simpa using l1)
        subst this
        exact PD.same hq st ⟨p2, ws, rfl, q2, r2⟩
      · subst e2
        have : b = [] := List.eq_nil_of_length_eq_zero (by simpa using l2)
        subst this
        rw [List.append_nil] at hq
        exact PD.same hq st ⟨p1, vs, rfl, q1, r1⟩
    · cases h
  · rename_i n m
    obtain ⟨_, rfl⟩ : n < _ ∧ x = V.ref (ι n) := rx
    obtain ⟨_, rfl⟩ : m < _ ∧ y = V.ref (ι m) := ry
    split at h
    · rename_i a b e1 e2
      split at h
      · rename_i hz
        cases h
        obtain ⟨vs, q1, r1⟩ := st.lst e1
        obtain ⟨ws, q2, r2⟩ := st.lst e2
        have l1 := r1.length
        have l2 := r2.length
        exact op_cat pins s σ H _ _ v u Q I vx vy ⟨_, _, vs, ws, rfl, rfl, q1, q2, by omega, PD.new hq st (show RO _ _ _ _ (.lst (a ++ b)) (.lst (vs ++ ws)) from r1.append r2)⟩
      · cases h
    · cases h
  · cases h
def oSub : O2 := fun x y S => match x, y with
  | .int i, .int j => some (.int (i - j), S)
  | _, _ => none
theorem o_sub : OpD X (binaryOp .Sub) oSub := .of op_sub fun H ι S dx dy x y Q d S' st rx ry h hq => by
  unfold oSub at h
  split at h
  · cases rx; cases ry; cases h; exact ⟨_, _, rfl, rfl, PD.same hq st rfl⟩
  · cases h
def inB (i : Int) : Bool := decide (-(2 ^ 64) < i) && decide (i < 2 ^ 64)
def oMul : O2 := fun x y S => match x, y with
  | .int i, .int j => if inB i || inB j then some (.int (i * j), S) else none
  | _, _ => none
theorem inB_ok {i : Int} (h : inB i = true) : -(2 ^ 64) < i ∧ i < 2 ^ 64 := by
  unfold inB at h
  simp only [Bool.and_eq_true, decide_eq_true_eq] at h
  exact h
theorem o_mul : OpD X (binaryOp .Mult) oMul := .of op_mul fun H ι S dx dy x y Q d S' st rx ry h hq => by
  unfold oMul at h
  split at h
  · cases rx; cases ry
    split at h
    · rename_i hz
      cases h
      refine ⟨_, _, rfl, rfl, ?_, PD.same hq st rfl⟩
      rcases Bool.or_eq_true_iff.mp hz with z | z
      · exact .inl (inB_ok z)
      · exact .inr (inB_ok z)
    · cases h
  · cases h
def oFdiv : O2 := fun x y S => match x, y with
  | .int i, .int j => if 0 < j ∧ j < 1073741824 then some (.int (i / j), S) else none
  | _, _ => none
theorem o_fdiv : OpD X (binaryOp .FloorDiv) oFdiv := .of op_fdiv fun H ι S dx dy x y Q d S' st rx ry h hq => by
  unfold oFdiv at h
  split at h
  · cases rx; cases ry
    split at h
    · rename_i hz
      cases h
      exact ⟨_, _, rfl, rfl, hz, PD.same hq st rfl⟩
    · cases h
  · cases h
def oMod : O2 := fun x y S => match x, y with
  | .int i, .int j => if 0 < j then some (.int (i % j), S) else none
  | _, _ => none
theorem o_mod : OpD X (binaryOp .Mod) oMod := .of op_mod fun H ι S dx dy x y Q d S' st rx ry h hq => by
  unfold oMod at h
  split at h
  · cases rx; cases ry
    split at h
    · rename_i hz
      cases h
      exact ⟨_, _, rfl, rfl, hz, PD.same hq st rfl⟩
    · cases h
  · cases h
def oPow : O2 := fun x y S => match x, y with
  | .int i, .int j => if 0 ≤ j ∧ j ≤ 1000000 ∧ i.natAbs < 2 ^ 64 then some (.int (i ^ j.toNat), S) else none
  | _, _ => none
theorem o_pow : OpD X (binaryOp .Pow) oPow := .of op_pow fun H ι S dx dy x y Q d S' st rx ry h hq => by
  unfold oPow at h
  split at h
  · cases rx; cases ry
    split at h
    · rename_i hz
      cases h
      exact ⟨_, _, rfl, rfl, hz, PD.same hq st rfl⟩
    · cases h
  · cases h
def oNeg : O1 := fun x S => match x with
  | .int i => some (.int (-i), S)
  | _ => none
theorem o_neg : UnD X (unaryOp .USub) oNeg := by
  intro pins s σ H ι S dx x v Q d S' I st rx vx h hq
  unfold oNeg at h
  split at h
  · cases rx; cases h
    exact un_neg pins s σ H _ v Q I vx ⟨_, rfl, PD.same hq st rfl⟩
  · cases h

/-! ### order -/
def strLt (a b : Str) : Bool := decide (a.cps.toList < b.cps.toList)
def oLt : O2 := fun x y S => match x, y with
  | .int i, .int j => some (.bl (decide (i < j)), S)
  | .str a, .str b => some (.bl (strLt a b), S)
  | _, _ => none
def oLe : O2 := fun x y S => match x, y with
  | .int i, .int j => some (.bl (decide (i ≤ j)), S)
  | .str a, .str b => some (.bl (!strLt b a), S)
  | _, _ => none
def oGt : O2 := fun x y S => match x, y with
  | .int i, .int j => some (.bl (decide (j < i)), S)
  | .str a, .str b => some (.bl (strLt b a), S)
  | _, _ => none
def oGe : O2 := fun x y S => match x, y with
  | .int i, .int j => some (.bl (decide (j ≤ i)), S)
  | .str a, .str b => some (.bl (!strLt a b), S)
  | _, _ => none
theorem o_lt : OpD X (compareOp .Lt) oLt := by
  intro pins s σ H ι S dx dy x y v u Q d S' I st rx ry vx vy h hq
  unfold oLt at h
  split at h
  · cases rx; cases ry; cases h; exact op_lt pins s σ H _ _ v u Q I vx vy ⟨_, _, rfl, rfl, PD.same hq st rfl⟩
  · cases rx; cases ry; cases h; exact op_lt_str pins s σ H _ _ v u Q I vx vy ⟨_, _, rfl, rfl, PD.same hq st rfl⟩
  · cases h
theorem o_le : OpD X (compareOp .LtE) oLe := by
  intro pins s σ H ι S dx dy x y v u Q d S' I st rx ry vx vy h hq
  unfold oLe at h
  split at h
  · cases rx; cases ry; cases h; exact op_le pins s σ H _ _ v u Q I vx vy ⟨_, _, rfl, rfl, PD.same hq st rfl⟩
  · cases rx; cases ry; cases h; exact op_le_str pins s σ H _ _ v u Q I vx vy ⟨_, _, rfl, rfl, PD.same hq st rfl⟩
  · cases h
theorem o_gt : OpD X (compareOp .Gt) oGt := by
  intro pins s σ H ι S dx dy x y v u Q d S' I st rx ry vx vy h hq
  unfold oGt at h
  split at h
  · cases rx; cases ry; cases h; exact op_gt pins s σ H _ _ v u Q I vx vy ⟨_, _, rfl, rfl, PD.same hq st rfl⟩
  · cases rx; cases ry; cases h; exact op_gt_str pins s σ H _ _ v u Q I vx vy ⟨_, _, rfl, rfl, PD.same hq st rfl⟩
  · cases h
theorem o_ge : OpD X (compareOp .GtE) oGe := by
  intro pins s σ H ι S dx dy x y v u Q d S' I st rx ry vx vy h hq
  unfold oGe at h
  split at h
  · cases rx; cases ry; cases h; exact op_ge pins s σ H _ _ v u Q I vx vy ⟨_, _, rfl, rfl, PD.same hq st rfl⟩
  · cases rx; cases ry; cases h; exact op_ge_str pins s σ H _ _ v u Q I vx vy ⟨_, _, rfl, rfl, PD.same hq st rfl⟩
  · cases h
/-- a op1 b op2 c -/
def xChain (o o' : O2) (f g k : XE) : XE := fun Γ S => (f Γ S).bind fun x S1 => (g Γ S1).bind fun y S2 => (R.of (o x y S2)).bind fun z S3 => match z with
  | .bl true => (k Γ S3).bind fun w S4 => R.of (o' y w S4)
  | .bl false => .ok (.bl false) S3
  | _ => .err
section
variable {W : WX} {a b c : Expr} {f g k : XE} {pos : Pos} {o o' : O2} {op op' : CmpOp} {pins : List (Addr × Obj)} {s : Shared} {σ : L2.St} {H : Hp} {ι : Nat → Addr} {S : Sto} {Γ : Gam}
theorem d_chain (ho : OpD X (compareOp op) o) (ho' : OpD X (compareOp op') o') (ha : EOk X W a f) (hb : EOk X W b g) (hc : EOk X W c k) (hm : lastMarks [op, op'] [b, c] = false := by with_unfolding_all rfl) : EOk X W (.Compare a [op, op'] [b, c] pos) (xChain o o' f g k) := by
  refine ⟨fun pins s σ H Q I h => ?_⟩
  obtain ⟨ι, S, Γ, r, hs⟩ := h
  refine Compare_chain (ha.go I r (R.sat_bind hs) (fun _ _ z => z) fun d S1 ι1 H1 v u s1 p e1 rd1 I1 rv1 r1 => chain_link (hb.go I1 r1 (R.sat_bind p) (fun _ _ z => z.ext e1) fun d2 S2 ι2 H2 v2 u2 s2 p2 e2 rd2 I2 rv2 r2 => ?_)) hm
  obtain ⟨d3, S3, q1, q2⟩ := R.sat_of (R.sat_bind p2)
  refine thn (ho pins s2 σ H2 ι2 S2 d d2 v v2 u u2 (fun z H3 => ∃ ι3, Ext X.K ι2 S2 H2 ι3 S3 H3 ∧ RD X.K ι3 S3.length H3 d3 z) d3 S3 I2 r2.sat (RD.mono e2.keeps _ _ rd1) rd2 rv1 rv2 q1 fun ι3 H3 z e r => ⟨ι3, e, r⟩) ?_
  rintro c' s3 ⟨z, H3, I3, r3, ι3, e3, rd3⟩
  cases d3 with
  | bl b =>
    cases (show z = .bl b from rd3)
    cases r3
    refine wpAny_truthy_bool ?_
    cases b with
    | false => exact ite_ff ⟨.bl false, H3, I3, rfl, q2 ι3 H3 _ ((e1.trans e2).trans e3) rfl⟩
    | true =>
      refine ite_tt (chain_last (hc.go I3 (r2.ext e3) (R.sat_bind q2) (fun _ _ z => ((z.ext e1).ext e2).ext e3) fun d4 S4 ι4 H4 v4 u4 s4 p4 e4 rd4 I4 rv4 r4 => ?_))
      obtain ⟨d5, S5, q5, q6⟩ := R.sat_of p4
      exact ho' pins s4 σ H4 ι4 S4 d2 d4 v2 v4 u2 u4 Q d5 S5 I4 r4.sat (RD.mono (e3.trans e4).keeps _ _ rd2) rd4 rv2 rv4 q5 ((((q6.ext e1).ext e2).ext e3).ext e4)
  | _ => exact q2.elim
theorem t_chain (ho : OpD X (compareOp op) o) (ho' : OpD X (compareOp op') o') (ha : EOk X W a f) (hb : EOk X W b g) (hc : EOk X W c k) (hm : lastMarks [op, op'] [b, c] = false := by with_unfolding_all rfl) : TOk X W (.Compare a [op, op'] [b, c] pos) (xTB (xChain o o' f g k)) := by
  refine ⟨fun pins s σ H Q I h => ?_⟩
  obtain ⟨ι, S, Γ, r, hs⟩ := h
  have hs := R.sat_bind hs
  refine isTrue_chain (ha.go I r (R.sat_bind hs) (fun _ _ z => z) fun d S1 ι1 H1 v u s1 p e1 rd1 I1 rv1 r1 => test_link (hb.go I1 r1 (R.sat_bind p) (fun _ _ z => z.ext e1) fun d2 S2 ι2 H2 v2 u2 s2 p2 e2 rd2 I2 rv2 r2 => ?_)) hm
  obtain ⟨d3, S3, q1, q2⟩ := R.sat_of (R.sat_bind p2)
  refine thn (ho pins s2 σ H2 ι2 S2 d d2 v v2 u u2 (fun z H3 => ∃ ι3, Ext X.K ι2 S2 H2 ι3 S3 H3 ∧ RD X.K ι3 S3.length H3 d3 z) d3 S3 I2 r2.sat (RD.mono e2.keeps _ _ rd1) rd2 rv1 rv2 q1 fun ι3 H3 z e r => ⟨ι3, e, r⟩) ?_
  rintro c' s3 ⟨z, H3, I3, r3, ι3, e3, rd3⟩
  cases d3 with
  | bl b =>
    cases (show z = .bl b from rd3)
    cases r3
    refine wpAny_truthy_bool ?_
    cases b with
    | false => exact ite_ff ⟨H3, I3, q2 ι3 H3 ((e1.trans e2).trans e3)⟩
    | true =>
      refine ite_tt (test_last (hc.go I3 (r2.ext e3) (R.sat_bind q2) (fun _ _ z => ((z.ext e1).ext e2).ext e3) fun d4 S4 ι4 H4 v4 u4 s4 p4 e4 rd4 I4 rv4 r4 => ?_))
      obtain ⟨d5, S5, q5, q6⟩ := R.sat_of p4
      refine thn (ho' pins s4 σ H4 ι4 S4 d2 d4 v2 v4 u2 u4 (fun z H5 => ∃ b, z = .bl b ∧ Q b H5) d5 S5 I4 r4.sat (RD.mono (e3.trans e4).keeps _ _ rd2) rd4 rv2 rv4 q5 fun ι5 H5 z e r => ?_) ?_
      · cases d5 with
        | bl b => exact ⟨b, r, q6 ι5 H5 ((((e1.trans e2).trans e3).trans e4).trans e)⟩
        | _ => exact q6.elim
      · rintro c5 s5 ⟨z, H5, I5, r5, b, rfl, q⟩
        cases r5
        exact wpAny_truthy_bool ⟨H5, I5, q⟩
  | _ => exact q2.elim
end

/-! ### is -/
def oIsB : D → D → Option Bool
  | .non, .non => some true
  | .ty a, .ty b => some (decide (a = b))
  | .bl a, .bl b => some (decide (a = b))
  | .int _, .non => some false | .str _, .non => some false | .tup _, .non => some false | .ref _, .non => some false | .bl _, .non => some false | .sq _, .non => some false
  | .int _, .bl _ => some false | .str _, .bl _ => some false | .tup _, .bl _ => some false | .ref _, .bl _ => some false | .non, .bl _ => some false | .sq _, .bl _ => some false
  | _, _ => none
def oIs : O2 := fun x y S => (oIsB x y).map fun b => (.bl b, S)
def oIsNot : O2 := fun x y S => (oIsB x y).map fun b => (.bl (!b), S)
theorem is_bool_gen {M : Model} {A : Around} {E : Value → Shared → Prop} {s : Shared} {Q : Value → Shared → Prop} {x : V} {v : Value} {b : Bool} (r : RelV x v) (h : Q (.bool (v == .bool b)) s) : wpAny M A (compareOp .Is v (.bool b)) Q E s := by
  cases x <;> first | (cases r; exact wpAny_pure h) | (obtain ⟨t, rfl⟩ := r; exact wpAny_pure h)
theorem isnot_bool_gen {M : Model} {A : Around} {E : Value → Shared → Prop} {s : Shared} {Q : Value → Shared → Prop} {x : V} {v : Value} {b : Bool} (r : RelV x v) (h : Q (.bool (!(v == .bool b))) s) : wpAny M A (compareOp .IsNot v (.bool b)) Q E s := by
  cases x <;> first | (cases r; exact wpAny_pure h) | (obtain ⟨t, rfl⟩ := r; exact wpAny_pure h)
theorem RelV.bool_iff {x : V} {v : Value} {b : Bool} (r : RelV x v) : (v == Value.bool b) = decide (x = .bl b) := by
  cases x with
  | non => cases r; rfl
  | bl c => cases r; cases b <;> cases c <;> rfl
  | int _ => obtain ⟨t, rfl⟩ := r; rfl
  | str _ => obtain ⟨t, rfl⟩ := r; rfl
  | byt _ => obtain ⟨t, rfl⟩ := r; rfl
  | flt _ => obtain ⟨t, rfl⟩ := r; rfl
  | ref _ => cases r; rfl
  | ty _ => cases r; rfl
def isNonD : D → Bool
  | .non => true
  | _ => false
def isBlD (c : Bool) : D → Bool
  | .bl b => decide (b = c)
  | _ => false
theorem rd_non {K : PySem.W.Frag} {ι : Nat → Addr} {n : Nat} {H : Hp} {d : D} {x : V} (r : RD K ι n H d x) : decide (x = V.non) = isNonD d := by
  cases d with
  | tup => obtain ⟨a, vs, e, _⟩ := r; rw [e]; simp [isNonD, isBlD]
  | sq => obtain ⟨a, vs, e, _⟩ := r; rw [e]; simp [isNonD, isBlD]
  | ref => obtain ⟨_, e⟩ := r; rw [e]; simp [isNonD, isBlD]
  | _ => cases r; simp [isNonD, isBlD]
theorem rd_bl {K : PySem.W.Frag} {ι : Nat → Addr} {n : Nat} {H : Hp} {d : D} {x : V} {c : Bool} (r : RD K ι n H d x) : decide (x = V.bl c) = isBlD c d := by
  cases d with
  | tup => obtain ⟨a, vs, e, _⟩ := r; rw [e]; simp [isNonD, isBlD]
  | sq => obtain ⟨a, vs, e, _⟩ := r; rw [e]; simp [isNonD, isBlD]
  | ref => obtain ⟨_, e⟩ := r; rw [e]; simp [isNonD, isBlD]
  | _ => cases r; simp [isNonD, isBlD]
theorem isB_V {K : PySem.W.Frag} {ι : Nat → Addr} {n : Nat} {H : Hp} {dx dy : D} {x y : V} {b : Bool} (rx : RD K ι n H dx x) (ry : RD K ι n H dy y) (h : oIsB dx dy = some b) : (∃ m k, x = .ty m ∧ y = .ty k ∧ b = decide (m = k)) ∨ (y = .non ∧ b = decide (x = .non)) ∨ ∃ c, y = .bl c ∧ b = decide (x = .bl c) := by
  cases dy with
  | non =>
    refine .inr (.inl ⟨ry, ?_⟩)
    rw [rd_non rx]
    cases dx <;> simp [oIsB] at h <;> simp [isNonD, h]
  | bl c =>
    refine .inr (.inr ⟨c, ry, ?_⟩)
    rw [rd_bl rx]
    cases dx <;> simp [oIsB] at h <;> simp [isBlD, ← h]
  | ty k =>
    cases dx <;> simp [oIsB] at h
    exact .inl ⟨_, k, rx, ry, by simp [← h]⟩
  | _ => cases dx <;> simp [oIsB] at h
theorem o_is : OpD X (compareOp .Is) oIs := by
  intro pins s σ H ι S dx dy x y v u Q d S' I st rx ry vx vy h hq
  unfold oIs at h
  cases hb : oIsB dx dy with
  | none => rw [hb] at h; cases h
  | some b =>
    rw [hb] at h
    cases h
    have hQ := PD.same hq st (v := .bl b) rfl
    rcases isB_V rx ry hb with ⟨m, k, rfl, rfl, rfl⟩ | ⟨rfl, rfl⟩ | ⟨c, rfl, rfl⟩
    · exact op_isTy pins s σ H _ _ v u Q I vx vy ⟨_, _, rfl, rfl, hQ⟩
    · exact op_isN pins s σ H _ _ v u Q I vx vy ⟨rfl, hQ⟩
    · cases vy
      exact is_bool_gen vx ⟨.bl _, H, I, by rw [RelV.bool_iff vx]; rfl, hQ⟩
theorem o_isNot : OpD X (compareOp .IsNot) oIsNot := by
  intro pins s σ H ι S dx dy x y v u Q d S' I st rx ry vx vy h hq
  unfold oIsNot at h
  cases hb : oIsB dx dy with
  | none => rw [hb] at h; cases h
  | some b =>
    rw [hb] at h
    cases h
    have hQ := PD.same hq st (v := .bl (!b)) rfl
    rcases isB_V rx ry hb with ⟨m, k, rfl, rfl, rfl⟩ | ⟨rfl, rfl⟩ | ⟨c, rfl, rfl⟩
    · exact op_isNotTy pins s σ H _ _ v u Q I vx vy ⟨_, _, rfl, rfl, hQ⟩
    · exact op_notN pins s σ H _ _ v u Q I vx vy ⟨rfl, hQ⟩
    · cases vy
      exact isnot_bool_gen vx ⟨.bl _, H, I, by rw [RelV.bool_iff vx]; rfl, hQ⟩
end
end Dx
namespace Dx
open PySem PySem.Spec PyProof.Rows L2
section
variable {X : Cx} {W : WX} {a b c : Expr} {f g k : XE} {pos : Pos} {pins : List (Addr × Obj)} {s : Shared} {σ : L2.St} {H : Hp} {ι : Nat → Addr} {S : Sto} {Γ : Gam} {K : PySem.W.Frag}
/-! ### items -/
def IxD (X : Cx) (o : O2) : Prop :=
  ∀ (value slice : Expr) (pins : List (Addr × Obj)) (s : Shared) (σ : L2.St) (H : Hp) (ι : Nat → Addr) (S : Sto) (dx dy : D) (x y : V) (v u : Value) (Q : VK) (d : D) (S' : Sto), Inv X pins σ H s → Sat X.K ι S H → RD X.K ι S.length H dx x → RD X.K ι S.length H dy y → RelV x v → RelV y u →
    o dx dy S = some (d, S') → PD X.K ι S H Q d S' → subscripted slice false v u = operate [v, u] (getItem v u) → wpAny (model X.prog X.w) X.A (subscriptTail value slice v u) (EP X pins σ Q) X.xe s
theorem d_ix {o : O2} (ho : IxD X o) (ha : EOk X W a f) (hb : EOk X W b g) (hs : PlainIx b) : EOk X W (.Subscript a b pos) (xOp o f g) := by
  refine ⟨fun pins s σ H Q I h => ?_⟩
  obtain ⟨ι, S, Γ, r, hs'⟩ := h
  refine Subscript_ (ha.go I r (R.sat_bind hs') (fun _ _ z => z) fun d S1 ι1 H1 v u s1 p e1 rd1 I1 rv1 r1 => ?_)
  refine hb.go I1 r1 (R.sat_bind p) (fun _ _ z => z.ext e1) fun d2 S2 ι2 H2 v2 u2 s2 p2 e2 rd2 I2 rv2 r2 => ?_
  obtain ⟨d3, S3, q1, q2⟩ := R.sat_of p2
  exact ho a b pins s2 σ H2 ι2 S2 d d2 v v2 u u2 Q d3 S3 I2 r2.sat (RD.mono e2.keeps _ _ rd1) rd2 rv1 rv2 q1 ((q2.ext e1).ext e2) (hs _ _)
theorem atI_map {α β : Type} {xs : List α} {ys : List β} (hl : xs.length = ys.length) {i : Int} {d : α} (h : atI xs i = some d) : ∃ j : Nat, xs[j]? = some d ∧ atI ys i = ys[j]? := by
  unfold atI at h ⊢
  rw [← hl]
  cases e : ixN xs.length i with
  | none => rw [e] at h; cases h
  | some j => rw [e] at h; exact ⟨j, h, rfl⟩
theorem RDs.atI {ι : Nat → Addr} {n : Nat} {H : Hp} {ds : List D} {vs : List V} (r : RDs K ι n H ds vs) {i : Int} {d : D} (h : L2.atI ds i = some d) : ∃ v, L2.atI vs i = some v ∧ RD K ι n H d v := by
  obtain ⟨j, h1, h2⟩ := atI_map r.length h
  obtain ⟨v, h3, h4⟩ := r.get h1
  exact ⟨v, by rw [h2]; exact h3, h4⟩
/-- a list's, a tuple's, a text's -/
def oIx : O2 := fun x y S => match x, y with
  | .tup ds, .int i => (atI ds i).map fun d => (d, S)
  | .sq ds, .int i => (atI ds i).map fun d => (d, S)
  | .ref n, .int i => (match S[n]? with
    | some (.lst ds) => (atI ds i).map fun d => (d, S)
    | _ => none)
  | .str z, .int i => if z.length ≤ sizeLine then (atI z.cps.toList i).map fun c => (.str ⟨#[c]⟩, S) else none
  | _, _ => none
theorem o_ix : IxD X oIx := by
  intro value slice pins s σ H ι S dx dy x y v u Q d S' I st rx ry vx vy h hq hs
  unfold oIx at h
  split at h
  · rename_i ds i
    obtain ⟨p, vs, rfl, q, r⟩ := rx
    cases ry
    cases e : atI ds i with
    | none => rw [e] at h; cases h
    | some d' =>
      rw [e] at h
      cases h
      obtain ⟨w, e2, r2⟩ := r.atI e
      exact ix_tup value slice pins s σ H _ _ v u Q I vx vy ⟨p, vs, i, w, rfl, rfl, SqT.of q, e2, PD.same hq st r2⟩ hs
  · rename_i ds i
    obtain ⟨p, vs, rfl, q, r⟩ := rx
    cases ry
    cases e : atI ds i with
    | none => rw [e] at h; cases h
    | some d' =>
      rw [e] at h
      cases h
      obtain ⟨w, e2, r2⟩ := r.atI e
      exact ix_list value slice pins s σ H _ _ v u Q I vx vy ⟨p, vs, i, w, rfl, rfl, q.l, e2, PD.same hq st r2⟩ hs
  · rename_i n i
    obtain ⟨_, rfl⟩ : n < _ ∧ x = V.ref (ι n) := rx
    cases ry
    split at h
    · rename_i ds e0
      obtain ⟨vs, q, r⟩ := st.lst e0
      cases e : atI ds i with
      | none => rw [e] at h; cases h
      | some d' =>
        rw [e] at h
        cases h
        obtain ⟨w, e2, r2⟩ := r.atI e
        exact ix_list value slice pins s σ H _ _ v u Q I vx vy ⟨_, vs, i, w, rfl, rfl, SqL.of q, e2, PD.same hq st r2⟩ hs
    · cases h
  · rename_i z i
    cases rx
    cases ry
    split at h
    · rename_i hz
      cases e : atI z.cps.toList i with
      | none => rw [e] at h; cases h
      | some c =>
        rw [e] at h
        cases h
        exact ix_str value slice pins s σ H _ _ v u Q I vx vy ⟨z, i, c, rfl, rfl, hz, e, PD.same hq st rfl⟩ hs
    · cases h
  · cases h

/-! ### slices -/
abbrev XO := Gam → Sto → R (Option Int)
def toO (X : Cx) (W : WX) (f : XO) : TO := fun σ H Q => ∃ ι S Γ, Rel X.K ι S H σ Γ ∧ (f Γ S).sat (fun o S' => ∀ ι' H', Ext X.K ι S H ι' S' H' → Q o H') (PX X.K X.mg ι S H σ W)
def OOk (X : Cx) (W : WX) (e : Option Expr) (f : XO) : Prop := PO X e (toO X W f)
def xNoP : XO := fun _ S => .ok none S
def xPart (f : XE) : XO := fun Γ S => (f Γ S).bind fun d S1 => match d with
  | .int i => .ok (some i) S1
  | _ => .err
theorem p_none : OOk X W none xNoP := by
  refine ⟨fun pins s σ H Q I h => ?_⟩
  obtain ⟨ι, S, Γ, r, hs⟩ := h
  exact po_none.run pins s σ H Q I (hs _ _ (Ext.refl r.sat))
theorem p_some (h : EOk X W a f) : OOk X W (some a) (xPart f) := by
  refine ⟨fun pins s σ H Q I hw => ?_⟩
  obtain ⟨ι, S, Γ, r, hs⟩ := hw
  rw [evalPart_some]
  refine h.go I r (R.sat_bind hs) (fun _ _ z => z) fun d S1 ι1 H1 v u s1 p e1 rd1 I1 rv1 r1 => ?_
  cases d with
  | int i =>
    cases rd1
    obtain ⟨t, rfl⟩ := rv1
    exact ⟨some i, H1, I1, .int i t, p _ _ e1⟩
  | _ => exact p.elim
theorem OOk.go {e : Option Expr} {f : XO} (h : OOk X W e f) (I : Inv X pins σ H s) (r : Rel X.K ι S H σ Γ) {P : Option Int → Sto → Prop} {E : Exn → Sto → Prop} (hs : (f Γ S).sat P E) (hE : ∀ x S', E x S' → PX X.K X.mg ι S H σ W x S')
    {Qv : Value → Shared → Prop} (hk : ∀ o S' ι' H' u s', P o S' → Ext X.K ι S H ι' S' H' → Inv X pins σ H' s' → IsPart u o → Rel X.K ι' S' H' σ Γ → Qv u s') :
    wpAny (model X.prog X.w) X.A (evalPart e X.env) Qv X.xe s := by
  refine thn (h.run pins s σ H (fun o H' => ∃ S' ι', P o S' ∧ Ext X.K ι S H ι' S' H') I ⟨ι, S, Γ, r, R.sat_imp hs (fun d S' p ι' H' e => ⟨S', ι', p, e⟩) hE⟩) ?_
  rintro u s' ⟨o, H', I', pt, S', ι', p, ex⟩
  exact hk o S' ι' H' u s' p ex I' pt (r.ext ex)
def cutD (xs : List D) (lo hi : Option Int) : List D := (xs.drop (HT.sIx xs.length 0 lo)).take (HT.sIx xs.length xs.length hi - HT.sIx xs.length 0 lo)
theorem RDs.cut {ι : Nat → Addr} {n : Nat} {H : Hp} {ds : List D} {vs : List V} (r : RDs K ι n H ds vs) (lo hi : Option Int) : RDs K ι n H (cutD ds lo hi) (cutV vs lo hi) := by
  unfold cutD cutV
  rw [r.length]
  exact (r.drop _).take _
abbrev OS := D → Option Int → Option Int → Sto → Option (D × Sto)
def oSl : OS := fun x lo hi S => match x with
  | .tup ds => some (.tup (cutD ds lo hi), S)
  | .str z => if z.length ≤ sizeLine then some (.str (cutS z lo hi), S) else none
  | .ref n => (match S[n]? with
    | some (.lst ds) => some (.ref S.length, S ++ [.lst (cutD ds lo hi)])
    | _ => none)
  | _ => none
def xSl (o : OS) (f : XE) (l h : XO) : XE := fun Γ S => (f Γ S).bind fun x S1 => (l Γ S1).bind fun lo S2 => (h Γ S2).bind fun hi S3 => R.of (o x lo hi S3)
theorem cut_whole {α : Type} (xs : List α) (lo hi : Option Int) (h : HT.sIx xs.length 0 lo = 0 ∧ HT.sIx xs.length xs.length hi = xs.length) : (xs.drop (HT.sIx xs.length 0 lo)).take (HT.sIx xs.length xs.length hi - HT.sIx xs.length 0 lo) = xs := by
  rw [h.1, h.2]
  simp
theorem d_slice {lo hi : Option Expr} {l h : XO} {p2 : Pos} (ha : EOk X W a f) (hl : OOk X W lo l) (hh : OOk X W hi h) : EOk X W (.Subscript a (.Slice lo hi none p2) pos) (xSl oSl f l h) := by
  refine ⟨fun pins s σ H Q I hs => ?_⟩
  obtain ⟨ι, S, Γ, r, hs'⟩ := hs
  refine Subscript_ (ha.go I r (R.sat_bind hs') (fun _ _ z => z) fun d S1 ι1 H1 v u s1 p e1 rd1 I1 rv1 r1 => ?_)
  refine wpAny_Slice (hl.go I1 r1 (R.sat_bind p) (fun _ _ z => z.ext e1) fun ol S2 ι2 H2 vl s2 p2 e2 I2 pt2 r2 => hh.go I2 r2 (R.sat_bind p2) (fun _ _ z => (z.ext e1).ext e2) fun oh S3 ι3 H3 vh s3 p3 e3 I3 pt3 r3 => ?_)
  rw [evalPart_none]
  refine wpAny_pure ?_
  have I4 : Inv X pins σ H3 { s3 with heap := s3.heap.push { cls := .type "slice", data := .fields #[vl, vh, .none] } } := I3.kept (t' := s3.toks) fun b ob q => Heap.get?_push_of_some _ q
  obtain ⟨d3, S4, q1, q2⟩ := R.sat_of p3
  have q3 := ((q2.ext e1).ext e2).ext e3
  have rd3 := RD.mono (e2.trans e3).keeps _ _ rd1
  have fin : ∀ (rr : V → Option Int → Option Int → Hp → VK → Prop), SlR X rr → rr v ol oh H3 Q → wpAny (model X.prog X.w) X.A (subscriptTail a (.Slice lo hi none ‹Pos›) u (.ref s3.heap.objs.size)) (EP X pins σ Q) X.xe { s3 with heap := s3.heap.push { cls := .type "slice", data := .fields #[vl, vh, .none] } } := fun rr hr hq => by
    obtain ⟨T, id, hT, ht, hg⟩ := hr pins { s3 with heap := s3.heap.push { cls := .type "slice", data := .fields #[vl, vh, .none] } } σ H3 v u vl vh ol oh s3.heap.objs.size Q I4 rv1 (Heap.IsSliceOf.new ..) pt2 pt3 hq
    exact tail_any (ops := [.ref s3.heap.objs.size, u]) ht hT hg (by with_unfolding_all rfl)
  unfold oSl at q1
  split at q1
  · rename_i ds
    cases q1
    obtain ⟨q, vs, rfl, hv, rs⟩ := rd3
    refine fin _ sl_tupA ⟨q, vs, rfl, SqT.of hv, fun hw => ?_, fun hw => PD.tup q3 r3.sat (rs.cut ol oh)⟩
    have ew : cutD ds ol oh = ds := by
      unfold cutD
      rw [← rs.length] at hw
      exact cut_whole ds ol oh hw
    rw [ew] at q3
    exact PD.same q3 r3.sat ⟨q, vs, rfl, hv, rs⟩
  · rename_i z
    cases rd3
    split at q1
    · rename_i hz
      cases q1
      exact fin _ sl_str ⟨z, rfl, hz, PD.same q3 r3.sat rfl⟩
    · cases q1
  · rename_i n
    obtain ⟨_, rfl⟩ : n < _ ∧ v = V.ref (ι3 n) := rd3
    split at q1
    · rename_i ds e0
      cases q1
      obtain ⟨vs, q, rs⟩ := r3.sat.lst e0
      exact fin _ sl_list ⟨_, vs, rfl, SqL.of q, PD.new q3 r3.sat (show RO _ _ _ _ (.lst (cutD ds ol oh)) (.lst (cutV vs ol oh)) from rs.cut ol oh)⟩
    · cases q1
  · cases q1

/-! ### in -/
def inD (x : D) (ds : List D) : Bool := ds.any fun y => eqD y x
def oInB (x y : D) (S : Sto) : Option Bool := match y with
  | .str z => (match x with
    | .str w => if w.cps.size = 1 then some (decide (w.cps.getD 0 0 ∈ z.cps.toList)) else some (!(Builtin.Str.occurrences z w 0 z.length 1).isEmpty)
    | _ => none)
  | .tup ds => if shD 40 x && ds.all (shD 40) then some (inD x ds) else none
  | .ref n => (match S[n]? with
    | some (.lst ds) => if shD 40 x && ds.all (shD 40) then some (inD x ds) else none
    | _ => none)
  | _ => none
theorem one_sign {w : Str} (h : w.cps.size = 1) : w = ⟨#[w.cps.getD 0 0]⟩ := by
  obtain ⟨cps⟩ := w
  congr
  apply Array.ext
  · simpa using h
  · intro i h1 h2
    have : i = 0 := by simp at h2; omega
    subst this
    simp only [Array.getD_eq_getD_getElem?]
    simp [h1]
def oIn : O2 := fun x y S => (oInB x y S).map fun b => (.bl b, S)
def oNotIn : O2 := fun x y S => (oInB x y S).map fun b => (.bl (!b), S)
open Classical in
/-- the answers, by the values -/
noncomputable def eU (K : PySem.W.Frag) (ι : Nat → Addr) (n : Nat) (H : Hp) (ds : List D) (x : D) (u : Value) : Bool := decide (∃ d v, d ∈ ds ∧ RD K ι n H d v ∧ RelV v u ∧ eqD d x = true)
open Classical in
theorem in_items {n : Nat} {ds : List D} {vs : List V} {us : List Value} {dx : D} {x : V} {z : Value} (I : Inv X pins σ H s) (hu : X.A.units + 64 < cLine) (h1 : shD 40 dx = true) (h2 : ∀ d ∈ ds, shD 40 d = true) (rd : RDs X.K ι n H ds vs) (rv : Vals vs us) (rx : RD X.K ι n H dx x) (vx : RelV x z) :
    (∀ u, u ∈ us.toArray → SeqAt.EqAt X.A.in1 s u z (eU X.K ι n H ds dx u)) ∧ us.toArray.any (eU X.K ι n H ds dx) = inD dx ds := by
  have key : ∀ j (hj : j < us.toArray.size), ∃ v, RD X.K ι n H (ds.getD j .non) v ∧ RelV v us.toArray[j] ∧ ds.getD j .non ∈ ds := fun j hj => item_of rd rv hj
  have val : ∀ d v u, d ∈ ds → RD X.K ι n H d v → RelV v u → eU X.K ι n H ds dx u = eqD d dx := fun d v u hd r q => by
    unfold eU
    rw [Bool.eq_iff_iff, decide_eq_true_eq]
    constructor
    · rintro ⟨d', v', hd', r', q', e⟩
      have ev := q.inj q'
      subst ev
      rw [RD.fun' I 40 40 d d' v (h2 d hd) (h2 d' hd') r r']
      exact e
    · intro e
      exact ⟨d, v, hd, r, q, e⟩
  constructor
  · intro u hm
    obtain ⟨j, hj, e⟩ := Array.mem_iff_getElem.mp hm
    subst e
    obtain ⟨v, r, q, hd⟩ := key j hj
    rw [val _ v _ hd r q]
    exact (eqAt_D 40 (A := X.A.in1) I 40 _ dx v x _ z (by show X.A.units + 1 + 40 < cLine; omega) (h2 _ hd) h1 r rx q vx).2
  · rw [Bool.eq_iff_iff, Array.any_eq_true]
    unfold inD
    rw [List.any_eq_true]
    constructor
    · rintro ⟨j, hj, e⟩
      obtain ⟨v, r, q, hd⟩ := key j hj
      rw [val _ v _ hd r q] at e
      exact ⟨_, hd, e⟩
    · rintro ⟨d, hd, e⟩
      obtain ⟨j, hj, ed⟩ := List.mem_iff_getElem.mp hd
      have l1 := rd.length
      have l2 := rv.length
      have hj' : j < us.toArray.size := by rw [List.size_toArray]; omega
      obtain ⟨v, r, q, hd'⟩ := key j hj'
      refine ⟨j, hj', ?_⟩
      rw [val _ v _ hd' r q]
      have : ds.getD j .non = d := by rw [List.getD_eq_getElem?_getD, List.getElem?_eq_getElem hj]; simp [ed]
      rw [this]
      exact e
theorem o_in (hu : X.A.units + 64 < cLine) : OpD X (compareOp .In) oIn := by
  intro pins s σ H ι S dx dy x y v u Q d S' I st rx ry vx vy h hq
  unfold oIn at h
  cases hb : oInB dx dy S with
  | none => rw [hb] at h; cases h
  | some b =>
    rw [hb] at h
    cases h
    have fin : EP X pins σ Q (.bool b) s := ⟨.bl b, H, I, rfl, PD.same hq st rfl⟩
    unfold oInB at hb
    split at hb
    · rename_i z
      cases ry
      split at hb
      · rename_i w
        cases rx
        split at hb
        · rename_i h1
          cases hb
          exact op_in_sign pins s σ H _ _ v u Q I vx vy ⟨_, z, congrArg V.str (one_sign h1), rfl, PD.same hq st rfl⟩
        · cases hb; exact op_in_str pins s σ H _ _ v u Q I vx vy ⟨_, _, rfl, rfl, PD.same hq st rfl⟩
      · cases hb
    · rename_i ds
      obtain ⟨p, vs, rfl, q, r⟩ := ry
      split at hb
      · rename_i hc
        simp only [Bool.and_eq_true, List.all_eq_true] at hc
        cases hb
        cases vy
        obtain ⟨its, rv, ht, _⟩ := I.tuple (SqT.of q)
        obtain ⟨k1, k2⟩ := in_items I hu hc.1 hc.2 r rv rx vx
        exact SeqAt.in_tupleAt _ (show s.heap.IsTuple p its.toArray from ht) k1 (by rw [k2]; exact fin)
      · cases hb
    · rename_i n
      obtain ⟨_, rfl⟩ : n < _ ∧ y = V.ref (ι n) := ry
      split at hb
      · rename_i ds e0
        split at hb
        · rename_i hc
          simp only [Bool.and_eq_true, List.all_eq_true] at hc
          cases hb
          cases vy
          obtain ⟨vs, q, r⟩ := st.lst e0
          obtain ⟨its, rv, ht, _⟩ := I.list (SqL.of q)
          obtain ⟨k1, k2⟩ := in_items I hu hc.1 hc.2 r rv rx vx
          exact SeqAt.in_listAt _ ht.isList k1 (by rw [k2]; exact fin)
        · cases hb
      · cases hb
    · cases hb
theorem o_notIn (hu : X.A.units + 64 < cLine) : OpD X (compareOp .NotIn) oNotIn := by
  intro pins s σ H ι S dx dy x y v u Q d S' I st rx ry vx vy h hq
  unfold oNotIn at h
  cases hb : oInB dx dy S with
  | none => rw [hb] at h; cases h
  | some b =>
    rw [hb] at h
    cases h
    have fin : EP X pins σ Q (.bool (!b)) s := ⟨.bl (!b), H, I, rfl, PD.same hq st rfl⟩
    unfold oInB at hb
    split at hb
    · rename_i z
      cases ry
      split at hb
      · rename_i w
        cases rx
        split at hb
        · rename_i h1
          cases hb
          exact op_notIn_sign pins s σ H _ _ v u Q I vx vy ⟨_, z, congrArg V.str (one_sign h1), rfl, PD.same hq st rfl⟩
        · cases hb; exact op_notIn_str pins s σ H _ _ v u Q I vx vy ⟨_, _, rfl, rfl, PD.same hq st rfl⟩
      · cases hb
    · rename_i ds
      obtain ⟨p, vs, rfl, q, r⟩ := ry
      split at hb
      · rename_i hc
        simp only [Bool.and_eq_true, List.all_eq_true] at hc
        cases hb
        cases vy
        obtain ⟨its, rv, ht, _⟩ := I.tuple (SqT.of q)
        obtain ⟨k1, k2⟩ := in_items I hu hc.1 hc.2 r rv rx vx
        exact SeqAt.notIn_tupleAt _ (show s.heap.IsTuple p its.toArray from ht) k1 (by rw [k2]; exact fin)
      · cases hb
    · rename_i n
      obtain ⟨_, rfl⟩ : n < _ ∧ y = V.ref (ι n) := ry
      split at hb
      · rename_i ds e0
        split at hb
        · rename_i hc
          simp only [Bool.and_eq_true, List.all_eq_true] at hc
          cases hb
          cases vy
          obtain ⟨vs, q, r⟩ := st.lst e0
          obtain ⟨its, rv, ht, _⟩ := I.list (SqL.of q)
          obtain ⟨k1, k2⟩ := in_items I hu hc.1 hc.2 r rv rx vx
          exact SeqAt.notIn_listAt _ ht.isList k1 (by rw [k2]; exact fin)
        · cases hb
      · cases hb
    · cases hb
end
end Dx
namespace Dx
open PySem PySem.Spec PyProof.Rows L2
section
variable {X : Cx} {W : WX} {a b c : Expr} {f g k : XE} {pos : Pos} {pins : List (Addr × Obj)} {s : Shared} {σ : L2.St} {H : Hp} {ι : Nat → Addr} {S : Sto} {Γ : Gam} {K : PySem.W.Frag} {n : Nat}
/-! ### lists of one kind -/
def intsOf : List D → Option (List Int)
  | [] => some []
  | .int i :: r => (intsOf r).map (i :: ·)
  | _ => none
def strsOf : List D → Option (List Str)
  | [] => some []
  | .str i :: r => (strsOf r).map (i :: ·)
  | _ => none
def blsOf : List D → Option (List Bool)
  | [] => some []
  | .bl i :: r => (blsOf r).map (i :: ·)
  | _ => none
theorem intsOf_V : ∀ {ds : List D} {ns : List Int} {vs : List V}, intsOf ds = some ns → RDs K ι n H ds vs → vs = ns.map V.int
  | [], ns, vs, h, r => by cases h; exact r
  | d :: ds, ns, vs, h, r => by
    cases d with
    | int i =>
      simp only [intsOf, Option.map_eq_some_iff] at h
      obtain ⟨ms, h1, rfl⟩ := h
      obtain ⟨v, r', rfl, q1, q2⟩ := r
      rw [intsOf_V h1 q2, show v = V.int i from q1]
      rfl
    | _ => simp [intsOf] at h
theorem strsOf_V : ∀ {ds : List D} {ns : List Str} {vs : List V}, strsOf ds = some ns → RDs K ι n H ds vs → vs = ns.map V.str
  | [], ns, vs, h, r => by cases h; exact r
  | d :: ds, ns, vs, h, r => by
    cases d with
    | str i =>
      simp only [strsOf, Option.map_eq_some_iff] at h
      obtain ⟨ms, h1, rfl⟩ := h
      obtain ⟨v, r', rfl, q1, q2⟩ := r
      rw [strsOf_V h1 q2, show v = V.str i from q1]
      rfl
    | _ => simp [strsOf] at h
theorem blsOf_V : ∀ {ds : List D} {ns : List Bool} {vs : List V}, blsOf ds = some ns → RDs K ι n H ds vs → vs = ns.map V.bl
  | [], ns, vs, h, r => by cases h; exact r
  | d :: ds, ns, vs, h, r => by
    cases d with
    | bl i =>
      simp only [blsOf, Option.map_eq_some_iff] at h
      obtain ⟨ms, h1, rfl⟩ := h
      obtain ⟨v, r', rfl, q1, q2⟩ := r
      rw [blsOf_V h1 q2, show v = V.bl i from q1]
      rfl
    | _ => simp [blsOf] at h
theorem rds_ints : ∀ {ns : List Int}, RDs K ι n H (ns.map D.int) (ns.map V.int)
  | [] => rfl
  | i :: r => ⟨_, _, rfl, rfl, rds_ints⟩
theorem rds_strs : ∀ {ns : List Str}, RDs K ι n H (ns.map D.str) (ns.map V.str)
  | [] => rfl
  | i :: r => ⟨_, _, rfl, rfl, rds_strs⟩
theorem intsOf_map : ∀ ns : List Int, intsOf (ns.map D.int) = some ns
  | [] => rfl
  | i :: r => by rw [List.map_cons, intsOf, intsOf_map r]; rfl
theorem strsOf_map : ∀ ns : List Str, strsOf (ns.map D.str) = some ns
  | [] => rfl
  | i :: r => by rw [List.map_cons, strsOf, strsOf_map r]; rfl
theorem blsOf_map : ∀ ns : List Bool, blsOf (ns.map D.bl) = some ns
  | [] => rfl
  | i :: r => by rw [List.map_cons, blsOf, blsOf_map r]; rfl
/-- what is read as a list -/
def lstOf (d : D) (S : Sto) : Option (List D) := match d with
  | .ref n => (match S[n]? with
    | some (.lst ds) => some ds
    | _ => none)
  | .sq ds => some ds
  | _ => none
theorem lstOf_V {d : D} {v : V} {ds : List D} (st : Sat K ι S H) (rd : RD K ι S.length H d v) (h : lstOf d S = some ds) : ∃ p vs, v = .ref p ∧ SqL K H p vs ∧ RDs K ι S.length H ds vs := by
  unfold lstOf at h
  split at h
  · rename_i m
    obtain ⟨_, rfl⟩ : m < _ ∧ v = V.ref (ι m) := rd
    split at h
    · rename_i es e
      cases h
      obtain ⟨vs, q, r⟩ := st.lst e
      exact ⟨_, vs, rfl, SqL.of q, r⟩
    · cases h
  · cases h
    obtain ⟨p, vs, rfl, q, r⟩ := rd
    exact ⟨p, vs, rfl, q.l, r⟩
  · cases h
/-- a list's or a tuple's items -/
def seqOf (d : D) (S : Sto) : Option (List D) := match d with
  | .tup ds => some ds
  | d => lstOf d S
theorem seqOf_V {d : D} {v : V} {ds : List D} (st : Sat K ι S H) (rd : RD K ι S.length H d v) (h : seqOf d S = some ds) : ∃ p vs, v = .ref p ∧ (SqL K H p vs ∨ SqT K H p vs) ∧ RDs K ι S.length H ds vs := by
  unfold seqOf at h
  split at h
  · cases h
    obtain ⟨p, vs, rfl, q, r⟩ := rd
    exact ⟨p, vs, rfl, .inr (SqT.of q), r⟩
  · obtain ⟨p, vs, e, q, r⟩ := lstOf_V st rd h
    exact ⟨p, vs, e, .inl q, r⟩
theorem one_of {ds : List D} {d : D} {vs : List V} (h : RDs K ι n H [d] vs) : ∃ v, vs = [v] ∧ RD K ι n H d v := by
  obtain ⟨v, r, rfl, h1, h2⟩ := h
  exact ⟨v, by rw [show r = [] from h2], h1⟩
theorem two_of {d e : D} {vs : List V} (h : RDs K ι n H [d, e] vs) : ∃ v w, vs = [v, w] ∧ RD K ι n H d v ∧ RD K ι n H e w := by
  obtain ⟨v, r, rfl, h1, w, r2, rfl, h2, h3⟩ := h
  exact ⟨v, w, by rw [show r2 = [] from h3], h1, h2⟩

/-! ### built-ins -/
def oLen : OL := fun ds S => match ds with
  | [.str z] => if z.length ≤ sizeLine then some (.int z.length, S) else none
  | [d] => (seqOf d S).map fun xs => (.int xs.length, S)
  | _ => none
theorem o_len : CallD X (.builtin "len") oLen := .of call_len fun H ι S ds xs Q d S' st rd h hq => by
  unfold oLen at h
  split at h
  · rename_i z
    obtain ⟨v, rfl, r1⟩ := one_of (ds := []) rd
    cases r1
    split at h
    · rename_i hz
      cases h
      exact ⟨_, z.length, rfl, ⟨hz, rfl⟩, PD.same hq st rfl⟩
    · cases h
  · rename_i d0 _
    obtain ⟨v, rfl, r1⟩ := one_of (ds := []) rd
    cases e : seqOf d0 S with
    | none => rw [e] at h; cases h
    | some ys =>
      rw [e] at h
      cases h
      obtain ⟨p, vs, rfl, q, r⟩ := seqOf_V st r1 e
      refine ⟨_, ys.length, rfl, ?_, PD.same hq st rfl⟩
      rcases q with q | q
      · exact .inl ⟨vs, q, r.length⟩
      · exact .inr ⟨vs, q, r.length⟩
  · cases h
def tyOf (d : D) (S : Sto) : Option String := match d with
  | .non => some "NoneType"
  | .bl _ => some "bool"
  | .int _ => some "int"
  | .str _ => some "str"
  | .tup _ => some "tuple"
  | .ref n => (match S[n]? with
    | some (.lst _) => some "list"
    | _ => none)
  | _ => none
def oType : OL := fun ds S => match ds with
  | [d] => (tyOf d S).map fun n => (.ty n, S)
  | _ => none
theorem o_type : CallD X (.type "type") oType := by
  intro pins s σ H ι S ds xs us Q d S' I st rd rv h hq
  unfold oType at h
  split at h
  · rename_i d0
    obtain ⟨v, rfl, r1⟩ := one_of (ds := []) rd
    obtain ⟨u, rfl, rv1⟩ := vals1 rv
    cases e : tyOf d0 S with
    | none => rw [e] at h; cases h
    | some m =>
      rw [e] at h
      cases h
      refine rl_type pins s σ H v u Q I rv1 ⟨m, ?_, PD.same hq st rfl⟩
      unfold tyOf at e
      split at e
      · cases r1; exact e
      · cases r1; exact e
      · cases r1; exact e
      · cases r1; exact e
      · obtain ⟨p, vs, rfl, q, _⟩ := r1
        cases e
        simp [zTyV, q]
      · rename_i n'
        obtain ⟨_, rfl⟩ : n' < _ ∧ v = V.ref (ι n') := r1
        split at e
        · rename_i es e0
          cases e
          obtain ⟨vs, q, _⟩ := st.lst e0
          simp [zTyV, q]
        · cases e
      · cases e
  · cases h
/-- isinstance of a built-in type -/
def isiS (t c : String) : Option Bool := if c = "tuple" ∨ c = "int" ∨ c = "str" ∨ c = "bool" ∨ c = "list" then some (decide (t = c) || (decide (t = "bool") && decide (c = "int"))) else none
theorem isiS_ok {K : PySem.W.Frag} {t c : String} {b : Bool} (ht : t = "NoneType" ∨ t = "bool" ∨ t = "int" ∨ t = "str" ∨ t = "tuple" ∨ t = "list") (h : isiS t c = some b) : PySem.W.kitOne K (.type t) (.type c) = some b := by
  unfold isiS at h
  split at h
  · rename_i hc
    cases h
    rcases hc with rfl | rfl | rfl | rfl | rfl <;> rcases ht with rfl | rfl | rfl | rfl | rfl | rfl <;> exact kit_ty (by decide +kernel)
  · cases h
theorem tyOf_X {d : D} {v : V} {t : String} (st : Sat K ι S H) (r1 : RD K ι S.length H d v) (e : tyOf d S = some t) : TyX K H v (.type t) ∧ (t = "NoneType" ∨ t = "bool" ∨ t = "int" ∨ t = "str" ∨ t = "tuple" ∨ t = "list") := by
  unfold tyOf at e
  split at e
  · cases r1; cases e; exact ⟨.base .non, by simp⟩
  · cases r1; cases e; exact ⟨.base (.bl _), by simp⟩
  · cases r1; cases e; exact ⟨.base (.int _), by simp⟩
  · cases r1; cases e; exact ⟨.base (.str _), by simp⟩
  · obtain ⟨p, vs, rfl, q, _⟩ := r1
    cases e
    exact ⟨.base (.tup q), by simp⟩
  · rename_i n'
    obtain ⟨_, rfl⟩ : n' < _ ∧ v = V.ref (ι n') := r1
    split at e
    · rename_i es e0
      cases e
      obtain ⟨vs, q, _⟩ := st.lst e0
      exact ⟨.base (.lst q), by simp⟩
    · cases e
  · cases e
def oIsi : OL := fun ds S => match ds with
  | [d, .ty c] => (tyOf d S).bind fun t => (isiS t c).map fun b => (.bl b, S)
  | _ => none
theorem o_isi : CallD X (.builtin "isinstance") oIsi := .of call_isi fun H ι S ds xs Q d S' st rd h hq => by
  unfold oIsi at h
  split at h
  · rename_i d0 c
    obtain ⟨v, w, rfl, r1, r2⟩ := two_of rd
    cases r2
    obtain ⟨t, e1, h⟩ := Option.bind_eq_some_iff.mp h
    obtain ⟨b, e2, h⟩ := Option.map_eq_some_iff.mp h
    cases h
    obtain ⟨k1, k2⟩ := tyOf_X st r1 e1
    exact ⟨v, _, _, _, b, rfl, .ty c, k1, isiS_ok k2 e2, PD.same hq st rfl⟩
  · cases h
def oInt : OL := fun ds S => match ds with
  | [.int i] => some (.int i, S)
  | [.str z] => (match PySem.intText? z with
    | some n => if z.length ≤ 640 then some (.int n, S) else none
    | none => none)
  | _ => none
theorem o_int : CallD X (.type "int") oInt := by
  intro pins s σ H ι S ds xs us Q d S' I st rd rv h hq
  unfold oInt at h
  split at h
  · obtain ⟨v, rfl, r1⟩ := one_of (ds := []) rd
    cases r1; cases h
    exact call_int1 pins s σ H _ us Q I rv (.inl ⟨_, rfl, PD.same hq st rfl⟩)
  · obtain ⟨v, rfl, r1⟩ := one_of (ds := []) rd
    cases r1
    split at h
    · rename_i m e
      split at h
      · rename_i hz
        cases h
        exact call_int_str pins s σ H _ us Q I rv ⟨_, m, rfl, e, hz, PD.same hq st rfl⟩
      · cases h
    · cases h
  · cases h
def oStr : OL := fun ds S => match ds with
  | [.int i] => if i.natAbs.log2 < 1920 then some (.str (toString i), S) else none
  | _ => none
theorem o_str : CallD X (.type "str") oStr := .of call_str_int fun H ι S ds xs Q d S' st rd h hq => by
  unfold oStr at h
  split at h
  · obtain ⟨v, rfl, r1⟩ := one_of (ds := []) rd
    cases r1
    split at h
    · rename_i hz
      cases h
      exact ⟨_, rfl, hz, PD.same hq st rfl⟩
    · cases h
  · cases h
def oTuple : OL := fun ds S => match ds with
  | [.tup xs] => some (.tup xs, S)
  | [d] => (lstOf d S).map fun xs => (.tup xs, S)
  | _ => none
theorem o_tuple : CallD X (.type "tuple") oTuple := .of call_tuple_of fun H ι S ds xs Q d S' st rd h hq => by
  unfold oTuple at h
  split at h
  · obtain ⟨v, rfl, r1⟩ := one_of (ds := []) rd
    cases h
    obtain ⟨p, vs, rfl, q, r⟩ := r1
    exact ⟨p, vs, rfl, .inr ⟨SqT.of q, PD.same hq st ⟨p, vs, rfl, q, r⟩⟩⟩
  · rename_i d0 _
    obtain ⟨v, rfl, r1⟩ := one_of (ds := []) rd
    cases e : lstOf d0 S with
    | none => rw [e] at h; cases h
    | some ys =>
      rw [e] at h
      cases h
      obtain ⟨p, vs, rfl, q, r⟩ := lstOf_V st r1 e
      exact ⟨p, vs, rfl, .inl ⟨q, PD.tup hq st r⟩⟩
  · cases h
def oList : OL := fun ds S => match ds with
  | [d] => (seqOf d S).map fun xs => (.ref S.length, S ++ [.lst xs])
  | _ => none
theorem o_list : CallD X (.type "list") oList := .of call_list_of fun H ι S ds xs Q d S' st rd h hq => by
  unfold oList at h
  split at h
  · rename_i d0
    obtain ⟨v, rfl, r1⟩ := one_of (ds := []) rd
    cases e : seqOf d0 S with
    | none => rw [e] at h; cases h
    | some ys =>
      rw [e] at h
      cases h
      obtain ⟨p, vs, rfl, q, r⟩ := seqOf_V st r1 e
      exact ⟨p, vs, rfl, q, PD.new hq st (show RO _ _ _ _ (.lst ys) (.lst vs) from r)⟩
  · cases h
def oAll : OL := fun ds S => match ds with
  | [d] => ((lstOf d S).bind blsOf).map fun bs => (.bl (bs.all id), S)
  | _ => none
theorem o_all (hc : X.calm = true) : CallD X (.builtin "all") oAll := .of (cr_all hc) fun H ι S ds xs Q d S' st rd h hq => by
  unfold oAll at h
  split at h
  · rename_i d0
    obtain ⟨v, rfl, r1⟩ := one_of (ds := []) rd
    obtain ⟨bs, e, h⟩ := Option.map_eq_some_iff.mp h
    obtain ⟨ys, e1, e2⟩ := Option.bind_eq_some_iff.mp e
    cases h
    obtain ⟨p, vs, rfl, q, r⟩ := lstOf_V st r1 e1
    exact ⟨p, bs, rfl, by rw [← blsOf_V e2 r]; exact q, PD.same hq st rfl⟩
  · cases h
def oAny : OL := fun ds S => match ds with
  | [d] => ((lstOf d S).bind blsOf).map fun bs => (.bl (bs.any id), S)
  | _ => none
theorem o_any (hc : X.calm = true) : CallD X (.builtin "any") oAny := .of (cr_any hc) fun H ι S ds xs Q d S' st rd h hq => by
  unfold oAny at h
  split at h
  · rename_i d0
    obtain ⟨v, rfl, r1⟩ := one_of (ds := []) rd
    obtain ⟨bs, e, h⟩ := Option.map_eq_some_iff.mp h
    obtain ⟨ys, e1, e2⟩ := Option.bind_eq_some_iff.mp e
    cases h
    obtain ⟨p, vs, rfl, q, r⟩ := lstOf_V st r1 e1
    exact ⟨p, bs, rfl, by rw [← blsOf_V e2 r]; exact q, PD.same hq st rfl⟩
  · cases h
def oSum : OL := fun ds S => match ds with
  | [d] => ((lstOf d S).bind intsOf).map fun ns => (.int ns.sum, S)
  | _ => none
theorem o_sum (hc : X.calm = true) : CallD X (.builtin "sum") oSum := .of (cr_sum hc) fun H ι S ds xs Q d S' st rd h hq => by
  unfold oSum at h
  split at h
  · rename_i d0
    obtain ⟨v, rfl, r1⟩ := one_of (ds := []) rd
    obtain ⟨bs, e, h⟩ := Option.map_eq_some_iff.mp h
    obtain ⟨ys, e1, e2⟩ := Option.bind_eq_some_iff.mp e
    cases h
    obtain ⟨p, vs, rfl, q, r⟩ := lstOf_V st r1 e1
    exact ⟨p, bs, rfl, by rw [← intsOf_V e2 r]; exact q, PD.same hq st rfl⟩
  · cases h
def maxI : List Int → Int
  | [] => 0
  | [a] => a
  | a :: r => if maxI r > a then maxI r else a
def minI : List Int → Int
  | [] => 0
  | [a] => a
  | a :: r => if minI r < a then minI r else a
theorem maxI_ok : ∀ (ns : List Int) (m : Int), m ∈ ns → (∀ y ∈ ns, y ≤ m) → maxI ns = m
  | [], m, h, _ => by cases h
  | [a], m, h, _ => by simp at h; simp [maxI, h]
  | a :: b :: r, m, h, hb => by
    show (if maxI (b :: r) > a then maxI (b :: r) else a) = m
    by_cases hm : m ∈ (b :: r)
    · have e := maxI_ok (b :: r) m hm fun y hy => hb y (List.mem_cons_of_mem _ hy)
      rw [e]
      have := hb a List.mem_cons_self
      by_cases h2 : m > a
      · rw [if_pos h2]
      · rw [if_neg h2]; omega
    · have ha : m = a := by
        rcases List.mem_cons.mp h with z | z
        · exact z
        · exact absurd z hm
      subst ha
      have hmem : ∀ (l : List Int), l ≠ [] → maxI l ∈ l := by
        intro l
        induction l with
        | nil => intro z; exact absurd rfl z
        | cons x t ih =>
          intro _
          cases t with
          | nil => simp [maxI]
          | cons y t =>
            show (if maxI (y :: t) > x then maxI (y :: t) else x) ∈ _
            split
            · exact List.mem_cons_of_mem _ (ih (by simp))
            · exact List.mem_cons_self
      have := hb _ (List.mem_cons_of_mem _ (hmem (b :: r) (by simp)))
      rw [if_neg (by omega)]
theorem minI_ok : ∀ (ns : List Int) (m : Int), m ∈ ns → (∀ y ∈ ns, m ≤ y) → minI ns = m
  | [], m, h, _ => by cases h
  | [a], m, h, _ => by simp at h; simp [minI, h]
  | a :: b :: r, m, h, hb => by
    show (if minI (b :: r) < a then minI (b :: r) else a) = m
    by_cases hm : m ∈ (b :: r)
    · have e := minI_ok (b :: r) m hm fun y hy => hb y (List.mem_cons_of_mem _ hy)
      rw [e]
      have := hb a List.mem_cons_self
      by_cases h2 : m < a
      · rw [if_pos h2]
      · rw [if_neg h2]; omega
    · have ha : m = a := by
        rcases List.mem_cons.mp h with z | z
        · exact z
        · exact absurd z hm
      subst ha
      have hmem : ∀ (l : List Int), l ≠ [] → minI l ∈ l := by
        intro l
        induction l with
        | nil => intro z; exact absurd rfl z
        | cons x t ih =>
          intro _
          cases t with
          | nil => simp [minI]
          | cons y t =>
            show (if minI (y :: t) < x then minI (y :: t) else x) ∈ _
            split
            · exact List.mem_cons_of_mem _ (ih (by simp))
            · exact List.mem_cons_self
      have := hb _ (List.mem_cons_of_mem _ (hmem (b :: r) (by simp)))
      rw [if_neg (by omega)]
def oMax : OL := fun ds S => match ds with
  | [d] => ((lstOf d S).bind intsOf).bind fun ns => if 0 < ns.length then some (.int (maxI ns), S) else none
  | [.int i, .int j] => some (.int (if j > i then j else i), S)
  | _ => none
theorem o_max (hc : X.calm = true) : CallD X (.builtin "max") oMax := by
  intro pins s σ H ι S ds xs us Q d S' I st rd rv h hq
  unfold oMax at h
  split at h
  · rename_i d0
    obtain ⟨v, rfl, r1⟩ := one_of (ds := []) rd
    obtain ⟨bs, e, h⟩ := Option.bind_eq_some_iff.mp h
    obtain ⟨ys, e1, e2⟩ := Option.bind_eq_some_iff.mp e
    split at h
    · rename_i hl
      cases h
      obtain ⟨p, vs, rfl, q, r⟩ := lstOf_V st r1 e1
      exact cr_max hc pins s σ H _ us Q I rv ⟨p, bs, rfl, by rw [← intsOf_V e2 r]; exact q, hl, fun m h1 h2 => by rw [← maxI_ok bs m h1 h2]; exact PD.same hq st rfl⟩
    · cases h
  · obtain ⟨v, w, rfl, r1, r2⟩ := two_of rd
    cases r1; cases r2; cases h
    exact call_max2 hc pins s σ H _ us Q I rv ⟨_, _, rfl, PD.same hq st rfl⟩
  · cases h
def oMin : OL := fun ds S => match ds with
  | [d] => ((lstOf d S).bind intsOf).bind fun ns => if 0 < ns.length then some (.int (minI ns), S) else none
  | [.int i, .int j] => some (.int (if j < i then j else i), S)
  | _ => none
theorem o_min (hc : X.calm = true) : CallD X (.builtin "min") oMin := by
  intro pins s σ H ι S ds xs us Q d S' I st rd rv h hq
  unfold oMin at h
  split at h
  · rename_i d0
    obtain ⟨v, rfl, r1⟩ := one_of (ds := []) rd
    obtain ⟨bs, e, h⟩ := Option.bind_eq_some_iff.mp h
    obtain ⟨ys, e1, e2⟩ := Option.bind_eq_some_iff.mp e
    split at h
    · rename_i hl
      cases h
      obtain ⟨p, vs, rfl, q, r⟩ := lstOf_V st r1 e1
      exact cr_min hc pins s σ H _ us Q I rv ⟨p, bs, rfl, by rw [← intsOf_V e2 r]; exact q, hl, fun m h1 h2 => by rw [← minI_ok bs m h1 h2]; exact PD.same hq st rfl⟩
    · cases h
  · obtain ⟨v, w, rfl, r1, r2⟩ := two_of rd
    cases r1; cases r2; cases h
    exact call_min2 hc pins s σ H _ us Q I rv ⟨_, _, rfl, PD.same hq st rfl⟩
  · cases h
def oAbs : OL := fun ds S => match ds with
  | [.int i] => some (.int (if i < 0 then -i else i), S)
  | _ => none
theorem o_abs : CallD X (.builtin "abs") oAbs := .of call_abs fun H ι S ds xs Q d S' st rd h hq => by
  unfold oAbs at h
  split at h
  · obtain ⟨v, rfl, r1⟩ := one_of (ds := []) rd
    cases r1; cases h
    exact ⟨_, rfl, PD.same hq st rfl⟩
  · cases h
def oDivmod : OL := fun ds S => match ds with
  | [.int i, .int j] => if 0 < j ∧ j < 1073741824 then some (.tup [.int (i / j), .int (i % j)], S) else none
  | _ => none
theorem o_divmod : CallD X (.builtin "divmod") oDivmod := .of call_divmod fun H ι S ds xs Q d S' st rd h hq => by
  unfold oDivmod at h
  split at h
  · obtain ⟨v, w, rfl, r1, r2⟩ := two_of rd
    cases r1; cases r2
    split at h
    · rename_i hz
      cases h
      exact ⟨_, _, rfl, hz, PD.tup hq st ⟨_, _, rfl, rfl, _, _, rfl, rfl, rfl⟩⟩
    · cases h
  · cases h
end
end Dx
namespace Dx
open PySem PySem.Spec PyProof.Rows L2
section
variable {X : Cx} {W : WX} {a b c e e2 : Expr} {f g k : XE} {pos : Pos} {pins : List (Addr × Obj)} {s : Shared} {σ : L2.St} {H : Hp} {ι : Nat → Addr} {S : Sto} {Γ : Gam} {K : PySem.W.Frag} {n : Nat} {tg : Expr}
/-! ### what is walked -/
def signD (c : Nat) : D := .str ⟨#[c]⟩
def itOf (d : D) (S : Sto) : Option ItD := match d with
  | .tup ds => some ⟨ds, fun _ => True⟩
  | .sq ds => some ⟨ds, fun _ => True⟩
  | .str z => some ⟨z.cps.toList.map signD, fun _ => True⟩
  | .ref n => (match S[n]? with
    | some (.lst ds) => some ⟨ds, fun S' => S'[n]? = some (.lst ds)⟩
    | _ => none)
  | _ => none
theorem good_list {p : Addr} {ds : List D} {live : Sto → Prop} (h : ∀ ι' S' H', Ext K ι S H ι' S' H' → live S' → ∃ vs, SqL K H' p vs ∧ RDs K ι' S'.length H' ds vs) (hf : ∀ ι' S' H' vs ws, Ext K ι S H ι' S' H' → live S' → SqL K H' p vs → SqL K H' p ws → ws = vs ∨ True) :
    GoodIt K ι S H (Itl K p) ⟨ds, live⟩ := by
  intro ι' S' H' e hl
  obtain ⟨vs, q, r⟩ := h ι' S' H' e hl
  refine ⟨fun i d hd => ?_, fun i hi => ⟨vs, q, by rw [← r.length]; exact hi⟩⟩
  obtain ⟨v, h1, h2⟩ := r.get hd
  refine ⟨⟨vs, v, q, h1⟩, ?_⟩
  rintro x H2 ⟨rfl, hx⟩
  have := hx vs q
  rw [h1] at this
  cases this
  exact ⟨Ext.refl e.sat, h2⟩
theorem good_tup {p : Addr} {ds : List D} {vs : List V} (q : H p = some (.tup vs)) (r : RDs K ι S.length H ds vs) : GoodIt K ι S H (Itt K p) ⟨ds, fun _ => True⟩ := by
  intro ι' S' H' e _
  have q' := e.keeps.tup p vs q
  have r' := RDs.mono e.keeps _ _ r
  refine ⟨fun i d hd => ?_, fun i hi => ⟨vs, SqT.of q', by rw [← r.length]; exact hi⟩⟩
  obtain ⟨v, h1, h2⟩ := r'.get hd
  refine ⟨⟨vs, v, SqT.of q', h1⟩, ?_⟩
  rintro x H2 ⟨rfl, hx⟩
  have := hx vs (SqT.of q')
  rw [h1] at this
  cases this
  exact ⟨Ext.refl e.sat, h2⟩
theorem good_str {z : Str} : GoodIt K ι S H (Its z) ⟨z.cps.toList.map signD, fun _ => True⟩ := by
  intro ι' S' H' e _
  refine ⟨fun i d hd => ?_, fun i hi => ?_⟩
  · rw [List.getElem?_map] at hd
    obtain ⟨c, h1, rfl⟩ := Option.map_eq_some_iff.mp hd
    have hlt : i < z.cps.size := by
      obtain ⟨q, _⟩ := List.getElem?_eq_some_iff.mp h1
      simpa using q
    refine ⟨hlt, ?_⟩
    rintro x H2 ⟨rfl, c', h2, rfl⟩
    rw [Array.getElem?_toList, h2] at h1
    cases h1
    exact ⟨Ext.refl e.sat, rfl⟩
  · rw [List.length_map, Array.length_toList] at hi
    exact hi
/-- an iterator of a value -/
theorem iter_go {d : D} {v : V} {u : Value} {q : ItD} {R : It → Hp → Prop} (I : Inv X pins σ H s) (st : Sat X.K ι S H) (rd : RD X.K ι S.length H d v) (rv : RelV v u) (h : itOf d S = some q)
    (hR : ∀ J, GoodIt X.K ι S H J q → R J H) : wpAny (model X.prog X.w) X.A (pyIter u) (PIE X pins σ tg R) X.xe s := by
  unfold itOf at h
  split at h
  · cases h
    obtain ⟨p, vs, rfl, hv, rs⟩ := rd
    cases rv
    obtain ⟨its, r', pt, hz⟩ := I.tuple (SqT.of hv)
    refine wpAny_pyIter_tuple (show s.heap.IsTuple p its.toArray from pt) ?_
    refine ⟨s.heap.objs.size, [s.heap.objs.size], _, _, H, rfl, I.kept (t' := s.toks) fun b o e => Heap.get?_push_of_some _ e, turn_tuple p _, ⟨_, Heap.get?_push_size _ rfl, rfl, rfl⟩, fun b hb => ?_, hR _ (good_tup hv rs)⟩
    have e : b = s.heap.objs.size := by simpa using hb
    subst e
    exact I.fpOk (Nat.le_refl _) (I.hok.fresh (Nat.le_refl _))
  · rename_i ds
    cases h
    obtain ⟨p, vs, rfl, hv, rs⟩ := rd
    cases rv
    obtain ⟨its, r', pt, hz⟩ := I.list hv.l
    refine wpAny_pyIter_list pt.isList ?_
    refine ⟨s.heap.objs.size, [s.heap.objs.size], _, _, H, rfl, I.kept (t' := s.toks) fun b o e => Heap.get?_push_of_some _ e, turn_list p _, ⟨_, Heap.get?_push_size _ rfl, rfl, rfl⟩, fun b hb => ?_,
      hR _ (good_list (fun ι' S' H' e _ => ⟨vs, (e.keeps.sq p vs hv).l, RDs.mono e.keeps _ _ rs⟩) fun _ _ _ _ _ _ _ _ _ => .inr trivial)⟩
    have e : b = s.heap.objs.size := by simpa using hb
    subst e
    exact I.fpOk (Nat.le_refl _) (I.hok.fresh (Nat.le_refl _))
  · rename_i z
    cases h
    cases rd
    obtain ⟨t, rfl⟩ := rv
    cases ha : z.cps.all (· < 128)
    · exact wpAny_pyIter_wide ha (pi_one (tk := s.toks) I _ (turn_str _ z t "str_iterator" (.inr rfl)) ⟨_, Heap.get?_push_size _ rfl, rfl, rfl⟩ (hR _ good_str))
    · exact wpAny_pyIter_ascii ha (pi_one (tk := s.toks) I _ (turn_str _ z t "str_ascii_iterator" (.inl rfl)) ⟨_, Heap.get?_push_size _ rfl, rfl, rfl⟩ (hR _ good_str))
  · rename_i n'
    obtain ⟨_, rfl⟩ : n' < _ ∧ v = V.ref (ι n') := rd
    split at h
    · rename_i ds e0
      cases h
      obtain ⟨vs, hv, rs⟩ := st.lst e0
      cases rv
      obtain ⟨its, r', pt, hz⟩ := I.list (SqL.of hv)
      refine wpAny_pyIter_list pt.isList ?_
      refine ⟨s.heap.objs.size, [s.heap.objs.size], _, _, H, rfl, I.kept (t' := s.toks) fun b o e => Heap.get?_push_of_some _ e, turn_list (ι n') _, ⟨_, Heap.get?_push_size _ rfl, rfl, rfl⟩, fun b hb => ?_,
        hR _ (good_list (fun ι' S' H' e hl => ?_) fun _ _ _ _ _ _ _ _ _ => .inr trivial)⟩
      · have e : b = s.heap.objs.size := by simpa using hb
        subst e
        exact I.fpOk (Nat.le_refl _) (I.hok.fresh (Nat.le_refl _))
      · obtain ⟨vs', hv', rs'⟩ := e.sat.lst hl
        rw [e.ag n' (by assumption)] at hv'
        exact ⟨vs', SqL.of hv', rs'⟩
    · cases h
  · cases h
def xIt (f : XE) : XI := fun Γ S => (f Γ S).bind fun d S1 => match itOf d S1 with
  | some q => .ok q S1
  | none => .err
theorem i_any (he : EOk X W e f) : IOk X W tg e (xIt f) := by
  refine ⟨fun pins s σ H Z I h => ?_⟩
  obtain ⟨ι, S, Γ, r, hs⟩ := h
  refine he.go I r (R.sat_bind hs) (fun _ _ z => z) fun d S1 ι1 H1 v u s1 p e1 rd1 I1 rv1 r1 => ?_
  cases q : itOf d S1 with
  | none => simp only [q] at p; exact p.elim
  | some z =>
    simp only [q] at p
    exact iter_go I1 r1.sat rd1 rv1 q fun J gd => p _ _ J e1 gd
def rngD (lo : Int) (n : Nat) : List D := (List.range n).map fun i => .int (lo + (i : Nat))
theorem good_rng {lo : Int} {m : Nat} : GoodIt K ι S H (Itr lo m) ⟨rngD lo m, fun _ => True⟩ := by
  intro ι' S' H' e _
  refine ⟨fun i d hd => ?_, fun i hi => ?_⟩
  · simp only [rngD, List.getElem?_map, Option.map_eq_some_iff] at hd
    obtain ⟨j, h1, rfl⟩ := hd
    obtain ⟨h2, h3⟩ := List.getElem?_eq_some_iff.mp h1
    rw [List.length_range] at h2
    rw [List.getElem_range] at h3
    subst h3
    refine ⟨h2, ?_⟩
    rintro x H2 ⟨rfl, rfl⟩
    exact ⟨Ext.refl e.sat, rfl⟩
  · have hi' : m ≤ i := by simpa [rngD] using hi
    exact hi'
def inR (i : Int) : Bool := decide (-(2 ^ 62) ≤ i) && decide (i < 2 ^ 62)
theorem inR_ok {i : Int} (h : inR i = true) : -(2 ^ 62) ≤ i ∧ i < 2 ^ 62 := by
  unfold inR at h
  simp only [Bool.and_eq_true, decide_eq_true_eq] at h
  exact h
def rngOf1 : List D → Option ItD
  | [.int j] => if inR j then some ⟨rngD 0 j.toNat, fun _ => True⟩ else none
  | _ => none
def rngOf2 : List D → Option ItD
  | [.int i, .int j] => if inR i && inR j then some ⟨rngD i (j - i).toNat, fun _ => True⟩ else none
  | _ => none
def xItA (o : List D → Option ItD) (g : XA) : XI := fun Γ S => (g Γ S).bind fun ds S1 => match o ds with
  | some q => .ok q S1
  | none => .err
abbrev xRng1 : XA → XI := xItA rngOf1
abbrev xRng2 : XA → XI := xItA rngOf2
theorem i_rng1 {g : XA} {p : Pos} (hg : Gl X "range") (hm : X.mg "range" = none) (ha : AOk X W [a] g) (hs : starEach [a] X.env = [(false, eval a X.env)] := by rfl) : IOk X W tg (.Call (.Name "range" p) [a] [] pos) (xRng1 g) := by
  refine ⟨fun pins s σ H Z I h => ?_⟩
  obtain ⟨ι, S, Γ, r, hs'⟩ := h
  refine (pi_range1 (tg := tg) hg hm ha hs).run pins s σ H Z I ⟨ι, S, Γ, r, R.sat_imp (R.sat_bind hs') (fun ds S1 p ι1 H1 vs e1 rd => ?_) fun _ _ z => z⟩
  cases q : rngOf1 ds with
  | none => rw [q] at p; exact p.elim
  | some z =>
    rw [q] at p
    unfold rngOf1 at q
    split at q
    · rename_i j
      split at q
      · rename_i hz
        cases q
        obtain ⟨v, rfl, r1⟩ := one_of (ds := []) rd
        cases r1
        exact ⟨j, rfl, (inR_ok hz).1, (inR_ok hz).2, p _ _ _ e1 good_rng⟩
      · cases q
    · cases q
theorem i_rng2 {g : XA} {p : Pos} (hg : Gl X "range") (hm : X.mg "range" = none) (ha : AOk X W [a, b] g) (hs : starEach [a, b] X.env = [(false, eval a X.env), (false, eval b X.env)] := by rfl) (hs2 : starEach [b] X.env = [(false, eval b X.env)] := by rfl) : IOk X W tg (.Call (.Name "range" p) [a, b] [] pos) (xRng2 g) := by
  refine ⟨fun pins s σ H Z I h => ?_⟩
  obtain ⟨ι, S, Γ, r, hs'⟩ := h
  refine (pi_range2 (tg := tg) hg hm ha hs hs2).run pins s σ H Z I ⟨ι, S, Γ, r, R.sat_imp (R.sat_bind hs') (fun ds S1 p ι1 H1 vs e1 rd => ?_) fun _ _ z => z⟩
  cases q : rngOf2 ds with
  | none => rw [q] at p; exact p.elim
  | some z =>
    rw [q] at p
    unfold rngOf2 at q
    split at q
    · rename_i i j
      split at q
      · rename_i hz
        cases q
        obtain ⟨v, w, rfl, r1, r2⟩ := two_of rd
        cases r1; cases r2
        obtain ⟨z1, z2⟩ := Bool.and_eq_true_iff.mp hz
        exact ⟨i, j, rfl, ⟨(inR_ok z1).1, (inR_ok z1).2, (inR_ok z2).1, (inR_ok z2).2⟩, p _ _ _ e1 good_rng⟩
      · cases q
    · cases q
/-! ### enumerate, zip -/
def liveL (d : D) (ds : List D) : Sto → Prop := fun S => lstOf d S = some ds
theorem live_V {d : D} {p : Addr} {vs : List V} {ds : List D} {ι' : Nat → Addr} {S' : Sto} {H' : Hp} (rd : RD K ι S.length H d (.ref p)) (e : Ext K ι S H ι' S' H') (h : lstOf d S' = some ds) : ∃ vs, SqL K H' p vs ∧ RDs K ι' S'.length H' ds vs := by
  obtain ⟨p', vs', e1, q, r⟩ := lstOf_V e.sat (RD.mono e.keeps _ _ rd) h
  cases e1
  exact ⟨vs', q, r⟩
def enumD : Nat → List D → List D
  | _, [] => []
  | i, d :: r => .tup [.int (i : Nat), d] :: enumD (i + 1) r
theorem enumD_len : ∀ (i : Nat) (ds : List D), (enumD i ds).length = ds.length
  | _, [] => rfl
  | i, d :: r => by rw [enumD, List.length_cons, List.length_cons, enumD_len]
theorem enumD_get : ∀ (k : Nat) (ds : List D) (i : Nat) (x : D), (enumD k ds)[i]? = some x → ∃ d, ds[i]? = some d ∧ x = .tup [.int ((k + i : Nat)), d]
  | k, [], i, x, h => by simp [enumD] at h
  | k, d :: r, 0, x, h => by
    simp [enumD] at h
    exact ⟨d, rfl, by rw [← h]; simp⟩
  | k, d :: r, i + 1, x, h => by
    simp only [enumD, List.getElem?_cons_succ] at h
    obtain ⟨d', h1, h2⟩ := enumD_get (k + 1) r i x h
    exact ⟨d', by simpa using h1, by rw [h2, show k + 1 + i = k + (i + 1) by omega]⟩
theorem good_enum {d : D} {p : Addr} {ds : List D} (rd : RD K ι S.length H d (.ref p)) : GoodIt K ι S H (Ite K p) ⟨enumD 0 ds, liveL d ds⟩ := by
  intro ι' S' H' e hl
  obtain ⟨vs, q, r⟩ := live_V (vs := []) rd e hl
  refine ⟨fun i x hx => ?_, fun i hi => ⟨vs, q, by rw [← r.length, ← enumD_len 0]; exact hi⟩⟩
  obtain ⟨y, h1, rfl⟩ := enumD_get 0 ds i x hx
  obtain ⟨v, h2, h3⟩ := r.get h1
  refine ⟨⟨vs, v, q, h2⟩, ?_⟩
  rintro z H2 ⟨T, w, rfl, hT, rfl, hw⟩
  have := hw vs q
  rw [h2] at this
  cases this
  refine ⟨ext_tup e.sat hT, T, [.int (i : Nat), v], rfl, upd_same, RDs.mono (keeps_new hT) _ _ ⟨_, _, rfl, ?_, _, _, rfl, h3, rfl⟩⟩
  show V.int _ = V.int _
  rw [Nat.zero_add]
def xEnum (g : XA) : XI := fun Γ S => (g Γ S).bind fun ds S1 => match ds with
  | [d] => (match lstOf d S1 with
    | some xs => .ok ⟨enumD 0 xs, liveL d xs⟩ S1
    | none => .err)
  | _ => .err
theorem i_enum {g : XA} {p tpos : Pos} {elts : List Expr} {kk : Nat} (hg : Gl X "enumerate") (hm : X.mg "enumerate" = none) (ha : AOk X W [e] g) (hs : starEach [e] X.env = [(false, eval e X.env)] := by rfl) : IOk X W (.Tuple elts kk tpos) (.Call (.Name "enumerate" p) [e] [] pos) (xEnum g) := by
  refine ⟨fun pins s σ H Z I h => ?_⟩
  obtain ⟨ι, S, Γ, r, hs'⟩ := h
  refine (pi_enum (tpos := tpos) (elts := elts) (kk := kk) hg hm ha hs).run pins s σ H Z I ⟨ι, S, Γ, r, R.sat_imp (R.sat_bind hs') (fun ds S1 p ι1 H1 vs e1 rd => ?_) fun _ _ z => z⟩
  split at p
  · rename_i d
    obtain ⟨v, rfl, r1⟩ := one_of (ds := []) rd
    cases q : lstOf d S1 with
    | none => rw [q] at p; exact p.elim
    | some xs =>
      rw [q] at p
      obtain ⟨p', vs, rfl, q1, r2⟩ := lstOf_V e1.sat r1 q
      exact ⟨p', vs, rfl, q1, p _ _ _ e1 (good_enum r1)⟩
  · exact p.elim
def zipD : List D → List D → List D
  | x :: xs, y :: ys => .tup [x, y] :: zipD xs ys
  | _, _ => []
theorem zipD_len : ∀ (ds es : List D), (zipD ds es).length = min ds.length es.length
  | [], _ => by simp [zipD]
  | _ :: _, [] => by simp [zipD]
  | d :: r, e :: t => by rw [zipD, List.length_cons, List.length_cons, List.length_cons, zipD_len r t]; omega
theorem zipD_get : ∀ (ds es : List D) (i : Nat) (x : D), (zipD ds es)[i]? = some x → ∃ d e, ds[i]? = some d ∧ es[i]? = some e ∧ x = .tup [d, e]
  | [], _, i, x, h => by simp [zipD] at h
  | _ :: _, [], i, x, h => by simp [zipD] at h
  | d :: r, e :: t, 0, x, h => by
    simp [zipD] at h
    exact ⟨d, e, rfl, rfl, h.symm⟩
  | d :: r, e :: t, i + 1, x, h => by
    simp only [zipD, List.getElem?_cons_succ] at h
    obtain ⟨d', e', h1, h2, h3⟩ := zipD_get r t i x h
    exact ⟨d', e', by simpa using h1, by simpa using h2, h3⟩
theorem good_zipL {d d' : D} {p p' : Addr} {ds es : List D} (rd : RD K ι S.length H d (.ref p)) (rd' : RD K ι S.length H d' (.ref p')) : GoodIt K ι S H (Itz K p p') ⟨zipD ds es, fun S => liveL d ds S ∧ liveL d' es S⟩ := by
  intro ι' S' H' e hl
  obtain ⟨vs, q, r⟩ := live_V (vs := []) rd e hl.1
  obtain ⟨ws, q', r'⟩ := live_V (vs := []) rd' e hl.2
  refine ⟨fun i x hx => ?_, fun i hi => ⟨vs, ws, q, q', ?_⟩⟩
  · obtain ⟨y, y', h1, h1', rfl⟩ := zipD_get ds es i x hx
    obtain ⟨v, h2, h3⟩ := r.get h1
    obtain ⟨v', h2', h3'⟩ := r'.get h1'
    refine ⟨⟨vs, ws, v, v', q, q', h2, h2'⟩, ?_⟩
    rintro z H2 ⟨T, w, w', rfl, hT, rfl, hw, hw'⟩
    have := hw vs q
    rw [h2] at this
    cases this
    have := hw' ws q'
    rw [h2'] at this
    cases this
    exact ⟨ext_tup e.sat hT, T, [v, v'], rfl, upd_same, RDs.mono (keeps_new hT) _ _ ⟨_, _, rfl, h3, _, _, rfl, h3', rfl⟩⟩
  · have l1 := r.length
    have l2 := r'.length
    have l3 := zipD_len ds es
    have hi' : (zipD ds es).length ≤ i := hi
    omega
theorem good_zipT {p p' : Addr} {ds es : List D} {vs ws : List V} (q : H p = some (.tup vs)) (r : RDs K ι S.length H ds vs) (q' : H p' = some (.tup ws)) (r' : RDs K ι S.length H es ws) : GoodIt K ι S H (RZ.ItzT K p p') ⟨zipD ds es, fun _ => True⟩ := by
  intro ι' S' H' e _
  have q := SqT.of (K := K) (e.keeps.tup p vs q)
  have r := RDs.mono e.keeps _ _ r
  have q' := SqT.of (K := K) (e.keeps.tup p' ws q')
  have r' := RDs.mono e.keeps _ _ r'
  refine ⟨fun i x hx => ?_, fun i hi => ⟨vs, ws, q, q', ?_⟩⟩
  · obtain ⟨y, y', h1, h1', rfl⟩ := zipD_get ds es i x hx
    obtain ⟨v, h2, h3⟩ := r.get h1
    obtain ⟨v', h2', h3'⟩ := r'.get h1'
    refine ⟨⟨vs, ws, v, v', q, q', h2, h2'⟩, ?_⟩
    rintro z H2 ⟨T, w, w', rfl, hT, rfl, hw, hw'⟩
    have := hw vs q
    rw [h2] at this
    cases this
    have := hw' ws q'
    rw [h2'] at this
    cases this
    exact ⟨ext_tup e.sat hT, T, [v, v'], rfl, upd_same, RDs.mono (keeps_new hT) _ _ ⟨_, _, rfl, h3, _, _, rfl, h3', rfl⟩⟩
  · have l1 := r.length
    have l2 := r'.length
    have l3 := zipD_len ds es
    have hi' : (zipD ds es).length ≤ i := hi
    omega
def xZip (g : XA) : XI := fun Γ S => (g Γ S).bind fun ds S1 => match ds with
  | [.tup xs, .tup ys] => .ok ⟨zipD xs ys, fun _ => True⟩ S1
  | [d, d'] => (match lstOf d S1, lstOf d' S1 with
    | some xs, some ys => .ok ⟨zipD xs ys, fun S => liveL d xs S ∧ liveL d' ys S⟩ S1
    | _, _ => .err)
  | _ => .err
theorem i_zip {g : XA} {p tpos : Pos} {elts : List Expr} {kk : Nat} (hg : Gl X "zip") (hm : X.mg "zip" = none) (ha : AOk X W [e, e2] g)
    (hs : starEach [e, e2] X.env = (false, eval e X.env) :: starEach [e2] X.env := by rfl) (hpl : (backTo pos (starEach [e2] X.env)).any (·.1) = false := by rfl) : IOk X W (.Tuple elts kk tpos) (.Call (.Name "zip" p) [e, e2] [] pos) (xZip g) := by
  refine ⟨fun pins s σ H Z I h => ?_⟩
  obtain ⟨ι, S, Γ, r, hs'⟩ := h
  refine (RZ.pi_zipA (tpos := tpos) (elts := elts) (kk := kk) hg hm ha hs hpl).run pins s σ H Z I ⟨ι, S, Γ, r, R.sat_imp (R.sat_bind hs') (fun ds S1 p ι1 H1 vs e1 rd => ?_) fun _ _ z => z⟩
  split at p
  · obtain ⟨v, w, rfl, r1, r2⟩ := two_of rd
    obtain ⟨a1, vs, rfl, q1, rs1⟩ := r1
    obtain ⟨a2, ws, rfl, q2, rs2⟩ := r2
    exact ⟨a1, a2, vs, ws, rfl, .inr ⟨SqT.of q1, SqT.of q2, p _ _ _ e1 (good_zipT q1 rs1 q2 rs2)⟩⟩
  · rename_i d d' _
    obtain ⟨v, w, rfl, r1, r2⟩ := two_of rd
    split at p
    · rename_i xs ys q q'
      obtain ⟨a1, vs, rfl, q1, rs1⟩ := lstOf_V e1.sat r1 q
      obtain ⟨a2, ws, rfl, q2, rs2⟩ := lstOf_V e1.sat r2 q'
      exact ⟨a1, a2, vs, ws, rfl, .inl ⟨q1, q2, p _ _ _ e1 (good_zipL r1 r2)⟩⟩
    · exact p.elim
  · exact p.elim
end
end Dx
namespace Dx
open PySem PySem.Spec PyProof.Rows L2
abbrev XC := D → Gam → Option Gam
abbrev XCs := List D → Gam → Option Gam
abbrev W0 : WX := fun _ _ _ _ => False
def cgD (K : PySem.W.Frag) (vs : List Nat) (c : XC) : TG := fun v σ H Q => ∃ ι S Γ d Γ', Rel K ι S H σ Γ ∧ RD K ι S.length H d v ∧ c d Γ = some Γ' ∧ ∀ σ', wipe σ' vs = wipe σ vs → Rel K ι S H σ' Γ' → Q σ' H
def CgOk (X : Cx) (vs : List Nat) (tg : Expr) (c : XC) : Prop := PG X tg (cgD X.K vs c)
def cgsD (K : PySem.W.Frag) (ws : List Nat) (c : XCs) : TGs := fun vs σ H Q => ∃ ι S Γ ds Γ', Rel K ι S H σ Γ ∧ RDs K ι S.length H ds vs ∧ c ds Γ = some Γ' ∧ ∀ σ', wipe σ' ws = wipe σ ws → Rel K ι S H σ' Γ' → Q σ' H
def CgsOk (X : Cx) (vs : List Nat) (ts : List Expr) (c : XCs) : Prop := PGs X ts (cgsD X.K vs c)
section
variable {X : Cx} {W : WX} {a b e elt iter tg : Expr} {es : List Expr} {f g k : XE} {pos : Pos} {pins : List (Addr × Obj)} {s : Shared} {σ : L2.St} {H : Hp} {ι : Nat → Addr} {S : Sto} {Γ : Gam} {K : PySem.W.Frag} {n : Nat}
theorem wipe_set {i : Nat} {x : Option V} : ∀ {vs : List Nat} (σ : L2.St), i ∈ vs → wipe (σ.set i x) vs = wipe σ vs
  | v :: vs, σ, h => by
    unfold wipe
    by_cases hi : i = v
    · subst hi
      by_cases hm : i ∈ vs
      · rw [wipe_set σ hm]
      · have : ∀ (ws : List Nat), i ∉ ws → wipe (σ.set i x) ws = (wipe σ ws).set i x := by
          intro ws
          induction ws with
          | nil => intro _; rfl
          | cons w ws ih =>
            intro hw
            simp only [List.mem_cons, not_or] at hw
            unfold wipe
            rw [ih hw.2, List.set_comm _ _ hw.1]
        rw [this vs hm, List.set_set]
    · rw [wipe_set σ ((List.mem_cons.mp h).resolve_left hi)]
theorem wipe_wipe (σ : L2.St) : ∀ vs : List Nat, wipe (wipe σ vs) vs = wipe σ vs := by
  have key : ∀ (ws vs : List Nat), (∀ i ∈ ws, i ∈ vs) → wipe (wipe σ ws) vs = wipe σ vs := by
    intro ws
    induction ws with
    | nil => intro vs _; rfl
    | cons w ws ih =>
      intro vs h
      show wipe ((wipe σ ws).set w none) vs = _
      rw [wipe_set _ (h w List.mem_cons_self), ih vs fun i hi => h i (List.mem_cons_of_mem _ hi)]
  exact fun vs => key vs vs fun _ h => h
def wipeG (Γ : Gam) : List Nat → Gam
  | [] => Γ
  | v :: vs => (wipeG Γ vs).set v none
theorem wipeG_len : ∀ vs : List Nat, (wipeG Γ vs).length = Γ.length
  | [] => rfl
  | v :: vs => by unfold wipeG; rw [List.length_set, wipeG_len vs]
theorem wipeG_some {i : Nat} {x : D} : ∀ {vs : List Nat}, (wipeG Γ vs)[i]? = some (some x) → Γ[i]? = some (some x) ∧ i ∉ vs
  | [], h => ⟨h, by simp⟩
  | v :: vs, h => by
    unfold wipeG at h
    by_cases hi : v = i
    · subst hi
      by_cases hv : v < (wipeG Γ vs).length
      · rw [List.getElem?_set_self hv] at h; cases h
      · rw [List.getElem?_eq_none (by simpa using hv)] at h; cases h
    · rw [List.getElem?_set_ne hi] at h
      obtain ⟨h1, h2⟩ := wipeG_some h
      exact ⟨h1, by simp only [List.mem_cons, not_or]; exact ⟨fun e => hi e.symm, h2⟩⟩
theorem Rel.wipe (r : Rel K ι S H σ Γ) (vs : List Nat) : Rel K ι S H (L2.wipe σ vs) (wipeG Γ vs) := ⟨r.sat, by rw [wipe_length, wipeG_len, r.len], fun i d h => by
  obtain ⟨h1, h2⟩ := wipeG_some h
  obtain ⟨v, h3, h4⟩ := r.env i d h1
  exact ⟨v, by rw [wipe_out h2]; exact h3, h4⟩⟩
def cVar (i : Nat) : XC := fun d Γ => if i < Γ.length then some (Γ.set i (some d)) else none
def cNil : XCs := fun ds Γ => match ds with
  | [] => some Γ
  | _ => none
def cCons (c : XC) (cs : XCs) : XCs := fun ds Γ => match ds with
  | d :: r => (c d Γ).bind (cs r)
  | _ => none
def cTup (n : Nat) (cs : XCs) : XC := fun d Γ => match d with
  | .tup ds => if ds.length = n then cs ds Γ else none
  | _ => none
theorem c_var {vs : List Nat} {i : Nat} {x : Str} (hv : i ∈ vs) (hN : X.N.Nodup) (hi : X.N[i]? = some x) (hx : Loc X.env.scope x) (hf : X.fn x = true ∨ X.env.scope.names.lookup x = some .local := by first | exact .inl rfl | exact .inr rfl | assumption) : CgOk X vs (.Name x pos) (cVar i) := by
  refine ⟨fun pins s σ H v u Q I rv h => ?_⟩
  obtain ⟨ι, S, Γ, d, Γ', r, rd, hs, hq⟩ := h
  unfold cVar at hs
  split at hs
  · cases hs
    exact (pg_name hN hi hx hf).run pins s σ H v u Q I rv (hq _ (wipe_set σ hv) (r.set rd))
  · cases hs
theorem cs_nil {vs : List Nat} : CgsOk X vs [] cNil := by
  refine ⟨fun pins s σ H ws us Q I rv h => ?_⟩
  obtain ⟨ι, S, Γ, ds, Γ', r, rd, hs, hq⟩ := h
  unfold cNil at hs
  cases ds with
  | nil =>
    cases hs
    exact pgs_nil.run pins s σ H ws us Q I rv ⟨rd, hq _ rfl r⟩
  | cons => cases hs
theorem cs_cons {vs : List Nat} {ce : XC} {cs : XCs} (h1 : CgOk X vs e ce) (h2 : CgsOk X vs es cs) (hs : (assignEach (e :: es) X.env).map (·.2) = assign e X.env :: (assignEach es X.env).map (·.2) := by rfl) : CgsOk X vs (e :: es) (cCons ce cs) := by
  refine ⟨fun pins s σ H ws us Q I rv h => ?_⟩
  obtain ⟨ι, S, Γ, ds, Γ', r, rd, hs', hq⟩ := h
  unfold cCons at hs'
  cases ds with
  | nil => cases hs'
  | cons d ds =>
    obtain ⟨v, vr, rfl, rd1, rd2⟩ := rd
    obtain ⟨Γ1, q1, q2⟩ := Option.bind_eq_some_iff.mp hs'
    refine (pgs_cons h1 h2 hs).run pins s σ H _ us Q I rv ⟨v, vr, rfl, ι, S, Γ, d, Γ1, r, rd1, q1, fun σ1 w1 r1 => ?_⟩
    exact ⟨ι, S, Γ1, ds, Γ', r1, rd2, q2, fun σ2 w2 r2 => hq _ (w2.trans w1) r2⟩
theorem c_tup {vs : List Nat} {m k : Nat} {cs : XCs} (hc : X.calm = true) (h : CgsOk X vs es cs) (hn : (assignEach es X.env).length = m := by rfl) (hst : (assignEach es X.env).findIdx? (·.1) = none := by rfl) : CgOk X vs (.Tuple es k pos) (cTup m cs) := by
  refine ⟨fun pins s σ H v u Q I rv h' => ?_⟩
  obtain ⟨ι, S, Γ, d, Γ', r, rd, hs, hq⟩ := h'
  unfold cTup at hs
  cases d with
  | tup ds =>
    obtain ⟨a, ws, rfl, q, rds⟩ := rd
    simp only at hs
    split at hs
    · rename_i hl
      exact (pg_tup hc h hn hst).run pins s σ H _ u Q I rv ⟨a, ws, rfl, SqT.of q, by rw [← rds.length]; exact hl, ι, S, Γ, ds, Γ', r, rds, hs, hq⟩
    · cases hs
  | _ => cases hs

/-! ### comprehensions -/
open Classical in
noncomputable def lcF (c : XC) (t : XB) (f : XE) (live : Sto → Prop) (n : Nat) (Γ : Gam) : List D → Sto → R Unit
  | [], S => if live S then .ok () S else .err
  | d :: ds, S => if live S then (match c d Γ with
    | some Γ1 => (match t Γ1 S with
      | .ok true S2 => (match f Γ1 S2 with
        | .ok y S3 => (match S3[n]? with
          | some (.lst acc) => if acc.length < sizeLine then lcF c t f live n Γ ds (S3.set n (.lst (acc ++ [y]))) else .err
          | _ => .err)
        | _ => .err)
      | .ok false S2 => lcF c t f live n Γ ds S2
      | _ => .err)
    | none => .err) else .err
noncomputable def xLc (it : XI) (c : XC) (t : XB) (f : XE) (vs : List Nat) : XE := fun Γ S => (it Γ S).bind fun q S1 => (lcF c t f q.live S1.length (wipeG Γ vs) q.items (S1 ++ [.lst []])).bind fun _ S2 => .ok (.ref S1.length) S2
def TsOk (X : Cx) (W : WX) (ifs : List Expr) (t : XB) : Prop := PTs X ifs (teB X W t)
def xYes : XB := fun _ S => .ok true S
theorem ts_nil : TsOk X W [] xYes := by
  refine ⟨fun pins s σ H Q I h => ?_⟩
  obtain ⟨ι, S, Γ, r, hs⟩ := h
  exact pts_nil.run pins s σ H Q I (hs _ _ (Ext.refl r.sat))
theorem ts_one {t : XB} (h : TOk X W e t) : TsOk X W [e] t := pts_one h
theorem sat_lc {α β : Type} {r : R α} {k : α → Sto → R β} {P : β → Sto → Prop} (h : (match r with | .ok a S => k a S | _ => .err).sat P (fun _ _ => False)) : r.sat (fun a S => (k a S).sat P (fun _ _ => False)) (fun _ _ => False) := by
  cases r with
  | ok a S => exact h
  | ex x S => exact h
  | err => exact h
theorem lc_read {it : XI} {c : XC} {t : XB} {f : XE} {vs : List Nat} {X' : Cx} (hK : X'.K = X.K) {Q : VK} (h : teD X W (xLc it c t f vs) σ H Q) : tLc (tiD X W it) (cgD X.K vs c) (teB X' W0 t) (teD X' W0 f) vs σ H Q := by
  obtain ⟨ι, S, Γ, r, hs⟩ := h
  refine ⟨ι, S, Γ, r, R.sat_imp (R.sat_bind hs) (fun q S1 p ι1 H1 J e1 gd => ?_) fun _ _ z => z⟩
  intro L hL
  have eN := ext_new (K := X.K) (ι := ι1) (S := S1) (o := .lst []) (ho := .lst []) e1.sat hL (show RDs X.K ι1 S1.length H1 [] [] from rfl)
  have hl2 : (S1 ++ [DO.lst []]).length = S1.length + 1 := by simp
  -- the condition on a store, from turn i on
  refine ⟨fun i m H' => m = q.items.length - i ∧ i ≤ q.items.length ∧ ∃ ι' S', Ext X.K (ins1 ι1 S1.length L) (S1 ++ [.lst []]) (upd H1 L (.lst [])) ι' S' H' ∧
    (lcF c t f q.live S1.length (wipeG Γ vs) (q.items.drop i) S').sat (fun _ S2 => PD X.K ι S H Q (.ref S1.length) S2) (fun _ _ => False), ⟨_, rfl, Nat.zero_le _, _, _, Ext.refl eN.sat, ?_⟩, ?_⟩
  · have := R.sat_bind p
    cases z : lcF c t f q.live S1.length (wipeG Γ vs) q.items (S1 ++ [.lst []]) with
    | ok a S2 => rw [List.drop_zero, z]; rw [z] at this; exact this
    | ex x S2 =>
      exfalso
      have ne : ∀ (ds : List D) (S : Sto) (x : Exn) (S2 : Sto), lcF c t f q.live S1.length (wipeG Γ vs) ds S ≠ .ex x S2 := by
        intro ds
        induction ds with
        | nil => intro S x S2 h; unfold lcF at h; split at h <;> cases h
        | cons d ds ih =>
          intro S x S2 h
          unfold lcF at h
          split at h
          · split at h
            · split at h
              · split at h
                · split at h
                  · split at h
                    · exact ih _ _ _ h
                    · cases h
                  · cases h
                · cases h
              · exact ih _ _ _ h
              · cases h
            · cases h
          · cases h
      exact ne _ _ _ _ z
    | err => rw [z] at this; exact this.elim
  · rintro i m H' ⟨rfl, hi, ι', S', e', p'⟩
    have eA := eN.trans e'
    have lenS : S1.length < S'.length := by have := e'.len; rw [hl2] at this; omega
    have atL : ι' S1.length = L := by rw [e'.ag S1.length (by rw [hl2]; omega), ins1_at]
    by_cases hlt : i < q.items.length
    · right
      rw [List.drop_eq_getElem_cons hlt] at p'
      unfold lcF at p'
      split at p'
      · rename_i hlv
        obtain ⟨h1, h2⟩ := (gd ι' S' H' eA hlv).1 i q.items[i] (by simp [hlt])
        refine ⟨h1, fun H2 => ∃ ι2 S2, Ext X.K (ins1 ι1 S1.length L) (S1 ++ [.lst []]) (upd H1 L (.lst [])) ι2 S2 H2 ∧ (lcF c t f q.live S1.length (wipeG Γ vs) (q.items.drop (i + 1)) S2).sat (fun _ S2 => PD X.K ι S H Q (.ref S1.length) S2) (fun _ _ => False), ?_, fun x H2 y => ?_⟩
        · rintro H2 ⟨ι2, S2, e2, p2⟩
          exact ⟨q.items.length - (i + 1), by omega, rfl, hlt, ι2, S2, e2, p2⟩
        · obtain ⟨e2, rd⟩ := h2 x H2 y
          cases qc : c q.items[i] (wipeG Γ vs) with
          | none => rw [qc] at p'; exact p'.elim
          | some Γ1 =>
            rw [qc] at p'
            simp only at p'
            have rW : Rel X.K ι' S' H2 (wipe σ vs) (wipeG Γ vs) := ((r.ext (e1.trans eA)).ext e2).wipe vs
            refine ⟨ι', S', wipeG Γ vs, q.items[i], Γ1, rW, rd, qc, fun σ1 w1 r1 => ⟨w1.trans (wipe_wipe σ vs), ?_⟩⟩
            refine ⟨ι', S', Γ1, by rw [hK]; exact r1, ?_⟩
            cases qt : t Γ1 S' with
            | err => rw [qt] at p'; exact p'.elim
            | ex z z2 => rw [qt] at p'; exact p'.elim
            | ok bb S3 =>
              rw [qt] at p'
              intro ι3 H3 e3
              rw [hK] at e3
              have r3 := r1.ext e3
              cases bb with
              | false =>
                rw [if_neg Bool.false_ne_true]
                exact ⟨ι3, S3, (e'.trans e2).trans e3, p'⟩
              | true =>
                rw [if_pos rfl]
                refine ⟨ι3, S3, Γ1, by rw [hK]; exact r3, ?_⟩
                simp only at p'
                cases qf : f Γ1 S3 with
                | err => rw [qf] at p'; exact p'.elim
                | ex z z2 => rw [qf] at p'; exact p'.elim
                | ok yd S4 =>
                  rw [qf] at p'
                  intro ι4 H4 y4 e4 rd4
                  rw [hK] at e4 rd4
                  have eT := ((e'.trans e2).trans e3).trans e4
                  have atL4 : ι4 S1.length = L := by rw [eT.ag S1.length (by rw [hl2]; omega), ins1_at]
                  simp only at p'
                  cases qn : S4[S1.length]? with
                  | none => rw [qn] at p'; exact p'.elim
                  | some o =>
                    rw [qn] at p'
                    cases o with
                    | lst acc =>
                      simp only at p'
                      split at p'
                      · rename_i hz
                        obtain ⟨ws, hw, rs⟩ := e4.sat.lst qn
                        rw [atL4] at hw
                        refine ⟨ws, hw, by rw [← rs.length]; exact hz, ι4, _, ?_, p'⟩
                        have zz := eT.trans (ext_set (o' := .lst (acc ++ [yd])) (ho' := .lst (ws ++ [y4])) e4.sat qn (show RDs _ _ _ _ (acc ++ [yd]) (ws ++ [y4]) from rs.append (RDs.one rd4)))
                        rw [atL4] at zz
                        exact zz
                      · exact p'.elim
                    | _ => exact p'.elim
      · exact p'.elim
    · left
      rw [List.drop_of_length_le (by omega)] at p'
      unfold lcF at p'
      split at p'
      · rename_i hlv
        exact ⟨(gd ι' S' H' eA hlv).2 i (by omega), p' ι' H' _ (e1.trans eA) ⟨lenS, by rw [atL]⟩⟩
      · exact p'.elim
theorem d_lc {ifs : List Expr} {scope : Scope} {own : List (Str × Nat)} {it : XI} {c : XC} {t : XB} (hc : X.calm = true) (hN : X.N.Nodup) (hi : IOk X W tg iter it) (ok : BlkOk X.N X.env.scope scope own)
    (hg : ∀ (s : Shared) (H : Hp) (C : Addr) (cl : List (Str × Addr)) (fp : List Addr), CgOk (X.blk s H scope (compEnvC scope cl C X.env) fp) (own.map (·.2)) tg c)
    (ht : ∀ (s : Shared) (H : Hp) (C : Addr) (cl : List (Str × Addr)) (fp : List Addr), TsOk (X.blk s H scope (compEnvC scope cl C X.env) fp) W0 ifs t)
    (he : ∀ (s : Shared) (H : Hp) (C : Addr) (cl : List (Str × Addr)) (fp : List Addr), EOk (X.blk s H scope (compEnvC scope cl C X.env) fp) W0 elt f) (hs : ∀ x, foldedSetIterable iter X.env x = pure x := by intro _; rfl) :
    EOk X W (.ListComp elt [⟨tg, iter, ifs, 0⟩] scope pos) (xLc it c t f (own.map (·.2))) := by
  have P := pe_lc (X := X) (tt := teB X W0 t) (te := teD X W0 f) (g := cgD X.K (own.map fun x : Str × Nat => x.2) c) (pos := pos) hc hN hi ok hg ht he hs
  exact ⟨fun pins s σ H Q I h => P.run pins s σ H Q I (lc_read rfl h)⟩
theorem s_setLc {i : Nat} {y : Str} {py spos : Pos} {ifs : List Expr} {scope : Scope} {own : List (Str × Nat)} {it : XI} {c : XC} {t : XB} (hc : X.calm = true) (hN : X.N.Nodup) (hy : X.N[i]? = some y) (hyl : X.env.scope.names.lookup y = some .local)
    (hsw : swapsWith (.ListComp elt [⟨tg, iter, ifs, 0⟩] scope pos) (some (.Name y py)) spos.line X.env = pure true) (hi : IOk X W tg iter it) (ok : BlkOk X.N X.env.scope scope own)
    (hg : ∀ (s : Shared) (H : Hp) (C : Addr) (cl : List (Str × Addr)) (fp : List Addr), CgOk (X.blk s H scope (compEnvC scope cl C X.env) fp) (own.map (·.2)) tg c)
    (ht : ∀ (s : Shared) (H : Hp) (C : Addr) (cl : List (Str × Addr)) (fp : List Addr), TsOk (X.blk s H scope (compEnvC scope cl C X.env) fp) W0 ifs t)
    (he : ∀ (s : Shared) (H : Hp) (C : Addr) (cl : List (Str × Addr)) (fp : List Addr), EOk (X.blk s H scope (compEnvC scope cl C X.env) fp) W0 elt f) (hs : ∀ x, foldedSetIterable iter X.env x = pure x := by intro _; rfl) :
    SOk X W (.Assign [.Name y py] (.ListComp elt [⟨tg, iter, ifs, 0⟩] scope pos) spos) (xAsg (xLc it c t f (own.map (·.2))) (gVar i)) := by
  have P := ps_setLc (X := X) (tt := teB X W0 t) (te := teD X W0 f) (g := cgD X.K (own.map fun x : Str × Nat => x.2) c) (pos := pos) hc hN hy hyl hsw hi ok hg ht he hs
  refine ⟨fun pins s σ H D I h => P.run pins s σ H D I (lc_read (X := X) (X' := X) (W := W) rfl ?_)⟩
  obtain ⟨ι, S, Γ, r, hs⟩ := h
  refine ⟨ι, S, Γ, r, R.sat_imp (PF.then r hs) (fun d S1 p ι1 H1 v e1 rd => ?_) fun _ _ z => z⟩
  have r1 := r.ext e1
  have q := PF.ext p e1
  unfold gVar at q
  by_cases hl : i < Γ.length
  · simp only [hl, if_true] at q
    exact q _ _ _ (Ext.refl e1.sat) (r1.set rd)
  · simp only [hl, if_false] at q; exact q.elim
end
end Dx
namespace Dx
open PySem PySem.Spec PyProof.Rows L2
abbrev OM := D → List D → Sto → Option (D × Sto)
def MtD (X : Cx) (id : String) (o : OM) : Prop :=
  ∀ (pins : List (Addr × Obj)) (s : Shared) (σ : L2.St) (H : Hp) (ι : Nat → Addr) (S : Sto) (dx : D) (ds : List D) (x : V) (xs : List V) (v : Value) (us : List Value) (Q : VK) (d : D) (S' : Sto), Inv X pins σ H s → Sat X.K ι S H → RD X.K ι S.length H dx x → RDs X.K ι S.length H ds xs → RelV x v → Vals xs us →
    o dx ds S = some (d, S') → PD X.K ι S H Q d S' → wpAny (model X.prog X.w) X.A (call (.builtin id) (v :: us)) (EP X pins σ Q) X.xe s
theorem MtD.of {X : Cx} {id : String} {o : OM} {r : V → List V → Hp → VK → Prop} (ho : MtR X id r)
    (h : ∀ (H : Hp) (ι : Nat → Addr) (S : Sto) (dx : D) (ds : List D) (x : V) (xs : List V) (Q : VK) (d : D) (S' : Sto), Sat X.K ι S H → RD X.K ι S.length H dx x → RDs X.K ι S.length H ds xs → o dx ds S = some (d, S') → PD X.K ι S H Q d S' → r x xs H Q) : MtD X id o :=
  fun pins s σ H ι S dx ds x xs v us Q d S' I st r1 r2 v1 v2 e hq => ho pins s σ H x xs v us Q I v1 v2 (h H ι S dx ds x xs Q d S' st r1 r2 e hq)
def tyM (T : String) (d : D) (S : Sto) : Bool := match d with
  | .str _ => T == "str"
  | .ref n => (match S[n]? with
    | some (.lst _) => T == "list"
    | some (.dK _) => T == "dict"
    | some (.dT _) => T == "dict"
    | _ => false)
  | _ => false
def xM0 (T : String) (o : OM) (f : XE) : XE := fun Γ S => (f Γ S).bind fun d S1 => if tyM T d S1 = true then R.of (o d [] S1) else .err
def xM (T : String) (o : OM) (f : XE) (g : XA) : XE := fun Γ S => (f Γ S).bind fun d S1 => if tyM T d S1 = true then (g Γ S1).bind fun ds S2 => R.of (o d ds S2) else .err
section
variable {X : Cx} {W : WX} {a b e ex : Expr} {es : List Expr} {f g k : XE} {ga : XA} {pos apos cpos : Pos} {pins : List (Addr × Obj)} {s : Shared} {σ : L2.St} {H : Hp} {ι : Nat → Addr} {S : Sto} {Γ : Gam} {K : PySem.W.Frag} {n : Nat} {name : Str} {T id : String} {o : OM}
theorem tyM_V {d : D} {v : V} (st : Sat K ι S H) (rd : RD K ι S.length H d v) (h : tyM T d S = true) : tyV K T v H := by
  unfold tyM at h
  split at h
  · cases rd; exact eq_of_beq h
  · rename_i m
    obtain ⟨_, rfl⟩ : m < _ ∧ v = V.ref (ι m) := rd
    split at h
    · rename_i ds e
      obtain ⟨vs, q, _⟩ := st.lst e
      exact .inl ⟨eq_of_beq h, vs, SqL.of q⟩
    · rename_i ds e
      obtain ⟨vs, q, _⟩ := st.dK e
      exact .inr (.inr (.inl ⟨eq_of_beq h, .inl ⟨vs, q⟩⟩))
    · rename_i ds e
      obtain ⟨vs, q, _⟩ := st.dT e
      exact .inr (.inr (.inl ⟨eq_of_beq h, .inr ⟨vs, q⟩⟩))
    · cases h
  · cases h
theorem d_m0 (pa : PlainAttrs T) (slot : Slot T name id) (hty : typeOf (.builtin id) = pure (.type "method_descriptor")) (hm : MtD X id o) (ho : EOk X W e f)
    (hbase : attributeBase e name X.env (eval e X.env) = eval e X.env := by rfl) (hline : (apos.endLine == cpos.line) = true := by rfl) : EOk X W (.Call (.Attribute e name apos) [] [] cpos) (xM0 T o f) := by
  refine ⟨fun pins s σ H Q I h => ?_⟩
  obtain ⟨ι, S, Γ, r, hs⟩ := h
  refine wpAny_Call_method0_late hbase hline (ho.go I r (R.sat_bind hs) (fun _ _ z => z) fun d S1 ι1 H1 v u s1 p e1 rd1 I1 rv1 r1 => ?_)
  split at p
  · rename_i hty'
    obtain ⟨d3, S3, q1, q2⟩ := R.sat_of p
    obtain ⟨h1, h2⟩ := tyV_is I1 rv1 (tyM_V r1.sat rd1 hty')
    exact ⟨T, id, pa, slot, hty, h1, h2, Calls.callWith_builtin rfl (PySem.evalArgs_none (hm pins s1 σ H1 ι1 S1 d [] v [] u [] Q d3 S3 I1 r1.sat rd1 rfl rv1 .nil q1 (q2.ext e1)))⟩
  · exact p.elim
theorem d_m (pa : PlainAttrs T) (slot : Slot T name id) (hty : typeOf (.builtin id) = pure (.type "method_descriptor")) (hm : MtD X id o) (ho : EOk X W e f) (ha : AOk X W (ex :: es) ga)
    (hbase : attributeBase e name X.env (eval e X.env) = eval e X.env := by rfl)
    (hfew : ((backTo cpos (starEach (ex :: es) X.env)).all (fun x => !x.1) && (backToKw cpos (keywordEach [] X.env)).all (fun x => x.1.isSome)
      && decide ((ex :: es).length + ([] : List Keyword).length + (if ([] : List Keyword).isEmpty then 0 else 1) < 30)) = true := by rfl)
    (hline : (apos.endLine == cpos.line) = true := by rfl) (hs : starEach (ex :: es) X.env = (false, eval ex X.env) :: starEach es X.env := by rfl) (hplain : (backTo cpos (starEach es X.env)).any (·.1) = false := by rfl) :
    EOk X W (.Call (.Attribute e name apos) (ex :: es) [] cpos) (xM T o f ga) := by
  refine ⟨fun pins s σ H Q I h => ?_⟩
  obtain ⟨ι, S, Γ, r, hs'⟩ := h
  refine wpAny_Call_method_late hbase hfew hline rfl (ho.go I r (R.sat_bind hs') (fun _ _ z => z) fun d S1 ι1 H1 v u s1 p e1 rd1 I1 rv1 r1 => ?_)
  split at p
  · rename_i hty'
    obtain ⟨h1, h2⟩ := tyV_is I1 rv1 (tyM_V r1.sat rd1 hty')
    refine ⟨T, id, pa, slot, hty, h1, h2, ?_⟩
    have hA : wpAny (model X.prog X.w) X.A (spliced (backTo cpos (starEach (ex :: es) X.env))) (fun us s2 => wpAny (model X.prog X.w) X.A (call (.builtin id) (u :: us)) (EP X pins σ Q) X.xe s2) X.xe s1 := by
      refine ha.go cpos I1 r1 (R.sat_bind p) (fun _ _ z => z.ext e1) fun ds S2 ι2 H2 vs us s2 p2 e2 rd2 I2 rv2 r2 => ?_
      obtain ⟨d3, S3, q1, q2⟩ := R.sat_of p2
      exact hm pins s2 σ H2 ι2 S2 d ds v vs u us Q d3 S3 I2 r2.sat (RD.mono e2.keeps _ _ rd1) rd2 rv1 rv2 q1 ((q2.ext e1).ext e2)
    rw [hs] at hA ⊢
    exact Calls.callWith_builtin (by show (false || (backTo cpos (starEach es X.env)).any (·.1)) = false; rw [hplain] <;> rfl) (Calls.evalArgs_plain hA)
  · exact p.elim

/-! ### methods of lists -/
def mAppend : OM := fun d ds S => match d, ds with
  | .ref n, [y] => (match S[n]? with
    | some (.lst xs) => if xs.length < sizeLine then some (.non, S.set n (.lst (xs ++ [y]))) else none
    | _ => none)
  | _, _ => none
theorem m_append : MtD X "list.append" mAppend := .of mt_append fun H ι S dx ds x xs Q d S' st r1 r2 h hq => by
  unfold mAppend at h
  split at h
  · rename_i n' y
    obtain ⟨_, rfl⟩ : n' < _ ∧ x = V.ref (ι n') := r1
    obtain ⟨w, rfl, r3⟩ := one_of (ds := []) r2
    split at h
    · rename_i ys e0
      split at h
      · rename_i hz
        cases h
        obtain ⟨vs, q, r⟩ := st.lst e0
        exact ⟨_, vs, w, rfl, rfl, q, by rw [← r.length]; exact hz, PD.set hq st e0 (show RO _ _ _ _ (.lst (ys ++ [y])) (.lst (vs ++ [w])) from r.append (RDs.one r3)) rfl⟩
      · cases h
    · cases h
  · cases h
def mExtend : OM := fun d ds S => match d, ds with
  | .ref n, [.ref m] => (match S[n]?, S[m]? with
    | some (.lst xs), some (.lst ys) => if xs.length + ys.length ≤ sizeLine then some (.non, S.set n (.lst (xs ++ ys))) else none
    | _, _ => none)
  | _, _ => none
theorem m_extend : MtD X "list.extend" mExtend := .of mt_extend fun H ι S dx ds x xs Q d S' st r1 r2 h hq => by
  unfold mExtend at h
  split at h
  · rename_i n' m
    obtain ⟨_, rfl⟩ : n' < _ ∧ x = V.ref (ι n') := r1
    obtain ⟨w, rfl, r3⟩ := one_of (ds := []) r2
    obtain ⟨_, rfl⟩ : m < _ ∧ w = V.ref (ι m) := r3
    split at h
    · rename_i ys zs e0 e1
      split at h
      · rename_i hz
        cases h
        obtain ⟨vs, q, r⟩ := st.lst e0
        obtain ⟨ws, q', r'⟩ := st.lst e1
        exact ⟨_, _, vs, ws, rfl, rfl, q, q', by rw [← r.length, ← r'.length]; exact hz, PD.set hq st e0 (show RO _ _ _ _ (.lst (ys ++ zs)) (.lst (vs ++ ws)) from r.append r') rfl⟩
      · cases h
    · cases h
  · cases h
theorem RDs.dropLast {ds : List D} {vs : List V} (r : RDs K ι n H ds vs) : RDs K ι n H ds.dropLast vs.dropLast := by
  rw [List.dropLast_eq_take, List.dropLast_eq_take, r.length]
  exact r.take _
def mPop : OM := fun d ds S => match d, ds with
  | .ref n, [] => (match S[n]? with
    | some (.lst xs) => (xs[xs.length - 1]?).map fun y => (y, S.set n (.lst xs.dropLast))
    | _ => none)
  | _, _ => none
theorem m_pop : MtD X "list.pop" mPop := .of mt_pop fun H ι S dx ds x xs Q d S' st r1 r2 h hq => by
  unfold mPop at h
  split at h
  · rename_i n'
    obtain ⟨_, rfl⟩ : n' < _ ∧ x = V.ref (ι n') := r1
    cases (show xs = [] from r2)
    split at h
    · rename_i ys e0
      obtain ⟨y, e1, h⟩ := Option.map_eq_some_iff.mp h
      cases h
      obtain ⟨vs, q, r⟩ := st.lst e0
      obtain ⟨w, e2, r3⟩ := r.get e1
      exact ⟨_, vs, w, rfl, rfl, q, by rw [← r.length]; exact e2, PD.set hq st e0 (show RO _ _ _ _ (.lst ys.dropLast) (.lst vs.dropLast) from r.dropLast) r3⟩
    · cases h
  · cases h

/-! ### o[i] = v on a list, as a target -/
def gSubL (f g : XE) : XG := fun d Γ S => match f Γ S with
  | .ok (.ref n) S1 => (match g Γ S1 with
    | .ok (.int i) S2 => (match S2[n]? with
      | some (.lst xs) => (ixN xs.length i).map fun j => (Γ, S2.set n (.lst (xs.set j d)))
      | _ => none)
    | _ => none)
  | _ => none
theorem g_subL (ho : EOk X W a f) (hi : EOk X W b g)
    (ha : ∀ v, assign (.Subscript a b pos) X.env v = (do
      let ov ← holding [v] (eval a X.env)
      let iv ← holding [v, ov] (eval b X.env)
      standAt pos
      holding [v, ov, iv] (setItem ov iv v)
      release [v, ov, iv] []) := by intro _; rfl) : GOk X (.Subscript a b pos) (gSubL f g) := by
  refine ⟨fun pins s σ H v u Q I rv h => ?_⟩
  obtain ⟨ι, S, Γ, d, Γ', S', r, rd, hs, hq⟩ := h
  unfold gSubL at hs
  cases qf : f Γ S with
  | ex x S1 => rw [qf] at hs; cases hs
  | err => rw [qf] at hs; cases hs
  | ok o S1 =>
    rw [qf] at hs
    cases o with
    | ref n' =>
      simp only at hs
      cases qg : g Γ S1 with
      | ex x S2 => rw [qg] at hs; cases hs
      | err => rw [qg] at hs; cases hs
      | ok oi S2 =>
        rw [qg] at hs
        cases oi with
        | int i =>
          simp only at hs
          cases qn : S2[n']? with
          | none => rw [qn] at hs; cases hs
          | some oo =>
            rw [qn] at hs
            cases oo with
            | lst xs =>
              simp only at hs
              obtain ⟨j, qj, hs⟩ := Option.map_eq_some_iff.mp hs
              cases hs
              rw [ha]
              refine wpAny_bind (wpAny_holding (ho.go I r (P := fun d S' => d = .ref n' ∧ S' = S1) (E := fun _ _ => False) (by rw [qf]; exact ⟨rfl, rfl⟩) (fun _ _ z => z.elim) fun d1 S1' ι1 H1 v1 u1 s1 p1 e1 rd1 I1 rv1 r1 => ?_))
              obtain ⟨rfl, rfl⟩ := p1
              refine wpAny_bind (wpAny_holding (hi.go I1 r1 (P := fun d S' => d = .int i ∧ S' = S2) (E := fun _ _ => False) (by rw [qg]; exact ⟨rfl, rfl⟩) (fun _ _ z => z.elim) fun d2 S2' ι2 H2 v2 u2 s2 p2 e2 rd2 I2 rv2 r2 => ?_))
              obtain ⟨rfl, rfl⟩ := p2
              have rd1' := RD.mono e2.keeps _ _ rd1
              obtain ⟨hn, rfl⟩ : n' < _ ∧ v1 = V.ref (ι2 n') := rd1'
              cases rd2
              obtain ⟨vs, qv, rs⟩ := r2.sat.lst qn
              have rd' := RD.mono (e1.trans e2).keeps _ _ rd
              refine wpAny_bind (wpAny_standAt (wpAny_bind (wpAny_holding (thn (set_list pins s2 σ H2 _ _ v _ _ _ (fun H3 => Q σ H3) I2 rv1 rv2 rv ⟨_, vs, i, j, rfl, rfl, qv, by rw [← rs.length]; exact qj, ?_⟩) fun _ s3 ⟨H3, I3, q3⟩ => ?_))))
              · have eS := ext_set (o' := .lst (xs.set j d)) (ho' := .lst (vs.set j v)) r2.sat qn (show RDs _ _ _ _ (xs.set j d) (vs.set j v) from rs.set j rd')
                exact hq ι2 _ _ ((e1.trans e2).trans eS) (r2.ext eS)
              · exact wpAny_release ⟨σ, H3, I3, q3⟩
            | _ => cases hs
        | _ => cases hs
    | _ => cases hs

/-! ### a op= e at a name -/
def IpD (X : Cx) (op : Operator) (o : O2) : Prop := OpD X (inplaceOp op) o
def xAug (i : Nat) (o : O2) (f : XE) : XS := fun Γ S => match Γ[i]? with
  | some (some x) => (f Γ S).then Γ fun y S1 => match o x y S1 with
    | some (z, S2) => .nx (Γ.set i (some z)) S2
    | none => .err
  | _ => .err
theorem s_aug {i : Nat} {x : Str} {op : Operator} {ob : O2} {pos' : Pos} (hN : X.N.Nodup) (hi : X.N[i]? = some x) (hx : Loc X.env.scope x) (he : EOk X W e f) (ho : OpD X (inplaceOp op) ob) (hf : X.fn x = true ∨ X.env.scope.names.lookup x = some .local := by first | exact .inl rfl | exact .inr rfl | assumption) :
    SOk X W (.AugAssign (.Name x pos') op e pos) (xAug i ob f) := by
  refine ⟨fun pins s σ H D I h => ?_⟩
  obtain ⟨ι, S, Γ, r, hs⟩ := h
  unfold xAug at hs
  split at hs
  · rename_i dx e0
    obtain ⟨v, e1, rdx⟩ := r.env i dx e0
    obtain ⟨m, hn, hl⟩ := I.loc
    have vis : Vis X.env.scope x := by rcases hx with k | k; exact .inl k; exact .inr (.inl k)
    obtain ⟨u, rv, l⟩ := hl i x v hi e1 vis
    refine wpAny_AugAssign_Name ?_
    have go : wpAny (model X.prog X.w) X.A (eval e X.env) (fun w s₂ => wpAny (model X.prog X.w) X.A (inplaceOp op u w) (fun r s₃ => wpAny (model X.prog X.w) X.A (storeName X.env x r) (fun _ => SP X pins D .next) X.xe s₃) X.xe s₂) X.xe s := by
      refine he.go I r (PF.then r hs) (fun _ _ z => z) fun dy S1 ι1 H1 vy w s1 p e1 rd1 I1 rv1 r1 => ?_
      cases q : ob dx dy S1 with
      | none => rw [q] at p; exact p.elim
      | some z =>
        obtain ⟨dz, S2⟩ := z
        rw [q] at p
        have p := PF.ext p e1
        refine thn (ho pins s1 σ H1 ι1 S1 dx dy v vy u w (fun z H2 => ∃ ι2, Ext X.K ι1 S1 H1 ι2 S2 H2 ∧ RD X.K ι2 S2.length H2 dz z) dz S2 I1 r1.sat (RD.mono e1.keeps _ _ rdx) rd1 rv rv1 q fun ι2 H2 z e r => ⟨ι2, e, r⟩) fun z s2 ⟨zv, H2, I2, r2, ι2, e2, rd2⟩ => ?_
        exact store_ok I2 hN hi hx r2 (fun s3 I3 => ⟨_, H2, I3, p _ _ _ e2 ((r1.ext e2).set rd2)⟩) hf
    rcases l with ⟨hk, hm⟩ | ⟨hk, c, hc, hcell⟩
    · exact wpAny_loadName_local I.ok.kind hk hn hm go
    · rcases hk with hk | hk
      · exact wpAny_loadName_cell I.ok.kind hk hc hcell go
      · rcases hx with k | k
        · have : X.env.scope.names.lookup x = some .free := hk
          rw [k] at this; cases this
        · have : X.env.scope.names.lookup x = some .free := hk
          rw [k] at this; cases this
  · exact hs.elim
def oAddI : O2 := fun x y S => match x, y with
  | .int i, .int j => some (.int (i + j), S)
  | .str a, .str b => if a.length + b.length ≤ sizeLine then some (.str (a ++ b), S) else none
  | _, _ => none
theorem o_iadd : OpD X (inplaceOp .Add) oAddI := by
  intro pins s σ H ι S dx dy x y v u Q d S' I st rx ry vx vy h hq
  unfold oAddI at h
  split at h
  · cases rx; cases ry; cases h
    exact iop_add pins s σ H _ _ v u Q I vx vy ⟨_, _, rfl, rfl, PD.same hq st rfl⟩
  · cases rx; cases ry
    split at h
    · rename_i hz
      cases h
      exact iop_add_str pins s σ H _ _ v u Q I vx vy ⟨_, _, rfl, rfl, hz, PD.same hq st rfl⟩
    · cases h
  · cases h
theorem o_isub : OpD X (inplaceOp .Sub) oSub := .of iop_sub fun H ι S dx dy x y Q d S' st rx ry h hq => by
  unfold oSub at h
  split at h
  · cases rx; cases ry; cases h; exact ⟨_, _, rfl, rfl, PD.same hq st rfl⟩
  · cases h

/-! ### methods of texts -/
def mStr1 (g : Str → Str → Option D) : OM := fun d ds S => match d, ds with
  | .str a, [.str b] => (g a b).map fun r => (r, S)
  | _, _ => none
def mStr0 (g : Str → Option D) : OM := fun d ds S => match d, ds with
  | .str a, [] => (g a).map fun r => (r, S)
  | _, _ => none
theorem mStr1_of {g : Str → Str → Option D} {r : V → List V → Hp → VK → Prop} (ho : MtR X id r)
    (h : ∀ (H : Hp) (Q : VK) (a b : Str) (d : D), g a b = some d → (∀ v, (∀ (K : PySem.W.Frag) (ι : Nat → Addr) (n : Nat), RD K ι n H d v) → Q v H) → r (.str a) [.str b] H Q) : MtD X id (mStr1 g) := .of ho fun H ι S dx ds x xs Q d S' st r1 r2 e hq => by
  unfold mStr1 at e
  split at e
  · rename_i a b
    cases r1
    obtain ⟨w, rfl, r3⟩ := one_of (ds := []) r2
    cases r3
    obtain ⟨d', e1, e2⟩ := Option.map_eq_some_iff.mp e
    cases e2
    exact h H Q a b _ e1 fun v hv => PD.same hq st (hv _ _ _)
  · cases e
theorem mStr0_of {g : Str → Option D} {r : V → List V → Hp → VK → Prop} (ho : MtR X id r)
    (h : ∀ (H : Hp) (Q : VK) (a : Str) (d : D), g a = some d → (∀ v, (∀ (K : PySem.W.Frag) (ι : Nat → Addr) (n : Nat), RD K ι n H d v) → Q v H) → r (.str a) [] H Q) : MtD X id (mStr0 g) := .of ho fun H ι S dx ds x xs Q d S' st r1 r2 e hq => by
  unfold mStr0 at e
  split at e
  · rename_i a
    cases r1
    cases (show xs = [] from r2)
    obtain ⟨d', e1, e2⟩ := Option.map_eq_some_iff.mp e
    cases e2
    exact h H Q a _ e1 fun v hv => PD.same hq st (hv _ _ _)
  · cases e
def gStrip (a b : Str) : Option D := if a.length ≤ sizeLine then some (.str (Txt.stripChars a b)) else none
def gRmPre (a b : Str) : Option D := if a.length ≤ sizeLine then some (.str (Txt.removeprefix a b)) else none
def gRmSuf (a b : Str) : Option D := if a.length ≤ sizeLine then some (.str (Txt.removesuffix a b)) else none
def gStarts (a b : Str) : Option D := some (.bl (Txt.startswith a b))
def gEnds (a b : Str) : Option D := some (.bl (Txt.endswith a b))
def gIsdigit (a : Str) : Option D := some (.bl (Txt.isdigit a))
def gIsupper (a : Str) : Option D := some (.bl (Txt.isupper a))
theorem m_strip : MtD X "str.strip" (mStr1 gStrip) := mStr1_of mt_stripChars fun H Q a b d e q => by
  unfold gStrip at e
  split at e
  · rename_i hz; cases e; exact ⟨a, b, rfl, rfl, hz, q _ fun _ _ _ => rfl⟩
  · cases e
theorem m_rmpre : MtD X "str.removeprefix" (mStr1 gRmPre) := mStr1_of mt_removeprefix fun H Q a b d e q => by
  unfold gRmPre at e
  split at e
  · rename_i hz; cases e; exact ⟨a, b, rfl, rfl, hz, q _ fun _ _ _ => rfl⟩
  · cases e
theorem m_rmsuf : MtD X "str.removesuffix" (mStr1 gRmSuf) := mStr1_of mt_removesuffix fun H Q a b d e q => by
  unfold gRmSuf at e
  split at e
  · rename_i hz; cases e; exact ⟨a, b, rfl, rfl, hz, q _ fun _ _ _ => rfl⟩
  · cases e
theorem m_starts : MtD X "str.startswith" (mStr1 gStarts) := mStr1_of mt_startswith fun H Q a b d e q => by cases e; exact ⟨a, b, rfl, rfl, q _ fun _ _ _ => rfl⟩
theorem m_ends : MtD X "str.endswith" (mStr1 gEnds) := mStr1_of mt_endswith fun H Q a b d e q => by cases e; exact ⟨a, b, rfl, rfl, q _ fun _ _ _ => rfl⟩
theorem m_isdigit : MtD X "str.isdigit" (mStr0 gIsdigit) := mStr0_of mt_isdigit fun H Q a d e q => by cases e; exact ⟨a, rfl, rfl, trivial, q _ fun _ _ _ => rfl⟩
theorem m_isupper : MtD X "str.isupper" (mStr0 gIsupper) := mStr0_of mt_isupper fun H Q a d e q => by cases e; exact ⟨a, rfl, rfl, trivial, q _ fun _ _ _ => rfl⟩
def mSplit : OM := fun d ds S => match d, ds with
  | .str a, [.str b] => if (b.length == 0) = false ∧ a.length + 2 ≤ sizeLine then some (.ref S.length, S ++ [.lst ((Txt.split a b).map D.str)]) else none
  | _, _ => none
theorem m_split : MtD X "str.split" mSplit := .of mt_split fun H ι S dx ds x xs Q d S' st r1 r2 e hq => by
  unfold mSplit at e
  split at e
  · rename_i a b
    cases r1
    obtain ⟨w, rfl, r3⟩ := one_of (ds := []) r2
    cases r3
    split at e
    · rename_i hz
      cases e
      exact ⟨a, b, rfl, rfl, hz.1, hz.2, PD.new hq st (show RO _ _ _ _ (.lst ((Txt.split a b).map D.str)) (.lst ((Txt.split a b).map V.str)) from rds_strs)⟩
    · cases e
  · cases e
def mPart : OM := fun d ds S => match d, ds with
  | .str a, [.str b] => if (b.length == 0) = false ∧ a.length ≤ sizeLine then some (.tup [.str (Txt.partition a b).1, .str (Txt.partition a b).2.1, .str (Txt.partition a b).2.2], S) else none
  | _, _ => none
theorem m_part : MtD X "str.partition" mPart := .of mt_partition fun H ι S dx ds x xs Q d S' st r1 r2 e hq => by
  unfold mPart at e
  split at e
  · rename_i a b
    cases r1
    obtain ⟨w, rfl, r3⟩ := one_of (ds := []) r2
    cases r3
    split at e
    · rename_i hz
      cases e
      exact ⟨a, b, rfl, rfl, hz.1, hz.2, PD.tup hq st ⟨_, _, rfl, rfl, _, _, rfl, rfl, _, _, rfl, rfl, rfl⟩⟩
    · cases e
  · cases e
def mJoin : OM := fun d ds S => match d, ds with
  | .str a, [y] => ((seqOf y S).bind strsOf).bind fun ys => if (ys.map (·.length)).sum + ys.length * a.length ≤ 16777216 then some (.str (Txt.join a ys), S) else none
  | _, _ => none
theorem m_join : MtD X "str.join" mJoin := .of mt_join fun H ι S dx ds x xs Q d S' st r1 r2 e hq => by
  unfold mJoin at e
  split at e
  · rename_i a y
    cases r1
    obtain ⟨w, rfl, r3⟩ := one_of (ds := []) r2
    obtain ⟨ys, e1, e2⟩ := Option.bind_eq_some_iff.mp e
    obtain ⟨zs, e3, e4⟩ := Option.bind_eq_some_iff.mp e1
    split at e2
    · rename_i hz
      cases e2
      obtain ⟨p, vs, rfl, q, r⟩ := seqOf_V st r3 e3
      have := strsOf_V e4 r
      subst this
      exact ⟨a, p, ys, rfl, rfl, q, hz, PD.same hq st rfl⟩
    · cases e2
  · cases e

/-! ### f-strings -/
def xFmt (f : XE) : XE := fun Γ S => (f Γ S).bind fun d S1 => match d with
  | .str y => if y.length ≤ sizeLine then .ok (.str y) S1 else .err
  | .int i => if i.natAbs.log2 < 1920 then .ok (.str (toString i)) S1 else .err
  | _ => .err
theorem d_fmt (he : EOk X W e f) : EOk X W (.FormattedValue e (-1) none pos) (xFmt f) := by
  refine ⟨fun pins s σ H Q I h => ?_⟩
  obtain ⟨ι, S, Γ, r, hs⟩ := h
  refine wpAny_FormattedValue_plain (he.go I r (R.sat_bind hs) (fun _ _ z => z) fun d S1 ι1 H1 v u s1 p e1 rd1 I1 rv1 r1 => ?_)
  cases d with
  | str y =>
    cases rd1
    obtain ⟨t, rfl⟩ := rv1
    simp only at p
    split at p
    · rename_i hz
      exact wpAny_formatField_str ⟨.str y, H1, I1, ⟨t, rfl⟩, p _ _ _ e1 rfl⟩ ⟨.str y, H1, I1.tok _, ⟨_, rfl⟩, p _ _ _ e1 rfl⟩ hz
    · exact p.elim
  | int i =>
    cases rd1
    obtain ⟨t, rfl⟩ := rv1
    simp only at p
    split at p
    · rename_i hz
      exact wpAny_formatField_int hz ⟨.str (toString i), H1, I1.tok _, ⟨_, rfl⟩, p _ _ _ e1 rfl⟩
    · exact p.elim
  | _ => exact p.elim
inductive JOk (X : Cx) (W : WX) : List Expr → List XE → Prop where
  | nil : JOk X W [] []
  | cons {e : Expr} {f : XE} {es : List Expr} {fs : List XE} (h : EOk X W e f) (r : JOk X W es fs) : JOk X W (e :: es) (f :: fs)
def xJs : List XE → Str → Gam → Sto → R Str
  | [], acc, _, S => .ok acc S
  | f :: fs, acc, Γ, S => (f Γ S).bind fun d S1 => match d with
    | .str y => if (acc ++ y).length ≤ sizeLine then xJs fs (acc ++ y) Γ S1 else .err
    | _ => .err
def xJoined (fs : List XE) : XE := fun Γ S => (xJs fs Str.empty Γ S).bind fun z S1 => .ok (.str z) S1
theorem j_run {es : List Expr} {fs : List XE} (h : JOk X W es fs) : ∀ (acc : Str) (s : Shared) (H : Hp) (ι : Nat → Addr) (S : Sto) (Γ : Gam) (P : Str → Sto → Prop) (RR : Str → Shared → Prop), acc.length ≤ sizeLine → Inv X pins σ H s → Rel X.K ι S H σ Γ → (xJs fs acc Γ S).sat P (PX X.K X.mg ι S H σ W) →
    (∀ out s1 ι1 S1 H1, out.length ≤ sizeLine → Inv X pins σ H1 s1 → Ext X.K ι S H ι1 S1 H1 → P out S1 → RR out s1) → Joins (model X.prog X.w) X.A X.xe (evalEach es X.env) acc RR s := by
  induction h with
  | nil =>
    intro acc s H ι S Γ P RR hz I r hs k
    have e0 : evalEach [] X.env = [] := by first | rfl | simp [evalEach]
    rw [e0]
    exact k acc s ι S H hz I (Ext.refl r.sat) hs
  | @cons e f es fs he _ ih =>
    intro acc s H ι S Γ P RR hz I r hs k
    have e0 : evalEach (e :: es) X.env = eval e X.env :: evalEach es X.env := by first | rfl | simp [evalEach]
    rw [e0]
    refine he.go I r (R.sat_bind hs) (fun _ _ z => z) fun d S1 ι1 H1 v u s1 p e1 rd1 I1 rv1 r1 => ?_
    cases d with
    | str y =>
      cases rd1
      obtain ⟨tk, rfl⟩ := rv1
      simp only at p
      split at p
      · rename_i hy
        exact ⟨y, tk, rfl, hy, ih (acc ++ y) s1 H1 ι1 S1 Γ P RR hy I1 r1 (R.sat_imp p (fun _ _ z => z) fun _ _ z => z.ext e1) fun out s2 ι2 S2 H2 a1 a2 a3 a4 => k out s2 ι2 S2 H2 a1 a2 (e1.trans a3) a4⟩
      · exact p.elim
    | _ => exact p.elim
theorem d_joined {v1 v2 : Expr} {rest : List Expr} {fs : List XE} (h : JOk X W (v1 :: v2 :: rest) fs) : EOk X W (.JoinedStr (v1 :: v2 :: rest) pos) (xJoined fs) := by
  refine ⟨fun pins s σ H Q I h' => ?_⟩
  obtain ⟨ι, S, Γ, r, hs⟩ := h'
  exact wpAny_JoinedStr (j_run h Str.empty s H ι S Γ _ _ (Nat.zero_le _) I r (R.sat_bind hs) fun out s1 ι1 S1 H1 hz I1 e1 q1 => ⟨hz, .str out, H1, I1.tok _, ⟨_, rfl⟩, q1 _ _ _ e1 rfl⟩)
theorem d_joined1 (he : EOk X W e f) : EOk X W (.JoinedStr [e] pos) f := ⟨fun pins s σ H Q I h => wpAny_JoinedStr_one (he.run pins s σ H Q I h)⟩
end
end Dx
namespace Dx
open PySem PySem.Spec PyProof.Rows L2
section
variable {X : Cx} {W : WX} {a b c : Expr} {ga : XA} {pos : Pos}
/-- a, b = x, y of plain local names -/
def xPar (i j : Nat) (ga : XA) : XS := fun Γ S => (ga Γ S).then Γ fun ds S1 => match ds with
  | [x, y] => if i < Γ.length ∧ j < Γ.length then .nx ((Γ.set i (some x)).set j (some y)) S1 else .err
  | _ => .err
theorem s_par {i j : Nat} {x y : Str} {px py pt : Pos} {kt k2 : Nat} {pt2 : Pos} (hc : X.calm = true) (hN : X.N.Nodup) (hi : X.N[i]? = some x) (hj : X.N[j]? = some y) (hij : i ≠ j)
    (hx : X.env.scope.names.lookup x = some .local) (hy : X.env.scope.names.lookup y = some .local) (ha : AOk X W [a, b] ga)
    (hw : swappedStores [.Tuple [.Name x px, .Name y py] kt pt] (.Tuple [a, b] k2 pt2) X.env = pure (some [x, y]))
    (hs : swapsWithSole [.Tuple [.Name x px, .Name y py] kt pt] (.Tuple [a, b] k2 pt2) pos.line X.env = pure false := by rfl) :
    SOk X W (.Assign [.Tuple [.Name x px, .Name y py] kt pt] (.Tuple [a, b] k2 pt2) pos) (xPar i j ga) := by
  refine ⟨fun pins s σ H D I h => (ps_par hc hN hi hj hij hx hy ha hw hs).run pins s σ H D I ?_⟩
  obtain ⟨ι, S, Γ, r, hs'⟩ := h
  refine ⟨ι, S, Γ, r, R.sat_imp (PF.then r hs') (fun ds S1 p ι1 H1 vs e1 rd => ?_) fun _ _ z => z⟩
  split at p
  · rename_i dx dy
    obtain ⟨v, w, rfl, r1, r2⟩ := two_of rd
    split at p
    · exact ⟨v, w, rfl, p _ _ _ e1 (((r.ext e1).set r1).set r2)⟩
    · exact p.elim
  · exact p.elim
end
end Dx
namespace Dx
open PySem PySem.Spec PyProof.Rows L2
section
variable {X : Cx} {W : WX} {pos : Pos}
theorem d_globS {x z : Str} (hm : ∃ t, X.mg x = some (.str z t)) (hg : Gl X x) (hdb : (x == ("__debug__" : Str)) = false := by decide +kernel) : EOk X W (.Name x pos) (xC (.str z)) := by
  obtain ⟨t, hm⟩ := hm
  exact d_glob (v := .str z) hg hm ⟨t, rfl⟩ (fun _ _ _ => rfl) hdb
theorem d_globI {x : Str} {i : Int} (hm : ∃ t, X.mg x = some (.int i t)) (hg : Gl X x) (hdb : (x == ("__debug__" : Str)) = false := by decide +kernel) : EOk X W (.Name x pos) (xC (.int i)) := by
  obtain ⟨t, hm⟩ := hm
  exact d_glob (v := .int i) hg hm ⟨t, rfl⟩ (fun _ _ _ => rfl) hdb
end
end Dx
namespace Dx
open PySem PySem.Spec PyProof.Rows L2
/-! ### `len(set(xs))` of ints and texts -/
def inK (k : Key) (σ : List Key) : Bool := σ.any fun x => decide (x = k)
def oneK (σ : List Key) (k : Key) : List Key := if inK k σ then σ else σ ++ [k]
def metK (ks : List Key) : List Key := ks.foldl oneK []
theorem metK_snoc (ks : List Key) (k : Key) : metK (ks ++ [k]) = oneK (metK ks) k := by
  unfold metK; rw [List.foldl_append]; rfl
theorem oneK_any (σ : List Key) (v k : Key) : inK k (oneK σ v) = (inK k σ || decide (k = v)) := by
  unfold oneK
  by_cases h : inK v σ = true
  · rw [if_pos h]
    by_cases e : k = v
    · subst e; simp [h]
    · simp [e]
  · rw [if_neg h]
    unfold inK
    rw [List.any_append]
    by_cases e : k = v
    · subst e; simp
    · have e' : ¬ v = k := fun q => e q.symm
      simp [e, e']
theorem oneK_len (σ : List Key) (v : Key) : (oneK σ v).length = if inK v σ = true then σ.length else σ.length + 1 := by
  unfold oneK; split <;> simp
theorem metK_le (ks : List Key) : (metK ks).length ≤ ks.length := by
  have key : ∀ (ks σ : List Key), (ks.foldl oneK σ).length ≤ σ.length + ks.length := by
    intro ks
    induction ks with
    | nil => intro σ; simp
    | cons k ks ih =>
      intro σ
      have h1 := ih (oneK σ k)
      have h2 := oneK_len σ k
      rw [List.foldl_cons, List.length_cons]
      split at h2 <;> omega
  have := key ks []
  simpa [metK] using this
theorem key_scan' {k : Key} {u : Value} (r : RelV (kV k) u) : u.scannable = true := by
  cases k with
  | inl i =>
    obtain ⟨t, rfl⟩ := r
    rfl
  | inr x =>
    obtain ⟨t, rfl⟩ := r
    rfl
theorem setOf_congr {prog : Program} {w : World} {h : Heap} {a : Addr} {S S' : Key → Bool} {n n' : Nat} (hS : h.SetOf (mixKind prog w) a S n) (e : ∀ k, S k = S' k) (en : n = n') : h.SetOf (mixKind prog w) a S' n' := by
  have : S = S' := funext e
  subst this; subst en; exact hS
section
variable {prog : Program} {w : World} {A : Around} {R : Result → Shared → Prop} {I : Addr} {fp wr : List Addr} {G : Array GenState → Array GenState → Prop} {n : Nat} {P : Nat → Value → Prop} {St : Nat → Shared → Prop}
theorem loop_setK (W : WalksS prog w A.in1 I fp wr G n P St) (S : Addr) (hSf : S ∉ fp) (ks : List Key) (hn : ks.length = n)
    (hval : ∀ i v, P i v → ∃ k, ks[i]? = some k ∧ RelV (kV k) v) (hb : n + 1 < scanBound) :
    ∀ (m i : Nat) (s : Shared), n - i = m → i ≤ n → St i s →
      s.heap.SetOf (mixKind prog w) S (fun k' => inK k' (metK (ks.take i))) (metK (ks.take i)).length →
      (∀ s', Moved (S :: wr) G s s' → s'.heap.SetOf (mixKind prog w) S (fun k' => inK k' (metK ks)) (metK ks).length → R (.ok (.ret .none)) s') →
      codeAny (model prog w) A (.builtin "set.update.loop" ⟨[.ref S, .ref I], []⟩) R s := by
  have hSw : S ∉ wr := fun h => hSf (W.sub _ h)
  have hsub : ∀ b ∈ wr, b ∈ S :: wr := fun b hb => List.mem_cons_of_mem _ hb
  intro m
  induction m with
  | zero =>
    intro i s hk hi hst hS hR
    have hin : i = n := by omega
    subst hin
    refine codeAny_builtin PyProof.Rows.F.entry_set_update_loop ?_
    rw [Around.under_plainId PyProof.Rows.F.plain_set_update_loop _]
    show wpAny _ A.in1 (pyNext (.ref I) >>= _) _ _ s
    refine wpAny_bind (W.done s _ _ hst fun s' hm => ?_)
    show wpAny _ A.in1 (ret Value.none) _ _ s'
    rw [← hn, List.take_length] at hS
    exact wpAny_pure (hR s' (hm.mono hsub) (by
      obtain ⟨o, es, ep, t, ho, rest⟩ := hS
      exact ⟨o, es, ep, t, hm.heap S _ hSw ho, rest⟩))
  | succ m ih =>
    intro i s hk hi hst hS hR
    have hlt : i < n := by omega
    refine codeAny_builtin PyProof.Rows.F.entry_set_update_loop ?_
    rw [Around.under_plainId PyProof.Rows.F.plain_set_update_loop _]
    show wpAny _ A.in1 (pyNext (.ref I) >>= _) _ _ s
    refine wpAny_bind (W.item i s _ _ hlt hst fun v s' hP hst' hm => ?_)
    obtain ⟨k, hk', rv⟩ := hval i v hP
    have hS' : s'.heap.SetOf (mixKind prog w) S (fun k' => inK k' (metK (ks.take i))) (metK (ks.take i)).length := by
      obtain ⟨o, es, ep, tb, ho, rest⟩ := hS
      exact ⟨o, es, ep, tb, hm.heap S _ hSw ho, rest⟩
    show wpAny _ A.in1 (holding [v] (setAdd S v) >>= _) _ _ s'
    refine wpAny_bind (wpAny_holding ?_)
    unfold setAdd
    refine wpAny_holding ?_
    refine wpAny_bind ((mixKind prog w).pyHash (k := k) (kV_is rv) ?_)
    have hroom : (metK (ks.take i)).length + 1 < scanBound := by
      have h1 := metK_le (ks.take i)
      have h2 : (ks.take i).length ≤ n := by rw [List.length_take]; omega
      omega
    refine wpAny_setAddHashed_of (knd := mixKind prog w) (s := { s' with toks := s'.toks + 1 }) (kV_is rv) (key_scan' rv) hS' hroom fun h' hsb hS2 => ?_
    have htk : ks.take (i + 1) = ks.take i ++ [k] := by rw [List.take_add_one, hk']; rfl
    have hSi : h'.SetOf (mixKind prog w) S (fun k' => inK k' (metK (ks.take (i + 1)))) (metK (ks.take (i + 1))).length :=
      setOf_congr hS2 (fun k' => by rw [htk, metK_snoc, oneK_any]) (by rw [htk, metK_snoc, oneK_len])
    refine wpAny_pure ⟨plainId_quiet PyProof.Rows.F.plain_set_update_loop _, ih (i + 1) _ (by omega) hlt (W.frame _ s' _ _ hst' (Nat.le_succ _) fun b hb o e => ?_) hSi fun s'' hm'' hS'' => ?_⟩
    · rw [hsb.2 b (fun h : b = S => hSf (by rw [← h]; exact hb))]; exact e
    · refine hR s'' (Moved.trans W.gtrans ((hm.mono hsub).then_heap (Nat.le_succ _) fun b o hb e => ?_) hm'') hS''
      rw [hsb.2 b (fun h : b = S => hb (by rw [h]; exact List.mem_cons_self))]; exact e
end
section
variable {prog : Program} {w : World} {A : Around} {E : Value → Shared → Prop} {s : Shared}
theorem key_at {ks : List Key} {us : List Value} (r : Vals (ks.map kV) us) {i : Nat} {v : Value} (h : us[i]? = some v) : ∃ k, ks[i]? = some k ∧ RelV (kV k) v := by
  induction ks generalizing us i with
  | nil => cases r; simp at h
  | cons k ks ih =>
    rw [List.map_cons] at r
    cases r with
    | cons h1 h2 =>
      cases i with
      | zero => simp at h; subst h; exact ⟨k, rfl, h1⟩
      | succ i => simp only [List.getElem?_cons_succ] at h ⊢; exact ih h2 h
/-- the empty set object, as `set.__new__` lays it -/
abbrev bareSet (led : Bool) : Obj := { cls := .type "set", dict := none, data := .set #[] 0 (.fresh 0 0 led) }
theorem bareSet_of {h : Heap} {a : Addr} {led : Bool} (e : h.get? a = some (bareSet led)) : h.SetOf (mixKind prog w) a (fun k => inK k (metK [])) (metK []).length :=
  ⟨_, #[], 0, _, e, ⟨rfl, rfl, rfl⟩, rfl, (fun e he => by simp at he), (fun k => by simp [inK, metK]), (by decide), (by rfl), rfl⟩
/-- what `set(xs)` has to come to -/
abbrev MadeK (prog : Program) (w : World) (ks : List Key) (s s' : Shared) : Prop := ∃ h' tk, s' = { s with heap := h', toks := tk } ∧ h'.SetOf (mixKind prog w) s.heap.objs.size (fun k => inK k (metK ks)) (metK ks).length ∧ ∀ b o, b < s.heap.objs.size → s.heap.get? b = some o → h'.get? b = some o
theorem MadeK.of_moved {ks : List Key} {it : Addr} {s' : Shared} {o1 o2 : Obj} (hi : it = (s.heap.push o1).objs.size)
    (hm : Moved (s.heap.objs.size :: [it]) (fun a b => b = a) { s with heap := (s.heap.push o1).push o2 } s')
    (hS : s'.heap.SetOf (mixKind prog w) s.heap.objs.size (fun k => inK k (metK ks)) (metK ks).length) : MadeK prog w ks s s' := by
  obtain ⟨h', g', d', tk', os'⟩ := s'
  obtain rfl : g' = s.gens := hm.gens
  obtain rfl : d' = s.drawn := hm.drawn
  obtain rfl : os' = s.os := hm.os
  refine ⟨h', tk', rfl, hS, fun b o hb e => hm.heap b o ?_ (Heap.get?_push_of_some _ (Heap.get?_push_of_some _ e))⟩
  subst hi
  rw [Heap.size_push]
  simp only [List.mem_cons, List.mem_singleton, List.not_mem_nil, or_false, not_or]
  exact ⟨Nat.ne_of_lt hb, Nat.ne_of_lt (Nat.lt_succ_of_lt hb)⟩
/-- `set(xs)` over a list -/
theorem call_setK {l : Addr} {items : Array Value} {ks : List Key} {Q : Value → Shared → Prop} (hh : A.handled = none) (hl : s.heap.IsList l items) (hi : Vals (ks.map kV) items.toList) (hb : items.size + 1 < scanBound)
    (h : ∀ s', MadeK prog w ks s s' → Q (.ref s.heap.objs.size) s') : wpAny (model prog w) A (call (.type "set") [.ref l]) Q E s := by
  obtain ⟨c, tl, hmro⟩ := PySem.F.called_set.mro
  have hmade := PySem.F.called_set.made
  have hsub := PySem.F.called_set.sub
  refine wpAny_call (codeAny_of_tree ?_)
  show wpAny _ _ (callAny (.type "set") _) _ _ _
  refine wpAny_pure ⟨Code.quiet_builtin _ (by decide +kernel), codeAny_builtin PySem.F.entry_type_call ?_⟩
  rw [Around.under_plain (weight_type_call_type "set" [.ref l] []) rfl]
  have h1 := PySem.F.called_set.notType
  have h2 := PySem.F.called_set.canCreate
  have hct := PySem.F.typeCall_set_1 (.ref l)
  repeat (any_goals (first | assumption | wp_step))
  refine codeAny_mono (code_set_new_1 (.ref l) (E := E) (Q₁ := fun obj s₁ => ∃ led : Bool, obj = .ref s.heap.objs.size ∧ s₁ = { s with heap := s.heap.push (bareSet led) }) fun led => ⟨led, rfl, rfl⟩) fun r s₁ hr => ?_
  rcases r with e | fl
  · exact hr
  cases fl with
  | ret obj =>
    obtain ⟨led, rfl, rfl⟩ := hr
    have hS : (s.heap.push (bareSet led)).get? s.heap.objs.size = some (bareSet led) := Heap.get?_push_size _ rfl
    have hT : Shared.TypeIs { s with heap := s.heap.push (bareSet led) } (.ref s.heap.objs.size) "set" := ⟨_, hS, rfl⟩
    have hli := PySem.F.called_set.init.lookup
    have hbi := PySem.F.called_set.init.bind (.ref s.heap.objs.size)
    repeat (any_goals (first | assumption | wp_step))
    refine codeAny_mono (codeAny_call_builtin (R := wants (fun r s₂ => r = .none ∧ MadeK prog w ks s s₂) E) PySem.F.called_set.init.plain PySem.F.entry_set_init (check_set_init_1 hT ?_)) fun r₂ s₂ hr₂ => ?_
    · have hl1 : (s.heap.push (bareSet led)).IsList l items := hl.push _
      have hll : l < s.heap.objs.size := by obtain ⟨o, ho, _⟩ := hl; exact Heap.lt_size ho
      obtain ⟨o1, ho1, hc1, n1, hd1⟩ := hl1
      obtain ⟨c1, k1, d1, x1⟩ := o1
      obtain rfl : c1 = .type "list" := hc1
      obtain rfl : d1 = .seq items n1 := hd1
      have hl2 : (s.heap.push (bareSet led)).IsList l items := ⟨_, ho1, rfl, n1, rfl⟩
      have hsls := PySem.F.sub_list_set
      have hslf := PySem.F.sub_list_frozenset
      have hne : (Value.type "list" == Value.type "dict") = false := by decide
      unfold Builtin.«set.__init__» noKeywords Builtin.Frozenset.updateFrom
      generalize hPI : pyIter = PI
      wp_walk
      subst hPI
      refine wpAny_pyIter_list hl2 (wpAny_bind (wpAny_runValue ?_))
      have hit : (s.heap.push (bareSet led)).objs.size = s.heap.objs.size + 1 := Heap.size_push _ _
      have hfresh : s.heap.objs.size ∉ [(s.heap.push (bareSet led)).objs.size, l] := by
        rw [hit]
        simp only [List.mem_cons, List.mem_singleton, List.not_mem_nil, or_false, not_or]
        exact ⟨Nat.ne_of_lt (Nat.lt_succ_self _), Nat.ne_of_gt hll⟩
      have hsz : (ks.map kV).length = items.size := by rw [hi.length, Array.length_toList]
      refine loop_setK ((Walks.list (by simp [hh]) _ l (by rw [hit]; exact Nat.ne_of_lt (Nat.lt_succ_of_lt hll)) items).toS) s.heap.objs.size hfresh ks
        (by rw [← hsz, List.length_map]) (fun i v hv => key_at hi (by rw [Array.getElem?_toList]; exact hv)) hb (items.size - 0) 0 _ (by omega) (Nat.zero_le _)
        ⟨⟨_, Heap.get?_push_size _ rfl, rfl, rfl⟩, hl2.push _⟩ (bareSet_of (Heap.get?_push_of_some _ hS)) fun s' hm hS' => ?_
      have hM : MadeK prog w ks s s' := MadeK.of_moved rfl hm hS'
      show wpAny _ _ _ _ _ _
      refine wpAny_pure ?_
      show wpAny _ _ (ret Value.none) _ _ _
      exact wpAny_pure ⟨rfl, hM⟩
    · rcases r₂ with e | fl₂
      · exact hr₂
      cases fl₂ with
      | ret r =>
        obtain ⟨rfl, hM⟩ := hr₂
        repeat (any_goals (first | assumption | wp_step))
        exact h _ hM
      | _ => exact hr₂.elim
  | _ => exact hr.elim
end
section
variable {X : Cx} {W : WX} {a : Expr} {f : XE} {K : PySem.W.Frag} {ι : Nat → Addr} {H : Hp} {n : Nat}
def keysOf : List D → Option (List Key)
  | [] => some []
  | .int i :: r => (keysOf r).map (Sum.inl i :: ·)
  | .str x :: r => (keysOf r).map (Sum.inr x :: ·)
  | _ => none
theorem keysOf_V : ∀ {ds : List D} {ks : List Key} {vs : List V}, keysOf ds = some ks → RDs K ι n H ds vs → vs = ks.map kV
  | [], ks, vs, h, r => by
    cases h
    obtain rfl : vs = [] := r
    rfl
  | d :: ds, ks, vs, h, r => by
    obtain ⟨v, vr, rfl, q1, q2⟩ := r
    cases d with
    | int i =>
      simp only [keysOf, Option.map_eq_some_iff] at h
      obtain ⟨r', h1, rfl⟩ := h
      rw [List.map_cons, keysOf_V h1 q2, show v = V.int i from q1]; rfl
    | str i =>
      simp only [keysOf, Option.map_eq_some_iff] at h
      obtain ⟨r', h1, rfl⟩ := h
      rw [List.map_cons, keysOf_V h1 q2, show v = V.str i from q1]; rfl
    | _ => simp [keysOf] at h
/-- `len(set(xs))` -/
def oLenSet : O1 := fun d S => ((lstOf d S).bind keysOf).bind fun ks => if ks.length + 1 < 4096 then some (.int (metK ks).length, S) else none
def xLenSet (f : XE) : XE := fun Γ S => (f Γ S).bind fun d S1 => R.of (oLenSet d S1)
theorem d_lenSet {p p2 q pos : Pos} (hg : Gl X "len") (hm : X.mg "len" = none) (hg2 : Gl X "set") (hm2 : X.mg "set" = none) (ha : EOk X W a f) (hc : X.calm = true := by rfl)
    (na : starEach [a] X.env = (false, eval a X.env) :: starEach [] X.env := by rfl) : EOk X W (.Call (.Name "len" p) [.Call (.Name "set" p2) [a] [] q] [] pos) (xLenSet f) := by
  refine ⟨fun pins s σ H Q I h => ?_⟩
  obtain ⟨ι, S, Γ, r, hs⟩ := h
  refine Call_ (ld_blt I hg hm boot_len ?_)
  refine PyProof.Rows.callWith_builtin1 (PyProof.Rows.args_cons ?_ rfl) rfl rfl
  refine Call_ (ld_blt I hg2 hm2 boot_set ?_)
  refine PyProof.Rows.callWith_type1 (PyProof.Rows.args_cons (ha.go I r (R.sat_bind hs) (fun _ _ z => z) fun d S1 ι1 H1 v u s1 p e1 rd1 I1 rv1 r1 => PyProof.Rows.args_nil ?_) na) na rfl
  obtain ⟨d3, S3, q1, q2⟩ := R.sat_of p
  simp only [oLenSet, Option.bind_eq_some_iff] at q1
  obtain ⟨ks, ⟨ds, h1, h2⟩, h3⟩ := q1
  split at h3
  · rename_i hlt
    obtain ⟨rfl, rfl⟩ : D.int (metK ks).length = d3 ∧ S1 = S3 := by cases h3; exact ⟨rfl, rfl⟩
    obtain ⟨p, vs, rfl, hq, rds⟩ := lstOf_V r1.sat rd1 h1
    obtain rfl := keysOf_V h2 rds
    cases rv1
    obtain ⟨its, rr, pl, hz⟩ := I1.list hq
    have hlen : its.toArray.size = ks.length := by rw [List.size_toArray, ← rr.length, List.length_map]
    refine call_setK (I1.ok.hd hc) pl.isList (by simpa using rr) (by rw [hlen]; unfold scanBound; omega) fun s' hM => ?_
    obtain ⟨h', tk, rfl, hS, hk⟩ := hM
    refine PyProof.Rows.args_nil ?_
    obtain ⟨o, es, ep, t, ho, hex, hd, _, _, _, hf, hn⟩ := hS
    have I2 : Inv X pins σ H1 { s1 with heap := h', toks := tk } := I1.kept fun b o e => hk b o (Heap.lt_size e) e
    have hz := metK_le ks
    exact call_len_set ho hex hd hf (by rw [hn] <;> omega) ⟨.int (metK ks).length, H1, I2.tok _, ⟨_, by rw [hn]⟩, PD.same (q2.ext e1) r1.sat rfl⟩
  · cases h3
end
end Dx
namespace Dx
open PySem PySem.Spec PyProof.Rows
/-! ### what a computation comes to, as equations for simp -/
section
variable {α β : Type} {P : α → Sto → Prop} {E : Exn → Sto → Prop} {S : Sto} {Γ : Gam}
@[simp] theorem satq_ok (a : α) : (R.ok a S).sat P E = P a S := id rfl
@[simp] theorem satq_ex (x : Exn) : (R.ex x S : R α).sat P E = E x S := id rfl
@[simp] theorem satq_err : (R.err : R α).sat P E = False := id rfl
@[simp] theorem satq_bind_eq {r : R α} {k : α → Sto → R β} {Q : β → Sto → Prop} : (r.bind k).sat Q E = r.sat (fun a S => (k a S).sat Q E) E := by cases r <;> rfl
theorem satq_ite {c : Prop} [Decidable c] {r q : R α} : (if c then r else q).sat P E = if c then r.sat P E else q.sat P E := by split <;> rfl
def ofP (P : α → Sto → Prop) : Option (α × Sto) → Prop
  | some z => P z.1 z.2
  | none => False
@[simp] theorem ofP_some (z : α × Sto) : ofP P (some z) = P z.1 z.2 := id rfl
@[simp] theorem ofP_none : ofP P none = False := id rfl
@[simp] theorem satq_of_eq {o : Option (α × Sto)} : (R.of o).sat P E = ofP P o := by cases o <;> rfl
theorem satq_mono {r : R α} {P' : α → Sto → Prop} {E' : Exn → Sto → Prop} (h : r.sat P E) (hP : ∀ a S, P a S → P' a S) (hE : ∀ x S, E x S → E' x S) : r.sat P' E' := R.sat_imp h hP hE
def RS.st0 (r : RS) (Q : RS → Prop) : Prop := match r with
  | .err => False
  | r => Q r
variable {Q : RS → Prop}
@[simp] theorem stq_nx : (RS.nx Γ S).st0 Q = Q (.nx Γ S) := id rfl
@[simp] theorem stq_rt (d : D) : (RS.rt d S).st0 Q = Q (.rt d S) := id rfl
@[simp] theorem stq_bk : (RS.bk Γ S).st0 Q = Q (.bk Γ S) := id rfl
@[simp] theorem stq_ct : (RS.ct Γ S).st0 Q = Q (.ct Γ S) := id rfl
@[simp] theorem stq_ex (x : Exn) : (RS.ex x Γ S).st0 Q = Q (.ex x Γ S) := id rfl
@[simp] theorem stq_err : RS.err.st0 Q = False := id rfl
theorem stq_ite {c : Prop} [Decidable c] {r q : RS} : (if c then r else q).st0 Q = if c then r.st0 Q else q.st0 Q := by split <;> rfl
theorem stq_mono {r : RS} {Q' : RS → Prop} (h : r.st0 Q) (hq : ∀ r, Q r → Q' r) : r.st0 Q' := by cases r <;> first | exact h | exact hq _ h
@[simp] theorem stq_then {r : R α} {k : α → Sto → RS} : (r.then Γ k).st0 Q = r.sat (fun a S => (k a S).st0 Q) (fun x S => Q (.ex x Γ S)) := by cases r <;> rfl
def seqP0 (G : XS) (Q : RS → Prop) : RS → Prop
  | .nx Γ S => (G Γ S).st0 Q
  | r => Q r
variable {G F : XS}
@[simp] theorem seqP0_nx : seqP0 G Q (.nx Γ S) = (G Γ S).st0 Q := id rfl
@[simp] theorem seqP0_rt (d : D) : seqP0 G Q (.rt d S) = Q (.rt d S) := id rfl
@[simp] theorem seqP0_bk : seqP0 G Q (.bk Γ S) = Q (.bk Γ S) := id rfl
@[simp] theorem seqP0_ct : seqP0 G Q (.ct Γ S) = Q (.ct Γ S) := id rfl
@[simp] theorem seqP0_ex (x : Exn) : seqP0 G Q (.ex x Γ S) = Q (.ex x Γ S) := id rfl
@[simp] theorem stq_xSeq : (xSeq F G Γ S).st0 Q = (F Γ S).st0 (seqP0 G Q) := by unfold xSeq; cases F Γ S <;> rfl
def endP (P : D → Sto → Prop) (E : Exn → Sto → Prop) : RS → Prop
  | .nx _ S => P .non S
  | .rt d S => P d S
  | .ex x _ S => E x S
  | _ => False
variable {Pd : D → Sto → Prop}
@[simp] theorem endP_nx : endP Pd E (.nx Γ S) = Pd .non S := id rfl
@[simp] theorem endP_rt (d : D) : endP Pd E (.rt d S) = Pd d S := id rfl
@[simp] theorem endP_ex (x : Exn) : endP Pd E (.ex x Γ S) = E x S := id rfl
@[simp] theorem endP_bk : endP Pd E (.bk Γ S) = False := id rfl
@[simp] theorem endP_ct : endP Pd E (.ct Γ S) = False := id rfl
theorem satq_bodyF {N : Nat} {B : XS} {ds : List D} : (bodyF N B ds S).sat Pd E = (B (ds.map some ++ List.replicate (N - ds.length) none) S).st0 (endP Pd E) := by
  unfold bodyF; cases B (ds.map some ++ List.replicate (N - ds.length) none) S <;> rfl
@[simp] theorem satq_body0 {N : Nat} {B : XS} : (bodyF N B [] S).sat Pd E = (B (List.replicate N none) S).st0 (endP Pd E) := by rw [satq_bodyF]; rfl

/-! expressions -/
variable {f g k : XE} {t u : XB} {a : XA}
def varP (Pd : D → Sto → Prop) (S : Sto) : Option (Option D) → Prop
  | some (some d) => Pd d S
  | _ => False
@[simp] theorem varP_some (d : D) : varP Pd S (some (some d)) = Pd d S := id rfl
@[simp] theorem varP_none : varP Pd S none = False := id rfl
@[simp] theorem varP_non : varP Pd S (some none) = False := id rfl
@[simp] theorem satq_xVar {i : Nat} : (xVar i Γ S).sat Pd E = varP Pd S Γ[i]? := by
  unfold xVar; cases Γ[i]? with
  | none => rfl
  | some o => cases o <;> rfl
@[simp] theorem satq_xC {d : D} : (xC d Γ S).sat Pd E = Pd d S := id rfl
@[simp] theorem satq_xOp {o : O2} : (xOp o f g Γ S).sat Pd E = (f Γ S).sat (fun x S1 => (g Γ S1).sat (fun y S2 => ofP Pd (o x y S2)) E) E := by simp [xOp]
@[simp] theorem satq_xUn {o : O1} : (xUn o f Γ S).sat Pd E = (f Γ S).sat (fun x S1 => ofP Pd (o x S1)) E := by simp [xUn]
def blP (P : Bool → Sto → Prop) (S : Sto) : D → Prop
  | .bl b => P b S
  | _ => False
variable {Pb : Bool → Sto → Prop}
@[simp] theorem blP_bl (b : Bool) : blP Pb S (.bl b) = Pb b S := id rfl
@[simp] theorem satq_xTB : (xTB f Γ S).sat Pb E = (f Γ S).sat (fun d S1 => blP Pb S1 d) E := by
  unfold xTB; rw [satq_bind_eq]; congr 1; funext d S1; cases d <;> rfl
def trP (P : Bool → Sto → Prop) (S : Sto) : Option Bool → Prop
  | some b => P b S
  | none => False
@[simp] theorem trP_some (b : Bool) : trP Pb S (some b) = Pb b S := id rfl
@[simp] theorem trP_none : trP Pb S none = False := id rfl
@[simp] theorem satq_xT : (xT f Γ S).sat Pb E = (f Γ S).sat (fun d S1 => trP Pb S1 (tru d S1)) E := by
  unfold xT; rw [satq_bind_eq]; congr 1; funext d S1; cases tru d S1 <;> rfl
@[simp] theorem satq_xAndT : (xAndT t u Γ S).sat Pb E = (t Γ S).sat (fun b S1 => if b = true then (u Γ S1).sat Pb E else Pb false S1) E := by
  unfold xAndT; rw [satq_bind_eq]; congr 1; funext b S1; rw [satq_ite]; rfl
@[simp] theorem satq_xOrT : (xOrT t u Γ S).sat Pb E = (t Γ S).sat (fun b S1 => if b = true then Pb true S1 else (u Γ S1).sat Pb E) E := by
  unfold xOrT; rw [satq_bind_eq]; congr 1; funext b S1; rw [satq_ite]; rfl
@[simp] theorem satq_xNotT : (xNotT t Γ S).sat Pb E = (t Γ S).sat (fun b S1 => Pb (!b) S1) E := by unfold xNotT; rw [satq_bind_eq]; rfl
@[simp] theorem satq_xAnd : (xAnd f g Γ S).sat Pd E = (f Γ S).sat (fun d S1 => trP (fun b S1 => if b = true then (g Γ S1).sat Pd E else Pd d S1) S1 (tru d S1)) E := by
  unfold xAnd; rw [satq_bind_eq]; congr 1; funext d S1
  cases tru d S1 with
  | none => rfl
  | some b => cases b <;> rfl
@[simp] theorem satq_xOr : (xOr f g Γ S).sat Pd E = (f Γ S).sat (fun d S1 => trP (fun b S1 => if b = true then Pd d S1 else (g Γ S1).sat Pd E) S1 (tru d S1)) E := by
  unfold xOr; rw [satq_bind_eq]; congr 1; funext d S1
  cases tru d S1 with
  | none => rfl
  | some b => cases b <;> rfl
@[simp] theorem satq_xNot : (xNot f Γ S).sat Pd E = (f Γ S).sat (fun d S1 => trP (fun b S1 => Pd (.bl (!b)) S1) S1 (tru d S1)) E := by
  unfold xNot; rw [satq_bind_eq]; congr 1; funext d S1
  cases tru d S1 <;> rfl
@[simp] theorem satq_xIf : (xIf t f g Γ S).sat Pd E = (t Γ S).sat (fun b S1 => if b = true then (f Γ S1).sat Pd E else (g Γ S1).sat Pd E) E := by
  unfold xIf; rw [satq_bind_eq]; congr 1; funext b S1; rw [satq_ite]
variable {Pl : List D → Sto → Prop}
@[simp] theorem satq_xNil : (xNil Γ S).sat Pl E = Pl [] S := id rfl
@[simp] theorem satq_xCons : (xCons f a Γ S).sat Pl E = (f Γ S).sat (fun d S1 => (a Γ S1).sat (fun ds S2 => Pl (d :: ds) S2) E) E := by simp [xCons]
@[simp] theorem satq_xTup : (xTup a Γ S).sat Pd E = (a Γ S).sat (fun ds S1 => ds.length ≤ sizeLine ∧ Pd (.tup ds) S1) E := by
  unfold xTup; rw [satq_bind_eq]; congr 1; funext ds S1; by_cases h : ds.length ≤ sizeLine <;> simp [h]
@[simp] theorem satq_xLst : (xLst a Γ S).sat Pd E = (a Γ S).sat (fun ds S1 => ds.length ≤ sizeLine ∧ Pd (.ref S1.length) (S1 ++ [.lst ds])) E := by
  unfold xLst; rw [satq_bind_eq]; congr 1; funext ds S1; by_cases h : ds.length ≤ sizeLine <;> simp [h]
@[simp] theorem satq_xChain {o o' : O2} : (xChain o o' f g k Γ S).sat Pd E = (f Γ S).sat (fun x S1 => (g Γ S1).sat (fun y S2 => ofP (fun z S3 => blP (fun b S3 => if b = true then (k Γ S3).sat (fun w S4 => ofP Pd (o' y w S4)) E else Pd (.bl false) S3) S3 z) (o x y S2)) E) E := by
  unfold xChain
  simp only [satq_bind_eq, satq_of_eq]
  congr 1; funext x S1; congr 1; funext y S2
  cases o x y S2 with
  | none => rfl
  | some z =>
    obtain ⟨z, S3⟩ := z
    cases z with
    | bl b =>
      cases b with
      | true => simp
      | false => rfl
    | _ => rfl
@[simp] theorem satq_xCall {ar : Nat} {F : Fn} : (xCall ar F a Γ S).sat Pd E = (a Γ S).sat (fun ds S1 => ds.length = ar ∧ (F ds S1).sat Pd E) E := by
  unfold xCall; rw [satq_bind_eq]; congr 1; funext ds S1; by_cases h : ds.length = ar <;> simp [h]
@[simp] theorem satq_xCB {o : OL} : (xCB o a Γ S).sat Pd E = (a Γ S).sat (fun ds S1 => ofP Pd (o ds S1)) E := by simp [xCB]
@[simp] theorem satq_xM0 {T : String} {o : OM} : (xM0 T o f Γ S).sat Pd E = (f Γ S).sat (fun d S1 => tyM T d S1 = true ∧ ofP Pd (o d [] S1)) E := by
  unfold xM0; rw [satq_bind_eq]; congr 1; funext d S1; by_cases h : tyM T d S1 = true <;> simp [h]
@[simp] theorem satq_xM {T : String} {o : OM} : (xM T o f a Γ S).sat Pd E = (f Γ S).sat (fun d S1 => tyM T d S1 = true ∧ (a Γ S1).sat (fun ds S2 => ofP Pd (o d ds S2)) E) E := by
  unfold xM; rw [satq_bind_eq]; congr 1; funext d S1; by_cases h : tyM T d S1 = true <;> simp [h]
def intP (P : Option Int → Sto → Prop) (S : Sto) : D → Prop
  | .int i => P (some i) S
  | _ => False
variable {Po : Option Int → Sto → Prop} {l h : XO}
@[simp] theorem intP_int (i : Int) : intP Po S (.int i) = Po (some i) S := id rfl
@[simp] theorem satq_xNoP : (xNoP Γ S).sat Po E = Po none S := id rfl
@[simp] theorem satq_xPart : (xPart f Γ S).sat Po E = (f Γ S).sat (fun d S1 => intP Po S1 d) E := by
  unfold xPart; rw [satq_bind_eq]; congr 1; funext d S1; cases d <;> rfl
@[simp] theorem satq_xSl {o : OS} : (xSl o f l h Γ S).sat Pd E = (f Γ S).sat (fun x S1 => (l Γ S1).sat (fun lo S2 => (h Γ S2).sat (fun hi S3 => ofP Pd (o x lo hi S3)) E) E) E := by simp [xSl]

/-! statements -/
@[simp] theorem stq_xSkip : (xSkip Γ S).st0 Q = Q (.nx Γ S) := id rfl
@[simp] theorem stq_xBrk : (xBrk Γ S).st0 Q = Q (.bk Γ S) := id rfl
@[simp] theorem stq_xCnt : (xCnt Γ S).st0 Q = Q (.ct Γ S) := id rfl
@[simp] theorem stq_xDrop : (xDrop f Γ S).st0 Q = (f Γ S).sat (fun _ S1 => Q (.nx Γ S1)) (fun x S => Q (.ex x Γ S)) := by simp [xDrop]
@[simp] theorem stq_xRet : (xRet f Γ S).st0 Q = (f Γ S).sat (fun d S1 => Q (.rt d S1)) (fun x S => Q (.ex x Γ S)) := by simp [xRet]
@[simp] theorem stq_xRetN : (xRetN Γ S).st0 Q = Q (.rt .non S) := id rfl
@[simp] theorem stq_xIfS : (xIfS t F G Γ S).st0 Q = (t Γ S).sat (fun b S1 => if b = true then (F Γ S1).st0 Q else (G Γ S1).st0 Q) (fun x S => Q (.ex x Γ S)) := by
  unfold xIfS; rw [stq_then]; congr 1; funext b S1; rw [stq_ite]
def tgP (Q : RS → Prop) : Option (Gam × Sto) → Prop
  | some z => Q (.nx z.1 z.2)
  | none => False
@[simp] theorem tgP_some (z : Gam × Sto) : tgP Q (some z) = Q (.nx z.1 z.2) := id rfl
@[simp] theorem tgP_none : tgP Q none = False := id rfl
@[simp] theorem stq_xAsg {x : XG} : (xAsg f x Γ S).st0 Q = (f Γ S).sat (fun d S1 => tgP Q (x d Γ S1)) (fun x S => Q (.ex x Γ S)) := by
  unfold xAsg; rw [stq_then]; congr 1; funext d S1
  cases x d Γ S1 <;> rfl
@[simp] theorem g_gVar {i : Nat} {d : D} : gVar i d Γ S = if i < Γ.length then some (Γ.set i (some d), S) else none := id rfl
@[simp] theorem g_gNil : gNil [] Γ S = some (Γ, S) := id rfl
@[simp] theorem g_gCons {x : XG} {xs : XGs} {d : D} {ds : List D} : gCons x xs (d :: ds) Γ S = (x d Γ S).bind fun q => xs ds q.1 q.2 := id rfl
@[simp] theorem g_gTup {n : Nat} {xs : XGs} {ds : List D} : gTup n xs (.tup ds) Γ S = if ds.length = n then xs ds Γ S else none := id rfl
def augP (Q : RS → Prop) (Γ : Gam) (i : Nat) : Option (D × Sto) → Prop
  | some z => Q (.nx (Γ.set i (some z.1)) z.2)
  | none => False
@[simp] theorem augP_some (z : D × Sto) {i : Nat} : augP Q Γ i (some z) = Q (.nx (Γ.set i (some z.1)) z.2) := id rfl
@[simp] theorem augP_none {i : Nat} : augP Q Γ i none = False := id rfl
@[simp] theorem stq_xAug {i : Nat} {o : O2} : (xAug i o f Γ S).st0 Q = varP (fun x S => (f Γ S).sat (fun y S1 => augP Q Γ i (o x y S1)) (fun x S => Q (.ex x Γ S))) S Γ[i]? := by
  unfold xAug
  cases Γ[i]? with
  | none => rfl
  | some o' =>
    cases o' with
    | none => rfl
    | some x =>
      simp only [varP_some, stq_then]
      congr 1; funext y S1
      cases o x y S1 <;> rfl
def parP (Q : RS → Prop) (Γ : Gam) (i j : Nat) (S : Sto) : List D → Prop
  | [x, y] => i < Γ.length ∧ j < Γ.length ∧ Q (.nx ((Γ.set i (some x)).set j (some y)) S)
  | _ => False
@[simp] theorem parP_two {i j : Nat} {x y : D} : parP Q Γ i j S [x, y] = (i < Γ.length ∧ j < Γ.length ∧ Q (.nx ((Γ.set i (some x)).set j (some y)) S)) := id rfl
@[simp] theorem stq_xPar {i j : Nat} : (xPar i j a Γ S).st0 Q = (a Γ S).sat (fun ds S1 => parP Q Γ i j S1 ds) (fun x S => Q (.ex x Γ S)) := by
  unfold xPar; rw [stq_then]; congr 1; funext ds S1
  match ds with
  | [] => rfl
  | [_] => rfl
  | [x, y] => by_cases h : i < Γ.length ∧ j < Γ.length <;> simp [h, parP] <;> intro h1 h2 <;> exact absurd ⟨h1, h2⟩ h
  | _ :: _ :: _ :: _ => rfl

/-! loops -/
def loopP (J : Gam → Sto → Prop) (Q : RS → Prop) : RS → Prop
  | .nx Γ S => J Γ S
  | .ct Γ S => J Γ S
  | .bk Γ S => Q (.nx Γ S)
  | r => Q r
variable {J : Gam → Sto → Prop}
@[simp] theorem loopP_nx : loopP J Q (.nx Γ S) = J Γ S := id rfl
@[simp] theorem loopP_ct : loopP J Q (.ct Γ S) = J Γ S := id rfl
@[simp] theorem loopP_bk : loopP J Q (.bk Γ S) = Q (.nx Γ S) := id rfl
@[simp] theorem loopP_rt (d : D) : loopP J Q (.rt d S) = Q (.rt d S) := id rfl
@[simp] theorem loopP_ex (x : Exn) : loopP J Q (.ex x Γ S) = Q (.ex x Γ S) := id rfl
theorem forL_inv0 {x : XG} {B : XS} {live : Sto → Prop} : ∀ (items : List D) (I : List D → Gam → Sto → Prop) {Γ : Gam} {S : Sto},
    I items Γ S → (∀ ds Γ S, I ds Γ S → live S) →
    (∀ d ds Γ S, I (d :: ds) Γ S → ∃ z, x d Γ S = some z ∧ (B z.1 z.2).st0 (loopP (I ds) Q)) →
    (∀ Γ S, I [] Γ S → Q (.nx Γ S)) → (forL x B live items Γ S).st0 Q
  | [], I, Γ, S, h0, hl, hs, he => by
    unfold forL; rw [if_pos (hl _ _ _ h0)]; exact he _ _ h0
  | d :: ds, I, Γ, S, h0, hl, hs, he => by
    unfold forL; rw [if_pos (hl _ _ _ h0)]
    obtain ⟨z, hz, hb⟩ := hs _ _ _ _ h0
    rw [hz]
    show (match B z.1 z.2 with | .nx Γ2 S2 => forL x B live ds Γ2 S2 | .ct Γ2 S2 => forL x B live ds Γ2 S2 | .bk Γ2 S2 => .nx Γ2 S2 | .rt d S2 => .rt d S2 | .ex x Γ2 S2 => .ex x Γ2 S2 | .err => .err : RS).st0 Q
    cases e : B z.1 z.2 with
    | nx Γ2 S2 => rw [e] at hb; exact forL_inv0 ds I hb hl hs he
    | ct Γ2 S2 => rw [e] at hb; exact forL_inv0 ds I hb hl hs he
    | bk Γ2 S2 => rw [e] at hb; exact hb
    | rt d S2 => rw [e] at hb; exact hb
    | ex x Γ2 S2 => rw [e] at hb; exact hb
    | err => rw [e] at hb; exact hb
@[simp] theorem stq_xFor {it : XI} {x : XG} {B : XS} : (xFor it x B Γ S).st0 Q = (it Γ S).sat (fun q S1 => (forL x B q.live q.items Γ S1).st0 Q) (fun x S => Q (.ex x Γ S)) := by simp [xFor]
def itP (P : ItD → Sto → Prop) (S : Sto) : Option ItD → Prop
  | some q => P q S
  | none => False
variable {Pi : ItD → Sto → Prop}
@[simp] theorem itP_some (q : ItD) : itP Pi S (some q) = Pi q S := id rfl
@[simp] theorem itP_none : itP Pi S none = False := id rfl
@[simp] theorem satq_xIt : (xIt f Γ S).sat Pi E = (f Γ S).sat (fun d S1 => itP Pi S1 (itOf d S1)) E := by
  unfold xIt; rw [satq_bind_eq]; congr 1; funext d S1; cases itOf d S1 <;> rfl

/-! comprehensions -/
theorem lcF_inv0 {c : XC} {live : Sto → Prop} {n : Nat} {t : XB} {f : XE} {Γ : Gam} {P : Unit → Sto → Prop} {E : Exn → Sto → Prop} : ∀ (items : List D) (I : List D → List D → Sto → Prop) {acc : List D} {S : Sto},
    I items acc S → (∀ ds acc S, I ds acc S → live S) →
    (∀ d ds acc S, I (d :: ds) acc S → ∃ Γ1, c d Γ = some Γ1 ∧ (t Γ1 S).sat (fun b S2 => if b = true then (f Γ1 S2).sat (fun y S3 => S3[n]? = some (.lst acc) ∧ acc.length < sizeLine ∧ I ds (acc ++ [y]) (S3.set n (.lst (acc ++ [y])))) (fun _ _ => False) else I ds acc S2) (fun _ _ => False)) →
    (∀ acc S, I [] acc S → P () S) → (lcF c t f live n Γ items S).sat P E
  | [], I, acc, S, h0, hl, hs, he => by
    unfold lcF; rw [if_pos (hl _ _ _ h0)]; exact he _ _ h0
  | d :: ds, I, acc, S, h0, hl, hs, he => by
    unfold lcF; rw [if_pos (hl _ _ _ h0)]
    obtain ⟨Γ1, h1, h2⟩ := hs _ _ _ _ h0
    simp only [h1]
    cases e : t Γ1 S with
    | err => rw [e] at h2; exact h2.elim
    | ex x S2 => rw [e] at h2; exact h2.elim
    | ok b S2 =>
      rw [e] at h2
      cases b with
      | false => exact lcF_inv0 ds I (acc := acc) h2 hl hs he
      | true =>
        simp only [satq_ok, if_true] at h2
        simp only
        cases e2 : f Γ1 S2 with
        | err => rw [e2] at h2; exact h2.elim
        | ex x S3 => rw [e2] at h2; exact h2.elim
        | ok y S3 =>
          rw [e2] at h2
          obtain ⟨h3, h4, h5⟩ := h2
          simp only [h3, if_pos h4]
          exact lcF_inv0 ds I (acc := acc ++ [y]) h5 hl hs he
@[simp] theorem satq_xLc {it : XI} {c : XC} {vs : List Nat} : (xLc it c t f vs Γ S).sat Pd E = (it Γ S).sat (fun q S1 => (lcF c t f q.live S1.length (wipeG Γ vs) q.items (S1 ++ [.lst []])).sat (fun _ S2 => Pd (.ref S1.length) S2) E) E := by simp [xLc]
@[simp] theorem satq_xItA {o : List D → Option ItD} : (xItA o a Γ S).sat Pi E = (a Γ S).sat (fun ds S1 => itP Pi S1 (o ds)) E := by
  unfold xItA; rw [satq_bind_eq]; congr 1; funext d S1; cases o d <;> rfl
@[simp] theorem satq_xYes : (xYes Γ S).sat Pb E = Pb true S := id rfl
end
/-! ### what stays in the store -/
/-- nothing but ws is touched -/
structure Kx (ws : List Nat) (S S' : Sto) : Prop where
  len : S.length ≤ S'.length
  at' : ∀ i o, i ∉ ws → S[i]? = some o → S'[i]? = some o
abbrev Kp (S S' : Sto) : Prop := Kx [] S S'
section
variable {ws vs : List Nat} {S S' S2 : Sto} {o : DO} {i n : Nat}
theorem Kx.refl (ws : List Nat) (S : Sto) : Kx ws S S := ⟨Nat.le_refl _, fun _ _ _ h => h⟩
theorem Kx.trans (h : Kx ws S S') (h' : Kx ws S' S2) : Kx ws S S2 := ⟨Nat.le_trans h.len h'.len, fun i o hi e => h'.at' i o hi (h.at' i o hi e)⟩
theorem Kx.mono (h : Kx ws S S') (hw : ∀ i ∈ ws, i ∈ vs) : Kx vs S S' := ⟨h.len, fun i o hi e => h.at' i o (fun q => hi (hw i q)) e⟩
theorem Kx.of0 (h : Kp S S') : Kx ws S S' := h.mono (by simp)
theorem Kx.get (h : Kp S S') (e : S[i]? = some o) : S'[i]? = some o := h.at' i o (by simp) e
theorem Kx.app (ws : List Nat) (S T : Sto) : Kx ws S (S ++ T) := ⟨by simp, fun i o _ e => by
  rw [List.getElem?_append_left (List.getElem?_eq_some_iff.mp e).1]; exact e⟩
theorem Kx.set (h : Kx ws S S') (hi : S.length ≤ i ∨ i ∈ ws) : Kx ws S (S'.set i o) := ⟨by rw [List.length_set]; exact h.len, fun j x hj e => by
  have hl := (List.getElem?_eq_some_iff.mp e).1
  rw [List.getElem?_set_ne]
  · exact h.at' j x hj e
  · rintro rfl
    rcases hi with hi | hi
    · omega
    · exact hj hi⟩
/-- what a comprehension over items makes, where test and element are plain -/
theorem lc_pure0 {c : XC} {t : XB} {f : XE} {live : Sto → Prop} {Γ : Gam} {items : List D} {E : Exn → Sto → Prop} {P : Unit → Sto → Prop} (cb : D → Bool) (ev : D → D) (hz : items.length < sizeLine)
    (hl : ∀ S', Kp S S' → live S')
    (h : ∀ d ∈ items, ∃ Γ1, c d Γ = some Γ1 ∧ ∀ S', Kp S S' → (t Γ1 S').sat (fun b S2 => b = cb d ∧ Kp S' S2 ∧ (b = true → (f Γ1 S2).sat (fun y S3 => y = ev d ∧ Kp S2 S3) (fun _ _ => False))) (fun _ _ => False))
    (hp : ∀ S', Kp S S' → S'[S.length]? = some (.lst ((items.filter cb).map ev)) → P () S') :
    (lcF c t f live S.length Γ items (S ++ [.lst []])).sat P E := by
  refine lcF_inv0 items (fun ds acc S' => Kp S S' ∧ S'[S.length]? = some (.lst acc) ∧ acc.length + ds.length ≤ items.length ∧ (∀ d ∈ ds, d ∈ items) ∧ acc ++ (ds.filter cb).map ev = (items.filter cb).map ev) (acc := []) ⟨Kx.app _ _ _, by simp, by simp, fun _ h => h, rfl⟩ (fun ds acc S' q => hl S' q.1) ?_ ?_
  · rintro d ds acc S' ⟨k, e, hlen, hm, hacc⟩
    obtain ⟨Γ1, h1, h2⟩ := h d (hm d List.mem_cons_self)
    refine ⟨Γ1, h1, satq_mono (h2 S' k) ?_ fun _ _ z => z⟩
    rintro b S2 ⟨rfl, k2, h3⟩
    rw [List.length_cons] at hlen
    by_cases hb : cb d = true
    · rw [if_pos hb]
      refine satq_mono (h3 hb) ?_ fun _ _ z => z
      rintro y S3 ⟨rfl, k3⟩
      have kk := k.trans (k2.trans k3)
      have e3 : S3[S.length]? = some (.lst acc) := (k2.trans k3).get e
      have hlt := (List.getElem?_eq_some_iff.mp e3).1
      refine ⟨e3, by omega, Kx.set kk (.inl (Nat.le_refl _)), ?_, ?_, fun d hd => hm d (List.mem_cons_of_mem _ hd), ?_⟩
      · rw [List.getElem?_set_self hlt]
      · rw [List.length_append, List.length_singleton]; omega
      · rw [← hacc, List.filter_cons_of_pos hb]; simp
    · rw [if_neg hb]
      exact ⟨k.trans k2, k2.get e, by omega, fun d hd => hm d (List.mem_cons_of_mem _ hd), by rw [← hacc, List.filter_cons_of_neg hb]⟩
  · rintro acc S' ⟨k, e, _, _, hacc⟩
    simp only [List.filter_nil, List.map_nil, List.append_nil] at hacc
    rw [hacc] at e
    exact hp S' k e
end
end Dx
namespace Dx
open PySem PySem.Spec PyProof.Rows
@[irreducible] def R.wp {α : Type} (r : R α) (P : α → Sto → Prop) (E : Exn → Sto → Prop) : Prop := r.sat P E
theorem wp_def {α : Type} (r : R α) (P : α → Sto → Prop) (E : Exn → Sto → Prop) : r.wp P E = r.sat P E := by rw [R.wp]
@[irreducible] def RS.ws (r : RS) (Q : RS → Prop) : Prop := r.st0 Q
theorem ws_def (r : RS) (Q : RS → Prop) : r.ws Q = r.st0 Q := by rw [RS.ws]
/-! ### what a computation comes to, as equations for simp -/
section
variable {α β : Type} {P : α → Sto → Prop} {E : Exn → Sto → Prop} {S : Sto} {Γ : Gam}
@[simp] theorem sat_ok (a : α) : (R.ok a S).wp P E = P a S := by simp only [wp_def, ws_def]; first | exact satq_ok | exact satq_ok _
@[simp] theorem sat_ex (x : Exn) : (R.ex x S : R α).wp P E = E x S := by simp only [wp_def, ws_def]; first | exact satq_ex | exact satq_ex _
@[simp] theorem sat_err : (R.err : R α).wp P E = False := by simp only [wp_def, ws_def]; first | exact satq_err | exact satq_err _
@[simp] theorem sat_bind_eq {r : R α} {k : α → Sto → R β} {Q : β → Sto → Prop} : (r.bind k).wp Q E = r.wp (fun a S => (k a S).wp Q E) E := by simp only [wp_def, ws_def]; first | exact satq_bind_eq | exact satq_bind_eq _
theorem sat_ite {c : Prop} [Decidable c] {r q : R α} : (if c then r else q).wp P E = if c then r.wp P E else q.wp P E := by simp only [wp_def, ws_def]; first | exact satq_ite | exact satq_ite _
@[simp] theorem sat_of_eq {o : Option (α × Sto)} : (R.of o).wp P E = ofP P o := by simp only [wp_def, ws_def]; first | exact satq_of_eq | exact satq_of_eq _
theorem sat_mono {r : R α} {P' : α → Sto → Prop} {E' : Exn → Sto → Prop} (h : r.wp P E) (hP : ∀ a S, P a S → P' a S) (hE : ∀ x S, E x S → E' x S) : r.wp P' E' := by
  rw [wp_def] at h ⊢; exact satq_mono h hP hE
variable {Q : RS → Prop}
@[simp] theorem st_nx : (RS.nx Γ S).ws Q = Q (.nx Γ S) := by simp only [wp_def, ws_def]; first | exact stq_nx | exact stq_nx _
@[simp] theorem st_rt (d : D) : (RS.rt d S).ws Q = Q (.rt d S) := by simp only [wp_def, ws_def]; first | exact stq_rt | exact stq_rt _
@[simp] theorem st_bk : (RS.bk Γ S).ws Q = Q (.bk Γ S) := by simp only [wp_def, ws_def]; first | exact stq_bk | exact stq_bk _
@[simp] theorem st_ct : (RS.ct Γ S).ws Q = Q (.ct Γ S) := by simp only [wp_def, ws_def]; first | exact stq_ct | exact stq_ct _
@[simp] theorem st_ex (x : Exn) : (RS.ex x Γ S).ws Q = Q (.ex x Γ S) := by simp only [wp_def, ws_def]; first | exact stq_ex | exact stq_ex _
@[simp] theorem st_err : RS.err.ws Q = False := by simp only [wp_def, ws_def]; first | exact stq_err | exact stq_err _
theorem st_ite {c : Prop} [Decidable c] {r q : RS} : (if c then r else q).ws Q = if c then r.ws Q else q.ws Q := by simp only [wp_def, ws_def]; first | exact stq_ite | exact stq_ite _
theorem st_mono {r : RS} {Q' : RS → Prop} (h : r.ws Q) (hq : ∀ r, Q r → Q' r) : r.ws Q' := by
  rw [ws_def] at h ⊢; exact stq_mono h hq
@[simp] theorem st_then {r : R α} {k : α → Sto → RS} : (r.then Γ k).ws Q = r.wp (fun a S => (k a S).ws Q) (fun x S => Q (.ex x Γ S)) := by simp only [wp_def, ws_def]; first | exact stq_then | exact stq_then _
def seqP (G : XS) (Q : RS → Prop) : RS → Prop
  | .nx Γ S => (G Γ S).ws Q
  | r => Q r
variable {G F : XS}
@[simp] theorem seqP_nx : seqP G Q (.nx Γ S) = (G Γ S).ws Q := rfl
@[simp] theorem seqP_rt (d : D) : seqP G Q (.rt d S) = Q (.rt d S) := rfl
@[simp] theorem seqP_bk : seqP G Q (.bk Γ S) = Q (.bk Γ S) := rfl
@[simp] theorem seqP_ct : seqP G Q (.ct Γ S) = Q (.ct Γ S) := rfl
@[simp] theorem seqP_ex (x : Exn) : seqP G Q (.ex x Γ S) = Q (.ex x Γ S) := rfl
@[simp] theorem st_xSeq : (xSeq F G Γ S).ws Q = (F Γ S).ws (seqP G Q) := by
  have e : seqP G Q = seqP0 G Q := by funext r; cases r <;> simp only [seqP, seqP0, ws_def]
  rw [ws_def, ws_def, e]; exact stq_xSeq
variable {Pd : D → Sto → Prop}
theorem sat_bodyF {N : Nat} {B : XS} {ds : List D} : (bodyF N B ds S).wp Pd E = (B (ds.map some ++ List.replicate (N - ds.length) none) S).ws (endP Pd E) := by simp only [wp_def, ws_def]; first | exact satq_bodyF | exact satq_bodyF _
@[simp] theorem sat_body0 {N : Nat} {B : XS} : (bodyF N B [] S).wp Pd E = (B (List.replicate N none) S).ws (endP Pd E) := by simp only [wp_def, ws_def]; first | exact satq_body0 | exact satq_body0 _
/-! expressions -/
variable {f g k : XE} {t u : XB} {a : XA}
@[simp] theorem sat_xVar {i : Nat} : (xVar i Γ S).wp Pd E = varP Pd S Γ[i]? := by simp only [wp_def, ws_def]; first | exact satq_xVar | exact satq_xVar _
@[simp] theorem sat_xC {d : D} : (xC d Γ S).wp Pd E = Pd d S := by simp only [wp_def, ws_def]; first | exact satq_xC | exact satq_xC _
@[simp] theorem sat_xOp {o : O2} : (xOp o f g Γ S).wp Pd E = (f Γ S).wp (fun x S1 => (g Γ S1).wp (fun y S2 => ofP Pd (o x y S2)) E) E := by simp only [wp_def, ws_def]; first | exact satq_xOp | exact satq_xOp _
@[simp] theorem sat_xUn {o : O1} : (xUn o f Γ S).wp Pd E = (f Γ S).wp (fun x S1 => ofP Pd (o x S1)) E := by simp only [wp_def, ws_def]; first | exact satq_xUn | exact satq_xUn _
variable {Pb : Bool → Sto → Prop}
@[simp] theorem sat_xTB : (xTB f Γ S).wp Pb E = (f Γ S).wp (fun d S1 => blP Pb S1 d) E := by simp only [wp_def, ws_def]; first | exact satq_xTB | exact satq_xTB _
@[simp] theorem sat_xT : (xT f Γ S).wp Pb E = (f Γ S).wp (fun d S1 => trP Pb S1 (tru d S1)) E := by simp only [wp_def, ws_def]; first | exact satq_xT | exact satq_xT _
@[simp] theorem sat_xAndT : (xAndT t u Γ S).wp Pb E = (t Γ S).wp (fun b S1 => if b = true then (u Γ S1).wp Pb E else Pb false S1) E := by simp only [wp_def, ws_def]; first | exact satq_xAndT | exact satq_xAndT _
@[simp] theorem sat_xOrT : (xOrT t u Γ S).wp Pb E = (t Γ S).wp (fun b S1 => if b = true then Pb true S1 else (u Γ S1).wp Pb E) E := by simp only [wp_def, ws_def]; first | exact satq_xOrT | exact satq_xOrT _
@[simp] theorem sat_xNotT : (xNotT t Γ S).wp Pb E = (t Γ S).wp (fun b S1 => Pb (!b) S1) E := by simp only [wp_def, ws_def]; first | exact satq_xNotT | exact satq_xNotT _
@[simp] theorem sat_xAnd : (xAnd f g Γ S).wp Pd E = (f Γ S).wp (fun d S1 => trP (fun b S1 => if b = true then (g Γ S1).wp Pd E else Pd d S1) S1 (tru d S1)) E := by simp only [wp_def, ws_def]; first | exact satq_xAnd | exact satq_xAnd _
@[simp] theorem sat_xOr : (xOr f g Γ S).wp Pd E = (f Γ S).wp (fun d S1 => trP (fun b S1 => if b = true then Pd d S1 else (g Γ S1).wp Pd E) S1 (tru d S1)) E := by simp only [wp_def, ws_def]; first | exact satq_xOr | exact satq_xOr _
@[simp] theorem sat_xNot : (xNot f Γ S).wp Pd E = (f Γ S).wp (fun d S1 => trP (fun b S1 => Pd (.bl (!b)) S1) S1 (tru d S1)) E := by simp only [wp_def, ws_def]; first | exact satq_xNot | exact satq_xNot _
@[simp] theorem sat_xIf : (xIf t f g Γ S).wp Pd E = (t Γ S).wp (fun b S1 => if b = true then (f Γ S1).wp Pd E else (g Γ S1).wp Pd E) E := by simp only [wp_def, ws_def]; first | exact satq_xIf | exact satq_xIf _
variable {Pl : List D → Sto → Prop}
@[simp] theorem sat_xNil : (xNil Γ S).wp Pl E = Pl [] S := by simp only [wp_def, ws_def]; first | exact satq_xNil | exact satq_xNil _
@[simp] theorem sat_xCons : (xCons f a Γ S).wp Pl E = (f Γ S).wp (fun d S1 => (a Γ S1).wp (fun ds S2 => Pl (d :: ds) S2) E) E := by simp only [wp_def, ws_def]; first | exact satq_xCons | exact satq_xCons _
@[simp] theorem sat_xTup : (xTup a Γ S).wp Pd E = (a Γ S).wp (fun ds S1 => ds.length ≤ sizeLine ∧ Pd (.tup ds) S1) E := by simp only [wp_def, ws_def]; first | exact satq_xTup | exact satq_xTup _
@[simp] theorem sat_xLst : (xLst a Γ S).wp Pd E = (a Γ S).wp (fun ds S1 => ds.length ≤ sizeLine ∧ Pd (.ref S1.length) (S1 ++ [.lst ds])) E := by simp only [wp_def, ws_def]; first | exact satq_xLst | exact satq_xLst _
@[simp] theorem sat_xChain {o o' : O2} : (xChain o o' f g k Γ S).wp Pd E = (f Γ S).wp (fun x S1 => (g Γ S1).wp (fun y S2 => ofP (fun z S3 => blP (fun b S3 => if b = true then (k Γ S3).wp (fun w S4 => ofP Pd (o' y w S4)) E else Pd (.bl false) S3) S3 z) (o x y S2)) E) E := by simp only [wp_def, ws_def]; first | exact satq_xChain | exact satq_xChain _
@[simp] theorem sat_xCall {ar : Nat} {F : Fn} : (xCall ar F a Γ S).wp Pd E = (a Γ S).wp (fun ds S1 => ds.length = ar ∧ (F ds S1).wp Pd E) E := by simp only [wp_def, ws_def]; first | exact satq_xCall | exact satq_xCall _
@[simp] theorem sat_xCB {o : OL} : (xCB o a Γ S).wp Pd E = (a Γ S).wp (fun ds S1 => ofP Pd (o ds S1)) E := by simp only [wp_def, ws_def]; first | exact satq_xCB | exact satq_xCB _
@[simp] theorem sat_xM0 {T : String} {o : OM} : (xM0 T o f Γ S).wp Pd E = (f Γ S).wp (fun d S1 => tyM T d S1 = true ∧ ofP Pd (o d [] S1)) E := by simp only [wp_def, ws_def]; first | exact satq_xM0 | exact satq_xM0 _
@[simp] theorem sat_xM {T : String} {o : OM} : (xM T o f a Γ S).wp Pd E = (f Γ S).wp (fun d S1 => tyM T d S1 = true ∧ (a Γ S1).wp (fun ds S2 => ofP Pd (o d ds S2)) E) E := by simp only [wp_def, ws_def]; first | exact satq_xM | exact satq_xM _
variable {Po : Option Int → Sto → Prop} {l h : XO}
@[simp] theorem sat_xNoP : (xNoP Γ S).wp Po E = Po none S := by simp only [wp_def, ws_def]; first | exact satq_xNoP | exact satq_xNoP _
@[simp] theorem sat_xPart : (xPart f Γ S).wp Po E = (f Γ S).wp (fun d S1 => intP Po S1 d) E := by simp only [wp_def, ws_def]; first | exact satq_xPart | exact satq_xPart _
@[simp] theorem sat_xSl {o : OS} : (xSl o f l h Γ S).wp Pd E = (f Γ S).wp (fun x S1 => (l Γ S1).wp (fun lo S2 => (h Γ S2).wp (fun hi S3 => ofP Pd (o x lo hi S3)) E) E) E := by simp only [wp_def, ws_def]; first | exact satq_xSl | exact satq_xSl _
/-! statements -/
@[simp] theorem st_xSkip : (xSkip Γ S).ws Q = Q (.nx Γ S) := by simp only [wp_def, ws_def]; first | exact stq_xSkip | exact stq_xSkip _
@[simp] theorem st_xBrk : (xBrk Γ S).ws Q = Q (.bk Γ S) := by simp only [wp_def, ws_def]; first | exact stq_xBrk | exact stq_xBrk _
@[simp] theorem st_xCnt : (xCnt Γ S).ws Q = Q (.ct Γ S) := by simp only [wp_def, ws_def]; first | exact stq_xCnt | exact stq_xCnt _
@[simp] theorem st_xDrop : (xDrop f Γ S).ws Q = (f Γ S).wp (fun _ S1 => Q (.nx Γ S1)) (fun x S => Q (.ex x Γ S)) := by simp only [wp_def, ws_def]; first | exact stq_xDrop | exact stq_xDrop _
@[simp] theorem st_xRet : (xRet f Γ S).ws Q = (f Γ S).wp (fun d S1 => Q (.rt d S1)) (fun x S => Q (.ex x Γ S)) := by simp only [wp_def, ws_def]; first | exact stq_xRet | exact stq_xRet _
@[simp] theorem st_xRetN : (xRetN Γ S).ws Q = Q (.rt .non S) := by simp only [wp_def, ws_def]; first | exact stq_xRetN | exact stq_xRetN _
@[simp] theorem st_xIfS : (xIfS t F G Γ S).ws Q = (t Γ S).wp (fun b S1 => if b = true then (F Γ S1).ws Q else (G Γ S1).ws Q) (fun x S => Q (.ex x Γ S)) := by simp only [wp_def, ws_def]; first | exact stq_xIfS | exact stq_xIfS _
@[simp] theorem st_xAsg {x : XG} : (xAsg f x Γ S).ws Q = (f Γ S).wp (fun d S1 => tgP Q (x d Γ S1)) (fun x S => Q (.ex x Γ S)) := by simp only [wp_def, ws_def]; first | exact stq_xAsg | exact stq_xAsg _
@[simp] theorem st_xAug {i : Nat} {o : O2} : (xAug i o f Γ S).ws Q = varP (fun x S => (f Γ S).wp (fun y S1 => augP Q Γ i (o x y S1)) (fun x S => Q (.ex x Γ S))) S Γ[i]? := by simp only [wp_def, ws_def]; first | exact stq_xAug | exact stq_xAug _
@[simp] theorem st_xPar {i j : Nat} : (xPar i j a Γ S).ws Q = (a Γ S).wp (fun ds S1 => parP Q Γ i j S1 ds) (fun x S => Q (.ex x Γ S)) := by simp only [wp_def, ws_def]; first | exact stq_xPar | exact stq_xPar _
/-! loops -/
variable {J : Gam → Sto → Prop}
theorem forL_inv {x : XG} {B : XS} {live : Sto → Prop} : ∀ (items : List D) (I : List D → Gam → Sto → Prop) {Γ : Gam} {S : Sto},
    I items Γ S → (∀ ds Γ S, I ds Γ S → live S) →
    (∀ d ds Γ S, I (d :: ds) Γ S → ∃ z, x d Γ S = some z ∧ (B z.1 z.2).ws (loopP (I ds) Q)) →
    (∀ Γ S, I [] Γ S → Q (.nx Γ S)) → (forL x B live items Γ S).ws Q := by
  intro items I Γ S h0 hl hs he
  rw [ws_def]
  refine forL_inv0 items I h0 hl (fun d ds Γ S hi => ?_) he
  obtain ⟨z, h1, h2⟩ := hs d ds Γ S hi
  exact ⟨z, h1, by rw [ws_def] at h2; exact h2⟩
@[simp] theorem st_xFor {it : XI} {x : XG} {B : XS} : (xFor it x B Γ S).ws Q = (it Γ S).wp (fun q S1 => (forL x B q.live q.items Γ S1).ws Q) (fun x S => Q (.ex x Γ S)) := by simp only [wp_def, ws_def]; first | exact stq_xFor | exact stq_xFor _
variable {Pi : ItD → Sto → Prop}
@[simp] theorem sat_xIt : (xIt f Γ S).wp Pi E = (f Γ S).wp (fun d S1 => itP Pi S1 (itOf d S1)) E := by simp only [wp_def, ws_def]; first | exact satq_xIt | exact satq_xIt _
/-! comprehensions -/
theorem lcF_inv {c : XC} {live : Sto → Prop} {n : Nat} {t : XB} {f : XE} {Γ : Gam} {P : Unit → Sto → Prop} {E : Exn → Sto → Prop} : ∀ (items : List D) (I : List D → List D → Sto → Prop) {acc : List D} {S : Sto},
    I items acc S → (∀ ds acc S, I ds acc S → live S) →
    (∀ d ds acc S, I (d :: ds) acc S → ∃ Γ1, c d Γ = some Γ1 ∧ (t Γ1 S).wp (fun b S2 => if b = true then (f Γ1 S2).wp (fun y S3 => S3[n]? = some (.lst acc) ∧ acc.length < sizeLine ∧ I ds (acc ++ [y]) (S3.set n (.lst (acc ++ [y])))) (fun _ _ => False) else I ds acc S2) (fun _ _ => False)) →
    (∀ acc S, I [] acc S → P () S) → (lcF c t f live n Γ items S).wp P E := by
  intro items I acc S h0 hl hs he
  rw [wp_def]
  refine lcF_inv0 items I h0 hl (fun d ds acc S hi => ?_) he
  obtain ⟨z, h1, h2⟩ := hs d ds acc S hi
  exact ⟨z, h1, by simp only [wp_def] at h2; exact h2⟩
@[simp] theorem sat_xLc {it : XI} {c : XC} {vs : List Nat} : (xLc it c t f vs Γ S).wp Pd E = (it Γ S).wp (fun q S1 => (lcF c t f q.live S1.length (wipeG Γ vs) q.items (S1 ++ [.lst []])).wp (fun _ S2 => Pd (.ref S1.length) S2) E) E := by simp only [wp_def, ws_def]; first | exact satq_xLc | exact satq_xLc _
@[simp] theorem sat_xItA {o : List D → Option ItD} : (xItA o a Γ S).wp Pi E = (a Γ S).wp (fun ds S1 => itP Pi S1 (o ds)) E := by simp only [wp_def, ws_def]; first | exact satq_xItA | exact satq_xItA _
@[simp] theorem sat_xYes : (xYes Γ S).wp Pb E = Pb true S := by simp only [wp_def, ws_def]; first | exact satq_xYes | exact satq_xYes _
end
/-! ### what stays in the store -/
section
variable {ws vs : List Nat} {S S' S2 : Sto} {o : DO} {i n : Nat}
theorem lc_pure {c : XC} {t : XB} {f : XE} {live : Sto → Prop} {Γ : Gam} {items : List D} {E : Exn → Sto → Prop} {P : Unit → Sto → Prop} (cb : D → Bool) (ev : D → D) (hz : items.length < sizeLine)
    (hl : ∀ S', Kp S S' → live S')
    (h : ∀ d ∈ items, ∃ Γ1, c d Γ = some Γ1 ∧ ∀ S', Kp S S' → (t Γ1 S').wp (fun b S2 => b = cb d ∧ Kp S' S2 ∧ (b = true → (f Γ1 S2).wp (fun y S3 => y = ev d ∧ Kp S2 S3) (fun _ _ => False))) (fun _ _ => False))
    (hp : ∀ S', Kp S S' → S'[S.length]? = some (.lst ((items.filter cb).map ev)) → P () S') :
    (lcF c t f live S.length Γ items (S ++ [.lst []])).wp P E := by
  rw [wp_def]
  refine lc_pure0 cb ev hz hl (fun d hd => ?_) hp
  obtain ⟨z, h1, h2⟩ := h d hd
  exact ⟨z, h1, fun S2 k2 => by have h3 := h2 S2 k2; simp only [wp_def] at h3; exact h3⟩
end
end Dx
namespace Dx
open PySem PySem.Spec PyProof.Rows L2
noncomputable def B__law_cell : XS :=
    xSeq (xIfS (xTB (xOp oLt (xVar 1) (xCB oLen (xCons (xVar 0) xNil)))) (xRet (xOp oIx (xVar 0) (xVar 1))) xSkip)
    (xRet (xC (.int 0)))
noncomputable def B__law_digits (G__law_cell : Fn) : XS :=
    xSeq (xAsg (xLst xNil) (gVar 3))
    (xSeq (xFor (xRng2 (xCons (xVar 1) (xCons (xVar 2) xNil))) (gVar 4) (xSeq (xAsg (xCall 2 G__law_cell (xCons (xVar 0) (xCons (xVar 4) xNil))) (gVar 5))
    (xSeq (xIfS (xTB (xOp oLt (xVar 5) (xC (.int 0)))) (xAsg (xOp oSub (xC (.int 1)) (xOp oMul (xC (.int 2)) (xVar 5))) (gVar 5)) xSkip)
    (xSeq (xIfS (xTB (xOp oGt (xCB oLen (xCons (xVar 3) xNil)) (xC (.int 1500)))) xBrk xSkip)
    (xIfS (xTB (xOp oGe (xVar 5) (xOp oPow (xC (.int 10)) (xC (.int 18))))) (xFor (xRng1 (xCons (xC (.int 60)) xNil)) (gVar 6) (xIfS (xTB (xOp oGt (xVar 5) (xC (.int 0)))) (xSeq (xDrop (xM "list" mAppend (xVar 3) (xCons (xOp oMod (xCB oInt (xCons (xVar 5) xNil)) (xC (.int 1000))) xNil)))
    (xAsg (xOp oFdiv (xVar 5) (xC (.int 1000))) (gVar 5))) xSkip)) (xSeq (xAsg (xOp oMod (xCB oInt (xCons (xOp oAdd (xOp oAdd (xOp oMul (xVar 5) (xC (.int 48271))) (xOp oMul (xVar 4) (xC (.int 69621)))) (xC (.int 11))) xNil)) (xC (.int 2147483647))) (gVar 7))
    (xFor (xRng1 (xCons (xC (.int 12)) xNil)) (gVar 6) (xSeq (xAsg (xOp oMod (xCB oInt (xCons (xOp oAdd (xOp oAdd (xOp oMul (xVar 7) (xC (.int 16807))) (xOp oMul (xC (.int 7)) (xVar 6))) (xC (.int 1))) xNil)) (xC (.int 2147483647))) (gVar 7))
    (xDrop (xM "list" mAppend (xVar 3) (xCons (xOp oMod (xCB oInt (xCons (xOp oFdiv (xVar 7) (xC (.int 997))) xNil)) (xC (.int 1000))) xNil)))))))))))
    (xRet (xVar 3)))
noncomputable def B__law_draw : XS :=
    xSeq (xAsg (xOp oIx (xVar 0) (xC (.int 1))) (gVar 2))
    (xSeq (xAsg (xOp oAdd (xVar 2) (xC (.int 1))) (gSubL (xVar 0) (xC (.int 1))))
    (xSeq (xIfS (xTB (xOp oLt (xVar 2) (xCB oLen (xCons (xOp oIx (xVar 0) (xC (.int 0))) xNil)))) (xRet (xOp oMod (xCB oInt (xCons (xOp oIx (xOp oIx (xVar 0) (xC (.int 0))) (xVar 2)) xNil)) (xVar 1))) xSkip)
    (xRet (xOp oMod (xCB oInt (xCons (xOp oMul (xVar 2) (xC (.int 7))) xNil)) (xVar 1)))))
noncomputable def B__law_wide (G__law_draw : Fn) : XS :=
    xSeq (xAsg (xOp oAdd (xOp oAdd (xCall 2 G__law_draw (xCons (xVar 0) (xCons (xC (.int 1000)) xNil))) (xOp oMul (xC (.int 1000)) (xCall 2 G__law_draw (xCons (xVar 0) (xCons (xC (.int 1000)) xNil))))) (xOp oMul (xC (.int 1000000)) (xCall 2 G__law_draw (xCons (xVar 0) (xCons (xC (.int 1000)) xNil))))) (gVar 2))
    (xRet (xOp oMod (xCB oInt (xCons (xVar 2) xNil)) (xVar 1)))
noncomputable def B__law_like (G__law_like : Fn) : XS :=
    xSeq (xIfS (xT (xCB oIsi (xCons (xVar 1) (xCons (xC (.ty "tuple")) xNil)))) (xSeq (xIfS (xOrT (xNotT (xT (xCB oIsi (xCons (xVar 0) (xCons (xC (.ty "tuple")) xNil))))) (xTB (xOp oNe (xCB oLen (xCons (xVar 0) xNil)) (xCB oLen (xCons (xVar 1) xNil))))) (xRet (xC (.bl false))) xSkip)
    (xRet (xOp oEq (xLc (xRng1 (xCons (xCB oLen (xCons (xVar 1) xNil)) xNil)) (cVar 2) (xNotT (xT (xCall 2 G__law_like (xCons (xOp oIx (xVar 0) (xVar 2)) (xCons (xOp oIx (xVar 1) (xVar 2)) xNil))))) (xC (.int 1)) [2]) (xLst xNil)))) xSkip)
    (xSeq (xIfS (xTB (xOp oIs (xVar 1) (xC .non))) (xRet (xOp oIs (xVar 0) (xC .non))) xSkip)
    (xSeq (xIfS (xTB (xOp oIs (xVar 1) (xC (.bl true)))) (xRet (xOp oIs (xVar 0) (xC (.bl true)))) xSkip)
    (xSeq (xIfS (xTB (xOp oIs (xVar 1) (xC (.bl false)))) (xRet (xOp oIs (xVar 0) (xC (.bl false)))) xSkip)
    (xSeq (xIfS (xT (xCB oIsi (xCons (xVar 1) (xCons (xC (.ty "str")) xNil)))) (xRet (xAnd (xCB oIsi (xCons (xVar 0) (xCons (xC (.ty "str")) xNil))) (xOp oEq (xM "str" mJoin (xC (.str "")) (xCons (xLst (xCons (xVar 0) xNil)) xNil)) (xVar 1)))) xSkip)
    (xRet (xAnd (xCB oIsi (xCons (xVar 0) (xCons (xC (.ty "int")) xNil))) (xAnd (xNot (xCB oIsi (xCons (xVar 0) (xCons (xC (.ty "bool")) xNil)))) (xOp oEq (xVar 0) (xVar 1)))))))))
noncomputable def B_within : XS :=
    xRet (xAnd (xOp oIs (xCB oType (xCons (xVar 0) xNil)) (xC (.ty "int"))) (xChain oLe oLe (xVar 1) (xVar 0) (xVar 2)))
noncomputable def B_is_tuple : XS :=
    xRet (xAnd (xOp oIs (xCB oType (xCons (xVar 0) xNil)) (xC (.ty "tuple"))) (xOp oLe (xCB oLen (xCons (xVar 0) xNil)) (xVar 1)))
noncomputable def B_unlike : XS :=
    xRet (xOp oEq (xLenSet (xVar 0)) (xCB oLen (xCons (xVar 0) xNil)))
def g_LETTERS : Str := "abcdefghijklmnopqrstuvwxyz"
def g_SIGNS : Str := "abcdefghijklmnopqrstuvwxyz0123456789"
noncomputable def B_is_name : XS :=
    xRet (xAnd (xOp oIs (xCB oType (xCons (xVar 0) xNil)) (xC (.ty "str"))) (xAnd (xChain oLe oLe (xC (.int 1)) (xCB oLen (xCons (xVar 0) xNil)) (xC (.int 12))) (xAnd (xOp oIn (xOp oIx (xVar 0) (xC (.int 0))) (xC (.str g_LETTERS))) (xNot (xM "str" (mStr1 gStrip) (xVar 0) (xCons (xC (.str g_SIGNS)) xNil))))))
noncomputable def B_is_amount (G_within : Fn) : XS :=
    xRet (xAnd (xCall 3 G_within (xCons (xVar 0) (xCons (xUn oNeg (xC (.int 99999999))) (xCons (xC (.int 99999999)) xNil)))) (xOp oNe (xVar 0) (xC (.int 0))))
noncomputable def B_is_order (G_is_name G_is_day G_is_amount G_within : Fn) : XS :=
    xSeq (xIfS (xOrT (xTB (xOp oIsNot (xCB oType (xCons (xVar 0) xNil)) (xC (.ty "tuple")))) (xOrT (xTB (xOp oNe (xCB oLen (xCons (xVar 0) xNil)) (xC (.int 9)))) (xTB (xOp oNe (xOp oIx (xVar 0) (xC (.int 0))) (xC (.str "order")))))) (xRet (xC (.bl false))) xSkip)
    (xSeq (xAsg (xVar 0) (gTup 9 (gCons (gVar 1) (gCons (gVar 2) (gCons (gVar 3) (gCons (gVar 4) (gCons (gVar 5) (gCons (gVar 6) (gCons (gVar 7) (gCons (gVar 8) (gCons (gVar 9) gNil)))))))))))
    (xSeq (xIfS (xOrT (xNotT (xT (xCall 1 G_is_name (xCons (xVar 2) xNil)))) (xOrT (xNotT (xT (xCall 1 G_is_day (xCons (xVar 3) xNil)))) (xNotT (xT (xCall 1 G_is_amount (xCons (xVar 6) xNil)))))) (xRet (xC (.bl false))) xSkip)
    (xSeq (xIfS (xOrT (xNotT (xT (xCall 3 G_within (xCons (xVar 4) (xCons (xC (.int 1)) (xCons (xC (.int 999)) xNil)))))) (xOrT (xNotT (xT (xCall 3 G_within (xCons (xVar 5) (xCons (xC (.int 1)) (xCons (xC (.int 60)) xNil)))))) (xNotT (xT (xCall 3 G_within (xCons (xVar 9) (xCons (xC (.int 0)) (xCons (xC (.int 99)) xNil)))))))) (xRet (xC (.bl false))) xSkip)
    (xRet (xCB oAll (xCons (xLc (xIt (xTup (xCons (xVar 7) (xCons (xVar 8) xNil)))) (cVar 10) xYes (xOr (xOp oEq (xVar 10) (xC (.str ""))) (xCall 1 G_is_name (xCons (xVar 10) xNil))) [10]) xNil))))))
noncomputable def B__law_is_name : XS :=
    xRet (xAnd (xChain oLe oLe (xC (.int 1)) (xCB oLen (xCons (xVar 0) xNil)) (xC (.int 12))) (xAnd (xOp oEq (xLc (xIt (xVar 0)) (cVar 1) (xTB (xOp oNotIn (xVar 1) (xC (.str "abcdefghijklmnopqrstuvwxyz0123456789")))) (xVar 1) [1]) (xLst xNil)) (xOp oNotIn (xOp oIx (xVar 0) (xC (.int 0))) (xC (.str "0123456789")))))
noncomputable def B__law_is_whole : XS :=
    xRet (xAnd (xCB oIsi (xCons (xVar 0) (xCons (xC (.ty "int")) xNil))) (xAnd (xNot (xCB oIsi (xCons (xVar 0) (xCons (xC (.ty "bool")) xNil)))) (xChain oLe oLe (xVar 1) (xVar 0) (xVar 2))))
end Dx
namespace Dx
open PySem PySem.Spec PyProof.Rows
/-! ### operations on values of known kinds -/
section
variable {S : Sto} {i j : Int} {a b : Str} {x y : D} {ds es : List D} {n m : Nat}
@[simp] theorem sat_xLenSet {f : XE} {Γ : Gam} {Pd : D → Sto → Prop} {E : Exn → Sto → Prop} : (xLenSet f Γ S).wp Pd E = (f Γ S).wp (fun d S1 => ofP Pd (oLenSet d S1)) E := by simp [xLenSet]
@[simp] theorem oAdd_ii : oAdd (.int i) (.int j) S = some (.int (i + j), S) := id rfl
@[simp] theorem oSub_ii : oSub (.int i) (.int j) S = some (.int (i - j), S) := id rfl
@[simp] theorem oMul_ii : oMul (.int i) (.int j) S = if inB i || inB j then some (.int (i * j), S) else none := id rfl
@[simp] theorem oFdiv_ii : oFdiv (.int i) (.int j) S = if 0 < j ∧ j < 1073741824 then some (.int (i / j), S) else none := id rfl
@[simp] theorem oMod_ii : oMod (.int i) (.int j) S = if 0 < j then some (.int (i % j), S) else none := id rfl
@[simp] theorem oNeg_i : oNeg (.int i) S = some (.int (-i), S) := id rfl
@[simp] theorem oLt_ii : oLt (.int i) (.int j) S = some (.bl (decide (i < j)), S) := id rfl
@[simp] theorem oLe_ii : oLe (.int i) (.int j) S = some (.bl (decide (i ≤ j)), S) := id rfl
@[simp] theorem oGt_ii : oGt (.int i) (.int j) S = some (.bl (decide (j < i)), S) := id rfl
@[simp] theorem oGe_ii : oGe (.int i) (.int j) S = some (.bl (decide (j ≤ i)), S) := id rfl
@[simp] theorem oInt_i : oInt [.int i] S = some (.int i, S) := id rfl
@[simp] theorem oIx_ti : oIx (.tup ds) (.int i) S = (L2.atI ds i).map fun d => (d, S) := id rfl
@[simp] theorem oIx_qi : oIx (.sq ds) (.int i) S = (L2.atI ds i).map fun d => (d, S) := id rfl
theorem oIx_ri (h : S[n]? = some (.lst ds)) : oIx (.ref n) (.int i) S = (L2.atI ds i).map fun d => (d, S) := by simp only [oIx, h]
theorem oLen_r (h : S[n]? = some (.lst ds)) : oLen [.ref n] S = some (.int ds.length, S) := by simp only [oLen, seqOf, lstOf, h]; rfl
@[simp] theorem oLen_t : oLen [.tup ds] S = some (.int ds.length, S) := id rfl
@[simp] theorem oLen_q : oLen [.sq ds] S = some (.int ds.length, S) := id rfl
@[simp] theorem oLen_s : oLen [.str a] S = if a.length ≤ sizeLine then some (.int a.length, S) else none := id rfl
theorem atI_nat {α : Type} {l : List α} {k : Nat} {v : α} (h : l[k]? = some v) : L2.atI l (k : Int) = some v := by
  have hk := (List.getElem?_eq_some_iff.mp h).1
  unfold L2.atI L2.ixN
  rw [if_pos (by omega), if_pos (by omega)]
  simpa using h
theorem atI_lit {α : Type} {l : List α} {i : Int} {v : α} (h0 : 0 ≤ i) (h : l[i.toNat]? = some v) : L2.atI l i = some v := by
  obtain ⟨k, rfl⟩ : ∃ k : Nat, i = k := ⟨i.toNat, by omega⟩
  exact atI_nat (by simpa using h)
theorem atI_0 {α : Type} {a0 : α} {l : List α} : L2.atI (a0 :: l) 0 = some a0 := atI_lit (by decide) rfl
theorem atI_1 {α : Type} {a0 a1 : α} {l : List α} : L2.atI (a0 :: a1 :: l) 1 = some a1 := atI_lit (by decide) rfl
theorem atI_2 {α : Type} {a0 a1 a2 : α} {l : List α} : L2.atI (a0 :: a1 :: a2 :: l) 2 = some a2 := atI_lit (by decide) rfl
theorem atI_3 {α : Type} {a0 a1 a2 a3 : α} {l : List α} : L2.atI (a0 :: a1 :: a2 :: a3 :: l) 3 = some a3 := atI_lit (by decide) rfl
theorem atI_4 {α : Type} {a0 a1 a2 a3 a4 : α} {l : List α} : L2.atI (a0 :: a1 :: a2 :: a3 :: a4 :: l) 4 = some a4 := atI_lit (by decide) rfl
theorem atI_5 {α : Type} {a0 a1 a2 a3 a4 a5 : α} {l : List α} : L2.atI (a0 :: a1 :: a2 :: a3 :: a4 :: a5 :: l) 5 = some a5 := atI_lit (by decide) rfl
theorem atI_6 {α : Type} {a0 a1 a2 a3 a4 a5 a6 : α} {l : List α} : L2.atI (a0 :: a1 :: a2 :: a3 :: a4 :: a5 :: a6 :: l) 6 = some a6 := atI_lit (by decide) rfl
theorem atI_7 {α : Type} {a0 a1 a2 a3 a4 a5 a6 a7 : α} {l : List α} : L2.atI (a0 :: a1 :: a2 :: a3 :: a4 :: a5 :: a6 :: a7 :: l) 7 = some a7 := atI_lit (by decide) rfl
theorem atI_8 {α : Type} {a0 a1 a2 a3 a4 a5 a6 a7 a8 : α} {l : List α} : L2.atI (a0 :: a1 :: a2 :: a3 :: a4 :: a5 :: a6 :: a7 :: a8 :: l) 8 = some a8 := atI_lit (by decide) rfl
theorem atI_9 {α : Type} {a0 a1 a2 a3 a4 a5 a6 a7 a8 a9 : α} {l : List α} : L2.atI (a0 :: a1 :: a2 :: a3 :: a4 :: a5 :: a6 :: a7 :: a8 :: a9 :: l) 9 = some a9 := atI_lit (by decide) rfl
theorem atI_10 {α : Type} {a0 a1 a2 a3 a4 a5 a6 a7 a8 a9 a10 : α} {l : List α} : L2.atI (a0 :: a1 :: a2 :: a3 :: a4 :: a5 :: a6 :: a7 :: a8 :: a9 :: a10 :: l) 10 = some a10 := atI_lit (by decide) rfl
theorem atI_11 {α : Type} {a0 a1 a2 a3 a4 a5 a6 a7 a8 a9 a10 a11 : α} {l : List α} : L2.atI (a0 :: a1 :: a2 :: a3 :: a4 :: a5 :: a6 :: a7 :: a8 :: a9 :: a10 :: a11 :: l) 11 = some a11 := atI_lit (by decide) rfl
theorem atI_12 {α : Type} {a0 a1 a2 a3 a4 a5 a6 a7 a8 a9 a10 a11 a12 : α} {l : List α} : L2.atI (a0 :: a1 :: a2 :: a3 :: a4 :: a5 :: a6 :: a7 :: a8 :: a9 :: a10 :: a11 :: a12 :: l) 12 = some a12 := atI_lit (by decide) rfl
theorem atI_13 {α : Type} {a0 a1 a2 a3 a4 a5 a6 a7 a8 a9 a10 a11 a12 a13 : α} {l : List α} : L2.atI (a0 :: a1 :: a2 :: a3 :: a4 :: a5 :: a6 :: a7 :: a8 :: a9 :: a10 :: a11 :: a12 :: a13 :: l) 13 = some a13 := atI_lit (by decide) rfl
theorem atI_14 {α : Type} {a0 a1 a2 a3 a4 a5 a6 a7 a8 a9 a10 a11 a12 a13 a14 : α} {l : List α} : L2.atI (a0 :: a1 :: a2 :: a3 :: a4 :: a5 :: a6 :: a7 :: a8 :: a9 :: a10 :: a11 :: a12 :: a13 :: a14 :: l) 14 = some a14 := atI_lit (by decide) rfl
end
/-! ### the box of draws -/
/-- at b stands the box: the figures, and where the next is taken -/
def Box (b : Nat) (S : Sto) : Prop := ∃ (x : Nat) (ns : List Int) (k : Nat), x < b ∧ S[b]? = some (.lst [.ref x, .int k]) ∧ S[x]? = some (.lst (ns.map D.int))
section
variable {S S' : Sto} {b : Nat} {Pd : D → Sto → Prop} {E : Exn → Sto → Prop} {m : Int}
theorem Box.lt (h : Box b S) : b < S.length := by
  obtain ⟨x, ns, k, _, h1, _⟩ := h
  exact (List.getElem?_eq_some_iff.mp h1).1
theorem Box.keep (h : Box b S) (k : Kp S S') : Box b S' := by
  obtain ⟨x, ns, at', h0, h1, h2⟩ := h
  exact ⟨x, ns, at', h0, k.get h1, k.get h2⟩
noncomputable abbrev fDraw : Fn := bodyF 3 B__law_draw
theorem draw_spec (hb : Box b S) (hm : 0 < m) (h : ∀ v S', 0 ≤ v → v < m → Kx [b] S S' → Box b S' → Pd (.int v) S') : (fDraw [.ref b, .int m] S).wp Pd E := by
  obtain ⟨x, ns, k, hx, h1, h2⟩ := hb
  have h0 : x ≠ b := by omega
  have hl := (List.getElem?_eq_some_iff.mp h1).1
  have e1 : (S.set b (.lst [.ref x, .int (k + 1 : Nat)]))[b]? = some (.lst [.ref x, .int (k + 1 : Nat)]) := by rw [List.getElem?_set_self hl]
  have e2 : (S.set b (.lst [.ref x, .int (k + 1 : Nat)]))[x]? = some (.lst (ns.map D.int)) := by rw [List.getElem?_set_ne (Ne.symm h0)]; exact h2
  have fin : ∀ v, 0 ≤ v → v < m → Pd (.int v) (S.set b (.lst [.ref x, .int (k + 1 : Nat)])) := fun v v0 v1 => h v _ v0 v1 (Kx.set (Kx.refl _ _) (.inr (by simp))) ⟨x, ns, k + 1, hx, e1, e2⟩
  have hmod : ∀ u : Int, 0 ≤ u % m ∧ u % m < m := fun u => ⟨Int.emod_nonneg _ (by omega), Int.emod_lt_of_pos _ hm⟩
  have e3 : gSubL (xVar 0) (xC (.int 1)) (.int ((k : Int) + 1)) [some (.ref b), some (.int m), some (.int k)] S = some ([some (.ref b), some (.int m), some (.int k)], S.set b (.lst [.ref x, .int (k + 1 : Nat)])) := by
    simp [gSubL, xVar, xC, h1, L2.ixN]
  rw [sat_bodyF]
  unfold B__law_draw
  simp only [sat_ok, sat_ex, sat_err, sat_bind_eq, ofP_some, ofP_none, sat_of_eq, st_nx, st_rt, st_bk, st_ct, st_ex, st_err, st_then, seqP_nx, seqP_rt, seqP_bk, seqP_ct, seqP_ex, st_xSeq, endP_nx, endP_rt, endP_ex, endP_bk, endP_ct, varP_some, varP_none, varP_non, sat_xVar, sat_xC, sat_xOp, sat_xUn, blP_bl, sat_xTB, trP_some, trP_none, sat_xT, sat_xAndT, sat_xOrT, sat_xNotT, sat_xAnd, sat_xOr, sat_xNot, sat_xIf, sat_xNil, sat_xCons, sat_xTup, sat_xLst, sat_xChain, sat_xCall, sat_xCB, sat_xM0, sat_xM, intP_int, sat_xNoP, sat_xPart, sat_xSl, st_xSkip, st_xBrk, st_xCnt, st_xDrop, st_xRet, st_xRetN, st_xIfS, tgP_some, tgP_none, st_xAsg, g_gVar, g_gNil, g_gCons, g_gTup, augP_some, augP_none, st_xAug, parP_two, st_xPar, loopP_nx, loopP_ct, loopP_bk, loopP_rt, loopP_ex, st_xFor, itP_some, itP_none, sat_xIt, sat_xLc, sat_xItA, sat_xYes, sat_xLenSet, oAdd_ii, oSub_ii, oMul_ii, oFdiv_ii, oMod_ii, oNeg_i, oLt_ii, oLe_ii, oGt_ii, oGe_ii, oInt_i, oIx_ti, oIx_qi, oLen_t, oLen_q, oLen_s, atI_0, atI_1, atI_2, atI_3, atI_4, atI_5, atI_6, atI_7, atI_8, atI_9, atI_10, atI_11, atI_12, atI_13, atI_14, List.getElem?_cons_zero, List.getElem?_cons_succ, List.map_cons, List.map_nil, List.cons_append, List.nil_append, List.length_cons, List.length_nil, List.set_cons_zero, List.set_cons_succ, List.replicate, Option.map_some, Option.map_none, Option.bind_some, Option.bind_none, if_true, if_false, Nat.reduceAdd, Nat.reduceSub, Nat.reduceLT, Nat.reduceLeDiff, Nat.reduceEqDiff, Int.reduceLT, Int.reduceLE, Int.reduceNeg, Int.reduceEq, Bool.false_eq_true, Bool.true_eq_false, reduceIte, reduceCtorEq, Bool.not_true, Bool.not_false, decide_eq_true_eq, Nat.zero_lt_succ, and_true, true_and, and_self, and_false, false_and, oIx_ri h1, e3, oIx_ri e1, oLen_r e2]
  split
  · rename_i hk
    have hk' : k < ns.length := by rw [List.length_map] at hk; omega
    have e4 : L2.atI (ns.map D.int) (k : Int) = some (.int (ns[k])) := atI_nat (by rw [List.getElem?_map, List.getElem?_eq_getElem hk']; rfl)
    simp only [sat_ok, sat_ex, sat_err, sat_bind_eq, ofP_some, ofP_none, sat_of_eq, st_nx, st_rt, st_bk, st_ct, st_ex, st_err, st_then, seqP_nx, seqP_rt, seqP_bk, seqP_ct, seqP_ex, st_xSeq, endP_nx, endP_rt, endP_ex, endP_bk, endP_ct, varP_some, varP_none, varP_non, sat_xVar, sat_xC, sat_xOp, sat_xUn, blP_bl, sat_xTB, trP_some, trP_none, sat_xT, sat_xAndT, sat_xOrT, sat_xNotT, sat_xAnd, sat_xOr, sat_xNot, sat_xIf, sat_xNil, sat_xCons, sat_xTup, sat_xLst, sat_xChain, sat_xCall, sat_xCB, sat_xM0, sat_xM, intP_int, sat_xNoP, sat_xPart, sat_xSl, st_xSkip, st_xBrk, st_xCnt, st_xDrop, st_xRet, st_xRetN, st_xIfS, tgP_some, tgP_none, st_xAsg, g_gVar, g_gNil, g_gCons, g_gTup, augP_some, augP_none, st_xAug, parP_two, st_xPar, loopP_nx, loopP_ct, loopP_bk, loopP_rt, loopP_ex, st_xFor, itP_some, itP_none, sat_xIt, sat_xLc, sat_xItA, sat_xYes, sat_xLenSet, oAdd_ii, oSub_ii, oMul_ii, oFdiv_ii, oMod_ii, oNeg_i, oLt_ii, oLe_ii, oGt_ii, oGe_ii, oInt_i, oIx_ti, oIx_qi, oLen_t, oLen_q, oLen_s, atI_0, atI_1, atI_2, atI_3, atI_4, atI_5, atI_6, atI_7, atI_8, atI_9, atI_10, atI_11, atI_12, atI_13, atI_14, List.getElem?_cons_zero, List.getElem?_cons_succ, List.map_cons, List.map_nil, List.cons_append, List.nil_append, List.length_cons, List.length_nil, List.set_cons_zero, List.set_cons_succ, List.replicate, Option.map_some, Option.map_none, Option.bind_some, Option.bind_none, if_true, if_false, Nat.reduceAdd, Nat.reduceSub, Nat.reduceLT, Nat.reduceLeDiff, Nat.reduceEqDiff, Int.reduceLT, Int.reduceLE, Int.reduceNeg, Int.reduceEq, Bool.false_eq_true, Bool.true_eq_false, reduceIte, reduceCtorEq, Bool.not_true, Bool.not_false, decide_eq_true_eq, Nat.zero_lt_succ, and_true, true_and, and_self, and_false, false_and, oIx_ri e2, e4]
    rw [if_pos hm]
    exact fin _ (hmod _).1 (hmod _).2
  · have h7 : inB 7 = true := by decide
    simp only [sat_ok, sat_ex, sat_err, sat_bind_eq, ofP_some, ofP_none, sat_of_eq, st_nx, st_rt, st_bk, st_ct, st_ex, st_err, st_then, seqP_nx, seqP_rt, seqP_bk, seqP_ct, seqP_ex, st_xSeq, endP_nx, endP_rt, endP_ex, endP_bk, endP_ct, varP_some, varP_none, varP_non, sat_xVar, sat_xC, sat_xOp, sat_xUn, blP_bl, sat_xTB, trP_some, trP_none, sat_xT, sat_xAndT, sat_xOrT, sat_xNotT, sat_xAnd, sat_xOr, sat_xNot, sat_xIf, sat_xNil, sat_xCons, sat_xTup, sat_xLst, sat_xChain, sat_xCall, sat_xCB, sat_xM0, sat_xM, intP_int, sat_xNoP, sat_xPart, sat_xSl, st_xSkip, st_xBrk, st_xCnt, st_xDrop, st_xRet, st_xRetN, st_xIfS, tgP_some, tgP_none, st_xAsg, g_gVar, g_gNil, g_gCons, g_gTup, augP_some, augP_none, st_xAug, parP_two, st_xPar, loopP_nx, loopP_ct, loopP_bk, loopP_rt, loopP_ex, st_xFor, itP_some, itP_none, sat_xIt, sat_xLc, sat_xItA, sat_xYes, sat_xLenSet, oAdd_ii, oSub_ii, oMul_ii, oFdiv_ii, oMod_ii, oNeg_i, oLt_ii, oLe_ii, oGt_ii, oGe_ii, oInt_i, oIx_ti, oIx_qi, oLen_t, oLen_q, oLen_s, atI_0, atI_1, atI_2, atI_3, atI_4, atI_5, atI_6, atI_7, atI_8, atI_9, atI_10, atI_11, atI_12, atI_13, atI_14, List.getElem?_cons_zero, List.getElem?_cons_succ, List.map_cons, List.map_nil, List.cons_append, List.nil_append, List.length_cons, List.length_nil, List.set_cons_zero, List.set_cons_succ, List.replicate, Option.map_some, Option.map_none, Option.bind_some, Option.bind_none, if_true, if_false, Nat.reduceAdd, Nat.reduceSub, Nat.reduceLT, Nat.reduceLeDiff, Nat.reduceEqDiff, Int.reduceLT, Int.reduceLE, Int.reduceNeg, Int.reduceEq, Bool.false_eq_true, Bool.true_eq_false, reduceIte, reduceCtorEq, Bool.not_true, Bool.not_false, decide_eq_true_eq, Nat.zero_lt_succ, and_true, true_and, and_self, and_false, false_and, h7, Bool.or_true]
    rw [if_pos hm]
    exact fin _ (hmod _).1 (hmod _).2
theorem atI_mem {α : Type} {l : List α} {v : Int} (h0 : 0 ≤ v) (h1 : v < l.length) : ∃ d ∈ l, L2.atI l v = some d := by
  obtain ⟨k, rfl⟩ : ∃ k : Nat, v = k := ⟨v.toNat, by omega⟩
  have hk : k < l.length := by omega
  exact ⟨l[k], List.getElem_mem hk, atI_nat (List.getElem?_eq_getElem hk)⟩
/-- `[..][_law_draw(box, m)]` -/
theorem pick_draw {ds : List D} (hb : Box b S) (hn : m = ds.length) (h0 : 0 < ds.length) (h : ∀ d ∈ ds, ∀ S', Kx [b] S S' → Box b S' → Pd d S') : (fDraw [.ref b, .int m] (S ++ [.lst ds])).wp (fun y S2 => ofP Pd (oIx (.ref S.length) y S2)) E := by
  refine draw_spec (hb.keep (Kx.app _ _ _)) (by omega) fun v S' v0 v1 k hb' => ?_
  obtain ⟨d, hd, e⟩ := atI_mem (l := ds) v0 (by omega)
  have hlt := hb.lt
  have e2 : S'[S.length]? = some (.lst ds) := k.at' _ _ (by simp; omega) (by simp)
  rw [oIx_ri e2, e]
  exact h d hd S' ((Kx.app _ _ _).trans k) hb'

noncomputable abbrev fWide : Fn := bodyF 3 (B__law_wide fDraw)
theorem inB_of (i : Int) (h1 : -1000000000000000000 ≤ i) (h2 : i ≤ 1000000000000000000) : inB i = true := by
  unfold inB
  rw [Bool.and_eq_true, decide_eq_true_eq, decide_eq_true_eq]
  have h3 : (2 : Int) ^ 64 = 18446744073709551616 := by decide
  rw [h3]
  omega
theorem wide_spec (hb : Box b S) (hm : 0 < m) (h : ∀ v S', 0 ≤ v → v < m → Kx [b] S S' → Box b S' → Pd (.int v) S') : (fWide [.ref b, .int m] S).wp Pd E := by
  have i1 : inB 1000 = true := inB_of _ (by decide) (by decide)
  have i2 : inB 1000000 = true := inB_of _ (by decide) (by decide)
  rw [sat_bodyF]
  unfold B__law_wide
  simp only [sat_ok, sat_ex, sat_err, sat_bind_eq, ofP_some, ofP_none, sat_of_eq, st_nx, st_rt, st_bk, st_ct, st_ex, st_err, st_then, seqP_nx, seqP_rt, seqP_bk, seqP_ct, seqP_ex, st_xSeq, endP_nx, endP_rt, endP_ex, endP_bk, endP_ct, varP_some, varP_none, varP_non, sat_xVar, sat_xC, sat_xOp, sat_xUn, blP_bl, sat_xTB, trP_some, trP_none, sat_xT, sat_xAndT, sat_xOrT, sat_xNotT, sat_xAnd, sat_xOr, sat_xNot, sat_xIf, sat_xNil, sat_xCons, sat_xTup, sat_xLst, sat_xChain, sat_xCall, sat_xCB, sat_xM0, sat_xM, intP_int, sat_xNoP, sat_xPart, sat_xSl, st_xSkip, st_xBrk, st_xCnt, st_xDrop, st_xRet, st_xRetN, st_xIfS, tgP_some, tgP_none, st_xAsg, g_gVar, g_gNil, g_gCons, g_gTup, augP_some, augP_none, st_xAug, parP_two, st_xPar, loopP_nx, loopP_ct, loopP_bk, loopP_rt, loopP_ex, st_xFor, itP_some, itP_none, sat_xIt, sat_xLc, sat_xItA, sat_xYes, sat_xLenSet, oAdd_ii, oSub_ii, oMul_ii, oFdiv_ii, oMod_ii, oNeg_i, oLt_ii, oLe_ii, oGt_ii, oGe_ii, oInt_i, oIx_ti, oIx_qi, oLen_t, oLen_q, oLen_s, atI_0, atI_1, atI_2, atI_3, atI_4, atI_5, atI_6, atI_7, atI_8, atI_9, atI_10, atI_11, atI_12, atI_13, atI_14, List.getElem?_cons_zero, List.getElem?_cons_succ, List.map_cons, List.map_nil, List.cons_append, List.nil_append, List.length_cons, List.length_nil, List.set_cons_zero, List.set_cons_succ, List.replicate, Option.map_some, Option.map_none, Option.bind_some, Option.bind_none, if_true, if_false, Nat.reduceAdd, Nat.reduceSub, Nat.reduceLT, Nat.reduceLeDiff, Nat.reduceEqDiff, Int.reduceLT, Int.reduceLE, Int.reduceNeg, Int.reduceEq, Bool.false_eq_true, Bool.true_eq_false, reduceIte, reduceCtorEq, Bool.not_true, Bool.not_false, decide_eq_true_eq, Nat.zero_lt_succ, and_true, true_and, and_self, and_false, false_and]
  refine draw_spec hb (by decide) fun v1 S1 _ _ k1 b1 => ?_
  refine draw_spec b1 (by decide) fun v2 S2 _ _ k2 b2 => ?_
  simp only [sat_ok, sat_ex, sat_err, sat_bind_eq, ofP_some, ofP_none, sat_of_eq, st_nx, st_rt, st_bk, st_ct, st_ex, st_err, st_then, seqP_nx, seqP_rt, seqP_bk, seqP_ct, seqP_ex, st_xSeq, endP_nx, endP_rt, endP_ex, endP_bk, endP_ct, varP_some, varP_none, varP_non, sat_xVar, sat_xC, sat_xOp, sat_xUn, blP_bl, sat_xTB, trP_some, trP_none, sat_xT, sat_xAndT, sat_xOrT, sat_xNotT, sat_xAnd, sat_xOr, sat_xNot, sat_xIf, sat_xNil, sat_xCons, sat_xTup, sat_xLst, sat_xChain, sat_xCall, sat_xCB, sat_xM0, sat_xM, intP_int, sat_xNoP, sat_xPart, sat_xSl, st_xSkip, st_xBrk, st_xCnt, st_xDrop, st_xRet, st_xRetN, st_xIfS, tgP_some, tgP_none, st_xAsg, g_gVar, g_gNil, g_gCons, g_gTup, augP_some, augP_none, st_xAug, parP_two, st_xPar, loopP_nx, loopP_ct, loopP_bk, loopP_rt, loopP_ex, st_xFor, itP_some, itP_none, sat_xIt, sat_xLc, sat_xItA, sat_xYes, sat_xLenSet, oAdd_ii, oSub_ii, oMul_ii, oFdiv_ii, oMod_ii, oNeg_i, oLt_ii, oLe_ii, oGt_ii, oGe_ii, oInt_i, oIx_ti, oIx_qi, oLen_t, oLen_q, oLen_s, atI_0, atI_1, atI_2, atI_3, atI_4, atI_5, atI_6, atI_7, atI_8, atI_9, atI_10, atI_11, atI_12, atI_13, atI_14, List.getElem?_cons_zero, List.getElem?_cons_succ, List.map_cons, List.map_nil, List.cons_append, List.nil_append, List.length_cons, List.length_nil, List.set_cons_zero, List.set_cons_succ, List.replicate, Option.map_some, Option.map_none, Option.bind_some, Option.bind_none, if_true, if_false, Nat.reduceAdd, Nat.reduceSub, Nat.reduceLT, Nat.reduceLeDiff, Nat.reduceEqDiff, Int.reduceLT, Int.reduceLE, Int.reduceNeg, Int.reduceEq, Bool.false_eq_true, Bool.true_eq_false, reduceIte, reduceCtorEq, Bool.not_true, Bool.not_false, decide_eq_true_eq, Nat.zero_lt_succ, and_true, true_and, and_self, and_false, false_and, i1, Bool.true_or]
  refine draw_spec b2 (by decide) fun v3 S3 _ _ k3 b3 => ?_
  simp only [sat_ok, sat_ex, sat_err, sat_bind_eq, ofP_some, ofP_none, sat_of_eq, st_nx, st_rt, st_bk, st_ct, st_ex, st_err, st_then, seqP_nx, seqP_rt, seqP_bk, seqP_ct, seqP_ex, st_xSeq, endP_nx, endP_rt, endP_ex, endP_bk, endP_ct, varP_some, varP_none, varP_non, sat_xVar, sat_xC, sat_xOp, sat_xUn, blP_bl, sat_xTB, trP_some, trP_none, sat_xT, sat_xAndT, sat_xOrT, sat_xNotT, sat_xAnd, sat_xOr, sat_xNot, sat_xIf, sat_xNil, sat_xCons, sat_xTup, sat_xLst, sat_xChain, sat_xCall, sat_xCB, sat_xM0, sat_xM, intP_int, sat_xNoP, sat_xPart, sat_xSl, st_xSkip, st_xBrk, st_xCnt, st_xDrop, st_xRet, st_xRetN, st_xIfS, tgP_some, tgP_none, st_xAsg, g_gVar, g_gNil, g_gCons, g_gTup, augP_some, augP_none, st_xAug, parP_two, st_xPar, loopP_nx, loopP_ct, loopP_bk, loopP_rt, loopP_ex, st_xFor, itP_some, itP_none, sat_xIt, sat_xLc, sat_xItA, sat_xYes, sat_xLenSet, oAdd_ii, oSub_ii, oMul_ii, oFdiv_ii, oMod_ii, oNeg_i, oLt_ii, oLe_ii, oGt_ii, oGe_ii, oInt_i, oIx_ti, oIx_qi, oLen_t, oLen_q, oLen_s, atI_0, atI_1, atI_2, atI_3, atI_4, atI_5, atI_6, atI_7, atI_8, atI_9, atI_10, atI_11, atI_12, atI_13, atI_14, List.getElem?_cons_zero, List.getElem?_cons_succ, List.map_cons, List.map_nil, List.cons_append, List.nil_append, List.length_cons, List.length_nil, List.set_cons_zero, List.set_cons_succ, List.replicate, Option.map_some, Option.map_none, Option.bind_some, Option.bind_none, if_true, if_false, Nat.reduceAdd, Nat.reduceSub, Nat.reduceLT, Nat.reduceLeDiff, Nat.reduceEqDiff, Int.reduceLT, Int.reduceLE, Int.reduceNeg, Int.reduceEq, Bool.false_eq_true, Bool.true_eq_false, reduceIte, reduceCtorEq, Bool.not_true, Bool.not_false, decide_eq_true_eq, Nat.zero_lt_succ, and_true, true_and, and_self, and_false, false_and, i2, Bool.true_or]
  rw [if_pos hm]
  exact h _ S3 (Int.emod_nonneg _ (by omega)) (Int.emod_lt_of_pos _ hm) ((k1.trans k2).trans k3) b3
end
/-! ### the figures drawn from -/
section
variable {S S' : Sto} {Pd : D → Sto → Prop} {E : Exn → Sto → Prop}
noncomputable abbrev fCell : Fn := bodyF 2 B__law_cell
theorem cell_spec {ns : List Int} {k : Nat} (h : ∀ c, Pd (.int c) S) : (fCell [.sq (ns.map D.int), .int k] S).wp Pd E := by
  rw [sat_bodyF]
  unfold B__law_cell
  simp only [sat_ok, sat_ex, sat_err, sat_bind_eq, ofP_some, ofP_none, sat_of_eq, st_nx, st_rt, st_bk, st_ct, st_ex, st_err, st_then, seqP_nx, seqP_rt, seqP_bk, seqP_ct, seqP_ex, st_xSeq, endP_nx, endP_rt, endP_ex, endP_bk, endP_ct, varP_some, varP_none, varP_non, sat_xVar, sat_xC, sat_xOp, sat_xUn, blP_bl, sat_xTB, trP_some, trP_none, sat_xT, sat_xAndT, sat_xOrT, sat_xNotT, sat_xAnd, sat_xOr, sat_xNot, sat_xIf, sat_xNil, sat_xCons, sat_xTup, sat_xLst, sat_xChain, sat_xCall, sat_xCB, sat_xM0, sat_xM, intP_int, sat_xNoP, sat_xPart, sat_xSl, st_xSkip, st_xBrk, st_xCnt, st_xDrop, st_xRet, st_xRetN, st_xIfS, tgP_some, tgP_none, st_xAsg, g_gVar, g_gNil, g_gCons, g_gTup, augP_some, augP_none, st_xAug, parP_two, st_xPar, loopP_nx, loopP_ct, loopP_bk, loopP_rt, loopP_ex, st_xFor, itP_some, itP_none, sat_xIt, sat_xLc, sat_xItA, sat_xYes, sat_xLenSet, oAdd_ii, oSub_ii, oMul_ii, oFdiv_ii, oMod_ii, oNeg_i, oLt_ii, oLe_ii, oGt_ii, oGe_ii, oInt_i, oIx_ti, oIx_qi, oLen_t, oLen_q, oLen_s, atI_0, atI_1, atI_2, atI_3, atI_4, atI_5, atI_6, atI_7, atI_8, atI_9, atI_10, atI_11, atI_12, atI_13, atI_14, List.getElem?_cons_zero, List.getElem?_cons_succ, List.map_cons, List.map_nil, List.cons_append, List.nil_append, List.length_cons, List.length_nil, List.set_cons_zero, List.set_cons_succ, List.replicate, Option.map_some, Option.map_none, Option.bind_some, Option.bind_none, if_true, if_false, Nat.reduceAdd, Nat.reduceSub, Nat.reduceLT, Nat.reduceLeDiff, Nat.reduceEqDiff, Int.reduceLT, Int.reduceLE, Int.reduceNeg, Int.reduceEq, Bool.false_eq_true, Bool.true_eq_false, reduceIte, reduceCtorEq, Bool.not_true, Bool.not_false, decide_eq_true_eq, Nat.zero_lt_succ, and_true, true_and, and_self, and_false, false_and]
  split
  · rename_i hk
    rw [List.length_map] at hk
    have hk' : k < ns.length := by omega
    have e4 : L2.atI (ns.map D.int) (k : Int) = some (.int (ns[k])) := atI_nat (by rw [List.getElem?_map, List.getElem?_eq_getElem hk']; rfl)
    simp only [sat_ok, sat_ex, sat_err, sat_bind_eq, ofP_some, ofP_none, sat_of_eq, st_nx, st_rt, st_bk, st_ct, st_ex, st_err, st_then, seqP_nx, seqP_rt, seqP_bk, seqP_ct, seqP_ex, st_xSeq, endP_nx, endP_rt, endP_ex, endP_bk, endP_ct, varP_some, varP_none, varP_non, sat_xVar, sat_xC, sat_xOp, sat_xUn, blP_bl, sat_xTB, trP_some, trP_none, sat_xT, sat_xAndT, sat_xOrT, sat_xNotT, sat_xAnd, sat_xOr, sat_xNot, sat_xIf, sat_xNil, sat_xCons, sat_xTup, sat_xLst, sat_xChain, sat_xCall, sat_xCB, sat_xM0, sat_xM, intP_int, sat_xNoP, sat_xPart, sat_xSl, st_xSkip, st_xBrk, st_xCnt, st_xDrop, st_xRet, st_xRetN, st_xIfS, tgP_some, tgP_none, st_xAsg, g_gVar, g_gNil, g_gCons, g_gTup, augP_some, augP_none, st_xAug, parP_two, st_xPar, loopP_nx, loopP_ct, loopP_bk, loopP_rt, loopP_ex, st_xFor, itP_some, itP_none, sat_xIt, sat_xLc, sat_xItA, sat_xYes, sat_xLenSet, oAdd_ii, oSub_ii, oMul_ii, oFdiv_ii, oMod_ii, oNeg_i, oLt_ii, oLe_ii, oGt_ii, oGe_ii, oInt_i, oIx_ti, oIx_qi, oLen_t, oLen_q, oLen_s, atI_0, atI_1, atI_2, atI_3, atI_4, atI_5, atI_6, atI_7, atI_8, atI_9, atI_10, atI_11, atI_12, atI_13, atI_14, List.getElem?_cons_zero, List.getElem?_cons_succ, List.map_cons, List.map_nil, List.cons_append, List.nil_append, List.length_cons, List.length_nil, List.set_cons_zero, List.set_cons_succ, List.replicate, Option.map_some, Option.map_none, Option.bind_some, Option.bind_none, if_true, if_false, Nat.reduceAdd, Nat.reduceSub, Nat.reduceLT, Nat.reduceLeDiff, Nat.reduceEqDiff, Int.reduceLT, Int.reduceLE, Int.reduceNeg, Int.reduceEq, Bool.false_eq_true, Bool.true_eq_false, reduceIte, reduceCtorEq, Bool.not_true, Bool.not_false, decide_eq_true_eq, Nat.zero_lt_succ, and_true, true_and, and_self, and_false, false_and, e4]
    exact h _
  · exact h _
theorem inR_of (i : Int) (h1 : -1000000000 ≤ i) (h2 : i ≤ 1000000000) : inR i = true := by
  unfold inR
  simp only [Bool.and_eq_true, decide_eq_true_eq]
  first | omega | (constructor <;> omega)
theorem rng1_ok {j : Int} (h1 : -1000000000 ≤ j) (h2 : j ≤ 1000000000) : rngOf1 [.int j] = some ⟨rngD 0 j.toNat, fun _ => True⟩ := by
  simp only [rngOf1, inR_of j h1 h2, if_true]
theorem rng2_ok {i j : Int} (h1 : -1000000000 ≤ i) (h2 : i ≤ 1000000000) (h3 : -1000000000 ≤ j) (h4 : j ≤ 1000000000) : rngOf2 [.int i, .int j] = some ⟨rngD i (j - i).toNat, fun _ => True⟩ := by
  simp only [rngOf2, inR_of i h1 h2, inR_of j h3 h4, Bool.and_true, if_true]
theorem rngD_mem {lo : Int} {n : Nat} {d : D} (h : d ∈ rngD lo n) : ∃ k : Nat, k < n ∧ d = .int (lo + k) := by
  unfold rngD at h
  obtain ⟨k, hk, rfl⟩ := List.mem_map.mp h
  exact ⟨k, List.mem_range.mp hk, rfl⟩
theorem rngD_len (lo : Int) (n : Nat) : (rngD lo n).length = n := by simp [rngD]
theorem app_r {n : Nat} {ds : List D} {y : D} (h : S[n]? = some (.lst ds)) (hz : ds.length < sizeLine) : mAppend (.ref n) [y] S = some (.non, S.set n (.lst (ds ++ [y]))) := by
  simp only [mAppend, h]
  rw [if_pos hz]
theorem tyM_r {n : Nat} {ds : List D} (h : S[n]? = some (.lst ds)) : tyM "list" (.ref n) S = true := by
  simp only [tyM, h]
  decide
noncomputable abbrev fDigits : Fn := bodyF 8 (B__law_digits fCell)
/-- the loops of `_law_digits`: what stands when m more are to come at most -/
structure DigI (S0 : Sto) (n m : Nat) (S : Sto) : Prop where
  kp : Kp S0 S
  ge : S0.length ≤ n
  ex : ∃ ns : List Int, S[n]? = some (.lst (ns.map D.int)) ∧ ns.length + m ≤ 1561
theorem DigI.add {S0 : Sto} {n m : Nat} {y : Int} {ds : List D} (h : DigI S0 n (m + 1) S) (hd : S[n]? = some (.lst ds)) : DigI S0 n m (S.set n (.lst (ds ++ [.int y]))) := by
  obtain ⟨kp, ge, ns, h1, h2⟩ := h
  rw [h1] at hd
  cases hd
  refine ⟨Kx.set kp (.inl ge), ge, ns ++ [y], ?_, by rw [List.length_append, List.length_singleton]; omega⟩
  rw [List.getElem?_set_self (List.getElem?_eq_some_iff.mp h1).1, List.map_append]
  rfl
theorem digits_spec {ns : List Int} (h : ∀ S' n (ds : List Int), Kp S S' → S.length ≤ n → S'[n]? = some (.lst (ds.map D.int)) → Pd (.ref n) S') : (fDigits [.sq (ns.map D.int), .int 0, .int 63] S).wp Pd E := by
  rw [sat_bodyF]
  unfold B__law_digits
  have z : sizeLine = 16777216 := rfl
  have r1 := rng2_ok (i := 0) (j := 63) (by decide) (by decide) (by decide) (by decide)
  have r2 := rng1_ok (j := 60) (by decide) (by decide)
  have r3 := rng1_ok (j := 12) (by decide) (by decide)
  simp only [sat_ok, sat_ex, sat_err, sat_bind_eq, ofP_some, ofP_none, sat_of_eq, st_nx, st_rt, st_bk, st_ct, st_ex, st_err, st_then, seqP_nx, seqP_rt, seqP_bk, seqP_ct, seqP_ex, st_xSeq, endP_nx, endP_rt, endP_ex, endP_bk, endP_ct, varP_some, varP_none, varP_non, sat_xVar, sat_xC, sat_xOp, sat_xUn, blP_bl, sat_xTB, trP_some, trP_none, sat_xT, sat_xAndT, sat_xOrT, sat_xNotT, sat_xAnd, sat_xOr, sat_xNot, sat_xIf, sat_xNil, sat_xCons, sat_xTup, sat_xLst, sat_xChain, sat_xCall, sat_xCB, sat_xM0, sat_xM, intP_int, sat_xNoP, sat_xPart, sat_xSl, st_xSkip, st_xBrk, st_xCnt, st_xDrop, st_xRet, st_xRetN, st_xIfS, tgP_some, tgP_none, st_xAsg, g_gVar, g_gNil, g_gCons, g_gTup, augP_some, augP_none, st_xAug, parP_two, st_xPar, loopP_nx, loopP_ct, loopP_bk, loopP_rt, loopP_ex, st_xFor, itP_some, itP_none, sat_xIt, sat_xLc, sat_xItA, sat_xYes, sat_xLenSet, oAdd_ii, oSub_ii, oMul_ii, oFdiv_ii, oMod_ii, oNeg_i, oLt_ii, oLe_ii, oGt_ii, oGe_ii, oInt_i, oIx_ti, oIx_qi, oLen_t, oLen_q, oLen_s, atI_0, atI_1, atI_2, atI_3, atI_4, atI_5, atI_6, atI_7, atI_8, atI_9, atI_10, atI_11, atI_12, atI_13, atI_14, List.getElem?_cons_zero, List.getElem?_cons_succ, List.map_cons, List.map_nil, List.cons_append, List.nil_append, List.length_cons, List.length_nil, List.set_cons_zero, List.set_cons_succ, List.replicate, Option.map_some, Option.map_none, Option.bind_some, Option.bind_none, if_true, if_false, Nat.reduceAdd, Nat.reduceSub, Nat.reduceLT, Nat.reduceLeDiff, Nat.reduceEqDiff, Int.reduceLT, Int.reduceLE, Int.reduceNeg, Int.reduceEq, Bool.false_eq_true, Bool.true_eq_false, reduceIte, reduceCtorEq, Bool.not_true, Bool.not_false, decide_eq_true_eq, Nat.zero_lt_succ, and_true, true_and, and_self, and_false, false_and, r1]
  refine ⟨by omega, ?_⟩
  refine forL_inv _ (fun rest Γ S' => (∀ d ∈ rest, ∃ k : Nat, d = .int k) ∧ (∃ x4 x5 x6 x7, Γ = [some (.sq (ns.map D.int)), some (.int 0), some (.int 63), some (.ref S.length), x4, x5, x6, x7]) ∧ DigI S S.length 0 S') ?_ (fun _ _ _ _ => trivial) ?_ ?_
  · refine ⟨fun d hd => ?_, ⟨_, _, _, _, rfl⟩, Kx.app _ _ _, Nat.le_refl _, [], by simp, by simp⟩
    obtain ⟨k, _, rfl⟩ := rngD_mem hd
    exact ⟨k, by simp⟩
  · rintro d ds Γ S1 ⟨hds, ⟨x4, x5, x6, x7, rfl⟩, hI⟩
    obtain ⟨k, rfl⟩ := hds _ List.mem_cons_self
    have hds' : ∀ d ∈ ds, ∃ k : Nat, d = .int k := fun d hd => hds d (List.mem_cons_of_mem _ hd)
    refine ⟨_, rfl, ?_⟩
    simp only [sat_ok, sat_ex, sat_err, sat_bind_eq, ofP_some, ofP_none, sat_of_eq, st_nx, st_rt, st_bk, st_ct, st_ex, st_err, st_then, seqP_nx, seqP_rt, seqP_bk, seqP_ct, seqP_ex, st_xSeq, endP_nx, endP_rt, endP_ex, endP_bk, endP_ct, varP_some, varP_none, varP_non, sat_xVar, sat_xC, sat_xOp, sat_xUn, blP_bl, sat_xTB, trP_some, trP_none, sat_xT, sat_xAndT, sat_xOrT, sat_xNotT, sat_xAnd, sat_xOr, sat_xNot, sat_xIf, sat_xNil, sat_xCons, sat_xTup, sat_xLst, sat_xChain, sat_xCall, sat_xCB, sat_xM0, sat_xM, intP_int, sat_xNoP, sat_xPart, sat_xSl, st_xSkip, st_xBrk, st_xCnt, st_xDrop, st_xRet, st_xRetN, st_xIfS, tgP_some, tgP_none, st_xAsg, g_gVar, g_gNil, g_gCons, g_gTup, augP_some, augP_none, st_xAug, parP_two, st_xPar, loopP_nx, loopP_ct, loopP_bk, loopP_rt, loopP_ex, st_xFor, itP_some, itP_none, sat_xIt, sat_xLc, sat_xItA, sat_xYes, sat_xLenSet, oAdd_ii, oSub_ii, oMul_ii, oFdiv_ii, oMod_ii, oNeg_i, oLt_ii, oLe_ii, oGt_ii, oGe_ii, oInt_i, oIx_ti, oIx_qi, oLen_t, oLen_q, oLen_s, atI_0, atI_1, atI_2, atI_3, atI_4, atI_5, atI_6, atI_7, atI_8, atI_9, atI_10, atI_11, atI_12, atI_13, atI_14, List.getElem?_cons_zero, List.getElem?_cons_succ, List.map_cons, List.map_nil, List.cons_append, List.nil_append, List.length_cons, List.length_nil, List.set_cons_zero, List.set_cons_succ, List.replicate, Option.map_some, Option.map_none, Option.bind_some, Option.bind_none, if_true, if_false, Nat.reduceAdd, Nat.reduceSub, Nat.reduceLT, Nat.reduceLeDiff, Nat.reduceEqDiff, Int.reduceLT, Int.reduceLE, Int.reduceNeg, Int.reduceEq, Bool.false_eq_true, Bool.true_eq_false, reduceIte, reduceCtorEq, Bool.not_true, Bool.not_false, decide_eq_true_eq, Nat.zero_lt_succ, and_true, true_and, and_self, and_false, false_and]
    refine cell_spec fun c => ?_
    obtain ⟨kp, ge, ns0, e0, hz0⟩ := hI
    have fin : ∀ Γ S', (∃ x4 x5 x6 x7, Γ = [some (.sq (ns.map D.int)), some (.int 0), some (.int 63), some (.ref S.length), x4, x5, x6, x7]) → DigI S S.length 0 S' → loopP (fun Γ S' => (∀ d ∈ ds, ∃ k : Nat, d = .int k) ∧ (∃ x4 x5 x6 x7, Γ = [some (.sq (ns.map D.int)), some (.int 0), some (.int 63), some (.ref S.length), x4, x5, x6, x7]) ∧ DigI S S.length 0 S') (seqP (xRet (xVar 3)) (endP Pd E)) (.nx Γ S') := fun Γ S' h1 h2 => ⟨hds', h1, h2⟩
    have i2 : inB 2 = true := inB_of _ (by decide) (by decide)
    have i3 : inB 48271 = true := inB_of _ (by decide) (by decide)
    have i4 : inB 69621 = true := inB_of _ (by decide) (by decide)
    have i5 : inB 16807 = true := inB_of _ (by decide) (by decide)
    have i7 : inB 7 = true := inB_of _ (by decide) (by decide)
    have big : ∀ (c : Int) x6 x7, ns0.length ≤ 1500 → (forL (gVar 6) (xIfS (xTB (xOp oGt (xVar 5) (xC (.int 0)))) (xSeq (xDrop (xM "list" mAppend (xVar 3) (xCons (xOp oMod (xCB oInt (xCons (xVar 5) xNil)) (xC (.int 1000))) xNil))) (xAsg (xOp oFdiv (xVar 5) (xC (.int 1000))) (gVar 5))) xSkip) (fun _ => True) (rngD 0 (Int.toNat 60))
        [some (.sq (ns.map D.int)), some (.int 0), some (.int 63), some (.ref S.length), some (.int k), some (.int c), x6, x7] S1).ws (loopP (fun Γ S' => (∀ d ∈ ds, ∃ k : Nat, d = .int k) ∧ (∃ x4 x5 x6 x7, Γ = [some (.sq (ns.map D.int)), some (.int 0), some (.int 63), some (.ref S.length), x4, x5, x6, x7]) ∧ DigI S S.length 0 S') (seqP (xRet (xVar 3)) (endP Pd E))) := by
      intro c x6 x7 hlen
      refine forL_inv _ (fun rest Γ S' => (∃ (c : Int) (x6 : Option D), Γ = [some (.sq (ns.map D.int)), some (.int 0), some (.int 63), some (.ref S.length), some (.int k), some (.int c), x6, x7]) ∧ DigI S S.length rest.length S') ⟨⟨_, _, rfl⟩, kp, ge, ns0, e0, by rw [rngD_len]; show _ + 60 ≤ _; omega⟩ (fun _ _ _ _ => trivial) ?_ ?_
      · rintro d ds1 Γ S2 ⟨⟨c, x6, rfl⟩, hI⟩
        refine ⟨_, rfl, ?_⟩
        have hI2 := hI
        obtain ⟨kp2, ge2, ns2, e2, hz2⟩ := hI
        rw [List.length_cons] at hz2
        simp only [sat_ok, sat_ex, sat_err, sat_bind_eq, ofP_some, ofP_none, sat_of_eq, st_nx, st_rt, st_bk, st_ct, st_ex, st_err, st_then, seqP_nx, seqP_rt, seqP_bk, seqP_ct, seqP_ex, st_xSeq, endP_nx, endP_rt, endP_ex, endP_bk, endP_ct, varP_some, varP_none, varP_non, sat_xVar, sat_xC, sat_xOp, sat_xUn, blP_bl, sat_xTB, trP_some, trP_none, sat_xT, sat_xAndT, sat_xOrT, sat_xNotT, sat_xAnd, sat_xOr, sat_xNot, sat_xIf, sat_xNil, sat_xCons, sat_xTup, sat_xLst, sat_xChain, sat_xCall, sat_xCB, sat_xM0, sat_xM, intP_int, sat_xNoP, sat_xPart, sat_xSl, st_xSkip, st_xBrk, st_xCnt, st_xDrop, st_xRet, st_xRetN, st_xIfS, tgP_some, tgP_none, st_xAsg, g_gVar, g_gNil, g_gCons, g_gTup, augP_some, augP_none, st_xAug, parP_two, st_xPar, loopP_nx, loopP_ct, loopP_bk, loopP_rt, loopP_ex, st_xFor, itP_some, itP_none, sat_xIt, sat_xLc, sat_xItA, sat_xYes, sat_xLenSet, oAdd_ii, oSub_ii, oMul_ii, oFdiv_ii, oMod_ii, oNeg_i, oLt_ii, oLe_ii, oGt_ii, oGe_ii, oInt_i, oIx_ti, oIx_qi, oLen_t, oLen_q, oLen_s, atI_0, atI_1, atI_2, atI_3, atI_4, atI_5, atI_6, atI_7, atI_8, atI_9, atI_10, atI_11, atI_12, atI_13, atI_14, List.getElem?_cons_zero, List.getElem?_cons_succ, List.map_cons, List.map_nil, List.cons_append, List.nil_append, List.length_cons, List.length_nil, List.set_cons_zero, List.set_cons_succ, List.replicate, Option.map_some, Option.map_none, Option.bind_some, Option.bind_none, if_true, if_false, Nat.reduceAdd, Nat.reduceSub, Nat.reduceLT, Nat.reduceLeDiff, Nat.reduceEqDiff, Int.reduceLT, Int.reduceLE, Int.reduceNeg, Int.reduceEq, Bool.false_eq_true, Bool.true_eq_false, reduceIte, reduceCtorEq, Bool.not_true, Bool.not_false, decide_eq_true_eq, Nat.zero_lt_succ, and_true, true_and, and_self, and_false, false_and]
        split
        · simp only [sat_ok, sat_ex, sat_err, sat_bind_eq, ofP_some, ofP_none, sat_of_eq, st_nx, st_rt, st_bk, st_ct, st_ex, st_err, st_then, seqP_nx, seqP_rt, seqP_bk, seqP_ct, seqP_ex, st_xSeq, endP_nx, endP_rt, endP_ex, endP_bk, endP_ct, varP_some, varP_none, varP_non, sat_xVar, sat_xC, sat_xOp, sat_xUn, blP_bl, sat_xTB, trP_some, trP_none, sat_xT, sat_xAndT, sat_xOrT, sat_xNotT, sat_xAnd, sat_xOr, sat_xNot, sat_xIf, sat_xNil, sat_xCons, sat_xTup, sat_xLst, sat_xChain, sat_xCall, sat_xCB, sat_xM0, sat_xM, intP_int, sat_xNoP, sat_xPart, sat_xSl, st_xSkip, st_xBrk, st_xCnt, st_xDrop, st_xRet, st_xRetN, st_xIfS, tgP_some, tgP_none, st_xAsg, g_gVar, g_gNil, g_gCons, g_gTup, augP_some, augP_none, st_xAug, parP_two, st_xPar, loopP_nx, loopP_ct, loopP_bk, loopP_rt, loopP_ex, st_xFor, itP_some, itP_none, sat_xIt, sat_xLc, sat_xItA, sat_xYes, sat_xLenSet, oAdd_ii, oSub_ii, oMul_ii, oFdiv_ii, oMod_ii, oNeg_i, oLt_ii, oLe_ii, oGt_ii, oGe_ii, oInt_i, oIx_ti, oIx_qi, oLen_t, oLen_q, oLen_s, atI_0, atI_1, atI_2, atI_3, atI_4, atI_5, atI_6, atI_7, atI_8, atI_9, atI_10, atI_11, atI_12, atI_13, atI_14, List.getElem?_cons_zero, List.getElem?_cons_succ, List.map_cons, List.map_nil, List.cons_append, List.nil_append, List.length_cons, List.length_nil, List.set_cons_zero, List.set_cons_succ, List.replicate, Option.map_some, Option.map_none, Option.bind_some, Option.bind_none, if_true, if_false, Nat.reduceAdd, Nat.reduceSub, Nat.reduceLT, Nat.reduceLeDiff, Nat.reduceEqDiff, Int.reduceLT, Int.reduceLE, Int.reduceNeg, Int.reduceEq, Bool.false_eq_true, Bool.true_eq_false, reduceIte, reduceCtorEq, Bool.not_true, Bool.not_false, decide_eq_true_eq, Nat.zero_lt_succ, and_true, true_and, and_self, and_false, false_and, tyM_r e2, app_r e2 (by rw [List.length_map]; omega)]
          exact ⟨⟨_, _, rfl⟩, hI2.add e2⟩
        · exact ⟨⟨_, _, rfl⟩, kp2, ge2, ns2, e2, by omega⟩
      · rintro Γ S2 ⟨⟨c, x6, rfl⟩, hI⟩
        exact fin _ _ ⟨_, _, _, _, rfl⟩ hI
    have small : ∀ (c seed : Int) x6, ns0.length ≤ 1500 → (forL (gVar 6) (xSeq (xAsg (xOp oMod (xCB oInt (xCons (xOp oAdd (xOp oAdd (xOp oMul (xVar 7) (xC (.int 16807))) (xOp oMul (xC (.int 7)) (xVar 6))) (xC (.int 1))) xNil)) (xC (.int 2147483647))) (gVar 7)) (xDrop (xM "list" mAppend (xVar 3) (xCons (xOp oMod (xCB oInt (xCons (xOp oFdiv (xVar 7) (xC (.int 997))) xNil)) (xC (.int 1000))) xNil)))) (fun _ => True) (rngD 0 (Int.toNat 12))
        [some (.sq (ns.map D.int)), some (.int 0), some (.int 63), some (.ref S.length), some (.int k), some (.int c), x6, some (.int seed)] S1).ws (loopP (fun Γ S' => (∀ d ∈ ds, ∃ k : Nat, d = .int k) ∧ (∃ x4 x5 x6 x7, Γ = [some (.sq (ns.map D.int)), some (.int 0), some (.int 63), some (.ref S.length), x4, x5, x6, x7]) ∧ DigI S S.length 0 S') (seqP (xRet (xVar 3)) (endP Pd E))) := by
      intro c seed x6 hlen
      refine forL_inv _ (fun rest Γ S' => (∀ d ∈ rest, ∃ k : Nat, d = .int k) ∧ (∃ (seed : Int) (x6 : Option D), Γ = [some (.sq (ns.map D.int)), some (.int 0), some (.int 63), some (.ref S.length), some (.int k), some (.int c), x6, some (.int seed)]) ∧ DigI S S.length rest.length S') ⟨fun d hd => ?_, ⟨_, _, rfl⟩, kp, ge, ns0, e0, by rw [rngD_len]; show _ + 12 ≤ _; omega⟩ (fun _ _ _ _ => trivial) ?_ ?_
      · obtain ⟨k, _, rfl⟩ := rngD_mem hd
        exact ⟨k, by simp⟩
      · rintro d ds1 Γ S2 ⟨hd1, ⟨seed, x6, rfl⟩, hI⟩
        obtain ⟨k1, rfl⟩ := hd1 _ List.mem_cons_self
        refine ⟨_, rfl, ?_⟩
        have hI2 := hI
        obtain ⟨kp2, ge2, ns2, e2, hz2⟩ := hI
        rw [List.length_cons] at hz2
        simp only [sat_ok, sat_ex, sat_err, sat_bind_eq, ofP_some, ofP_none, sat_of_eq, st_nx, st_rt, st_bk, st_ct, st_ex, st_err, st_then, seqP_nx, seqP_rt, seqP_bk, seqP_ct, seqP_ex, st_xSeq, endP_nx, endP_rt, endP_ex, endP_bk, endP_ct, varP_some, varP_none, varP_non, sat_xVar, sat_xC, sat_xOp, sat_xUn, blP_bl, sat_xTB, trP_some, trP_none, sat_xT, sat_xAndT, sat_xOrT, sat_xNotT, sat_xAnd, sat_xOr, sat_xNot, sat_xIf, sat_xNil, sat_xCons, sat_xTup, sat_xLst, sat_xChain, sat_xCall, sat_xCB, sat_xM0, sat_xM, intP_int, sat_xNoP, sat_xPart, sat_xSl, st_xSkip, st_xBrk, st_xCnt, st_xDrop, st_xRet, st_xRetN, st_xIfS, tgP_some, tgP_none, st_xAsg, g_gVar, g_gNil, g_gCons, g_gTup, augP_some, augP_none, st_xAug, parP_two, st_xPar, loopP_nx, loopP_ct, loopP_bk, loopP_rt, loopP_ex, st_xFor, itP_some, itP_none, sat_xIt, sat_xLc, sat_xItA, sat_xYes, sat_xLenSet, oAdd_ii, oSub_ii, oMul_ii, oFdiv_ii, oMod_ii, oNeg_i, oLt_ii, oLe_ii, oGt_ii, oGe_ii, oInt_i, oIx_ti, oIx_qi, oLen_t, oLen_q, oLen_s, atI_0, atI_1, atI_2, atI_3, atI_4, atI_5, atI_6, atI_7, atI_8, atI_9, atI_10, atI_11, atI_12, atI_13, atI_14, List.getElem?_cons_zero, List.getElem?_cons_succ, List.map_cons, List.map_nil, List.cons_append, List.nil_append, List.length_cons, List.length_nil, List.set_cons_zero, List.set_cons_succ, List.replicate, Option.map_some, Option.map_none, Option.bind_some, Option.bind_none, if_true, if_false, Nat.reduceAdd, Nat.reduceSub, Nat.reduceLT, Nat.reduceLeDiff, Nat.reduceEqDiff, Int.reduceLT, Int.reduceLE, Int.reduceNeg, Int.reduceEq, Bool.false_eq_true, Bool.true_eq_false, reduceIte, reduceCtorEq, Bool.not_true, Bool.not_false, decide_eq_true_eq, Nat.zero_lt_succ, and_true, true_and, and_self, and_false, false_and, i5, i7, Bool.or_true, Bool.true_or, tyM_r e2, app_r e2 (show (ns2.map D.int).length < sizeLine by rw [List.length_map]; omega)]
        exact ⟨fun d hd => hd1 d (List.mem_cons_of_mem _ hd), ⟨_, _, rfl⟩, hI2.add e2⟩
      · rintro Γ S2 ⟨_, ⟨c, x6, rfl⟩, hI⟩
        exact fin _ _ ⟨_, _, _, _, rfl⟩ hI
    have hp : ∀ S', oPow (.int 10) (.int 18) S' = some (.int 1000000000000000000, S') := fun S' => by
      simp only [oPow]
      rw [if_pos (by decide)]
      rfl
    simp only [sat_ok, sat_ex, sat_err, sat_bind_eq, ofP_some, ofP_none, sat_of_eq, st_nx, st_rt, st_bk, st_ct, st_ex, st_err, st_then, seqP_nx, seqP_rt, seqP_bk, seqP_ct, seqP_ex, st_xSeq, endP_nx, endP_rt, endP_ex, endP_bk, endP_ct, varP_some, varP_none, varP_non, sat_xVar, sat_xC, sat_xOp, sat_xUn, blP_bl, sat_xTB, trP_some, trP_none, sat_xT, sat_xAndT, sat_xOrT, sat_xNotT, sat_xAnd, sat_xOr, sat_xNot, sat_xIf, sat_xNil, sat_xCons, sat_xTup, sat_xLst, sat_xChain, sat_xCall, sat_xCB, sat_xM0, sat_xM, intP_int, sat_xNoP, sat_xPart, sat_xSl, st_xSkip, st_xBrk, st_xCnt, st_xDrop, st_xRet, st_xRetN, st_xIfS, tgP_some, tgP_none, st_xAsg, g_gVar, g_gNil, g_gCons, g_gTup, augP_some, augP_none, st_xAug, parP_two, st_xPar, loopP_nx, loopP_ct, loopP_bk, loopP_rt, loopP_ex, st_xFor, itP_some, itP_none, sat_xIt, sat_xLc, sat_xItA, sat_xYes, sat_xLenSet, oAdd_ii, oSub_ii, oMul_ii, oFdiv_ii, oMod_ii, oNeg_i, oLt_ii, oLe_ii, oGt_ii, oGe_ii, oInt_i, oIx_ti, oIx_qi, oLen_t, oLen_q, oLen_s, atI_0, atI_1, atI_2, atI_3, atI_4, atI_5, atI_6, atI_7, atI_8, atI_9, atI_10, atI_11, atI_12, atI_13, atI_14, List.getElem?_cons_zero, List.getElem?_cons_succ, List.map_cons, List.map_nil, List.cons_append, List.nil_append, List.length_cons, List.length_nil, List.set_cons_zero, List.set_cons_succ, List.replicate, Option.map_some, Option.map_none, Option.bind_some, Option.bind_none, if_true, if_false, Nat.reduceAdd, Nat.reduceSub, Nat.reduceLT, Nat.reduceLeDiff, Nat.reduceEqDiff, Int.reduceLT, Int.reduceLE, Int.reduceNeg, Int.reduceEq, Bool.false_eq_true, Bool.true_eq_false, reduceIte, reduceCtorEq, Bool.not_true, Bool.not_false, decide_eq_true_eq, Nat.zero_lt_succ, and_true, true_and, and_self, and_false, false_and]
    split
    all_goals
      simp only [sat_ok, sat_ex, sat_err, sat_bind_eq, ofP_some, ofP_none, sat_of_eq, st_nx, st_rt, st_bk, st_ct, st_ex, st_err, st_then, seqP_nx, seqP_rt, seqP_bk, seqP_ct, seqP_ex, st_xSeq, endP_nx, endP_rt, endP_ex, endP_bk, endP_ct, varP_some, varP_none, varP_non, sat_xVar, sat_xC, sat_xOp, sat_xUn, blP_bl, sat_xTB, trP_some, trP_none, sat_xT, sat_xAndT, sat_xOrT, sat_xNotT, sat_xAnd, sat_xOr, sat_xNot, sat_xIf, sat_xNil, sat_xCons, sat_xTup, sat_xLst, sat_xChain, sat_xCall, sat_xCB, sat_xM0, sat_xM, intP_int, sat_xNoP, sat_xPart, sat_xSl, st_xSkip, st_xBrk, st_xCnt, st_xDrop, st_xRet, st_xRetN, st_xIfS, tgP_some, tgP_none, st_xAsg, g_gVar, g_gNil, g_gCons, g_gTup, augP_some, augP_none, st_xAug, parP_two, st_xPar, loopP_nx, loopP_ct, loopP_bk, loopP_rt, loopP_ex, st_xFor, itP_some, itP_none, sat_xIt, sat_xLc, sat_xItA, sat_xYes, sat_xLenSet, oAdd_ii, oSub_ii, oMul_ii, oFdiv_ii, oMod_ii, oNeg_i, oLt_ii, oLe_ii, oGt_ii, oGe_ii, oInt_i, oIx_ti, oIx_qi, oLen_t, oLen_q, oLen_s, atI_0, atI_1, atI_2, atI_3, atI_4, atI_5, atI_6, atI_7, atI_8, atI_9, atI_10, atI_11, atI_12, atI_13, atI_14, List.getElem?_cons_zero, List.getElem?_cons_succ, List.map_cons, List.map_nil, List.cons_append, List.nil_append, List.length_cons, List.length_nil, List.set_cons_zero, List.set_cons_succ, List.replicate, Option.map_some, Option.map_none, Option.bind_some, Option.bind_none, if_true, if_false, Nat.reduceAdd, Nat.reduceSub, Nat.reduceLT, Nat.reduceLeDiff, Nat.reduceEqDiff, Int.reduceLT, Int.reduceLE, Int.reduceNeg, Int.reduceEq, Bool.false_eq_true, Bool.true_eq_false, reduceIte, reduceCtorEq, Bool.not_true, Bool.not_false, decide_eq_true_eq, Nat.zero_lt_succ, and_true, true_and, and_self, and_false, false_and, i2, Bool.true_or, oLen_r e0, List.length_map]
      split
      · exact h _ _ _ kp ge e0
      · rename_i hlen
        have hlen' : ns0.length ≤ 1500 := by omega
        simp only [sat_ok, sat_ex, sat_err, sat_bind_eq, ofP_some, ofP_none, sat_of_eq, st_nx, st_rt, st_bk, st_ct, st_ex, st_err, st_then, seqP_nx, seqP_rt, seqP_bk, seqP_ct, seqP_ex, st_xSeq, endP_nx, endP_rt, endP_ex, endP_bk, endP_ct, varP_some, varP_none, varP_non, sat_xVar, sat_xC, sat_xOp, sat_xUn, blP_bl, sat_xTB, trP_some, trP_none, sat_xT, sat_xAndT, sat_xOrT, sat_xNotT, sat_xAnd, sat_xOr, sat_xNot, sat_xIf, sat_xNil, sat_xCons, sat_xTup, sat_xLst, sat_xChain, sat_xCall, sat_xCB, sat_xM0, sat_xM, intP_int, sat_xNoP, sat_xPart, sat_xSl, st_xSkip, st_xBrk, st_xCnt, st_xDrop, st_xRet, st_xRetN, st_xIfS, tgP_some, tgP_none, st_xAsg, g_gVar, g_gNil, g_gCons, g_gTup, augP_some, augP_none, st_xAug, parP_two, st_xPar, loopP_nx, loopP_ct, loopP_bk, loopP_rt, loopP_ex, st_xFor, itP_some, itP_none, sat_xIt, sat_xLc, sat_xItA, sat_xYes, sat_xLenSet, oAdd_ii, oSub_ii, oMul_ii, oFdiv_ii, oMod_ii, oNeg_i, oLt_ii, oLe_ii, oGt_ii, oGe_ii, oInt_i, oIx_ti, oIx_qi, oLen_t, oLen_q, oLen_s, atI_0, atI_1, atI_2, atI_3, atI_4, atI_5, atI_6, atI_7, atI_8, atI_9, atI_10, atI_11, atI_12, atI_13, atI_14, List.getElem?_cons_zero, List.getElem?_cons_succ, List.map_cons, List.map_nil, List.cons_append, List.nil_append, List.length_cons, List.length_nil, List.set_cons_zero, List.set_cons_succ, List.replicate, Option.map_some, Option.map_none, Option.bind_some, Option.bind_none, if_true, if_false, Nat.reduceAdd, Nat.reduceSub, Nat.reduceLT, Nat.reduceLeDiff, Nat.reduceEqDiff, Int.reduceLT, Int.reduceLE, Int.reduceNeg, Int.reduceEq, Bool.false_eq_true, Bool.true_eq_false, reduceIte, reduceCtorEq, Bool.not_true, Bool.not_false, decide_eq_true_eq, Nat.zero_lt_succ, and_true, true_and, and_self, and_false, false_and, hp]
        split
        · simp only [sat_ok, sat_ex, sat_err, sat_bind_eq, ofP_some, ofP_none, sat_of_eq, st_nx, st_rt, st_bk, st_ct, st_ex, st_err, st_then, seqP_nx, seqP_rt, seqP_bk, seqP_ct, seqP_ex, st_xSeq, endP_nx, endP_rt, endP_ex, endP_bk, endP_ct, varP_some, varP_none, varP_non, sat_xVar, sat_xC, sat_xOp, sat_xUn, blP_bl, sat_xTB, trP_some, trP_none, sat_xT, sat_xAndT, sat_xOrT, sat_xNotT, sat_xAnd, sat_xOr, sat_xNot, sat_xIf, sat_xNil, sat_xCons, sat_xTup, sat_xLst, sat_xChain, sat_xCall, sat_xCB, sat_xM0, sat_xM, intP_int, sat_xNoP, sat_xPart, sat_xSl, st_xSkip, st_xBrk, st_xCnt, st_xDrop, st_xRet, st_xRetN, st_xIfS, tgP_some, tgP_none, st_xAsg, g_gVar, g_gNil, g_gCons, g_gTup, augP_some, augP_none, st_xAug, parP_two, st_xPar, loopP_nx, loopP_ct, loopP_bk, loopP_rt, loopP_ex, st_xFor, itP_some, itP_none, sat_xIt, sat_xLc, sat_xItA, sat_xYes, sat_xLenSet, oAdd_ii, oSub_ii, oMul_ii, oFdiv_ii, oMod_ii, oNeg_i, oLt_ii, oLe_ii, oGt_ii, oGe_ii, oInt_i, oIx_ti, oIx_qi, oLen_t, oLen_q, oLen_s, atI_0, atI_1, atI_2, atI_3, atI_4, atI_5, atI_6, atI_7, atI_8, atI_9, atI_10, atI_11, atI_12, atI_13, atI_14, List.getElem?_cons_zero, List.getElem?_cons_succ, List.map_cons, List.map_nil, List.cons_append, List.nil_append, List.length_cons, List.length_nil, List.set_cons_zero, List.set_cons_succ, List.replicate, Option.map_some, Option.map_none, Option.bind_some, Option.bind_none, if_true, if_false, Nat.reduceAdd, Nat.reduceSub, Nat.reduceLT, Nat.reduceLeDiff, Nat.reduceEqDiff, Int.reduceLT, Int.reduceLE, Int.reduceNeg, Int.reduceEq, Bool.false_eq_true, Bool.true_eq_false, reduceIte, reduceCtorEq, Bool.not_true, Bool.not_false, decide_eq_true_eq, Nat.zero_lt_succ, and_true, true_and, and_self, and_false, false_and, r2]
          exact big _ _ _ hlen'
        · simp only [sat_ok, sat_ex, sat_err, sat_bind_eq, ofP_some, ofP_none, sat_of_eq, st_nx, st_rt, st_bk, st_ct, st_ex, st_err, st_then, seqP_nx, seqP_rt, seqP_bk, seqP_ct, seqP_ex, st_xSeq, endP_nx, endP_rt, endP_ex, endP_bk, endP_ct, varP_some, varP_none, varP_non, sat_xVar, sat_xC, sat_xOp, sat_xUn, blP_bl, sat_xTB, trP_some, trP_none, sat_xT, sat_xAndT, sat_xOrT, sat_xNotT, sat_xAnd, sat_xOr, sat_xNot, sat_xIf, sat_xNil, sat_xCons, sat_xTup, sat_xLst, sat_xChain, sat_xCall, sat_xCB, sat_xM0, sat_xM, intP_int, sat_xNoP, sat_xPart, sat_xSl, st_xSkip, st_xBrk, st_xCnt, st_xDrop, st_xRet, st_xRetN, st_xIfS, tgP_some, tgP_none, st_xAsg, g_gVar, g_gNil, g_gCons, g_gTup, augP_some, augP_none, st_xAug, parP_two, st_xPar, loopP_nx, loopP_ct, loopP_bk, loopP_rt, loopP_ex, st_xFor, itP_some, itP_none, sat_xIt, sat_xLc, sat_xItA, sat_xYes, sat_xLenSet, oAdd_ii, oSub_ii, oMul_ii, oFdiv_ii, oMod_ii, oNeg_i, oLt_ii, oLe_ii, oGt_ii, oGe_ii, oInt_i, oIx_ti, oIx_qi, oLen_t, oLen_q, oLen_s, atI_0, atI_1, atI_2, atI_3, atI_4, atI_5, atI_6, atI_7, atI_8, atI_9, atI_10, atI_11, atI_12, atI_13, atI_14, List.getElem?_cons_zero, List.getElem?_cons_succ, List.map_cons, List.map_nil, List.cons_append, List.nil_append, List.length_cons, List.length_nil, List.set_cons_zero, List.set_cons_succ, List.replicate, Option.map_some, Option.map_none, Option.bind_some, Option.bind_none, if_true, if_false, Nat.reduceAdd, Nat.reduceSub, Nat.reduceLT, Nat.reduceLeDiff, Nat.reduceEqDiff, Int.reduceLT, Int.reduceLE, Int.reduceNeg, Int.reduceEq, Bool.false_eq_true, Bool.true_eq_false, reduceIte, reduceCtorEq, Bool.not_true, Bool.not_false, decide_eq_true_eq, Nat.zero_lt_succ, and_true, true_and, and_self, and_false, false_and, i3, i4, Bool.or_true, r3]
          exact small _ _ _ hlen'
  · rintro Γ S1 ⟨_, ⟨x4, x5, x6, x7, rfl⟩, kp, ge, ds, h1, h2⟩
    simp only [sat_ok, sat_ex, sat_err, sat_bind_eq, ofP_some, ofP_none, sat_of_eq, st_nx, st_rt, st_bk, st_ct, st_ex, st_err, st_then, seqP_nx, seqP_rt, seqP_bk, seqP_ct, seqP_ex, st_xSeq, endP_nx, endP_rt, endP_ex, endP_bk, endP_ct, varP_some, varP_none, varP_non, sat_xVar, sat_xC, sat_xOp, sat_xUn, blP_bl, sat_xTB, trP_some, trP_none, sat_xT, sat_xAndT, sat_xOrT, sat_xNotT, sat_xAnd, sat_xOr, sat_xNot, sat_xIf, sat_xNil, sat_xCons, sat_xTup, sat_xLst, sat_xChain, sat_xCall, sat_xCB, sat_xM0, sat_xM, intP_int, sat_xNoP, sat_xPart, sat_xSl, st_xSkip, st_xBrk, st_xCnt, st_xDrop, st_xRet, st_xRetN, st_xIfS, tgP_some, tgP_none, st_xAsg, g_gVar, g_gNil, g_gCons, g_gTup, augP_some, augP_none, st_xAug, parP_two, st_xPar, loopP_nx, loopP_ct, loopP_bk, loopP_rt, loopP_ex, st_xFor, itP_some, itP_none, sat_xIt, sat_xLc, sat_xItA, sat_xYes, sat_xLenSet, oAdd_ii, oSub_ii, oMul_ii, oFdiv_ii, oMod_ii, oNeg_i, oLt_ii, oLe_ii, oGt_ii, oGe_ii, oInt_i, oIx_ti, oIx_qi, oLen_t, oLen_q, oLen_s, atI_0, atI_1, atI_2, atI_3, atI_4, atI_5, atI_6, atI_7, atI_8, atI_9, atI_10, atI_11, atI_12, atI_13, atI_14, List.getElem?_cons_zero, List.getElem?_cons_succ, List.map_cons, List.map_nil, List.cons_append, List.nil_append, List.length_cons, List.length_nil, List.set_cons_zero, List.set_cons_succ, List.replicate, Option.map_some, Option.map_none, Option.bind_some, Option.bind_none, if_true, if_false, Nat.reduceAdd, Nat.reduceSub, Nat.reduceLT, Nat.reduceLeDiff, Nat.reduceEqDiff, Int.reduceLT, Int.reduceLE, Int.reduceNeg, Int.reduceEq, Bool.false_eq_true, Bool.true_eq_false, reduceIte, reduceCtorEq, Bool.not_true, Bool.not_false, decide_eq_true_eq, Nat.zero_lt_succ, and_true, true_and, and_self, and_false, false_and]
    exact h _ _ _ kp ge h1
end
end Dx
namespace Dx
open PySem PySem.Spec PyProof.Rows
section
variable {S : Sto} {i j : Int} {a b : Str} {p q : Bool} {ds es : List D} {n m : Nat}
theorem isi_non_tuple : oIsi [.non, .ty "tuple"] S = some (.bl false, S) := by simp [oIsi, tyOf, isiS]
theorem isi_non_int : oIsi [.non, .ty "int"] S = some (.bl false, S) := by simp [oIsi, tyOf, isiS]
theorem isi_non_str : oIsi [.non, .ty "str"] S = some (.bl false, S) := by simp [oIsi, tyOf, isiS]
theorem isi_non_bool : oIsi [.non, .ty "bool"] S = some (.bl false, S) := by simp [oIsi, tyOf, isiS]
theorem isi_non_list : oIsi [.non, .ty "list"] S = some (.bl false, S) := by simp [oIsi, tyOf, isiS]
theorem type_non : oType [.non] S = some (.ty "NoneType", S) := id rfl
theorem isi_bl_tuple : oIsi [(.bl p), .ty "tuple"] S = some (.bl false, S) := by simp [oIsi, tyOf, isiS]
theorem isi_bl_int : oIsi [(.bl p), .ty "int"] S = some (.bl true, S) := by simp [oIsi, tyOf, isiS]
theorem isi_bl_str : oIsi [(.bl p), .ty "str"] S = some (.bl false, S) := by simp [oIsi, tyOf, isiS]
theorem isi_bl_bool : oIsi [(.bl p), .ty "bool"] S = some (.bl true, S) := by simp [oIsi, tyOf, isiS]
theorem isi_bl_list : oIsi [(.bl p), .ty "list"] S = some (.bl false, S) := by simp [oIsi, tyOf, isiS]
theorem type_bl : oType [(.bl p)] S = some (.ty "bool", S) := id rfl
theorem isi_int_tuple : oIsi [(.int i), .ty "tuple"] S = some (.bl false, S) := by simp [oIsi, tyOf, isiS]
theorem isi_int_int : oIsi [(.int i), .ty "int"] S = some (.bl true, S) := by simp [oIsi, tyOf, isiS]
theorem isi_int_str : oIsi [(.int i), .ty "str"] S = some (.bl false, S) := by simp [oIsi, tyOf, isiS]
theorem isi_int_bool : oIsi [(.int i), .ty "bool"] S = some (.bl false, S) := by simp [oIsi, tyOf, isiS]
theorem isi_int_list : oIsi [(.int i), .ty "list"] S = some (.bl false, S) := by simp [oIsi, tyOf, isiS]
theorem type_int : oType [(.int i)] S = some (.ty "int", S) := id rfl
theorem isi_str_tuple : oIsi [(.str a), .ty "tuple"] S = some (.bl false, S) := by simp [oIsi, tyOf, isiS]
theorem isi_str_int : oIsi [(.str a), .ty "int"] S = some (.bl false, S) := by simp [oIsi, tyOf, isiS]
theorem isi_str_str : oIsi [(.str a), .ty "str"] S = some (.bl true, S) := by simp [oIsi, tyOf, isiS]
theorem isi_str_bool : oIsi [(.str a), .ty "bool"] S = some (.bl false, S) := by simp [oIsi, tyOf, isiS]
theorem isi_str_list : oIsi [(.str a), .ty "list"] S = some (.bl false, S) := by simp [oIsi, tyOf, isiS]
theorem type_str : oType [(.str a)] S = some (.ty "str", S) := id rfl
theorem isi_tup_tuple : oIsi [(.tup ds), .ty "tuple"] S = some (.bl true, S) := by simp [oIsi, tyOf, isiS]
theorem isi_tup_int : oIsi [(.tup ds), .ty "int"] S = some (.bl false, S) := by simp [oIsi, tyOf, isiS]
theorem isi_tup_str : oIsi [(.tup ds), .ty "str"] S = some (.bl false, S) := by simp [oIsi, tyOf, isiS]
theorem isi_tup_bool : oIsi [(.tup ds), .ty "bool"] S = some (.bl false, S) := by simp [oIsi, tyOf, isiS]
theorem isi_tup_list : oIsi [(.tup ds), .ty "list"] S = some (.bl false, S) := by simp [oIsi, tyOf, isiS]
theorem type_tup : oType [(.tup ds)] S = some (.ty "tuple", S) := id rfl
theorem is_int_int : oIs (.ty "int") (.ty "int") S = some (.bl true, S) := by simp [oIs, oIsB]
theorem isn_int_int : oIsNot (.ty "int") (.ty "int") S = some (.bl false, S) := by simp [oIsNot, oIsB]
theorem is_int_str : oIs (.ty "int") (.ty "str") S = some (.bl false, S) := by simp [oIs, oIsB]
theorem isn_int_str : oIsNot (.ty "int") (.ty "str") S = some (.bl true, S) := by simp [oIsNot, oIsB]
theorem is_int_tuple : oIs (.ty "int") (.ty "tuple") S = some (.bl false, S) := by simp [oIs, oIsB]
theorem isn_int_tuple : oIsNot (.ty "int") (.ty "tuple") S = some (.bl true, S) := by simp [oIsNot, oIsB]
theorem is_int_list : oIs (.ty "int") (.ty "list") S = some (.bl false, S) := by simp [oIs, oIsB]
theorem isn_int_list : oIsNot (.ty "int") (.ty "list") S = some (.bl true, S) := by simp [oIsNot, oIsB]
theorem is_int_bool : oIs (.ty "int") (.ty "bool") S = some (.bl false, S) := by simp [oIs, oIsB]
theorem isn_int_bool : oIsNot (.ty "int") (.ty "bool") S = some (.bl true, S) := by simp [oIsNot, oIsB]
theorem is_str_int : oIs (.ty "str") (.ty "int") S = some (.bl false, S) := by simp [oIs, oIsB]
theorem isn_str_int : oIsNot (.ty "str") (.ty "int") S = some (.bl true, S) := by simp [oIsNot, oIsB]
theorem is_str_str : oIs (.ty "str") (.ty "str") S = some (.bl true, S) := by simp [oIs, oIsB]
theorem isn_str_str : oIsNot (.ty "str") (.ty "str") S = some (.bl false, S) := by simp [oIsNot, oIsB]
theorem is_str_tuple : oIs (.ty "str") (.ty "tuple") S = some (.bl false, S) := by simp [oIs, oIsB]
theorem isn_str_tuple : oIsNot (.ty "str") (.ty "tuple") S = some (.bl true, S) := by simp [oIsNot, oIsB]
theorem is_str_list : oIs (.ty "str") (.ty "list") S = some (.bl false, S) := by simp [oIs, oIsB]
theorem isn_str_list : oIsNot (.ty "str") (.ty "list") S = some (.bl true, S) := by simp [oIsNot, oIsB]
theorem is_str_bool : oIs (.ty "str") (.ty "bool") S = some (.bl false, S) := by simp [oIs, oIsB]
theorem isn_str_bool : oIsNot (.ty "str") (.ty "bool") S = some (.bl true, S) := by simp [oIsNot, oIsB]
theorem is_tuple_int : oIs (.ty "tuple") (.ty "int") S = some (.bl false, S) := by simp [oIs, oIsB]
theorem isn_tuple_int : oIsNot (.ty "tuple") (.ty "int") S = some (.bl true, S) := by simp [oIsNot, oIsB]
theorem is_tuple_str : oIs (.ty "tuple") (.ty "str") S = some (.bl false, S) := by simp [oIs, oIsB]
theorem isn_tuple_str : oIsNot (.ty "tuple") (.ty "str") S = some (.bl true, S) := by simp [oIsNot, oIsB]
theorem is_tuple_tuple : oIs (.ty "tuple") (.ty "tuple") S = some (.bl true, S) := by simp [oIs, oIsB]
theorem isn_tuple_tuple : oIsNot (.ty "tuple") (.ty "tuple") S = some (.bl false, S) := by simp [oIsNot, oIsB]
theorem is_tuple_list : oIs (.ty "tuple") (.ty "list") S = some (.bl false, S) := by simp [oIs, oIsB]
theorem isn_tuple_list : oIsNot (.ty "tuple") (.ty "list") S = some (.bl true, S) := by simp [oIsNot, oIsB]
theorem is_tuple_bool : oIs (.ty "tuple") (.ty "bool") S = some (.bl false, S) := by simp [oIs, oIsB]
theorem isn_tuple_bool : oIsNot (.ty "tuple") (.ty "bool") S = some (.bl true, S) := by simp [oIsNot, oIsB]
theorem is_list_int : oIs (.ty "list") (.ty "int") S = some (.bl false, S) := by simp [oIs, oIsB]
theorem isn_list_int : oIsNot (.ty "list") (.ty "int") S = some (.bl true, S) := by simp [oIsNot, oIsB]
theorem is_list_str : oIs (.ty "list") (.ty "str") S = some (.bl false, S) := by simp [oIs, oIsB]
theorem isn_list_str : oIsNot (.ty "list") (.ty "str") S = some (.bl true, S) := by simp [oIsNot, oIsB]
theorem is_list_tuple : oIs (.ty "list") (.ty "tuple") S = some (.bl false, S) := by simp [oIs, oIsB]
theorem isn_list_tuple : oIsNot (.ty "list") (.ty "tuple") S = some (.bl true, S) := by simp [oIsNot, oIsB]
theorem is_list_list : oIs (.ty "list") (.ty "list") S = some (.bl true, S) := by simp [oIs, oIsB]
theorem isn_list_list : oIsNot (.ty "list") (.ty "list") S = some (.bl false, S) := by simp [oIsNot, oIsB]
theorem is_list_bool : oIs (.ty "list") (.ty "bool") S = some (.bl false, S) := by simp [oIs, oIsB]
theorem isn_list_bool : oIsNot (.ty "list") (.ty "bool") S = some (.bl true, S) := by simp [oIsNot, oIsB]
theorem is_bool_int : oIs (.ty "bool") (.ty "int") S = some (.bl false, S) := by simp [oIs, oIsB]
theorem isn_bool_int : oIsNot (.ty "bool") (.ty "int") S = some (.bl true, S) := by simp [oIsNot, oIsB]
theorem is_bool_str : oIs (.ty "bool") (.ty "str") S = some (.bl false, S) := by simp [oIs, oIsB]
theorem isn_bool_str : oIsNot (.ty "bool") (.ty "str") S = some (.bl true, S) := by simp [oIsNot, oIsB]
theorem is_bool_tuple : oIs (.ty "bool") (.ty "tuple") S = some (.bl false, S) := by simp [oIs, oIsB]
theorem isn_bool_tuple : oIsNot (.ty "bool") (.ty "tuple") S = some (.bl true, S) := by simp [oIsNot, oIsB]
theorem is_bool_list : oIs (.ty "bool") (.ty "list") S = some (.bl false, S) := by simp [oIs, oIsB]
theorem isn_bool_list : oIsNot (.ty "bool") (.ty "list") S = some (.bl true, S) := by simp [oIsNot, oIsB]
theorem is_bool_bool : oIs (.ty "bool") (.ty "bool") S = some (.bl true, S) := by simp [oIs, oIsB]
theorem isn_bool_bool : oIsNot (.ty "bool") (.ty "bool") S = some (.bl false, S) := by simp [oIsNot, oIsB]
theorem is_NoneType_int : oIs (.ty "NoneType") (.ty "int") S = some (.bl false, S) := by simp [oIs, oIsB]
theorem isn_NoneType_int : oIsNot (.ty "NoneType") (.ty "int") S = some (.bl true, S) := by simp [oIsNot, oIsB]
theorem is_NoneType_str : oIs (.ty "NoneType") (.ty "str") S = some (.bl false, S) := by simp [oIs, oIsB]
theorem isn_NoneType_str : oIsNot (.ty "NoneType") (.ty "str") S = some (.bl true, S) := by simp [oIsNot, oIsB]
theorem is_NoneType_tuple : oIs (.ty "NoneType") (.ty "tuple") S = some (.bl false, S) := by simp [oIs, oIsB]
theorem isn_NoneType_tuple : oIsNot (.ty "NoneType") (.ty "tuple") S = some (.bl true, S) := by simp [oIsNot, oIsB]
theorem is_NoneType_list : oIs (.ty "NoneType") (.ty "list") S = some (.bl false, S) := by simp [oIs, oIsB]
theorem isn_NoneType_list : oIsNot (.ty "NoneType") (.ty "list") S = some (.bl true, S) := by simp [oIsNot, oIsB]
theorem is_NoneType_bool : oIs (.ty "NoneType") (.ty "bool") S = some (.bl false, S) := by simp [oIs, oIsB]
theorem isn_NoneType_bool : oIsNot (.ty "NoneType") (.ty "bool") S = some (.bl true, S) := by simp [oIsNot, oIsB]
theorem isN_non : oIs .non .non S = some (.bl true, S) := id rfl
theorem isnN_non : oIsNot .non .non S = some (.bl false, S) := id rfl
theorem isB_non : oIs .non (.bl q) S = some (.bl false, S) := id rfl
theorem isnB_non : oIsNot .non (.bl q) S = some (.bl true, S) := id rfl
theorem isN_bl : oIs (.bl p) .non S = some (.bl false, S) := id rfl
theorem isnN_bl : oIsNot (.bl p) .non S = some (.bl true, S) := id rfl
theorem isB_bl : oIs (.bl p) (.bl q) S = some (.bl (decide (p = q)), S) := id rfl
theorem isnB_bl : oIsNot (.bl p) (.bl q) S = some (.bl (!decide (p = q)), S) := id rfl
theorem isN_int : oIs (.int i) .non S = some (.bl false, S) := id rfl
theorem isnN_int : oIsNot (.int i) .non S = some (.bl true, S) := id rfl
theorem isB_int : oIs (.int i) (.bl q) S = some (.bl false, S) := id rfl
theorem isnB_int : oIsNot (.int i) (.bl q) S = some (.bl true, S) := id rfl
theorem isN_str : oIs (.str a) .non S = some (.bl false, S) := id rfl
theorem isnN_str : oIsNot (.str a) .non S = some (.bl true, S) := id rfl
theorem isB_str : oIs (.str a) (.bl q) S = some (.bl false, S) := id rfl
theorem isnB_str : oIsNot (.str a) (.bl q) S = some (.bl true, S) := id rfl
theorem isN_tup : oIs (.tup ds) .non S = some (.bl false, S) := id rfl
theorem isnN_tup : oIsNot (.tup ds) .non S = some (.bl true, S) := id rfl
theorem isB_tup : oIs (.tup ds) (.bl q) S = some (.bl false, S) := id rfl
theorem isnB_tup : oIsNot (.tup ds) (.bl q) S = some (.bl true, S) := id rfl
theorem eq_non_non : oEq .non .non S = some (.bl true, S) := id rfl
theorem eq_non_bl : oEq .non (.bl q) S = some (.bl false, S) := by simp [oEq, oEqB, shD, eqD]
theorem ne_non_bl : oNe .non (.bl q) S = some (.bl true, S) := by simp [oNe, oNeB, scalD, eqD]
theorem eq_non_int : oEq .non (.int j) S = some (.bl false, S) := by simp [oEq, oEqB, shD, eqD]
theorem ne_non_int : oNe .non (.int j) S = some (.bl true, S) := by simp [oNe, oNeB, scalD, eqD]
theorem eq_non_str : oEq .non (.str b) S = some (.bl false, S) := by simp [oEq, oEqB, shD, eqD]
theorem ne_non_str : oNe .non (.str b) S = some (.bl true, S) := by simp [oNe, oNeB, scalD, eqD]
theorem eq_bl_non : oEq (.bl p) .non S = some (.bl false, S) := by simp [oEq, oEqB, shD, eqD]
theorem ne_bl_non : oNe (.bl p) .non S = some (.bl true, S) := by simp [oNe, oNeB, scalD, eqD]
theorem eq_bl_bl : oEq (.bl p) (.bl q) S = some (.bl (decide (p = q)), S) := by
  simp only [oEq, oEqB, shD, eqD, Bool.and_self, if_true, Option.map_some]
  first | rfl | (congr 3; rw [Bool.eq_iff_iff, beq_iff_eq, decide_eq_true_eq])
theorem ne_bl_bl : oNe (.bl p) (.bl q) S = some (.bl (!(decide (p = q))), S) := by
  simp only [oNe, oNeB, scalD, eqD, if_true, Option.map_some]
  first | rfl | (congr 4; rw [Bool.eq_iff_iff, beq_iff_eq, decide_eq_true_eq])
theorem eq_bl_str : oEq (.bl p) (.str b) S = some (.bl false, S) := by simp [oEq, oEqB, shD, eqD]
theorem ne_bl_str : oNe (.bl p) (.str b) S = some (.bl true, S) := by simp [oNe, oNeB, scalD, eqD]
theorem eq_int_non : oEq (.int i) .non S = some (.bl false, S) := by simp [oEq, oEqB, shD, eqD]
theorem ne_int_non : oNe (.int i) .non S = some (.bl true, S) := by simp [oNe, oNeB, scalD, eqD]
theorem eq_int_int : oEq (.int i) (.int j) S = some (.bl (decide (i = j)), S) := by
  simp only [oEq, oEqB, shD, eqD, Bool.and_self, if_true, Option.map_some]
  first | rfl | (congr 3; rw [Bool.eq_iff_iff, beq_iff_eq, decide_eq_true_eq])
theorem ne_int_int : oNe (.int i) (.int j) S = some (.bl (!(decide (i = j))), S) := by
  simp only [oNe, oNeB, scalD, eqD, if_true, Option.map_some]
  first | rfl | (congr 4; rw [Bool.eq_iff_iff, beq_iff_eq, decide_eq_true_eq])
theorem eq_int_str : oEq (.int i) (.str b) S = some (.bl false, S) := by simp [oEq, oEqB, shD, eqD]
theorem ne_int_str : oNe (.int i) (.str b) S = some (.bl true, S) := by simp [oNe, oNeB, scalD, eqD]
theorem eq_str_non : oEq (.str a) .non S = some (.bl false, S) := by simp [oEq, oEqB, shD, eqD]
theorem ne_str_non : oNe (.str a) .non S = some (.bl true, S) := by simp [oNe, oNeB, scalD, eqD]
theorem eq_str_bl : oEq (.str a) (.bl q) S = some (.bl false, S) := by simp [oEq, oEqB, shD, eqD]
theorem ne_str_bl : oNe (.str a) (.bl q) S = some (.bl true, S) := by simp [oNe, oNeB, scalD, eqD]
theorem eq_str_int : oEq (.str a) (.int j) S = some (.bl false, S) := by simp [oEq, oEqB, shD, eqD]
theorem ne_str_int : oNe (.str a) (.int j) S = some (.bl true, S) := by simp [oNe, oNeB, scalD, eqD]
theorem eq_str_str : oEq (.str a) (.str b) S = some (.bl (decide (a = b)), S) := by
  simp only [oEq, oEqB, shD, eqD, Bool.and_self, if_true, Option.map_some]
  first | rfl | (congr 3; rw [Bool.eq_iff_iff, beq_iff_eq, decide_eq_true_eq])
theorem ne_str_str : oNe (.str a) (.str b) S = some (.bl (!(decide (a = b))), S) := by
  simp only [oNe, oNeB, scalD, eqD, if_true, Option.map_some]
  first | rfl | (congr 4; rw [Bool.eq_iff_iff, beq_iff_eq, decide_eq_true_eq])
theorem isi_r {c : String} {b : Bool} (h : S[n]? = some (.lst ds)) (hc : isiS "list" c = some b) : oIsi [.ref n, .ty c] S = some (.bl b, S) := by simp [oIsi, tyOf, h, hc]
theorem type_r (h : S[n]? = some (.lst ds)) : oType [.ref n] S = some (.ty "list", S) := by simp [oType, tyOf, h]
theorem isN_ref : oIs (.ref n) .non S = some (.bl false, S) := id rfl
theorem isB_ref : oIs (.ref n) (.bl q) S = some (.bl false, S) := id rfl
theorem tru_bl : tru (.bl p) S = some p := id rfl
theorem tru_int : tru (.int i) S = some (i != 0) := id rfl
end
end Dx
namespace Dx
open PySem PySem.Spec PyProof.Rows
/-! ### values, and what `_law_like` says of them -/
/-- a value, at most n deep -/
inductive Vd (S : Sto) : Nat → D → Prop
  | non {n : Nat} : Vd S n .non
  | bl {n : Nat} {b : Bool} : Vd S n (.bl b)
  | int {n : Nat} {i : Int} : Vd S n (.int i)
  | str {n : Nat} {z : Str} (h : z.length ≤ 1000000) : Vd S n (.str z)
  | ref {n m : Nat} {ds : List D} (h : S[m]? = some (.lst ds)) : Vd S n (.ref m)
  | tup {n : Nat} {ds : List D} (hz : ds.length ≤ 1000000) (h : ∀ d ∈ ds, Vd S n d) : Vd S (n + 1) (.tup ds)
/-- a value without lists -/
inductive Pl : Nat → D → Prop
  | non {n : Nat} : Pl n .non
  | bl {n : Nat} {b : Bool} : Pl n (.bl b)
  | int {n : Nat} {i : Int} : Pl n (.int i)
  | str {n : Nat} {z : Str} (h : z.length ≤ 1000000) : Pl n (.str z)
  | tup {n : Nat} {ds : List D} (hz : ds.length ≤ 1000000) (h : ∀ d ∈ ds, Pl n d) : Pl (n + 1) (.tup ds)
theorem Pl.vd {S : Sto} {n : Nat} {d : D} (h : Pl n d) : Vd S n d := by
  induction h with
  | non => exact .non
  | bl => exact .bl
  | int => exact .int
  | str h => exact .str h
  | tup hz _ ih => exact .tup hz ih
theorem Vd.keep {S S' : Sto} {n : Nat} {d : D} (h : Vd S n d) (k : Kp S S') : Vd S' n d := by
  induction h with
  | non => exact .non
  | bl => exact .bl
  | int => exact .int
  | str h => exact .str h
  | ref h => exact .ref (k.get h)
  | tup hz _ ih => exact .tup hz ih
mutual
def likeB : D → D → Bool
  | .tup as, .tup bs => likeBs as bs
  | .non, .non => true
  | .bl a, .bl b => decide (a = b)
  | .str a, .str b => decide (a = b)
  | .int a, .int b => decide (a = b)
  | _, _ => false
def likeBs : List D → List D → Bool
  | [], [] => true
  | a :: as, b :: bs => likeB a b && likeBs as bs
  | _, _ => false
end
mutual
theorem likeB_refl : ∀ (n : Nat) (d : D), Pl n d → likeB d d = true
  | _, .non, _ => by simp [likeB]
  | _, .bl _, _ => by simp [likeB]
  | _, .int _, _ => by simp [likeB]
  | _, .str _, _ => by simp [likeB]
  | n + 1, .tup ds, h => by
    cases h with
    | tup hz h => rw [likeB]; exact likeBs_refl n ds h
  | _, .sq _, h => nomatch h
  | _, .ref _, h => nomatch h
  | _, .ty _, h => nomatch h
theorem likeBs_refl : ∀ (n : Nat) (ds : List D), (∀ d ∈ ds, Pl n d) → likeBs ds ds = true
  | _, [], _ => by simp [likeBs]
  | n, d :: ds, h => by rw [likeBs, likeB_refl n d (h d List.mem_cons_self), likeBs_refl n ds fun x hx => h x (List.mem_cons_of_mem _ hx)]; rfl
end
noncomputable def fLike : Nat → Fn
  | 0 => fun _ _ => .err
  | n + 1 => bodyF 3 (B__law_like (fLike n))
theorem like_len : ∀ {as bs : List D}, as.length ≠ bs.length → likeBs as bs = false
  | [], [], h => absurd rfl h
  | [], _ :: _, _ => by simp [likeBs]
  | _ :: _, [], _ => by simp [likeBs]
  | a :: as, b :: bs, h => by rw [likeBs, like_len (as := as) (bs := bs) (by simpa using h), Bool.and_false]
theorem like_all {as bs : List D} (h : as.length = bs.length) : likeBs as bs = ((List.range bs.length).all fun i => likeB (as.getD i .non) (bs.getD i .non)) := by
  induction as generalizing bs with
  | nil => cases bs with
    | nil => simp [likeBs]
    | cons => cases h
  | cons a as ih => cases bs with
    | nil => cases h
    | cons b bs =>
      rw [likeBs, ih (by simpa using h), List.length_cons, List.range_succ_eq_map, List.all_cons, List.all_map]
      rfl
section
variable {Pd : D → Sto → Prop} {E : Exn → Sto → Prop}
theorem join_one {z : Str} : Txt.join "" [z] = z := by
  rw [TL.join_eq]; rfl
theorem join1 {S : Sto} {n : Nat} {z : Str} (h : S[n]? = some (.lst [.str z])) (hz : z.length ≤ 16777216) : mJoin (.str "") [.ref n] S = some (.str z, S) := by
  simp only [mJoin, seqOf, lstOf, h, Option.bind_some, strsOf, Option.map_some, join_one]
  have h0 : ("" : Str).length = 0 := rfl
  rw [if_pos (by simp only [List.map_cons, List.map_nil, List.sum_cons, List.sum_nil, List.length_cons, List.length_nil, h0]; omega)]
theorem isi_r_tuple {S : Sto} {n : Nat} {ds : List D} (h : S[n]? = some (.lst ds)) : oIsi [.ref n, .ty "tuple"] S = some (.bl false, S) := isi_r h (by simp [isiS])
theorem isi_r_int {S : Sto} {n : Nat} {ds : List D} (h : S[n]? = some (.lst ds)) : oIsi [.ref n, .ty "int"] S = some (.bl false, S) := isi_r h (by simp [isiS])
theorem isi_r_bool {S : Sto} {n : Nat} {ds : List D} (h : S[n]? = some (.lst ds)) : oIsi [.ref n, .ty "bool"] S = some (.bl false, S) := isi_r h (by simp [isiS])
theorem isi_r_str {S : Sto} {n : Nat} {ds : List D} (h : S[n]? = some (.lst ds)) : oIsi [.ref n, .ty "str"] S = some (.bl false, S) := isi_r h (by simp [isiS])
theorem isi_r_list {S : Sto} {n : Nat} {ds : List D} (h : S[n]? = some (.lst ds)) : oIsi [.ref n, .ty "list"] S = some (.bl true, S) := isi_r h (by simp [isiS])
theorem eqDs_nil (ds : List D) : eqDs ds [] = ds.isEmpty := by cases ds <;> simp [eqDs]
theorem eq_nil {S : Sto} {n : Nat} {ds : List D} (h : S[n]? = some (.lst ds)) (hz : ds.all (shD 40) = true) : oEq (.ref n) (.ref S.length) (S ++ [.lst []]) = some (.bl ds.isEmpty, S ++ [.lst []]) := by
  have h1 : (S ++ [DO.lst []])[n]? = some (.lst ds) := (Kx.app [] _ _).get h
  have h2 : (S ++ [DO.lst []])[S.length]? = some (.lst []) := by simp
  simp only [oEq, oEqB, h1, h2, hz, List.all_nil, Bool.and_self, if_true, Option.map_some, eqDs_nil]
theorem ne_nil {S : Sto} {n : Nat} {ds : List D} (h : S[n]? = some (.lst ds)) (hz : ds.all (shN 40) = true) : oNe (.ref n) (.ref S.length) (S ++ [.lst []]) = some (.bl (!ds.isEmpty), S ++ [.lst []]) := by
  have h1 : (S ++ [DO.lst []])[n]? = some (.lst ds) := (Kx.app [] _ _).get h
  have h2 : (S ++ [DO.lst []])[S.length]? = some (.lst []) := by simp
  simp only [oNe, oNeB, h1, h2, hz, List.all_nil, Bool.and_self, if_true, Option.map_some, eqDs_nil]
theorem ones_sh (xs : List D) (cb : D → Bool) : ((xs.filter cb).map fun _ => D.int 1).all (shD 40) = true := by simp [shD]
theorem ones_shN (xs : List D) (cb : D → Bool) : ((xs.filter cb).map fun _ => D.int 1).all (shN 40) = true := by simp [shN]
theorem ones_empty (xs : List D) (cb : D → Bool) (ev : D → D) : ((xs.filter cb).map ev).isEmpty = xs.all fun x => !cb x := by
  induction xs with
  | nil => rfl
  | cons x xs ih =>
    by_cases h : cb x = true
    · rw [List.filter_cons_of_pos h]; simp [h]
    · rw [List.filter_cons_of_neg h, ih]; simp [h]
theorem like_spec : ∀ (n : Nat) {S : Sto} {m : Nat} {told due : D}, Pl n due → Vd S m told → (∀ S', Kp S S' → Pd (.bl (likeB told due)) S') → (fLike (n + 1) [told, due] S).wp Pd E := by
  intro n
  induction n using Nat.strongRecOn generalizing Pd E with
  | ind n ih =>
    intro S m told due hp hv h
    rw [fLike, sat_bodyF]
    unfold B__law_like
    cases hp with
    | @tup k ds hz hp =>
      cases hv with
      | ref hr => simp only [sat_ok, sat_ex, sat_err, sat_bind_eq, ofP_some, ofP_none, sat_of_eq, st_nx, st_rt, st_bk, st_ct, st_ex, st_err, st_then, seqP_nx, seqP_rt, seqP_bk, seqP_ct, seqP_ex, st_xSeq, endP_nx, endP_rt, endP_ex, endP_bk, endP_ct, varP_some, varP_none, varP_non, sat_xVar, sat_xC, sat_xOp, sat_xUn, blP_bl, sat_xTB, trP_some, trP_none, sat_xT, sat_xAndT, sat_xOrT, sat_xNotT, sat_xAnd, sat_xOr, sat_xNot, sat_xIf, sat_xNil, sat_xCons, sat_xTup, sat_xLst, sat_xChain, sat_xCall, sat_xCB, sat_xM0, sat_xM, intP_int, sat_xNoP, sat_xPart, sat_xSl, st_xSkip, st_xBrk, st_xCnt, st_xDrop, st_xRet, st_xRetN, st_xIfS, tgP_some, tgP_none, st_xAsg, g_gVar, g_gNil, g_gCons, g_gTup, augP_some, augP_none, st_xAug, parP_two, st_xPar, loopP_nx, loopP_ct, loopP_bk, loopP_rt, loopP_ex, st_xFor, itP_some, itP_none, sat_xIt, sat_xLc, sat_xItA, sat_xYes, sat_xLenSet, oAdd_ii, oSub_ii, oMul_ii, oFdiv_ii, oMod_ii, oNeg_i, oLt_ii, oLe_ii, oGt_ii, oGe_ii, oInt_i, oIx_ti, oIx_qi, oLen_t, oLen_q, oLen_s, atI_0, atI_1, atI_2, atI_3, atI_4, atI_5, atI_6, atI_7, atI_8, atI_9, atI_10, atI_11, atI_12, atI_13, atI_14, List.getElem?_cons_zero, List.getElem?_cons_succ, List.map_cons, List.map_nil, List.cons_append, List.nil_append, List.length_cons, List.length_nil, List.set_cons_zero, List.set_cons_succ, List.replicate, Option.map_some, Option.map_none, Option.bind_some, Option.bind_none, if_true, if_false, Nat.reduceAdd, Nat.reduceSub, Nat.reduceLT, Nat.reduceLeDiff, Nat.reduceEqDiff, Int.reduceLT, Int.reduceLE, Int.reduceNeg, Int.reduceEq, Bool.false_eq_true, Bool.true_eq_false, reduceIte, reduceCtorEq, Bool.not_true, Bool.not_false, decide_eq_true_eq, Nat.zero_lt_succ, and_true, true_and, and_self, and_false, false_and, isi_non_tuple, isi_non_int, isi_non_str, isi_non_bool, isi_non_list, type_non, isi_bl_tuple, isi_bl_int, isi_bl_str, isi_bl_bool, isi_bl_list, type_bl, isi_int_tuple, isi_int_int, isi_int_str, isi_int_bool, isi_int_list, type_int, isi_str_tuple, isi_str_int, isi_str_str, isi_str_bool, isi_str_list, type_str, isi_tup_tuple, isi_tup_int, isi_tup_str, isi_tup_bool, isi_tup_list, type_tup, is_int_int, isn_int_int, is_int_str, isn_int_str, is_int_tuple, isn_int_tuple, is_int_list, isn_int_list, is_int_bool, isn_int_bool, is_str_int, isn_str_int, is_str_str, isn_str_str, is_str_tuple, isn_str_tuple, is_str_list, isn_str_list, is_str_bool, isn_str_bool, is_tuple_int, isn_tuple_int, is_tuple_str, isn_tuple_str, is_tuple_tuple, isn_tuple_tuple, is_tuple_list, isn_tuple_list, is_tuple_bool, isn_tuple_bool, is_list_int, isn_list_int, is_list_str, isn_list_str, is_list_tuple, isn_list_tuple, is_list_list, isn_list_list, is_list_bool, isn_list_bool, is_bool_int, isn_bool_int, is_bool_str, isn_bool_str, is_bool_tuple, isn_bool_tuple, is_bool_list, isn_bool_list, is_bool_bool, isn_bool_bool, is_NoneType_int, isn_NoneType_int, is_NoneType_str, isn_NoneType_str, is_NoneType_tuple, isn_NoneType_tuple, is_NoneType_list, isn_NoneType_list, is_NoneType_bool, isn_NoneType_bool, isN_non, isnN_non, isB_non, isnB_non, isN_bl, isnN_bl, isB_bl, isnB_bl, isN_int, isnN_int, isB_int, isnB_int, isN_str, isnN_str, isB_str, isnB_str, isN_tup, isnN_tup, isB_tup, isnB_tup, eq_non_non, eq_non_bl, ne_non_bl, eq_non_int, ne_non_int, eq_non_str, ne_non_str, eq_bl_non, ne_bl_non, eq_bl_bl, ne_bl_bl, eq_bl_str, ne_bl_str, eq_int_non, ne_int_non, eq_int_int, ne_int_int, eq_int_str, ne_int_str, eq_str_non, ne_str_non, eq_str_bl, ne_str_bl, eq_str_int, ne_str_int, eq_str_str, ne_str_str, isN_ref, isB_ref, tru_bl, tru_int, isi_r_tuple hr, likeB]; exact h _ (Kx.refl _ _)
      | @tup k2 es hz2 hv =>
        simp only [sat_ok, sat_ex, sat_err, sat_bind_eq, ofP_some, ofP_none, sat_of_eq, st_nx, st_rt, st_bk, st_ct, st_ex, st_err, st_then, seqP_nx, seqP_rt, seqP_bk, seqP_ct, seqP_ex, st_xSeq, endP_nx, endP_rt, endP_ex, endP_bk, endP_ct, varP_some, varP_none, varP_non, sat_xVar, sat_xC, sat_xOp, sat_xUn, blP_bl, sat_xTB, trP_some, trP_none, sat_xT, sat_xAndT, sat_xOrT, sat_xNotT, sat_xAnd, sat_xOr, sat_xNot, sat_xIf, sat_xNil, sat_xCons, sat_xTup, sat_xLst, sat_xChain, sat_xCall, sat_xCB, sat_xM0, sat_xM, intP_int, sat_xNoP, sat_xPart, sat_xSl, st_xSkip, st_xBrk, st_xCnt, st_xDrop, st_xRet, st_xRetN, st_xIfS, tgP_some, tgP_none, st_xAsg, g_gVar, g_gNil, g_gCons, g_gTup, augP_some, augP_none, st_xAug, parP_two, st_xPar, loopP_nx, loopP_ct, loopP_bk, loopP_rt, loopP_ex, st_xFor, itP_some, itP_none, sat_xIt, sat_xLc, sat_xItA, sat_xYes, sat_xLenSet, oAdd_ii, oSub_ii, oMul_ii, oFdiv_ii, oMod_ii, oNeg_i, oLt_ii, oLe_ii, oGt_ii, oGe_ii, oInt_i, oIx_ti, oIx_qi, oLen_t, oLen_q, oLen_s, atI_0, atI_1, atI_2, atI_3, atI_4, atI_5, atI_6, atI_7, atI_8, atI_9, atI_10, atI_11, atI_12, atI_13, atI_14, List.getElem?_cons_zero, List.getElem?_cons_succ, List.map_cons, List.map_nil, List.cons_append, List.nil_append, List.length_cons, List.length_nil, List.set_cons_zero, List.set_cons_succ, List.replicate, Option.map_some, Option.map_none, Option.bind_some, Option.bind_none, if_true, if_false, Nat.reduceAdd, Nat.reduceSub, Nat.reduceLT, Nat.reduceLeDiff, Nat.reduceEqDiff, Int.reduceLT, Int.reduceLE, Int.reduceNeg, Int.reduceEq, Bool.false_eq_true, Bool.true_eq_false, reduceIte, reduceCtorEq, Bool.not_true, Bool.not_false, decide_eq_true_eq, Nat.zero_lt_succ, and_true, true_and, and_self, and_false, false_and, isi_non_tuple, isi_non_int, isi_non_str, isi_non_bool, isi_non_list, type_non, isi_bl_tuple, isi_bl_int, isi_bl_str, isi_bl_bool, isi_bl_list, type_bl, isi_int_tuple, isi_int_int, isi_int_str, isi_int_bool, isi_int_list, type_int, isi_str_tuple, isi_str_int, isi_str_str, isi_str_bool, isi_str_list, type_str, isi_tup_tuple, isi_tup_int, isi_tup_str, isi_tup_bool, isi_tup_list, type_tup, is_int_int, isn_int_int, is_int_str, isn_int_str, is_int_tuple, isn_int_tuple, is_int_list, isn_int_list, is_int_bool, isn_int_bool, is_str_int, isn_str_int, is_str_str, isn_str_str, is_str_tuple, isn_str_tuple, is_str_list, isn_str_list, is_str_bool, isn_str_bool, is_tuple_int, isn_tuple_int, is_tuple_str, isn_tuple_str, is_tuple_tuple, isn_tuple_tuple, is_tuple_list, isn_tuple_list, is_tuple_bool, isn_tuple_bool, is_list_int, isn_list_int, is_list_str, isn_list_str, is_list_tuple, isn_list_tuple, is_list_list, isn_list_list, is_list_bool, isn_list_bool, is_bool_int, isn_bool_int, is_bool_str, isn_bool_str, is_bool_tuple, isn_bool_tuple, is_bool_list, isn_bool_list, is_bool_bool, isn_bool_bool, is_NoneType_int, isn_NoneType_int, is_NoneType_str, isn_NoneType_str, is_NoneType_tuple, isn_NoneType_tuple, is_NoneType_list, isn_NoneType_list, is_NoneType_bool, isn_NoneType_bool, isN_non, isnN_non, isB_non, isnB_non, isN_bl, isnN_bl, isB_bl, isnB_bl, isN_int, isnN_int, isB_int, isnB_int, isN_str, isnN_str, isB_str, isnB_str, isN_tup, isnN_tup, isB_tup, isnB_tup, eq_non_non, eq_non_bl, ne_non_bl, eq_non_int, ne_non_int, eq_non_str, ne_non_str, eq_bl_non, ne_bl_non, eq_bl_bl, ne_bl_bl, eq_bl_str, ne_bl_str, eq_int_non, ne_int_non, eq_int_int, ne_int_int, eq_int_str, ne_int_str, eq_str_non, ne_str_non, eq_str_bl, ne_str_bl, eq_str_int, ne_str_int, eq_str_str, ne_str_str, isN_ref, isB_ref, tru_bl, tru_int, ne_int_int]
        split
        · rename_i hl
          have hl' : es.length ≠ ds.length := fun q => by simp [q] at hl
          rw [likeB, like_len hl'] at h
          exact h _ (Kx.refl _ _)
        · rename_i hl
          have hl' : es.length = ds.length := by simp at hl; omega
          have r1 := rng1_ok (j := (ds.length : Int)) (by omega) (by omega)
          have z : sizeLine = 16777216 := rfl
          simp only [sat_ok, sat_ex, sat_err, sat_bind_eq, ofP_some, ofP_none, sat_of_eq, st_nx, st_rt, st_bk, st_ct, st_ex, st_err, st_then, seqP_nx, seqP_rt, seqP_bk, seqP_ct, seqP_ex, st_xSeq, endP_nx, endP_rt, endP_ex, endP_bk, endP_ct, varP_some, varP_none, varP_non, sat_xVar, sat_xC, sat_xOp, sat_xUn, blP_bl, sat_xTB, trP_some, trP_none, sat_xT, sat_xAndT, sat_xOrT, sat_xNotT, sat_xAnd, sat_xOr, sat_xNot, sat_xIf, sat_xNil, sat_xCons, sat_xTup, sat_xLst, sat_xChain, sat_xCall, sat_xCB, sat_xM0, sat_xM, intP_int, sat_xNoP, sat_xPart, sat_xSl, st_xSkip, st_xBrk, st_xCnt, st_xDrop, st_xRet, st_xRetN, st_xIfS, tgP_some, tgP_none, st_xAsg, g_gVar, g_gNil, g_gCons, g_gTup, augP_some, augP_none, st_xAug, parP_two, st_xPar, loopP_nx, loopP_ct, loopP_bk, loopP_rt, loopP_ex, st_xFor, itP_some, itP_none, sat_xIt, sat_xLc, sat_xItA, sat_xYes, sat_xLenSet, oAdd_ii, oSub_ii, oMul_ii, oFdiv_ii, oMod_ii, oNeg_i, oLt_ii, oLe_ii, oGt_ii, oGe_ii, oInt_i, oIx_ti, oIx_qi, oLen_t, oLen_q, oLen_s, atI_0, atI_1, atI_2, atI_3, atI_4, atI_5, atI_6, atI_7, atI_8, atI_9, atI_10, atI_11, atI_12, atI_13, atI_14, List.getElem?_cons_zero, List.getElem?_cons_succ, List.map_cons, List.map_nil, List.cons_append, List.nil_append, List.length_cons, List.length_nil, List.set_cons_zero, List.set_cons_succ, List.replicate, Option.map_some, Option.map_none, Option.bind_some, Option.bind_none, if_true, if_false, Nat.reduceAdd, Nat.reduceSub, Nat.reduceLT, Nat.reduceLeDiff, Nat.reduceEqDiff, Int.reduceLT, Int.reduceLE, Int.reduceNeg, Int.reduceEq, Bool.false_eq_true, Bool.true_eq_false, reduceIte, reduceCtorEq, Bool.not_true, Bool.not_false, decide_eq_true_eq, Nat.zero_lt_succ, and_true, true_and, and_self, and_false, false_and, isi_non_tuple, isi_non_int, isi_non_str, isi_non_bool, isi_non_list, type_non, isi_bl_tuple, isi_bl_int, isi_bl_str, isi_bl_bool, isi_bl_list, type_bl, isi_int_tuple, isi_int_int, isi_int_str, isi_int_bool, isi_int_list, type_int, isi_str_tuple, isi_str_int, isi_str_str, isi_str_bool, isi_str_list, type_str, isi_tup_tuple, isi_tup_int, isi_tup_str, isi_tup_bool, isi_tup_list, type_tup, is_int_int, isn_int_int, is_int_str, isn_int_str, is_int_tuple, isn_int_tuple, is_int_list, isn_int_list, is_int_bool, isn_int_bool, is_str_int, isn_str_int, is_str_str, isn_str_str, is_str_tuple, isn_str_tuple, is_str_list, isn_str_list, is_str_bool, isn_str_bool, is_tuple_int, isn_tuple_int, is_tuple_str, isn_tuple_str, is_tuple_tuple, isn_tuple_tuple, is_tuple_list, isn_tuple_list, is_tuple_bool, isn_tuple_bool, is_list_int, isn_list_int, is_list_str, isn_list_str, is_list_tuple, isn_list_tuple, is_list_list, isn_list_list, is_list_bool, isn_list_bool, is_bool_int, isn_bool_int, is_bool_str, isn_bool_str, is_bool_tuple, isn_bool_tuple, is_bool_list, isn_bool_list, is_bool_bool, isn_bool_bool, is_NoneType_int, isn_NoneType_int, is_NoneType_str, isn_NoneType_str, is_NoneType_tuple, isn_NoneType_tuple, is_NoneType_list, isn_NoneType_list, is_NoneType_bool, isn_NoneType_bool, isN_non, isnN_non, isB_non, isnB_non, isN_bl, isnN_bl, isB_bl, isnB_bl, isN_int, isnN_int, isB_int, isnB_int, isN_str, isnN_str, isB_str, isnB_str, isN_tup, isnN_tup, isB_tup, isnB_tup, eq_non_non, eq_non_bl, ne_non_bl, eq_non_int, ne_non_int, eq_non_str, ne_non_str, eq_bl_non, ne_bl_non, eq_bl_bl, ne_bl_bl, eq_bl_str, ne_bl_str, eq_int_non, ne_int_non, eq_int_int, ne_int_int, eq_int_str, ne_int_str, eq_str_non, ne_str_non, eq_str_bl, ne_str_bl, eq_str_int, ne_str_int, eq_str_str, ne_str_str, isN_ref, isB_ref, tru_bl, tru_int, r1, wipeG]
          refine lc_pure (fun d => match d with | .int i => !likeB (es.getD i.toNat .non) (ds.getD i.toNat .non) | _ => false) (fun _ => .int 1) (by rw [rngD_len, Int.toNat_natCast]; omega) (fun _ _ => trivial) (fun d hd => ?_) fun S1 k1 e1 => ?_
          · obtain ⟨i, hi, rfl⟩ := rngD_mem hd
            rw [Int.toNat_natCast] at hi
            rw [Int.zero_add]
            refine ⟨_, rfl, fun S1 k1 => ?_⟩
            have g1 : L2.atI es (i : Int) = some (es[i]'(by omega)) := atI_nat (List.getElem?_eq_getElem (by omega))
            have g2 : L2.atI ds (i : Int) = some (ds[i]) := atI_nat (List.getElem?_eq_getElem hi)
            simp only [sat_ok, sat_ex, sat_err, sat_bind_eq, ofP_some, ofP_none, sat_of_eq, st_nx, st_rt, st_bk, st_ct, st_ex, st_err, st_then, seqP_nx, seqP_rt, seqP_bk, seqP_ct, seqP_ex, st_xSeq, endP_nx, endP_rt, endP_ex, endP_bk, endP_ct, varP_some, varP_none, varP_non, sat_xVar, sat_xC, sat_xOp, sat_xUn, blP_bl, sat_xTB, trP_some, trP_none, sat_xT, sat_xAndT, sat_xOrT, sat_xNotT, sat_xAnd, sat_xOr, sat_xNot, sat_xIf, sat_xNil, sat_xCons, sat_xTup, sat_xLst, sat_xChain, sat_xCall, sat_xCB, sat_xM0, sat_xM, intP_int, sat_xNoP, sat_xPart, sat_xSl, st_xSkip, st_xBrk, st_xCnt, st_xDrop, st_xRet, st_xRetN, st_xIfS, tgP_some, tgP_none, st_xAsg, g_gVar, g_gNil, g_gCons, g_gTup, augP_some, augP_none, st_xAug, parP_two, st_xPar, loopP_nx, loopP_ct, loopP_bk, loopP_rt, loopP_ex, st_xFor, itP_some, itP_none, sat_xIt, sat_xLc, sat_xItA, sat_xYes, sat_xLenSet, oAdd_ii, oSub_ii, oMul_ii, oFdiv_ii, oMod_ii, oNeg_i, oLt_ii, oLe_ii, oGt_ii, oGe_ii, oInt_i, oIx_ti, oIx_qi, oLen_t, oLen_q, oLen_s, atI_0, atI_1, atI_2, atI_3, atI_4, atI_5, atI_6, atI_7, atI_8, atI_9, atI_10, atI_11, atI_12, atI_13, atI_14, List.getElem?_cons_zero, List.getElem?_cons_succ, List.map_cons, List.map_nil, List.cons_append, List.nil_append, List.length_cons, List.length_nil, List.set_cons_zero, List.set_cons_succ, List.replicate, Option.map_some, Option.map_none, Option.bind_some, Option.bind_none, if_true, if_false, Nat.reduceAdd, Nat.reduceSub, Nat.reduceLT, Nat.reduceLeDiff, Nat.reduceEqDiff, Int.reduceLT, Int.reduceLE, Int.reduceNeg, Int.reduceEq, Bool.false_eq_true, Bool.true_eq_false, reduceIte, reduceCtorEq, Bool.not_true, Bool.not_false, decide_eq_true_eq, Nat.zero_lt_succ, and_true, true_and, and_self, and_false, false_and, isi_non_tuple, isi_non_int, isi_non_str, isi_non_bool, isi_non_list, type_non, isi_bl_tuple, isi_bl_int, isi_bl_str, isi_bl_bool, isi_bl_list, type_bl, isi_int_tuple, isi_int_int, isi_int_str, isi_int_bool, isi_int_list, type_int, isi_str_tuple, isi_str_int, isi_str_str, isi_str_bool, isi_str_list, type_str, isi_tup_tuple, isi_tup_int, isi_tup_str, isi_tup_bool, isi_tup_list, type_tup, is_int_int, isn_int_int, is_int_str, isn_int_str, is_int_tuple, isn_int_tuple, is_int_list, isn_int_list, is_int_bool, isn_int_bool, is_str_int, isn_str_int, is_str_str, isn_str_str, is_str_tuple, isn_str_tuple, is_str_list, isn_str_list, is_str_bool, isn_str_bool, is_tuple_int, isn_tuple_int, is_tuple_str, isn_tuple_str, is_tuple_tuple, isn_tuple_tuple, is_tuple_list, isn_tuple_list, is_tuple_bool, isn_tuple_bool, is_list_int, isn_list_int, is_list_str, isn_list_str, is_list_tuple, isn_list_tuple, is_list_list, isn_list_list, is_list_bool, isn_list_bool, is_bool_int, isn_bool_int, is_bool_str, isn_bool_str, is_bool_tuple, isn_bool_tuple, is_bool_list, isn_bool_list, is_bool_bool, isn_bool_bool, is_NoneType_int, isn_NoneType_int, is_NoneType_str, isn_NoneType_str, is_NoneType_tuple, isn_NoneType_tuple, is_NoneType_list, isn_NoneType_list, is_NoneType_bool, isn_NoneType_bool, isN_non, isnN_non, isB_non, isnB_non, isN_bl, isnN_bl, isB_bl, isnB_bl, isN_int, isnN_int, isB_int, isnB_int, isN_str, isnN_str, isB_str, isnB_str, isN_tup, isnN_tup, isB_tup, isnB_tup, eq_non_non, eq_non_bl, ne_non_bl, eq_non_int, ne_non_int, eq_non_str, ne_non_str, eq_bl_non, ne_bl_non, eq_bl_bl, ne_bl_bl, eq_bl_str, ne_bl_str, eq_int_non, ne_int_non, eq_int_int, ne_int_int, eq_int_str, ne_int_str, eq_str_non, ne_str_non, eq_str_bl, ne_str_bl, eq_str_int, ne_str_int, eq_str_str, ne_str_str, isN_ref, isB_ref, tru_bl, tru_int, g1, g2]
            refine ih k (by omega) (hp _ (List.getElem_mem hi)) ((hv _ (List.getElem_mem (by omega))).keep k1) fun S2 k2 => ?_
            simp only [sat_ok, sat_ex, sat_err, sat_bind_eq, ofP_some, ofP_none, sat_of_eq, st_nx, st_rt, st_bk, st_ct, st_ex, st_err, st_then, seqP_nx, seqP_rt, seqP_bk, seqP_ct, seqP_ex, st_xSeq, endP_nx, endP_rt, endP_ex, endP_bk, endP_ct, varP_some, varP_none, varP_non, sat_xVar, sat_xC, sat_xOp, sat_xUn, blP_bl, sat_xTB, trP_some, trP_none, sat_xT, sat_xAndT, sat_xOrT, sat_xNotT, sat_xAnd, sat_xOr, sat_xNot, sat_xIf, sat_xNil, sat_xCons, sat_xTup, sat_xLst, sat_xChain, sat_xCall, sat_xCB, sat_xM0, sat_xM, intP_int, sat_xNoP, sat_xPart, sat_xSl, st_xSkip, st_xBrk, st_xCnt, st_xDrop, st_xRet, st_xRetN, st_xIfS, tgP_some, tgP_none, st_xAsg, g_gVar, g_gNil, g_gCons, g_gTup, augP_some, augP_none, st_xAug, parP_two, st_xPar, loopP_nx, loopP_ct, loopP_bk, loopP_rt, loopP_ex, st_xFor, itP_some, itP_none, sat_xIt, sat_xLc, sat_xItA, sat_xYes, sat_xLenSet, oAdd_ii, oSub_ii, oMul_ii, oFdiv_ii, oMod_ii, oNeg_i, oLt_ii, oLe_ii, oGt_ii, oGe_ii, oInt_i, oIx_ti, oIx_qi, oLen_t, oLen_q, oLen_s, atI_0, atI_1, atI_2, atI_3, atI_4, atI_5, atI_6, atI_7, atI_8, atI_9, atI_10, atI_11, atI_12, atI_13, atI_14, List.getElem?_cons_zero, List.getElem?_cons_succ, List.map_cons, List.map_nil, List.cons_append, List.nil_append, List.length_cons, List.length_nil, List.set_cons_zero, List.set_cons_succ, List.replicate, Option.map_some, Option.map_none, Option.bind_some, Option.bind_none, if_true, if_false, Nat.reduceAdd, Nat.reduceSub, Nat.reduceLT, Nat.reduceLeDiff, Nat.reduceEqDiff, Int.reduceLT, Int.reduceLE, Int.reduceNeg, Int.reduceEq, Bool.false_eq_true, Bool.true_eq_false, reduceIte, reduceCtorEq, Bool.not_true, Bool.not_false, decide_eq_true_eq, Nat.zero_lt_succ, and_true, true_and, and_self, and_false, false_and, isi_non_tuple, isi_non_int, isi_non_str, isi_non_bool, isi_non_list, type_non, isi_bl_tuple, isi_bl_int, isi_bl_str, isi_bl_bool, isi_bl_list, type_bl, isi_int_tuple, isi_int_int, isi_int_str, isi_int_bool, isi_int_list, type_int, isi_str_tuple, isi_str_int, isi_str_str, isi_str_bool, isi_str_list, type_str, isi_tup_tuple, isi_tup_int, isi_tup_str, isi_tup_bool, isi_tup_list, type_tup, is_int_int, isn_int_int, is_int_str, isn_int_str, is_int_tuple, isn_int_tuple, is_int_list, isn_int_list, is_int_bool, isn_int_bool, is_str_int, isn_str_int, is_str_str, isn_str_str, is_str_tuple, isn_str_tuple, is_str_list, isn_str_list, is_str_bool, isn_str_bool, is_tuple_int, isn_tuple_int, is_tuple_str, isn_tuple_str, is_tuple_tuple, isn_tuple_tuple, is_tuple_list, isn_tuple_list, is_tuple_bool, isn_tuple_bool, is_list_int, isn_list_int, is_list_str, isn_list_str, is_list_tuple, isn_list_tuple, is_list_list, isn_list_list, is_list_bool, isn_list_bool, is_bool_int, isn_bool_int, is_bool_str, isn_bool_str, is_bool_tuple, isn_bool_tuple, is_bool_list, isn_bool_list, is_bool_bool, isn_bool_bool, is_NoneType_int, isn_NoneType_int, is_NoneType_str, isn_NoneType_str, is_NoneType_tuple, isn_NoneType_tuple, is_NoneType_list, isn_NoneType_list, is_NoneType_bool, isn_NoneType_bool, isN_non, isnN_non, isB_non, isnB_non, isN_bl, isnN_bl, isB_bl, isnB_bl, isN_int, isnN_int, isB_int, isnB_int, isN_str, isnN_str, isB_str, isnB_str, isN_tup, isnN_tup, isB_tup, isnB_tup, eq_non_non, eq_non_bl, ne_non_bl, eq_non_int, ne_non_int, eq_non_str, ne_non_str, eq_bl_non, ne_bl_non, eq_bl_bl, ne_bl_bl, eq_bl_str, ne_bl_str, eq_int_non, ne_int_non, eq_int_int, ne_int_int, eq_int_str, ne_int_str, eq_str_non, ne_str_non, eq_str_bl, ne_str_bl, eq_str_int, ne_str_int, eq_str_str, ne_str_str, isN_ref, isB_ref, tru_bl, tru_int]
            refine ⟨?_, k2, fun _ => Kx.refl _ _⟩
            rw [Int.toNat_natCast, List.getD_eq_getElem?_getD, List.getD_eq_getElem?_getD, List.getElem?_eq_getElem hi, List.getElem?_eq_getElem (by omega : i < es.length)]
            rfl
          · simp only [sat_ok, sat_ex, sat_err, sat_bind_eq, ofP_some, ofP_none, sat_of_eq, st_nx, st_rt, st_bk, st_ct, st_ex, st_err, st_then, seqP_nx, seqP_rt, seqP_bk, seqP_ct, seqP_ex, st_xSeq, endP_nx, endP_rt, endP_ex, endP_bk, endP_ct, varP_some, varP_none, varP_non, sat_xVar, sat_xC, sat_xOp, sat_xUn, blP_bl, sat_xTB, trP_some, trP_none, sat_xT, sat_xAndT, sat_xOrT, sat_xNotT, sat_xAnd, sat_xOr, sat_xNot, sat_xIf, sat_xNil, sat_xCons, sat_xTup, sat_xLst, sat_xChain, sat_xCall, sat_xCB, sat_xM0, sat_xM, intP_int, sat_xNoP, sat_xPart, sat_xSl, st_xSkip, st_xBrk, st_xCnt, st_xDrop, st_xRet, st_xRetN, st_xIfS, tgP_some, tgP_none, st_xAsg, g_gVar, g_gNil, g_gCons, g_gTup, augP_some, augP_none, st_xAug, parP_two, st_xPar, loopP_nx, loopP_ct, loopP_bk, loopP_rt, loopP_ex, st_xFor, itP_some, itP_none, sat_xIt, sat_xLc, sat_xItA, sat_xYes, sat_xLenSet, oAdd_ii, oSub_ii, oMul_ii, oFdiv_ii, oMod_ii, oNeg_i, oLt_ii, oLe_ii, oGt_ii, oGe_ii, oInt_i, oIx_ti, oIx_qi, oLen_t, oLen_q, oLen_s, atI_0, atI_1, atI_2, atI_3, atI_4, atI_5, atI_6, atI_7, atI_8, atI_9, atI_10, atI_11, atI_12, atI_13, atI_14, List.getElem?_cons_zero, List.getElem?_cons_succ, List.map_cons, List.map_nil, List.cons_append, List.nil_append, List.length_cons, List.length_nil, List.set_cons_zero, List.set_cons_succ, List.replicate, Option.map_some, Option.map_none, Option.bind_some, Option.bind_none, if_true, if_false, Nat.reduceAdd, Nat.reduceSub, Nat.reduceLT, Nat.reduceLeDiff, Nat.reduceEqDiff, Int.reduceLT, Int.reduceLE, Int.reduceNeg, Int.reduceEq, Bool.false_eq_true, Bool.true_eq_false, reduceIte, reduceCtorEq, Bool.not_true, Bool.not_false, decide_eq_true_eq, Nat.zero_lt_succ, and_true, true_and, and_self, and_false, false_and, isi_non_tuple, isi_non_int, isi_non_str, isi_non_bool, isi_non_list, type_non, isi_bl_tuple, isi_bl_int, isi_bl_str, isi_bl_bool, isi_bl_list, type_bl, isi_int_tuple, isi_int_int, isi_int_str, isi_int_bool, isi_int_list, type_int, isi_str_tuple, isi_str_int, isi_str_str, isi_str_bool, isi_str_list, type_str, isi_tup_tuple, isi_tup_int, isi_tup_str, isi_tup_bool, isi_tup_list, type_tup, is_int_int, isn_int_int, is_int_str, isn_int_str, is_int_tuple, isn_int_tuple, is_int_list, isn_int_list, is_int_bool, isn_int_bool, is_str_int, isn_str_int, is_str_str, isn_str_str, is_str_tuple, isn_str_tuple, is_str_list, isn_str_list, is_str_bool, isn_str_bool, is_tuple_int, isn_tuple_int, is_tuple_str, isn_tuple_str, is_tuple_tuple, isn_tuple_tuple, is_tuple_list, isn_tuple_list, is_tuple_bool, isn_tuple_bool, is_list_int, isn_list_int, is_list_str, isn_list_str, is_list_tuple, isn_list_tuple, is_list_list, isn_list_list, is_list_bool, isn_list_bool, is_bool_int, isn_bool_int, is_bool_str, isn_bool_str, is_bool_tuple, isn_bool_tuple, is_bool_list, isn_bool_list, is_bool_bool, isn_bool_bool, is_NoneType_int, isn_NoneType_int, is_NoneType_str, isn_NoneType_str, is_NoneType_tuple, isn_NoneType_tuple, is_NoneType_list, isn_NoneType_list, is_NoneType_bool, isn_NoneType_bool, isN_non, isnN_non, isB_non, isnB_non, isN_bl, isnN_bl, isB_bl, isnB_bl, isN_int, isnN_int, isB_int, isnB_int, isN_str, isnN_str, isB_str, isnB_str, isN_tup, isnN_tup, isB_tup, isnB_tup, eq_non_non, eq_non_bl, ne_non_bl, eq_non_int, ne_non_int, eq_non_str, ne_non_str, eq_bl_non, ne_bl_non, eq_bl_bl, ne_bl_bl, eq_bl_str, ne_bl_str, eq_int_non, ne_int_non, eq_int_int, ne_int_int, eq_int_str, ne_int_str, eq_str_non, ne_str_non, eq_str_bl, ne_str_bl, eq_str_int, ne_str_int, eq_str_str, ne_str_str, isN_ref, isB_ref, tru_bl, tru_int, eq_nil e1 (ones_sh _ _), ones_empty]
            refine ⟨by rw [z]; decide, ?_⟩
            have he : ((rngD 0 (Int.toNat ds.length)).all fun x => !(match x with | .int i => !likeB (es.getD i.toNat .non) (ds.getD i.toNat .non) | _ => false)) = likeB (.tup es) (.tup ds) := by
              rw [likeB, like_all hl', rngD, List.all_map, Int.toNat_natCast]
              refine congrArg (List.all (List.range ds.length)) (funext fun i => ?_)
              simp only [Function.comp, Int.zero_add, Int.toNat_natCast, Bool.not_not]
            rw [he]
            exact h _ (k1.trans (Kx.app _ _ _))
      | _ => simp only [sat_ok, sat_ex, sat_err, sat_bind_eq, ofP_some, ofP_none, sat_of_eq, st_nx, st_rt, st_bk, st_ct, st_ex, st_err, st_then, seqP_nx, seqP_rt, seqP_bk, seqP_ct, seqP_ex, st_xSeq, endP_nx, endP_rt, endP_ex, endP_bk, endP_ct, varP_some, varP_none, varP_non, sat_xVar, sat_xC, sat_xOp, sat_xUn, blP_bl, sat_xTB, trP_some, trP_none, sat_xT, sat_xAndT, sat_xOrT, sat_xNotT, sat_xAnd, sat_xOr, sat_xNot, sat_xIf, sat_xNil, sat_xCons, sat_xTup, sat_xLst, sat_xChain, sat_xCall, sat_xCB, sat_xM0, sat_xM, intP_int, sat_xNoP, sat_xPart, sat_xSl, st_xSkip, st_xBrk, st_xCnt, st_xDrop, st_xRet, st_xRetN, st_xIfS, tgP_some, tgP_none, st_xAsg, g_gVar, g_gNil, g_gCons, g_gTup, augP_some, augP_none, st_xAug, parP_two, st_xPar, loopP_nx, loopP_ct, loopP_bk, loopP_rt, loopP_ex, st_xFor, itP_some, itP_none, sat_xIt, sat_xLc, sat_xItA, sat_xYes, sat_xLenSet, oAdd_ii, oSub_ii, oMul_ii, oFdiv_ii, oMod_ii, oNeg_i, oLt_ii, oLe_ii, oGt_ii, oGe_ii, oInt_i, oIx_ti, oIx_qi, oLen_t, oLen_q, oLen_s, atI_0, atI_1, atI_2, atI_3, atI_4, atI_5, atI_6, atI_7, atI_8, atI_9, atI_10, atI_11, atI_12, atI_13, atI_14, List.getElem?_cons_zero, List.getElem?_cons_succ, List.map_cons, List.map_nil, List.cons_append, List.nil_append, List.length_cons, List.length_nil, List.set_cons_zero, List.set_cons_succ, List.replicate, Option.map_some, Option.map_none, Option.bind_some, Option.bind_none, if_true, if_false, Nat.reduceAdd, Nat.reduceSub, Nat.reduceLT, Nat.reduceLeDiff, Nat.reduceEqDiff, Int.reduceLT, Int.reduceLE, Int.reduceNeg, Int.reduceEq, Bool.false_eq_true, Bool.true_eq_false, reduceIte, reduceCtorEq, Bool.not_true, Bool.not_false, decide_eq_true_eq, Nat.zero_lt_succ, and_true, true_and, and_self, and_false, false_and, isi_non_tuple, isi_non_int, isi_non_str, isi_non_bool, isi_non_list, type_non, isi_bl_tuple, isi_bl_int, isi_bl_str, isi_bl_bool, isi_bl_list, type_bl, isi_int_tuple, isi_int_int, isi_int_str, isi_int_bool, isi_int_list, type_int, isi_str_tuple, isi_str_int, isi_str_str, isi_str_bool, isi_str_list, type_str, isi_tup_tuple, isi_tup_int, isi_tup_str, isi_tup_bool, isi_tup_list, type_tup, is_int_int, isn_int_int, is_int_str, isn_int_str, is_int_tuple, isn_int_tuple, is_int_list, isn_int_list, is_int_bool, isn_int_bool, is_str_int, isn_str_int, is_str_str, isn_str_str, is_str_tuple, isn_str_tuple, is_str_list, isn_str_list, is_str_bool, isn_str_bool, is_tuple_int, isn_tuple_int, is_tuple_str, isn_tuple_str, is_tuple_tuple, isn_tuple_tuple, is_tuple_list, isn_tuple_list, is_tuple_bool, isn_tuple_bool, is_list_int, isn_list_int, is_list_str, isn_list_str, is_list_tuple, isn_list_tuple, is_list_list, isn_list_list, is_list_bool, isn_list_bool, is_bool_int, isn_bool_int, is_bool_str, isn_bool_str, is_bool_tuple, isn_bool_tuple, is_bool_list, isn_bool_list, is_bool_bool, isn_bool_bool, is_NoneType_int, isn_NoneType_int, is_NoneType_str, isn_NoneType_str, is_NoneType_tuple, isn_NoneType_tuple, is_NoneType_list, isn_NoneType_list, is_NoneType_bool, isn_NoneType_bool, isN_non, isnN_non, isB_non, isnB_non, isN_bl, isnN_bl, isB_bl, isnB_bl, isN_int, isnN_int, isB_int, isnB_int, isN_str, isnN_str, isB_str, isnB_str, isN_tup, isnN_tup, isB_tup, isnB_tup, eq_non_non, eq_non_bl, ne_non_bl, eq_non_int, ne_non_int, eq_non_str, ne_non_str, eq_bl_non, ne_bl_non, eq_bl_bl, ne_bl_bl, eq_bl_str, ne_bl_str, eq_int_non, ne_int_non, eq_int_int, ne_int_int, eq_int_str, ne_int_str, eq_str_non, ne_str_non, eq_str_bl, ne_str_bl, eq_str_int, ne_str_int, eq_str_str, ne_str_str, isN_ref, isB_ref, tru_bl, tru_int, likeB]; exact h _ (Kx.refl _ _)
    | non =>
      cases hv with
      | ref hr => simp only [sat_ok, sat_ex, sat_err, sat_bind_eq, ofP_some, ofP_none, sat_of_eq, st_nx, st_rt, st_bk, st_ct, st_ex, st_err, st_then, seqP_nx, seqP_rt, seqP_bk, seqP_ct, seqP_ex, st_xSeq, endP_nx, endP_rt, endP_ex, endP_bk, endP_ct, varP_some, varP_none, varP_non, sat_xVar, sat_xC, sat_xOp, sat_xUn, blP_bl, sat_xTB, trP_some, trP_none, sat_xT, sat_xAndT, sat_xOrT, sat_xNotT, sat_xAnd, sat_xOr, sat_xNot, sat_xIf, sat_xNil, sat_xCons, sat_xTup, sat_xLst, sat_xChain, sat_xCall, sat_xCB, sat_xM0, sat_xM, intP_int, sat_xNoP, sat_xPart, sat_xSl, st_xSkip, st_xBrk, st_xCnt, st_xDrop, st_xRet, st_xRetN, st_xIfS, tgP_some, tgP_none, st_xAsg, g_gVar, g_gNil, g_gCons, g_gTup, augP_some, augP_none, st_xAug, parP_two, st_xPar, loopP_nx, loopP_ct, loopP_bk, loopP_rt, loopP_ex, st_xFor, itP_some, itP_none, sat_xIt, sat_xLc, sat_xItA, sat_xYes, sat_xLenSet, oAdd_ii, oSub_ii, oMul_ii, oFdiv_ii, oMod_ii, oNeg_i, oLt_ii, oLe_ii, oGt_ii, oGe_ii, oInt_i, oIx_ti, oIx_qi, oLen_t, oLen_q, oLen_s, atI_0, atI_1, atI_2, atI_3, atI_4, atI_5, atI_6, atI_7, atI_8, atI_9, atI_10, atI_11, atI_12, atI_13, atI_14, List.getElem?_cons_zero, List.getElem?_cons_succ, List.map_cons, List.map_nil, List.cons_append, List.nil_append, List.length_cons, List.length_nil, List.set_cons_zero, List.set_cons_succ, List.replicate, Option.map_some, Option.map_none, Option.bind_some, Option.bind_none, if_true, if_false, Nat.reduceAdd, Nat.reduceSub, Nat.reduceLT, Nat.reduceLeDiff, Nat.reduceEqDiff, Int.reduceLT, Int.reduceLE, Int.reduceNeg, Int.reduceEq, Bool.false_eq_true, Bool.true_eq_false, reduceIte, reduceCtorEq, Bool.not_true, Bool.not_false, decide_eq_true_eq, Nat.zero_lt_succ, and_true, true_and, and_self, and_false, false_and, isi_non_tuple, isi_non_int, isi_non_str, isi_non_bool, isi_non_list, type_non, isi_bl_tuple, isi_bl_int, isi_bl_str, isi_bl_bool, isi_bl_list, type_bl, isi_int_tuple, isi_int_int, isi_int_str, isi_int_bool, isi_int_list, type_int, isi_str_tuple, isi_str_int, isi_str_str, isi_str_bool, isi_str_list, type_str, isi_tup_tuple, isi_tup_int, isi_tup_str, isi_tup_bool, isi_tup_list, type_tup, is_int_int, isn_int_int, is_int_str, isn_int_str, is_int_tuple, isn_int_tuple, is_int_list, isn_int_list, is_int_bool, isn_int_bool, is_str_int, isn_str_int, is_str_str, isn_str_str, is_str_tuple, isn_str_tuple, is_str_list, isn_str_list, is_str_bool, isn_str_bool, is_tuple_int, isn_tuple_int, is_tuple_str, isn_tuple_str, is_tuple_tuple, isn_tuple_tuple, is_tuple_list, isn_tuple_list, is_tuple_bool, isn_tuple_bool, is_list_int, isn_list_int, is_list_str, isn_list_str, is_list_tuple, isn_list_tuple, is_list_list, isn_list_list, is_list_bool, isn_list_bool, is_bool_int, isn_bool_int, is_bool_str, isn_bool_str, is_bool_tuple, isn_bool_tuple, is_bool_list, isn_bool_list, is_bool_bool, isn_bool_bool, is_NoneType_int, isn_NoneType_int, is_NoneType_str, isn_NoneType_str, is_NoneType_tuple, isn_NoneType_tuple, is_NoneType_list, isn_NoneType_list, is_NoneType_bool, isn_NoneType_bool, isN_non, isnN_non, isB_non, isnB_non, isN_bl, isnN_bl, isB_bl, isnB_bl, isN_int, isnN_int, isB_int, isnB_int, isN_str, isnN_str, isB_str, isnB_str, isN_tup, isnN_tup, isB_tup, isnB_tup, eq_non_non, eq_non_bl, ne_non_bl, eq_non_int, ne_non_int, eq_non_str, ne_non_str, eq_bl_non, ne_bl_non, eq_bl_bl, ne_bl_bl, eq_bl_str, ne_bl_str, eq_int_non, ne_int_non, eq_int_int, ne_int_int, eq_int_str, ne_int_str, eq_str_non, ne_str_non, eq_str_bl, ne_str_bl, eq_str_int, ne_str_int, eq_str_str, ne_str_str, isN_ref, isB_ref, tru_bl, tru_int]; exact h _ (Kx.refl _ _)
      | _ => simp only [sat_ok, sat_ex, sat_err, sat_bind_eq, ofP_some, ofP_none, sat_of_eq, st_nx, st_rt, st_bk, st_ct, st_ex, st_err, st_then, seqP_nx, seqP_rt, seqP_bk, seqP_ct, seqP_ex, st_xSeq, endP_nx, endP_rt, endP_ex, endP_bk, endP_ct, varP_some, varP_none, varP_non, sat_xVar, sat_xC, sat_xOp, sat_xUn, blP_bl, sat_xTB, trP_some, trP_none, sat_xT, sat_xAndT, sat_xOrT, sat_xNotT, sat_xAnd, sat_xOr, sat_xNot, sat_xIf, sat_xNil, sat_xCons, sat_xTup, sat_xLst, sat_xChain, sat_xCall, sat_xCB, sat_xM0, sat_xM, intP_int, sat_xNoP, sat_xPart, sat_xSl, st_xSkip, st_xBrk, st_xCnt, st_xDrop, st_xRet, st_xRetN, st_xIfS, tgP_some, tgP_none, st_xAsg, g_gVar, g_gNil, g_gCons, g_gTup, augP_some, augP_none, st_xAug, parP_two, st_xPar, loopP_nx, loopP_ct, loopP_bk, loopP_rt, loopP_ex, st_xFor, itP_some, itP_none, sat_xIt, sat_xLc, sat_xItA, sat_xYes, sat_xLenSet, oAdd_ii, oSub_ii, oMul_ii, oFdiv_ii, oMod_ii, oNeg_i, oLt_ii, oLe_ii, oGt_ii, oGe_ii, oInt_i, oIx_ti, oIx_qi, oLen_t, oLen_q, oLen_s, atI_0, atI_1, atI_2, atI_3, atI_4, atI_5, atI_6, atI_7, atI_8, atI_9, atI_10, atI_11, atI_12, atI_13, atI_14, List.getElem?_cons_zero, List.getElem?_cons_succ, List.map_cons, List.map_nil, List.cons_append, List.nil_append, List.length_cons, List.length_nil, List.set_cons_zero, List.set_cons_succ, List.replicate, Option.map_some, Option.map_none, Option.bind_some, Option.bind_none, if_true, if_false, Nat.reduceAdd, Nat.reduceSub, Nat.reduceLT, Nat.reduceLeDiff, Nat.reduceEqDiff, Int.reduceLT, Int.reduceLE, Int.reduceNeg, Int.reduceEq, Bool.false_eq_true, Bool.true_eq_false, reduceIte, reduceCtorEq, Bool.not_true, Bool.not_false, decide_eq_true_eq, Nat.zero_lt_succ, and_true, true_and, and_self, and_false, false_and, isi_non_tuple, isi_non_int, isi_non_str, isi_non_bool, isi_non_list, type_non, isi_bl_tuple, isi_bl_int, isi_bl_str, isi_bl_bool, isi_bl_list, type_bl, isi_int_tuple, isi_int_int, isi_int_str, isi_int_bool, isi_int_list, type_int, isi_str_tuple, isi_str_int, isi_str_str, isi_str_bool, isi_str_list, type_str, isi_tup_tuple, isi_tup_int, isi_tup_str, isi_tup_bool, isi_tup_list, type_tup, is_int_int, isn_int_int, is_int_str, isn_int_str, is_int_tuple, isn_int_tuple, is_int_list, isn_int_list, is_int_bool, isn_int_bool, is_str_int, isn_str_int, is_str_str, isn_str_str, is_str_tuple, isn_str_tuple, is_str_list, isn_str_list, is_str_bool, isn_str_bool, is_tuple_int, isn_tuple_int, is_tuple_str, isn_tuple_str, is_tuple_tuple, isn_tuple_tuple, is_tuple_list, isn_tuple_list, is_tuple_bool, isn_tuple_bool, is_list_int, isn_list_int, is_list_str, isn_list_str, is_list_tuple, isn_list_tuple, is_list_list, isn_list_list, is_list_bool, isn_list_bool, is_bool_int, isn_bool_int, is_bool_str, isn_bool_str, is_bool_tuple, isn_bool_tuple, is_bool_list, isn_bool_list, is_bool_bool, isn_bool_bool, is_NoneType_int, isn_NoneType_int, is_NoneType_str, isn_NoneType_str, is_NoneType_tuple, isn_NoneType_tuple, is_NoneType_list, isn_NoneType_list, is_NoneType_bool, isn_NoneType_bool, isN_non, isnN_non, isB_non, isnB_non, isN_bl, isnN_bl, isB_bl, isnB_bl, isN_int, isnN_int, isB_int, isnB_int, isN_str, isnN_str, isB_str, isnB_str, isN_tup, isnN_tup, isB_tup, isnB_tup, eq_non_non, eq_non_bl, ne_non_bl, eq_non_int, ne_non_int, eq_non_str, ne_non_str, eq_bl_non, ne_bl_non, eq_bl_bl, ne_bl_bl, eq_bl_str, ne_bl_str, eq_int_non, ne_int_non, eq_int_int, ne_int_int, eq_int_str, ne_int_str, eq_str_non, ne_str_non, eq_str_bl, ne_str_bl, eq_str_int, ne_str_int, eq_str_str, ne_str_str, isN_ref, isB_ref, tru_bl, tru_int]; exact h _ (Kx.refl _ _)
    | @bl _ b =>
      cases hv with
      | ref hr => cases b <;> (simp only [sat_ok, sat_ex, sat_err, sat_bind_eq, ofP_some, ofP_none, sat_of_eq, st_nx, st_rt, st_bk, st_ct, st_ex, st_err, st_then, seqP_nx, seqP_rt, seqP_bk, seqP_ct, seqP_ex, st_xSeq, endP_nx, endP_rt, endP_ex, endP_bk, endP_ct, varP_some, varP_none, varP_non, sat_xVar, sat_xC, sat_xOp, sat_xUn, blP_bl, sat_xTB, trP_some, trP_none, sat_xT, sat_xAndT, sat_xOrT, sat_xNotT, sat_xAnd, sat_xOr, sat_xNot, sat_xIf, sat_xNil, sat_xCons, sat_xTup, sat_xLst, sat_xChain, sat_xCall, sat_xCB, sat_xM0, sat_xM, intP_int, sat_xNoP, sat_xPart, sat_xSl, st_xSkip, st_xBrk, st_xCnt, st_xDrop, st_xRet, st_xRetN, st_xIfS, tgP_some, tgP_none, st_xAsg, g_gVar, g_gNil, g_gCons, g_gTup, augP_some, augP_none, st_xAug, parP_two, st_xPar, loopP_nx, loopP_ct, loopP_bk, loopP_rt, loopP_ex, st_xFor, itP_some, itP_none, sat_xIt, sat_xLc, sat_xItA, sat_xYes, sat_xLenSet, oAdd_ii, oSub_ii, oMul_ii, oFdiv_ii, oMod_ii, oNeg_i, oLt_ii, oLe_ii, oGt_ii, oGe_ii, oInt_i, oIx_ti, oIx_qi, oLen_t, oLen_q, oLen_s, atI_0, atI_1, atI_2, atI_3, atI_4, atI_5, atI_6, atI_7, atI_8, atI_9, atI_10, atI_11, atI_12, atI_13, atI_14, List.getElem?_cons_zero, List.getElem?_cons_succ, List.map_cons, List.map_nil, List.cons_append, List.nil_append, List.length_cons, List.length_nil, List.set_cons_zero, List.set_cons_succ, List.replicate, Option.map_some, Option.map_none, Option.bind_some, Option.bind_none, if_true, if_false, Nat.reduceAdd, Nat.reduceSub, Nat.reduceLT, Nat.reduceLeDiff, Nat.reduceEqDiff, Int.reduceLT, Int.reduceLE, Int.reduceNeg, Int.reduceEq, Bool.false_eq_true, Bool.true_eq_false, reduceIte, reduceCtorEq, Bool.not_true, Bool.not_false, decide_eq_true_eq, Nat.zero_lt_succ, and_true, true_and, and_self, and_false, false_and, isi_non_tuple, isi_non_int, isi_non_str, isi_non_bool, isi_non_list, type_non, isi_bl_tuple, isi_bl_int, isi_bl_str, isi_bl_bool, isi_bl_list, type_bl, isi_int_tuple, isi_int_int, isi_int_str, isi_int_bool, isi_int_list, type_int, isi_str_tuple, isi_str_int, isi_str_str, isi_str_bool, isi_str_list, type_str, isi_tup_tuple, isi_tup_int, isi_tup_str, isi_tup_bool, isi_tup_list, type_tup, is_int_int, isn_int_int, is_int_str, isn_int_str, is_int_tuple, isn_int_tuple, is_int_list, isn_int_list, is_int_bool, isn_int_bool, is_str_int, isn_str_int, is_str_str, isn_str_str, is_str_tuple, isn_str_tuple, is_str_list, isn_str_list, is_str_bool, isn_str_bool, is_tuple_int, isn_tuple_int, is_tuple_str, isn_tuple_str, is_tuple_tuple, isn_tuple_tuple, is_tuple_list, isn_tuple_list, is_tuple_bool, isn_tuple_bool, is_list_int, isn_list_int, is_list_str, isn_list_str, is_list_tuple, isn_list_tuple, is_list_list, isn_list_list, is_list_bool, isn_list_bool, is_bool_int, isn_bool_int, is_bool_str, isn_bool_str, is_bool_tuple, isn_bool_tuple, is_bool_list, isn_bool_list, is_bool_bool, isn_bool_bool, is_NoneType_int, isn_NoneType_int, is_NoneType_str, isn_NoneType_str, is_NoneType_tuple, isn_NoneType_tuple, is_NoneType_list, isn_NoneType_list, is_NoneType_bool, isn_NoneType_bool, isN_non, isnN_non, isB_non, isnB_non, isN_bl, isnN_bl, isB_bl, isnB_bl, isN_int, isnN_int, isB_int, isnB_int, isN_str, isnN_str, isB_str, isnB_str, isN_tup, isnN_tup, isB_tup, isnB_tup, eq_non_non, eq_non_bl, ne_non_bl, eq_non_int, ne_non_int, eq_non_str, ne_non_str, eq_bl_non, ne_bl_non, eq_bl_bl, ne_bl_bl, eq_bl_str, ne_bl_str, eq_int_non, ne_int_non, eq_int_int, ne_int_int, eq_int_str, ne_int_str, eq_str_non, ne_str_non, eq_str_bl, ne_str_bl, eq_str_int, ne_str_int, eq_str_str, ne_str_str, isN_ref, isB_ref, tru_bl, tru_int]; exact h _ (Kx.refl _ _))
      | @bl _ c => cases b <;> cases c <;> (simp only [sat_ok, sat_ex, sat_err, sat_bind_eq, ofP_some, ofP_none, sat_of_eq, st_nx, st_rt, st_bk, st_ct, st_ex, st_err, st_then, seqP_nx, seqP_rt, seqP_bk, seqP_ct, seqP_ex, st_xSeq, endP_nx, endP_rt, endP_ex, endP_bk, endP_ct, varP_some, varP_none, varP_non, sat_xVar, sat_xC, sat_xOp, sat_xUn, blP_bl, sat_xTB, trP_some, trP_none, sat_xT, sat_xAndT, sat_xOrT, sat_xNotT, sat_xAnd, sat_xOr, sat_xNot, sat_xIf, sat_xNil, sat_xCons, sat_xTup, sat_xLst, sat_xChain, sat_xCall, sat_xCB, sat_xM0, sat_xM, intP_int, sat_xNoP, sat_xPart, sat_xSl, st_xSkip, st_xBrk, st_xCnt, st_xDrop, st_xRet, st_xRetN, st_xIfS, tgP_some, tgP_none, st_xAsg, g_gVar, g_gNil, g_gCons, g_gTup, augP_some, augP_none, st_xAug, parP_two, st_xPar, loopP_nx, loopP_ct, loopP_bk, loopP_rt, loopP_ex, st_xFor, itP_some, itP_none, sat_xIt, sat_xLc, sat_xItA, sat_xYes, sat_xLenSet, oAdd_ii, oSub_ii, oMul_ii, oFdiv_ii, oMod_ii, oNeg_i, oLt_ii, oLe_ii, oGt_ii, oGe_ii, oInt_i, oIx_ti, oIx_qi, oLen_t, oLen_q, oLen_s, atI_0, atI_1, atI_2, atI_3, atI_4, atI_5, atI_6, atI_7, atI_8, atI_9, atI_10, atI_11, atI_12, atI_13, atI_14, List.getElem?_cons_zero, List.getElem?_cons_succ, List.map_cons, List.map_nil, List.cons_append, List.nil_append, List.length_cons, List.length_nil, List.set_cons_zero, List.set_cons_succ, List.replicate, Option.map_some, Option.map_none, Option.bind_some, Option.bind_none, if_true, if_false, Nat.reduceAdd, Nat.reduceSub, Nat.reduceLT, Nat.reduceLeDiff, Nat.reduceEqDiff, Int.reduceLT, Int.reduceLE, Int.reduceNeg, Int.reduceEq, Bool.false_eq_true, Bool.true_eq_false, reduceIte, reduceCtorEq, Bool.not_true, Bool.not_false, decide_eq_true_eq, Nat.zero_lt_succ, and_true, true_and, and_self, and_false, false_and, isi_non_tuple, isi_non_int, isi_non_str, isi_non_bool, isi_non_list, type_non, isi_bl_tuple, isi_bl_int, isi_bl_str, isi_bl_bool, isi_bl_list, type_bl, isi_int_tuple, isi_int_int, isi_int_str, isi_int_bool, isi_int_list, type_int, isi_str_tuple, isi_str_int, isi_str_str, isi_str_bool, isi_str_list, type_str, isi_tup_tuple, isi_tup_int, isi_tup_str, isi_tup_bool, isi_tup_list, type_tup, is_int_int, isn_int_int, is_int_str, isn_int_str, is_int_tuple, isn_int_tuple, is_int_list, isn_int_list, is_int_bool, isn_int_bool, is_str_int, isn_str_int, is_str_str, isn_str_str, is_str_tuple, isn_str_tuple, is_str_list, isn_str_list, is_str_bool, isn_str_bool, is_tuple_int, isn_tuple_int, is_tuple_str, isn_tuple_str, is_tuple_tuple, isn_tuple_tuple, is_tuple_list, isn_tuple_list, is_tuple_bool, isn_tuple_bool, is_list_int, isn_list_int, is_list_str, isn_list_str, is_list_tuple, isn_list_tuple, is_list_list, isn_list_list, is_list_bool, isn_list_bool, is_bool_int, isn_bool_int, is_bool_str, isn_bool_str, is_bool_tuple, isn_bool_tuple, is_bool_list, isn_bool_list, is_bool_bool, isn_bool_bool, is_NoneType_int, isn_NoneType_int, is_NoneType_str, isn_NoneType_str, is_NoneType_tuple, isn_NoneType_tuple, is_NoneType_list, isn_NoneType_list, is_NoneType_bool, isn_NoneType_bool, isN_non, isnN_non, isB_non, isnB_non, isN_bl, isnN_bl, isB_bl, isnB_bl, isN_int, isnN_int, isB_int, isnB_int, isN_str, isnN_str, isB_str, isnB_str, isN_tup, isnN_tup, isB_tup, isnB_tup, eq_non_non, eq_non_bl, ne_non_bl, eq_non_int, ne_non_int, eq_non_str, ne_non_str, eq_bl_non, ne_bl_non, eq_bl_bl, ne_bl_bl, eq_bl_str, ne_bl_str, eq_int_non, ne_int_non, eq_int_int, ne_int_int, eq_int_str, ne_int_str, eq_str_non, ne_str_non, eq_str_bl, ne_str_bl, eq_str_int, ne_str_int, eq_str_str, ne_str_str, isN_ref, isB_ref, tru_bl, tru_int]; exact h _ (Kx.refl _ _))
      | _ => cases b <;> (simp only [sat_ok, sat_ex, sat_err, sat_bind_eq, ofP_some, ofP_none, sat_of_eq, st_nx, st_rt, st_bk, st_ct, st_ex, st_err, st_then, seqP_nx, seqP_rt, seqP_bk, seqP_ct, seqP_ex, st_xSeq, endP_nx, endP_rt, endP_ex, endP_bk, endP_ct, varP_some, varP_none, varP_non, sat_xVar, sat_xC, sat_xOp, sat_xUn, blP_bl, sat_xTB, trP_some, trP_none, sat_xT, sat_xAndT, sat_xOrT, sat_xNotT, sat_xAnd, sat_xOr, sat_xNot, sat_xIf, sat_xNil, sat_xCons, sat_xTup, sat_xLst, sat_xChain, sat_xCall, sat_xCB, sat_xM0, sat_xM, intP_int, sat_xNoP, sat_xPart, sat_xSl, st_xSkip, st_xBrk, st_xCnt, st_xDrop, st_xRet, st_xRetN, st_xIfS, tgP_some, tgP_none, st_xAsg, g_gVar, g_gNil, g_gCons, g_gTup, augP_some, augP_none, st_xAug, parP_two, st_xPar, loopP_nx, loopP_ct, loopP_bk, loopP_rt, loopP_ex, st_xFor, itP_some, itP_none, sat_xIt, sat_xLc, sat_xItA, sat_xYes, sat_xLenSet, oAdd_ii, oSub_ii, oMul_ii, oFdiv_ii, oMod_ii, oNeg_i, oLt_ii, oLe_ii, oGt_ii, oGe_ii, oInt_i, oIx_ti, oIx_qi, oLen_t, oLen_q, oLen_s, atI_0, atI_1, atI_2, atI_3, atI_4, atI_5, atI_6, atI_7, atI_8, atI_9, atI_10, atI_11, atI_12, atI_13, atI_14, List.getElem?_cons_zero, List.getElem?_cons_succ, List.map_cons, List.map_nil, List.cons_append, List.nil_append, List.length_cons, List.length_nil, List.set_cons_zero, List.set_cons_succ, List.replicate, Option.map_some, Option.map_none, Option.bind_some, Option.bind_none, if_true, if_false, Nat.reduceAdd, Nat.reduceSub, Nat.reduceLT, Nat.reduceLeDiff, Nat.reduceEqDiff, Int.reduceLT, Int.reduceLE, Int.reduceNeg, Int.reduceEq, Bool.false_eq_true, Bool.true_eq_false, reduceIte, reduceCtorEq, Bool.not_true, Bool.not_false, decide_eq_true_eq, Nat.zero_lt_succ, and_true, true_and, and_self, and_false, false_and, isi_non_tuple, isi_non_int, isi_non_str, isi_non_bool, isi_non_list, type_non, isi_bl_tuple, isi_bl_int, isi_bl_str, isi_bl_bool, isi_bl_list, type_bl, isi_int_tuple, isi_int_int, isi_int_str, isi_int_bool, isi_int_list, type_int, isi_str_tuple, isi_str_int, isi_str_str, isi_str_bool, isi_str_list, type_str, isi_tup_tuple, isi_tup_int, isi_tup_str, isi_tup_bool, isi_tup_list, type_tup, is_int_int, isn_int_int, is_int_str, isn_int_str, is_int_tuple, isn_int_tuple, is_int_list, isn_int_list, is_int_bool, isn_int_bool, is_str_int, isn_str_int, is_str_str, isn_str_str, is_str_tuple, isn_str_tuple, is_str_list, isn_str_list, is_str_bool, isn_str_bool, is_tuple_int, isn_tuple_int, is_tuple_str, isn_tuple_str, is_tuple_tuple, isn_tuple_tuple, is_tuple_list, isn_tuple_list, is_tuple_bool, isn_tuple_bool, is_list_int, isn_list_int, is_list_str, isn_list_str, is_list_tuple, isn_list_tuple, is_list_list, isn_list_list, is_list_bool, isn_list_bool, is_bool_int, isn_bool_int, is_bool_str, isn_bool_str, is_bool_tuple, isn_bool_tuple, is_bool_list, isn_bool_list, is_bool_bool, isn_bool_bool, is_NoneType_int, isn_NoneType_int, is_NoneType_str, isn_NoneType_str, is_NoneType_tuple, isn_NoneType_tuple, is_NoneType_list, isn_NoneType_list, is_NoneType_bool, isn_NoneType_bool, isN_non, isnN_non, isB_non, isnB_non, isN_bl, isnN_bl, isB_bl, isnB_bl, isN_int, isnN_int, isB_int, isnB_int, isN_str, isnN_str, isB_str, isnB_str, isN_tup, isnN_tup, isB_tup, isnB_tup, eq_non_non, eq_non_bl, ne_non_bl, eq_non_int, ne_non_int, eq_non_str, ne_non_str, eq_bl_non, ne_bl_non, eq_bl_bl, ne_bl_bl, eq_bl_str, ne_bl_str, eq_int_non, ne_int_non, eq_int_int, ne_int_int, eq_int_str, ne_int_str, eq_str_non, ne_str_non, eq_str_bl, ne_str_bl, eq_str_int, ne_str_int, eq_str_str, ne_str_str, isN_ref, isB_ref, tru_bl, tru_int]; exact h _ (Kx.refl _ _))
    | int =>
      cases hv with
      | ref hr => simp only [sat_ok, sat_ex, sat_err, sat_bind_eq, ofP_some, ofP_none, sat_of_eq, st_nx, st_rt, st_bk, st_ct, st_ex, st_err, st_then, seqP_nx, seqP_rt, seqP_bk, seqP_ct, seqP_ex, st_xSeq, endP_nx, endP_rt, endP_ex, endP_bk, endP_ct, varP_some, varP_none, varP_non, sat_xVar, sat_xC, sat_xOp, sat_xUn, blP_bl, sat_xTB, trP_some, trP_none, sat_xT, sat_xAndT, sat_xOrT, sat_xNotT, sat_xAnd, sat_xOr, sat_xNot, sat_xIf, sat_xNil, sat_xCons, sat_xTup, sat_xLst, sat_xChain, sat_xCall, sat_xCB, sat_xM0, sat_xM, intP_int, sat_xNoP, sat_xPart, sat_xSl, st_xSkip, st_xBrk, st_xCnt, st_xDrop, st_xRet, st_xRetN, st_xIfS, tgP_some, tgP_none, st_xAsg, g_gVar, g_gNil, g_gCons, g_gTup, augP_some, augP_none, st_xAug, parP_two, st_xPar, loopP_nx, loopP_ct, loopP_bk, loopP_rt, loopP_ex, st_xFor, itP_some, itP_none, sat_xIt, sat_xLc, sat_xItA, sat_xYes, sat_xLenSet, oAdd_ii, oSub_ii, oMul_ii, oFdiv_ii, oMod_ii, oNeg_i, oLt_ii, oLe_ii, oGt_ii, oGe_ii, oInt_i, oIx_ti, oIx_qi, oLen_t, oLen_q, oLen_s, atI_0, atI_1, atI_2, atI_3, atI_4, atI_5, atI_6, atI_7, atI_8, atI_9, atI_10, atI_11, atI_12, atI_13, atI_14, List.getElem?_cons_zero, List.getElem?_cons_succ, List.map_cons, List.map_nil, List.cons_append, List.nil_append, List.length_cons, List.length_nil, List.set_cons_zero, List.set_cons_succ, List.replicate, Option.map_some, Option.map_none, Option.bind_some, Option.bind_none, if_true, if_false, Nat.reduceAdd, Nat.reduceSub, Nat.reduceLT, Nat.reduceLeDiff, Nat.reduceEqDiff, Int.reduceLT, Int.reduceLE, Int.reduceNeg, Int.reduceEq, Bool.false_eq_true, Bool.true_eq_false, reduceIte, reduceCtorEq, Bool.not_true, Bool.not_false, decide_eq_true_eq, Nat.zero_lt_succ, and_true, true_and, and_self, and_false, false_and, isi_non_tuple, isi_non_int, isi_non_str, isi_non_bool, isi_non_list, type_non, isi_bl_tuple, isi_bl_int, isi_bl_str, isi_bl_bool, isi_bl_list, type_bl, isi_int_tuple, isi_int_int, isi_int_str, isi_int_bool, isi_int_list, type_int, isi_str_tuple, isi_str_int, isi_str_str, isi_str_bool, isi_str_list, type_str, isi_tup_tuple, isi_tup_int, isi_tup_str, isi_tup_bool, isi_tup_list, type_tup, is_int_int, isn_int_int, is_int_str, isn_int_str, is_int_tuple, isn_int_tuple, is_int_list, isn_int_list, is_int_bool, isn_int_bool, is_str_int, isn_str_int, is_str_str, isn_str_str, is_str_tuple, isn_str_tuple, is_str_list, isn_str_list, is_str_bool, isn_str_bool, is_tuple_int, isn_tuple_int, is_tuple_str, isn_tuple_str, is_tuple_tuple, isn_tuple_tuple, is_tuple_list, isn_tuple_list, is_tuple_bool, isn_tuple_bool, is_list_int, isn_list_int, is_list_str, isn_list_str, is_list_tuple, isn_list_tuple, is_list_list, isn_list_list, is_list_bool, isn_list_bool, is_bool_int, isn_bool_int, is_bool_str, isn_bool_str, is_bool_tuple, isn_bool_tuple, is_bool_list, isn_bool_list, is_bool_bool, isn_bool_bool, is_NoneType_int, isn_NoneType_int, is_NoneType_str, isn_NoneType_str, is_NoneType_tuple, isn_NoneType_tuple, is_NoneType_list, isn_NoneType_list, is_NoneType_bool, isn_NoneType_bool, isN_non, isnN_non, isB_non, isnB_non, isN_bl, isnN_bl, isB_bl, isnB_bl, isN_int, isnN_int, isB_int, isnB_int, isN_str, isnN_str, isB_str, isnB_str, isN_tup, isnN_tup, isB_tup, isnB_tup, eq_non_non, eq_non_bl, ne_non_bl, eq_non_int, ne_non_int, eq_non_str, ne_non_str, eq_bl_non, ne_bl_non, eq_bl_bl, ne_bl_bl, eq_bl_str, ne_bl_str, eq_int_non, ne_int_non, eq_int_int, ne_int_int, eq_int_str, ne_int_str, eq_str_non, ne_str_non, eq_str_bl, ne_str_bl, eq_str_int, ne_str_int, eq_str_str, ne_str_str, isN_ref, isB_ref, tru_bl, tru_int, isi_r_tuple hr, isi_r_int hr, isi_r_str hr]; exact h _ (Kx.refl _ _)
      | _ => simp only [sat_ok, sat_ex, sat_err, sat_bind_eq, ofP_some, ofP_none, sat_of_eq, st_nx, st_rt, st_bk, st_ct, st_ex, st_err, st_then, seqP_nx, seqP_rt, seqP_bk, seqP_ct, seqP_ex, st_xSeq, endP_nx, endP_rt, endP_ex, endP_bk, endP_ct, varP_some, varP_none, varP_non, sat_xVar, sat_xC, sat_xOp, sat_xUn, blP_bl, sat_xTB, trP_some, trP_none, sat_xT, sat_xAndT, sat_xOrT, sat_xNotT, sat_xAnd, sat_xOr, sat_xNot, sat_xIf, sat_xNil, sat_xCons, sat_xTup, sat_xLst, sat_xChain, sat_xCall, sat_xCB, sat_xM0, sat_xM, intP_int, sat_xNoP, sat_xPart, sat_xSl, st_xSkip, st_xBrk, st_xCnt, st_xDrop, st_xRet, st_xRetN, st_xIfS, tgP_some, tgP_none, st_xAsg, g_gVar, g_gNil, g_gCons, g_gTup, augP_some, augP_none, st_xAug, parP_two, st_xPar, loopP_nx, loopP_ct, loopP_bk, loopP_rt, loopP_ex, st_xFor, itP_some, itP_none, sat_xIt, sat_xLc, sat_xItA, sat_xYes, sat_xLenSet, oAdd_ii, oSub_ii, oMul_ii, oFdiv_ii, oMod_ii, oNeg_i, oLt_ii, oLe_ii, oGt_ii, oGe_ii, oInt_i, oIx_ti, oIx_qi, oLen_t, oLen_q, oLen_s, atI_0, atI_1, atI_2, atI_3, atI_4, atI_5, atI_6, atI_7, atI_8, atI_9, atI_10, atI_11, atI_12, atI_13, atI_14, List.getElem?_cons_zero, List.getElem?_cons_succ, List.map_cons, List.map_nil, List.cons_append, List.nil_append, List.length_cons, List.length_nil, List.set_cons_zero, List.set_cons_succ, List.replicate, Option.map_some, Option.map_none, Option.bind_some, Option.bind_none, if_true, if_false, Nat.reduceAdd, Nat.reduceSub, Nat.reduceLT, Nat.reduceLeDiff, Nat.reduceEqDiff, Int.reduceLT, Int.reduceLE, Int.reduceNeg, Int.reduceEq, Bool.false_eq_true, Bool.true_eq_false, reduceIte, reduceCtorEq, Bool.not_true, Bool.not_false, decide_eq_true_eq, Nat.zero_lt_succ, and_true, true_and, and_self, and_false, false_and, isi_non_tuple, isi_non_int, isi_non_str, isi_non_bool, isi_non_list, type_non, isi_bl_tuple, isi_bl_int, isi_bl_str, isi_bl_bool, isi_bl_list, type_bl, isi_int_tuple, isi_int_int, isi_int_str, isi_int_bool, isi_int_list, type_int, isi_str_tuple, isi_str_int, isi_str_str, isi_str_bool, isi_str_list, type_str, isi_tup_tuple, isi_tup_int, isi_tup_str, isi_tup_bool, isi_tup_list, type_tup, is_int_int, isn_int_int, is_int_str, isn_int_str, is_int_tuple, isn_int_tuple, is_int_list, isn_int_list, is_int_bool, isn_int_bool, is_str_int, isn_str_int, is_str_str, isn_str_str, is_str_tuple, isn_str_tuple, is_str_list, isn_str_list, is_str_bool, isn_str_bool, is_tuple_int, isn_tuple_int, is_tuple_str, isn_tuple_str, is_tuple_tuple, isn_tuple_tuple, is_tuple_list, isn_tuple_list, is_tuple_bool, isn_tuple_bool, is_list_int, isn_list_int, is_list_str, isn_list_str, is_list_tuple, isn_list_tuple, is_list_list, isn_list_list, is_list_bool, isn_list_bool, is_bool_int, isn_bool_int, is_bool_str, isn_bool_str, is_bool_tuple, isn_bool_tuple, is_bool_list, isn_bool_list, is_bool_bool, isn_bool_bool, is_NoneType_int, isn_NoneType_int, is_NoneType_str, isn_NoneType_str, is_NoneType_tuple, isn_NoneType_tuple, is_NoneType_list, isn_NoneType_list, is_NoneType_bool, isn_NoneType_bool, isN_non, isnN_non, isB_non, isnB_non, isN_bl, isnN_bl, isB_bl, isnB_bl, isN_int, isnN_int, isB_int, isnB_int, isN_str, isnN_str, isB_str, isnB_str, isN_tup, isnN_tup, isB_tup, isnB_tup, eq_non_non, eq_non_bl, ne_non_bl, eq_non_int, ne_non_int, eq_non_str, ne_non_str, eq_bl_non, ne_bl_non, eq_bl_bl, ne_bl_bl, eq_bl_str, ne_bl_str, eq_int_non, ne_int_non, eq_int_int, ne_int_int, eq_int_str, ne_int_str, eq_str_non, ne_str_non, eq_str_bl, ne_str_bl, eq_str_int, ne_str_int, eq_str_str, ne_str_str, isN_ref, isB_ref, tru_bl, tru_int]; exact h _ (Kx.refl _ _)
    | str hz =>
      cases hv with
      | ref hr => simp only [sat_ok, sat_ex, sat_err, sat_bind_eq, ofP_some, ofP_none, sat_of_eq, st_nx, st_rt, st_bk, st_ct, st_ex, st_err, st_then, seqP_nx, seqP_rt, seqP_bk, seqP_ct, seqP_ex, st_xSeq, endP_nx, endP_rt, endP_ex, endP_bk, endP_ct, varP_some, varP_none, varP_non, sat_xVar, sat_xC, sat_xOp, sat_xUn, blP_bl, sat_xTB, trP_some, trP_none, sat_xT, sat_xAndT, sat_xOrT, sat_xNotT, sat_xAnd, sat_xOr, sat_xNot, sat_xIf, sat_xNil, sat_xCons, sat_xTup, sat_xLst, sat_xChain, sat_xCall, sat_xCB, sat_xM0, sat_xM, intP_int, sat_xNoP, sat_xPart, sat_xSl, st_xSkip, st_xBrk, st_xCnt, st_xDrop, st_xRet, st_xRetN, st_xIfS, tgP_some, tgP_none, st_xAsg, g_gVar, g_gNil, g_gCons, g_gTup, augP_some, augP_none, st_xAug, parP_two, st_xPar, loopP_nx, loopP_ct, loopP_bk, loopP_rt, loopP_ex, st_xFor, itP_some, itP_none, sat_xIt, sat_xLc, sat_xItA, sat_xYes, sat_xLenSet, oAdd_ii, oSub_ii, oMul_ii, oFdiv_ii, oMod_ii, oNeg_i, oLt_ii, oLe_ii, oGt_ii, oGe_ii, oInt_i, oIx_ti, oIx_qi, oLen_t, oLen_q, oLen_s, atI_0, atI_1, atI_2, atI_3, atI_4, atI_5, atI_6, atI_7, atI_8, atI_9, atI_10, atI_11, atI_12, atI_13, atI_14, List.getElem?_cons_zero, List.getElem?_cons_succ, List.map_cons, List.map_nil, List.cons_append, List.nil_append, List.length_cons, List.length_nil, List.set_cons_zero, List.set_cons_succ, List.replicate, Option.map_some, Option.map_none, Option.bind_some, Option.bind_none, if_true, if_false, Nat.reduceAdd, Nat.reduceSub, Nat.reduceLT, Nat.reduceLeDiff, Nat.reduceEqDiff, Int.reduceLT, Int.reduceLE, Int.reduceNeg, Int.reduceEq, Bool.false_eq_true, Bool.true_eq_false, reduceIte, reduceCtorEq, Bool.not_true, Bool.not_false, decide_eq_true_eq, Nat.zero_lt_succ, and_true, true_and, and_self, and_false, false_and, isi_non_tuple, isi_non_int, isi_non_str, isi_non_bool, isi_non_list, type_non, isi_bl_tuple, isi_bl_int, isi_bl_str, isi_bl_bool, isi_bl_list, type_bl, isi_int_tuple, isi_int_int, isi_int_str, isi_int_bool, isi_int_list, type_int, isi_str_tuple, isi_str_int, isi_str_str, isi_str_bool, isi_str_list, type_str, isi_tup_tuple, isi_tup_int, isi_tup_str, isi_tup_bool, isi_tup_list, type_tup, is_int_int, isn_int_int, is_int_str, isn_int_str, is_int_tuple, isn_int_tuple, is_int_list, isn_int_list, is_int_bool, isn_int_bool, is_str_int, isn_str_int, is_str_str, isn_str_str, is_str_tuple, isn_str_tuple, is_str_list, isn_str_list, is_str_bool, isn_str_bool, is_tuple_int, isn_tuple_int, is_tuple_str, isn_tuple_str, is_tuple_tuple, isn_tuple_tuple, is_tuple_list, isn_tuple_list, is_tuple_bool, isn_tuple_bool, is_list_int, isn_list_int, is_list_str, isn_list_str, is_list_tuple, isn_list_tuple, is_list_list, isn_list_list, is_list_bool, isn_list_bool, is_bool_int, isn_bool_int, is_bool_str, isn_bool_str, is_bool_tuple, isn_bool_tuple, is_bool_list, isn_bool_list, is_bool_bool, isn_bool_bool, is_NoneType_int, isn_NoneType_int, is_NoneType_str, isn_NoneType_str, is_NoneType_tuple, isn_NoneType_tuple, is_NoneType_list, isn_NoneType_list, is_NoneType_bool, isn_NoneType_bool, isN_non, isnN_non, isB_non, isnB_non, isN_bl, isnN_bl, isB_bl, isnB_bl, isN_int, isnN_int, isB_int, isnB_int, isN_str, isnN_str, isB_str, isnB_str, isN_tup, isnN_tup, isB_tup, isnB_tup, eq_non_non, eq_non_bl, ne_non_bl, eq_non_int, ne_non_int, eq_non_str, ne_non_str, eq_bl_non, ne_bl_non, eq_bl_bl, ne_bl_bl, eq_bl_str, ne_bl_str, eq_int_non, ne_int_non, eq_int_int, ne_int_int, eq_int_str, ne_int_str, eq_str_non, ne_str_non, eq_str_bl, ne_str_bl, eq_str_int, ne_str_int, eq_str_str, ne_str_str, isN_ref, isB_ref, tru_bl, tru_int, isi_r_tuple hr, isi_r_int hr, isi_r_str hr]; exact h _ (Kx.refl _ _)
      | @str _ y hz2 =>
        have e0 : (S ++ [DO.lst [.str y]])[S.length]? = some (.lst [.str y]) := by simp
        have z : sizeLine = 16777216 := rfl
        simp only [sat_ok, sat_ex, sat_err, sat_bind_eq, ofP_some, ofP_none, sat_of_eq, st_nx, st_rt, st_bk, st_ct, st_ex, st_err, st_then, seqP_nx, seqP_rt, seqP_bk, seqP_ct, seqP_ex, st_xSeq, endP_nx, endP_rt, endP_ex, endP_bk, endP_ct, varP_some, varP_none, varP_non, sat_xVar, sat_xC, sat_xOp, sat_xUn, blP_bl, sat_xTB, trP_some, trP_none, sat_xT, sat_xAndT, sat_xOrT, sat_xNotT, sat_xAnd, sat_xOr, sat_xNot, sat_xIf, sat_xNil, sat_xCons, sat_xTup, sat_xLst, sat_xChain, sat_xCall, sat_xCB, sat_xM0, sat_xM, intP_int, sat_xNoP, sat_xPart, sat_xSl, st_xSkip, st_xBrk, st_xCnt, st_xDrop, st_xRet, st_xRetN, st_xIfS, tgP_some, tgP_none, st_xAsg, g_gVar, g_gNil, g_gCons, g_gTup, augP_some, augP_none, st_xAug, parP_two, st_xPar, loopP_nx, loopP_ct, loopP_bk, loopP_rt, loopP_ex, st_xFor, itP_some, itP_none, sat_xIt, sat_xLc, sat_xItA, sat_xYes, sat_xLenSet, oAdd_ii, oSub_ii, oMul_ii, oFdiv_ii, oMod_ii, oNeg_i, oLt_ii, oLe_ii, oGt_ii, oGe_ii, oInt_i, oIx_ti, oIx_qi, oLen_t, oLen_q, oLen_s, atI_0, atI_1, atI_2, atI_3, atI_4, atI_5, atI_6, atI_7, atI_8, atI_9, atI_10, atI_11, atI_12, atI_13, atI_14, List.getElem?_cons_zero, List.getElem?_cons_succ, List.map_cons, List.map_nil, List.cons_append, List.nil_append, List.length_cons, List.length_nil, List.set_cons_zero, List.set_cons_succ, List.replicate, Option.map_some, Option.map_none, Option.bind_some, Option.bind_none, if_true, if_false, Nat.reduceAdd, Nat.reduceSub, Nat.reduceLT, Nat.reduceLeDiff, Nat.reduceEqDiff, Int.reduceLT, Int.reduceLE, Int.reduceNeg, Int.reduceEq, Bool.false_eq_true, Bool.true_eq_false, reduceIte, reduceCtorEq, Bool.not_true, Bool.not_false, decide_eq_true_eq, Nat.zero_lt_succ, and_true, true_and, and_self, and_false, false_and, isi_non_tuple, isi_non_int, isi_non_str, isi_non_bool, isi_non_list, type_non, isi_bl_tuple, isi_bl_int, isi_bl_str, isi_bl_bool, isi_bl_list, type_bl, isi_int_tuple, isi_int_int, isi_int_str, isi_int_bool, isi_int_list, type_int, isi_str_tuple, isi_str_int, isi_str_str, isi_str_bool, isi_str_list, type_str, isi_tup_tuple, isi_tup_int, isi_tup_str, isi_tup_bool, isi_tup_list, type_tup, is_int_int, isn_int_int, is_int_str, isn_int_str, is_int_tuple, isn_int_tuple, is_int_list, isn_int_list, is_int_bool, isn_int_bool, is_str_int, isn_str_int, is_str_str, isn_str_str, is_str_tuple, isn_str_tuple, is_str_list, isn_str_list, is_str_bool, isn_str_bool, is_tuple_int, isn_tuple_int, is_tuple_str, isn_tuple_str, is_tuple_tuple, isn_tuple_tuple, is_tuple_list, isn_tuple_list, is_tuple_bool, isn_tuple_bool, is_list_int, isn_list_int, is_list_str, isn_list_str, is_list_tuple, isn_list_tuple, is_list_list, isn_list_list, is_list_bool, isn_list_bool, is_bool_int, isn_bool_int, is_bool_str, isn_bool_str, is_bool_tuple, isn_bool_tuple, is_bool_list, isn_bool_list, is_bool_bool, isn_bool_bool, is_NoneType_int, isn_NoneType_int, is_NoneType_str, isn_NoneType_str, is_NoneType_tuple, isn_NoneType_tuple, is_NoneType_list, isn_NoneType_list, is_NoneType_bool, isn_NoneType_bool, isN_non, isnN_non, isB_non, isnB_non, isN_bl, isnN_bl, isB_bl, isnB_bl, isN_int, isnN_int, isB_int, isnB_int, isN_str, isnN_str, isB_str, isnB_str, isN_tup, isnN_tup, isB_tup, isnB_tup, eq_non_non, eq_non_bl, ne_non_bl, eq_non_int, ne_non_int, eq_non_str, ne_non_str, eq_bl_non, ne_bl_non, eq_bl_bl, ne_bl_bl, eq_bl_str, ne_bl_str, eq_int_non, ne_int_non, eq_int_int, ne_int_int, eq_int_str, ne_int_str, eq_str_non, ne_str_non, eq_str_bl, ne_str_bl, eq_str_int, ne_str_int, eq_str_str, ne_str_str, isN_ref, isB_ref, tru_bl, tru_int, tyM, beq_self_eq_true, join1 e0 (by omega)]
        rw [likeB] at h
        exact ⟨by rw [z]; decide, h _ (Kx.app _ _ _)⟩
      | _ => simp only [sat_ok, sat_ex, sat_err, sat_bind_eq, ofP_some, ofP_none, sat_of_eq, st_nx, st_rt, st_bk, st_ct, st_ex, st_err, st_then, seqP_nx, seqP_rt, seqP_bk, seqP_ct, seqP_ex, st_xSeq, endP_nx, endP_rt, endP_ex, endP_bk, endP_ct, varP_some, varP_none, varP_non, sat_xVar, sat_xC, sat_xOp, sat_xUn, blP_bl, sat_xTB, trP_some, trP_none, sat_xT, sat_xAndT, sat_xOrT, sat_xNotT, sat_xAnd, sat_xOr, sat_xNot, sat_xIf, sat_xNil, sat_xCons, sat_xTup, sat_xLst, sat_xChain, sat_xCall, sat_xCB, sat_xM0, sat_xM, intP_int, sat_xNoP, sat_xPart, sat_xSl, st_xSkip, st_xBrk, st_xCnt, st_xDrop, st_xRet, st_xRetN, st_xIfS, tgP_some, tgP_none, st_xAsg, g_gVar, g_gNil, g_gCons, g_gTup, augP_some, augP_none, st_xAug, parP_two, st_xPar, loopP_nx, loopP_ct, loopP_bk, loopP_rt, loopP_ex, st_xFor, itP_some, itP_none, sat_xIt, sat_xLc, sat_xItA, sat_xYes, sat_xLenSet, oAdd_ii, oSub_ii, oMul_ii, oFdiv_ii, oMod_ii, oNeg_i, oLt_ii, oLe_ii, oGt_ii, oGe_ii, oInt_i, oIx_ti, oIx_qi, oLen_t, oLen_q, oLen_s, atI_0, atI_1, atI_2, atI_3, atI_4, atI_5, atI_6, atI_7, atI_8, atI_9, atI_10, atI_11, atI_12, atI_13, atI_14, List.getElem?_cons_zero, List.getElem?_cons_succ, List.map_cons, List.map_nil, List.cons_append, List.nil_append, List.length_cons, List.length_nil, List.set_cons_zero, List.set_cons_succ, List.replicate, Option.map_some, Option.map_none, Option.bind_some, Option.bind_none, if_true, if_false, Nat.reduceAdd, Nat.reduceSub, Nat.reduceLT, Nat.reduceLeDiff, Nat.reduceEqDiff, Int.reduceLT, Int.reduceLE, Int.reduceNeg, Int.reduceEq, Bool.false_eq_true, Bool.true_eq_false, reduceIte, reduceCtorEq, Bool.not_true, Bool.not_false, decide_eq_true_eq, Nat.zero_lt_succ, and_true, true_and, and_self, and_false, false_and, isi_non_tuple, isi_non_int, isi_non_str, isi_non_bool, isi_non_list, type_non, isi_bl_tuple, isi_bl_int, isi_bl_str, isi_bl_bool, isi_bl_list, type_bl, isi_int_tuple, isi_int_int, isi_int_str, isi_int_bool, isi_int_list, type_int, isi_str_tuple, isi_str_int, isi_str_str, isi_str_bool, isi_str_list, type_str, isi_tup_tuple, isi_tup_int, isi_tup_str, isi_tup_bool, isi_tup_list, type_tup, is_int_int, isn_int_int, is_int_str, isn_int_str, is_int_tuple, isn_int_tuple, is_int_list, isn_int_list, is_int_bool, isn_int_bool, is_str_int, isn_str_int, is_str_str, isn_str_str, is_str_tuple, isn_str_tuple, is_str_list, isn_str_list, is_str_bool, isn_str_bool, is_tuple_int, isn_tuple_int, is_tuple_str, isn_tuple_str, is_tuple_tuple, isn_tuple_tuple, is_tuple_list, isn_tuple_list, is_tuple_bool, isn_tuple_bool, is_list_int, isn_list_int, is_list_str, isn_list_str, is_list_tuple, isn_list_tuple, is_list_list, isn_list_list, is_list_bool, isn_list_bool, is_bool_int, isn_bool_int, is_bool_str, isn_bool_str, is_bool_tuple, isn_bool_tuple, is_bool_list, isn_bool_list, is_bool_bool, isn_bool_bool, is_NoneType_int, isn_NoneType_int, is_NoneType_str, isn_NoneType_str, is_NoneType_tuple, isn_NoneType_tuple, is_NoneType_list, isn_NoneType_list, is_NoneType_bool, isn_NoneType_bool, isN_non, isnN_non, isB_non, isnB_non, isN_bl, isnN_bl, isB_bl, isnB_bl, isN_int, isnN_int, isB_int, isnB_int, isN_str, isnN_str, isB_str, isnB_str, isN_tup, isnN_tup, isB_tup, isnB_tup, eq_non_non, eq_non_bl, ne_non_bl, eq_non_int, ne_non_int, eq_non_str, ne_non_str, eq_bl_non, ne_bl_non, eq_bl_bl, ne_bl_bl, eq_bl_str, ne_bl_str, eq_int_non, ne_int_non, eq_int_int, ne_int_int, eq_int_str, ne_int_str, eq_str_non, ne_str_non, eq_str_bl, ne_str_bl, eq_str_int, ne_str_int, eq_str_str, ne_str_str, isN_ref, isB_ref, tru_bl, tru_int]; exact h _ (Kx.refl _ _)
end
end Dx
namespace Dx
open PySem PySem.Spec PyProof.Rows
/-! ### whole numbers between two, names -/
def wholeD (d : D) (lo hi : Int) : Bool := match d with
  | .int i => decide (lo ≤ i) && decide (i ≤ hi)
  | _ => false
def isLow (c : Nat) : Bool := decide (97 ≤ c) && decide (c ≤ 122)
def isFig (c : Nat) : Bool := decide (48 ≤ c) && decide (c ≤ 57)
def isSign (c : Nat) : Bool := isLow c || isFig c
/-- a name, by its signs -/
def nameL (l : List Nat) : Bool := match l with
  | [] => false
  | c :: r => decide (r.length ≤ 11) && isLow c && isSign c && r.all isSign
def nameB (z : Str) : Bool := nameL z.cps.toList
def nameD : D → Bool
  | .str z => nameB z
  | _ => false
theorem letters_mem (c : Nat) : decide (c ∈ (g_LETTERS : Str).cps.toList) = isLow c := by
  have e : (g_LETTERS : Str).cps.toList = (List.range 26).map (· + 97) := by decide +kernel
  rw [e, isLow, ← Bool.decide_and]
  congr 1
  rw [eq_iff_iff, List.mem_map]
  constructor
  · rintro ⟨k, h, rfl⟩; rw [List.mem_range] at h; omega
  · intro h; exact ⟨c - 97, List.mem_range.mpr (by omega), by omega⟩
theorem signs_mem (c : Nat) : decide (c ∈ (g_SIGNS : Str).cps.toList) = isSign c := by
  have e : (g_SIGNS : Str).cps.toList = (List.range 26).map (· + 97) ++ (List.range 10).map (· + 48) := by decide +kernel
  rw [e, isSign, isLow, isFig, ← Bool.decide_and, ← Bool.decide_and, ← Bool.decide_or]
  congr 1
  rw [eq_iff_iff, List.mem_append, List.mem_map, List.mem_map]
  constructor
  · rintro (⟨k, h, rfl⟩ | ⟨k, h, rfl⟩) <;> rw [List.mem_range] at h <;> omega
  · rintro (h | h)
    · exact .inl ⟨c - 97, List.mem_range.mpr (by omega), by omega⟩
    · exact .inr ⟨c - 48, List.mem_range.mpr (by omega), by omega⟩
theorem figs_mem (c : Nat) : decide (c ∈ ("0123456789" : Str).cps.toList) = isFig c := by
  have e : ("0123456789" : Str).cps.toList = (List.range 10).map (· + 48) := by decide +kernel
  rw [e, isFig, ← Bool.decide_and]
  congr 1
  rw [eq_iff_iff, List.mem_map]
  constructor
  · rintro ⟨k, h, rfl⟩; rw [List.mem_range] at h; omega
  · intro h; exact ⟨c - 48, List.mem_range.mpr (by omega), by omega⟩
theorem tw_all {g : Nat → Bool} : ∀ {l : List Nat}, (l.takeWhile g).length = l.length → ∀ c ∈ l, g c = true
  | [], _, c, h => by simp at h
  | x :: l, h, c, hc => by
    by_cases hx : g x = true
    · rw [List.takeWhile_cons_of_pos hx, List.length_cons, List.length_cons] at h
      rcases List.mem_cons.mp hc with rfl | hc
      · exact hx
      · exact tw_all (by omega) c hc
    · rw [List.takeWhile_cons_of_neg hx] at h; simp at h
theorem tw_full {g : Nat → Bool} : ∀ {l : List Nat}, (∀ c ∈ l, g c = true) → l.takeWhile g = l
  | [], _ => rfl
  | x :: l, h => by rw [List.takeWhile_cons_of_pos (h x List.mem_cons_self), tw_full fun c hc => h c (List.mem_cons_of_mem _ hc)]
theorem drop_tw {g : Nat → Bool} : ∀ {l : List Nat}, l.drop (l.takeWhile g).length = l.dropWhile g
  | [] => rfl
  | x :: l => by
    by_cases hx : g x = true
    · rw [List.takeWhile_cons_of_pos hx, List.dropWhile_cons_of_pos hx, List.length_cons, List.drop_succ_cons, drop_tw]
    · rw [List.takeWhile_cons_of_neg hx, List.dropWhile_cons_of_neg hx]; rfl
theorem dw_head {g : Nat → Bool} {c : Nat} {r : List Nat} : ∀ {l : List Nat}, l.dropWhile g = c :: r → g c = false
  | [], h => by simp at h
  | x :: l, h => by
    by_cases hx : g x = true
    · rw [List.dropWhile_cons_of_pos hx] at h; exact dw_head h
    · rw [List.dropWhile_cons_of_neg hx] at h; cases h; simpa using hx
/-- stripped of such signs nothing is left, where all are such -/
theorem strip_len0 (z y : Str) : (Txt.stripChars z y).length = 0 ↔ ∀ c ∈ z.cps.toList, y.cps.contains c = true := by
  rw [Txt.stripChars, W.stripBy_eq]
  unfold W.stripped
  simp only [if_true]
  have hl : z.length = z.cps.toList.length := by simp [Str.length]
  have hs : ∀ a b, (Builtin.Str.strSub z a b).length = min b z.length - a := by
    intro a b; simp [Builtin.Str.strSub, Str.length]
  rw [hs]
  generalize z.cps.toList = l at *
  generalize hg : y.cps.contains = g
  rw [hl]
  have h1 : ∀ l : List Nat, (l.takeWhile g).length ≤ l.length := fun l => (List.takeWhile_sublist g).length_le
  constructor
  · intro h
    have h2 := h1 (l.drop (l.takeWhile g).length).reverse
    rw [List.length_reverse, List.length_drop] at h2
    by_cases hd : (l.takeWhile g).length = l.length
    · exact tw_all hd
    · exfalso
      have hlt : (l.takeWhile g).length < l.length := by have := h1 l; omega
      have hdrop : l.drop (l.takeWhile g).length = l.dropWhile g := drop_tw
      rw [hdrop] at h h2
      cases e : l.dropWhile g with
      | nil =>
        have := congrArg List.length e
        rw [← hdrop, List.length_drop] at this
        simp at this
        omega
      | cons c r =>
        have hc : g c = false := dw_head e
        rw [e] at h h2
        have h3 : ((c :: r).reverse.takeWhile g).length ≤ r.length := by
          rw [List.reverse_cons, List.takeWhile_append]
          split
          · simp [List.takeWhile_cons, hc]
          · exact Nat.le_trans (h1 _) (by simp)
        have h4 : (c :: r).length = l.length - (l.takeWhile g).length := by rw [← e, ← hdrop, List.length_drop]
        simp only [List.length_cons] at h4
        omega
  · intro h
    have : l.takeWhile g = l := tw_full h
    rw [this]
    simp

theorem strip_le (z y : Str) : (Txt.stripChars z y).length ≤ z.length := by
  rw [Txt.stripChars, W.stripBy_eq]
  unfold W.stripped
  simp [Builtin.Str.strSub, Str.length]
  omega
section
variable {S : Sto} {z y : Str} {c : Nat} {r : List Nat}
theorem oIx_s0 (h : z.cps.toList = c :: r) (hz : z.length ≤ sizeLine) : oIx (.str z) (.int 0) S = some (.str ⟨#[c]⟩, S) := by
  simp only [oIx, if_pos hz, h, atI_0, Option.map_some]
theorem oIn_c : oIn (.str ⟨#[c]⟩) (.str z) S = some (.bl (decide (c ∈ z.cps.toList)), S) := by
  simp [oIn, oInB]
theorem oNotIn_c : oNotIn (.str ⟨#[c]⟩) (.str z) S = some (.bl (!decide (c ∈ z.cps.toList)), S) := by
  simp [oNotIn, oInB]
theorem tyM_s : tyM "str" (.str z) S = true := by simp [tyM]
theorem tru_s (hz : z.length ≤ sizeLine) : tru (.str z) S = some (decide (z.length ≠ 0)) := by
  simp only [tru, if_pos hz]
  congr 1
  rw [Bool.eq_iff_iff, bne_iff_ne, decide_eq_true_eq]
  omega
theorem strip_op (hz : z.length ≤ sizeLine) : mStr1 gStrip (.str z) [.str y] S = some (.str (Txt.stripChars z y), S) := by
  simp only [mStr1, gStrip, if_pos hz, Option.map_some]
end

section
variable {S : Sto} {n : Nat} {d : D} {lo hi : Int} {Pd : D → Sto → Prop} {E : Exn → Sto → Prop}
noncomputable abbrev fWithin : Fn := bodyF 3 B_within
theorem within_spec (hv : Vd S n d) (h : Pd (.bl (wholeD d lo hi)) S) : (fWithin [d, .int lo, .int hi] S).wp Pd E := by
  rw [sat_bodyF]
  unfold B_within
  cases hv with
  | ref hr => simp only [sat_ok, sat_ex, sat_err, sat_bind_eq, ofP_some, ofP_none, sat_of_eq, st_nx, st_rt, st_bk, st_ct, st_ex, st_err, st_then, seqP_nx, seqP_rt, seqP_bk, seqP_ct, seqP_ex, st_xSeq, endP_nx, endP_rt, endP_ex, endP_bk, endP_ct, varP_some, varP_none, varP_non, sat_xVar, sat_xC, sat_xOp, sat_xUn, blP_bl, sat_xTB, trP_some, trP_none, sat_xT, sat_xAndT, sat_xOrT, sat_xNotT, sat_xAnd, sat_xOr, sat_xNot, sat_xIf, sat_xNil, sat_xCons, sat_xTup, sat_xLst, sat_xChain, sat_xCall, sat_xCB, sat_xM0, sat_xM, intP_int, sat_xNoP, sat_xPart, sat_xSl, st_xSkip, st_xBrk, st_xCnt, st_xDrop, st_xRet, st_xRetN, st_xIfS, tgP_some, tgP_none, st_xAsg, g_gVar, g_gNil, g_gCons, g_gTup, augP_some, augP_none, st_xAug, parP_two, st_xPar, loopP_nx, loopP_ct, loopP_bk, loopP_rt, loopP_ex, st_xFor, itP_some, itP_none, sat_xIt, sat_xLc, sat_xItA, sat_xYes, sat_xLenSet, oAdd_ii, oSub_ii, oMul_ii, oFdiv_ii, oMod_ii, oNeg_i, oLt_ii, oLe_ii, oGt_ii, oGe_ii, oInt_i, oIx_ti, oIx_qi, oLen_t, oLen_q, oLen_s, atI_0, atI_1, atI_2, atI_3, atI_4, atI_5, atI_6, atI_7, atI_8, atI_9, atI_10, atI_11, atI_12, atI_13, atI_14, List.getElem?_cons_zero, List.getElem?_cons_succ, List.map_cons, List.map_nil, List.cons_append, List.nil_append, List.length_cons, List.length_nil, List.set_cons_zero, List.set_cons_succ, List.replicate, Option.map_some, Option.map_none, Option.bind_some, Option.bind_none, if_true, if_false, Nat.reduceAdd, Nat.reduceSub, Nat.reduceLT, Nat.reduceLeDiff, Nat.reduceEqDiff, Int.reduceLT, Int.reduceLE, Int.reduceNeg, Int.reduceEq, Bool.false_eq_true, Bool.true_eq_false, reduceIte, reduceCtorEq, Bool.not_true, Bool.not_false, decide_eq_true_eq, Nat.zero_lt_succ, and_true, true_and, and_self, and_false, false_and, isi_non_tuple, isi_non_int, isi_non_str, isi_non_bool, isi_non_list, type_non, isi_bl_tuple, isi_bl_int, isi_bl_str, isi_bl_bool, isi_bl_list, type_bl, isi_int_tuple, isi_int_int, isi_int_str, isi_int_bool, isi_int_list, type_int, isi_str_tuple, isi_str_int, isi_str_str, isi_str_bool, isi_str_list, type_str, isi_tup_tuple, isi_tup_int, isi_tup_str, isi_tup_bool, isi_tup_list, type_tup, is_int_int, isn_int_int, is_int_str, isn_int_str, is_int_tuple, isn_int_tuple, is_int_list, isn_int_list, is_int_bool, isn_int_bool, is_str_int, isn_str_int, is_str_str, isn_str_str, is_str_tuple, isn_str_tuple, is_str_list, isn_str_list, is_str_bool, isn_str_bool, is_tuple_int, isn_tuple_int, is_tuple_str, isn_tuple_str, is_tuple_tuple, isn_tuple_tuple, is_tuple_list, isn_tuple_list, is_tuple_bool, isn_tuple_bool, is_list_int, isn_list_int, is_list_str, isn_list_str, is_list_tuple, isn_list_tuple, is_list_list, isn_list_list, is_list_bool, isn_list_bool, is_bool_int, isn_bool_int, is_bool_str, isn_bool_str, is_bool_tuple, isn_bool_tuple, is_bool_list, isn_bool_list, is_bool_bool, isn_bool_bool, is_NoneType_int, isn_NoneType_int, is_NoneType_str, isn_NoneType_str, is_NoneType_tuple, isn_NoneType_tuple, is_NoneType_list, isn_NoneType_list, is_NoneType_bool, isn_NoneType_bool, isN_non, isnN_non, isB_non, isnB_non, isN_bl, isnN_bl, isB_bl, isnB_bl, isN_int, isnN_int, isB_int, isnB_int, isN_str, isnN_str, isB_str, isnB_str, isN_tup, isnN_tup, isB_tup, isnB_tup, eq_non_non, eq_non_bl, ne_non_bl, eq_non_int, ne_non_int, eq_non_str, ne_non_str, eq_bl_non, ne_bl_non, eq_bl_bl, ne_bl_bl, eq_bl_str, ne_bl_str, eq_int_non, ne_int_non, eq_int_int, ne_int_int, eq_int_str, ne_int_str, eq_str_non, ne_str_non, eq_str_bl, ne_str_bl, eq_str_int, ne_str_int, eq_str_str, ne_str_str, isN_ref, isB_ref, tru_bl, tru_int, type_r hr]; exact h
  | @int _ i =>
    simp only [sat_ok, sat_ex, sat_err, sat_bind_eq, ofP_some, ofP_none, sat_of_eq, st_nx, st_rt, st_bk, st_ct, st_ex, st_err, st_then, seqP_nx, seqP_rt, seqP_bk, seqP_ct, seqP_ex, st_xSeq, endP_nx, endP_rt, endP_ex, endP_bk, endP_ct, varP_some, varP_none, varP_non, sat_xVar, sat_xC, sat_xOp, sat_xUn, blP_bl, sat_xTB, trP_some, trP_none, sat_xT, sat_xAndT, sat_xOrT, sat_xNotT, sat_xAnd, sat_xOr, sat_xNot, sat_xIf, sat_xNil, sat_xCons, sat_xTup, sat_xLst, sat_xChain, sat_xCall, sat_xCB, sat_xM0, sat_xM, intP_int, sat_xNoP, sat_xPart, sat_xSl, st_xSkip, st_xBrk, st_xCnt, st_xDrop, st_xRet, st_xRetN, st_xIfS, tgP_some, tgP_none, st_xAsg, g_gVar, g_gNil, g_gCons, g_gTup, augP_some, augP_none, st_xAug, parP_two, st_xPar, loopP_nx, loopP_ct, loopP_bk, loopP_rt, loopP_ex, st_xFor, itP_some, itP_none, sat_xIt, sat_xLc, sat_xItA, sat_xYes, sat_xLenSet, oAdd_ii, oSub_ii, oMul_ii, oFdiv_ii, oMod_ii, oNeg_i, oLt_ii, oLe_ii, oGt_ii, oGe_ii, oInt_i, oIx_ti, oIx_qi, oLen_t, oLen_q, oLen_s, atI_0, atI_1, atI_2, atI_3, atI_4, atI_5, atI_6, atI_7, atI_8, atI_9, atI_10, atI_11, atI_12, atI_13, atI_14, List.getElem?_cons_zero, List.getElem?_cons_succ, List.map_cons, List.map_nil, List.cons_append, List.nil_append, List.length_cons, List.length_nil, List.set_cons_zero, List.set_cons_succ, List.replicate, Option.map_some, Option.map_none, Option.bind_some, Option.bind_none, if_true, if_false, Nat.reduceAdd, Nat.reduceSub, Nat.reduceLT, Nat.reduceLeDiff, Nat.reduceEqDiff, Int.reduceLT, Int.reduceLE, Int.reduceNeg, Int.reduceEq, Bool.false_eq_true, Bool.true_eq_false, reduceIte, reduceCtorEq, Bool.not_true, Bool.not_false, decide_eq_true_eq, Nat.zero_lt_succ, and_true, true_and, and_self, and_false, false_and, isi_non_tuple, isi_non_int, isi_non_str, isi_non_bool, isi_non_list, type_non, isi_bl_tuple, isi_bl_int, isi_bl_str, isi_bl_bool, isi_bl_list, type_bl, isi_int_tuple, isi_int_int, isi_int_str, isi_int_bool, isi_int_list, type_int, isi_str_tuple, isi_str_int, isi_str_str, isi_str_bool, isi_str_list, type_str, isi_tup_tuple, isi_tup_int, isi_tup_str, isi_tup_bool, isi_tup_list, type_tup, is_int_int, isn_int_int, is_int_str, isn_int_str, is_int_tuple, isn_int_tuple, is_int_list, isn_int_list, is_int_bool, isn_int_bool, is_str_int, isn_str_int, is_str_str, isn_str_str, is_str_tuple, isn_str_tuple, is_str_list, isn_str_list, is_str_bool, isn_str_bool, is_tuple_int, isn_tuple_int, is_tuple_str, isn_tuple_str, is_tuple_tuple, isn_tuple_tuple, is_tuple_list, isn_tuple_list, is_tuple_bool, isn_tuple_bool, is_list_int, isn_list_int, is_list_str, isn_list_str, is_list_tuple, isn_list_tuple, is_list_list, isn_list_list, is_list_bool, isn_list_bool, is_bool_int, isn_bool_int, is_bool_str, isn_bool_str, is_bool_tuple, isn_bool_tuple, is_bool_list, isn_bool_list, is_bool_bool, isn_bool_bool, is_NoneType_int, isn_NoneType_int, is_NoneType_str, isn_NoneType_str, is_NoneType_tuple, isn_NoneType_tuple, is_NoneType_list, isn_NoneType_list, is_NoneType_bool, isn_NoneType_bool, isN_non, isnN_non, isB_non, isnB_non, isN_bl, isnN_bl, isB_bl, isnB_bl, isN_int, isnN_int, isB_int, isnB_int, isN_str, isnN_str, isB_str, isnB_str, isN_tup, isnN_tup, isB_tup, isnB_tup, eq_non_non, eq_non_bl, ne_non_bl, eq_non_int, ne_non_int, eq_non_str, ne_non_str, eq_bl_non, ne_bl_non, eq_bl_bl, ne_bl_bl, eq_bl_str, ne_bl_str, eq_int_non, ne_int_non, eq_int_int, ne_int_int, eq_int_str, ne_int_str, eq_str_non, ne_str_non, eq_str_bl, ne_str_bl, eq_str_int, ne_str_int, eq_str_str, ne_str_str, isN_ref, isB_ref, tru_bl, tru_int]
    rw [wholeD] at h
    split
    · rename_i q; simpa [q] using h
    · rename_i q; simpa [q] using h
  | _ => simp only [sat_ok, sat_ex, sat_err, sat_bind_eq, ofP_some, ofP_none, sat_of_eq, st_nx, st_rt, st_bk, st_ct, st_ex, st_err, st_then, seqP_nx, seqP_rt, seqP_bk, seqP_ct, seqP_ex, st_xSeq, endP_nx, endP_rt, endP_ex, endP_bk, endP_ct, varP_some, varP_none, varP_non, sat_xVar, sat_xC, sat_xOp, sat_xUn, blP_bl, sat_xTB, trP_some, trP_none, sat_xT, sat_xAndT, sat_xOrT, sat_xNotT, sat_xAnd, sat_xOr, sat_xNot, sat_xIf, sat_xNil, sat_xCons, sat_xTup, sat_xLst, sat_xChain, sat_xCall, sat_xCB, sat_xM0, sat_xM, intP_int, sat_xNoP, sat_xPart, sat_xSl, st_xSkip, st_xBrk, st_xCnt, st_xDrop, st_xRet, st_xRetN, st_xIfS, tgP_some, tgP_none, st_xAsg, g_gVar, g_gNil, g_gCons, g_gTup, augP_some, augP_none, st_xAug, parP_two, st_xPar, loopP_nx, loopP_ct, loopP_bk, loopP_rt, loopP_ex, st_xFor, itP_some, itP_none, sat_xIt, sat_xLc, sat_xItA, sat_xYes, sat_xLenSet, oAdd_ii, oSub_ii, oMul_ii, oFdiv_ii, oMod_ii, oNeg_i, oLt_ii, oLe_ii, oGt_ii, oGe_ii, oInt_i, oIx_ti, oIx_qi, oLen_t, oLen_q, oLen_s, atI_0, atI_1, atI_2, atI_3, atI_4, atI_5, atI_6, atI_7, atI_8, atI_9, atI_10, atI_11, atI_12, atI_13, atI_14, List.getElem?_cons_zero, List.getElem?_cons_succ, List.map_cons, List.map_nil, List.cons_append, List.nil_append, List.length_cons, List.length_nil, List.set_cons_zero, List.set_cons_succ, List.replicate, Option.map_some, Option.map_none, Option.bind_some, Option.bind_none, if_true, if_false, Nat.reduceAdd, Nat.reduceSub, Nat.reduceLT, Nat.reduceLeDiff, Nat.reduceEqDiff, Int.reduceLT, Int.reduceLE, Int.reduceNeg, Int.reduceEq, Bool.false_eq_true, Bool.true_eq_false, reduceIte, reduceCtorEq, Bool.not_true, Bool.not_false, decide_eq_true_eq, Nat.zero_lt_succ, and_true, true_and, and_self, and_false, false_and, isi_non_tuple, isi_non_int, isi_non_str, isi_non_bool, isi_non_list, type_non, isi_bl_tuple, isi_bl_int, isi_bl_str, isi_bl_bool, isi_bl_list, type_bl, isi_int_tuple, isi_int_int, isi_int_str, isi_int_bool, isi_int_list, type_int, isi_str_tuple, isi_str_int, isi_str_str, isi_str_bool, isi_str_list, type_str, isi_tup_tuple, isi_tup_int, isi_tup_str, isi_tup_bool, isi_tup_list, type_tup, is_int_int, isn_int_int, is_int_str, isn_int_str, is_int_tuple, isn_int_tuple, is_int_list, isn_int_list, is_int_bool, isn_int_bool, is_str_int, isn_str_int, is_str_str, isn_str_str, is_str_tuple, isn_str_tuple, is_str_list, isn_str_list, is_str_bool, isn_str_bool, is_tuple_int, isn_tuple_int, is_tuple_str, isn_tuple_str, is_tuple_tuple, isn_tuple_tuple, is_tuple_list, isn_tuple_list, is_tuple_bool, isn_tuple_bool, is_list_int, isn_list_int, is_list_str, isn_list_str, is_list_tuple, isn_list_tuple, is_list_list, isn_list_list, is_list_bool, isn_list_bool, is_bool_int, isn_bool_int, is_bool_str, isn_bool_str, is_bool_tuple, isn_bool_tuple, is_bool_list, isn_bool_list, is_bool_bool, isn_bool_bool, is_NoneType_int, isn_NoneType_int, is_NoneType_str, isn_NoneType_str, is_NoneType_tuple, isn_NoneType_tuple, is_NoneType_list, isn_NoneType_list, is_NoneType_bool, isn_NoneType_bool, isN_non, isnN_non, isB_non, isnB_non, isN_bl, isnN_bl, isB_bl, isnB_bl, isN_int, isnN_int, isB_int, isnB_int, isN_str, isnN_str, isB_str, isnB_str, isN_tup, isnN_tup, isB_tup, isnB_tup, eq_non_non, eq_non_bl, ne_non_bl, eq_non_int, ne_non_int, eq_non_str, ne_non_str, eq_bl_non, ne_bl_non, eq_bl_bl, ne_bl_bl, eq_bl_str, ne_bl_str, eq_int_non, ne_int_non, eq_int_int, ne_int_int, eq_int_str, ne_int_str, eq_str_non, ne_str_non, eq_str_bl, ne_str_bl, eq_str_int, ne_str_int, eq_str_str, ne_str_str, isN_ref, isB_ref, tru_bl, tru_int]; exact h
noncomputable abbrev fIsTuple : Fn := bodyF 2 B_is_tuple
def tupD (d : D) (m : Int) : Bool := match d with
  | .tup ds => decide ((ds.length : Int) ≤ m)
  | _ => false
theorem is_tuple_spec {m : Int} (hv : Vd S n d) (h : Pd (.bl (tupD d m)) S) : (fIsTuple [d, .int m] S).wp Pd E := by
  rw [sat_bodyF]
  unfold B_is_tuple
  cases hv with
  | ref hr => simp only [sat_ok, sat_ex, sat_err, sat_bind_eq, ofP_some, ofP_none, sat_of_eq, st_nx, st_rt, st_bk, st_ct, st_ex, st_err, st_then, seqP_nx, seqP_rt, seqP_bk, seqP_ct, seqP_ex, st_xSeq, endP_nx, endP_rt, endP_ex, endP_bk, endP_ct, varP_some, varP_none, varP_non, sat_xVar, sat_xC, sat_xOp, sat_xUn, blP_bl, sat_xTB, trP_some, trP_none, sat_xT, sat_xAndT, sat_xOrT, sat_xNotT, sat_xAnd, sat_xOr, sat_xNot, sat_xIf, sat_xNil, sat_xCons, sat_xTup, sat_xLst, sat_xChain, sat_xCall, sat_xCB, sat_xM0, sat_xM, intP_int, sat_xNoP, sat_xPart, sat_xSl, st_xSkip, st_xBrk, st_xCnt, st_xDrop, st_xRet, st_xRetN, st_xIfS, tgP_some, tgP_none, st_xAsg, g_gVar, g_gNil, g_gCons, g_gTup, augP_some, augP_none, st_xAug, parP_two, st_xPar, loopP_nx, loopP_ct, loopP_bk, loopP_rt, loopP_ex, st_xFor, itP_some, itP_none, sat_xIt, sat_xLc, sat_xItA, sat_xYes, sat_xLenSet, oAdd_ii, oSub_ii, oMul_ii, oFdiv_ii, oMod_ii, oNeg_i, oLt_ii, oLe_ii, oGt_ii, oGe_ii, oInt_i, oIx_ti, oIx_qi, oLen_t, oLen_q, oLen_s, atI_0, atI_1, atI_2, atI_3, atI_4, atI_5, atI_6, atI_7, atI_8, atI_9, atI_10, atI_11, atI_12, atI_13, atI_14, List.getElem?_cons_zero, List.getElem?_cons_succ, List.map_cons, List.map_nil, List.cons_append, List.nil_append, List.length_cons, List.length_nil, List.set_cons_zero, List.set_cons_succ, List.replicate, Option.map_some, Option.map_none, Option.bind_some, Option.bind_none, if_true, if_false, Nat.reduceAdd, Nat.reduceSub, Nat.reduceLT, Nat.reduceLeDiff, Nat.reduceEqDiff, Int.reduceLT, Int.reduceLE, Int.reduceNeg, Int.reduceEq, Bool.false_eq_true, Bool.true_eq_false, reduceIte, reduceCtorEq, Bool.not_true, Bool.not_false, decide_eq_true_eq, Nat.zero_lt_succ, and_true, true_and, and_self, and_false, false_and, isi_non_tuple, isi_non_int, isi_non_str, isi_non_bool, isi_non_list, type_non, isi_bl_tuple, isi_bl_int, isi_bl_str, isi_bl_bool, isi_bl_list, type_bl, isi_int_tuple, isi_int_int, isi_int_str, isi_int_bool, isi_int_list, type_int, isi_str_tuple, isi_str_int, isi_str_str, isi_str_bool, isi_str_list, type_str, isi_tup_tuple, isi_tup_int, isi_tup_str, isi_tup_bool, isi_tup_list, type_tup, is_int_int, isn_int_int, is_int_str, isn_int_str, is_int_tuple, isn_int_tuple, is_int_list, isn_int_list, is_int_bool, isn_int_bool, is_str_int, isn_str_int, is_str_str, isn_str_str, is_str_tuple, isn_str_tuple, is_str_list, isn_str_list, is_str_bool, isn_str_bool, is_tuple_int, isn_tuple_int, is_tuple_str, isn_tuple_str, is_tuple_tuple, isn_tuple_tuple, is_tuple_list, isn_tuple_list, is_tuple_bool, isn_tuple_bool, is_list_int, isn_list_int, is_list_str, isn_list_str, is_list_tuple, isn_list_tuple, is_list_list, isn_list_list, is_list_bool, isn_list_bool, is_bool_int, isn_bool_int, is_bool_str, isn_bool_str, is_bool_tuple, isn_bool_tuple, is_bool_list, isn_bool_list, is_bool_bool, isn_bool_bool, is_NoneType_int, isn_NoneType_int, is_NoneType_str, isn_NoneType_str, is_NoneType_tuple, isn_NoneType_tuple, is_NoneType_list, isn_NoneType_list, is_NoneType_bool, isn_NoneType_bool, isN_non, isnN_non, isB_non, isnB_non, isN_bl, isnN_bl, isB_bl, isnB_bl, isN_int, isnN_int, isB_int, isnB_int, isN_str, isnN_str, isB_str, isnB_str, isN_tup, isnN_tup, isB_tup, isnB_tup, eq_non_non, eq_non_bl, ne_non_bl, eq_non_int, ne_non_int, eq_non_str, ne_non_str, eq_bl_non, ne_bl_non, eq_bl_bl, ne_bl_bl, eq_bl_str, ne_bl_str, eq_int_non, ne_int_non, eq_int_int, ne_int_int, eq_int_str, ne_int_str, eq_str_non, ne_str_non, eq_str_bl, ne_str_bl, eq_str_int, ne_str_int, eq_str_str, ne_str_str, isN_ref, isB_ref, tru_bl, tru_int, type_r hr]; exact h
  | _ => simp only [sat_ok, sat_ex, sat_err, sat_bind_eq, ofP_some, ofP_none, sat_of_eq, st_nx, st_rt, st_bk, st_ct, st_ex, st_err, st_then, seqP_nx, seqP_rt, seqP_bk, seqP_ct, seqP_ex, st_xSeq, endP_nx, endP_rt, endP_ex, endP_bk, endP_ct, varP_some, varP_none, varP_non, sat_xVar, sat_xC, sat_xOp, sat_xUn, blP_bl, sat_xTB, trP_some, trP_none, sat_xT, sat_xAndT, sat_xOrT, sat_xNotT, sat_xAnd, sat_xOr, sat_xNot, sat_xIf, sat_xNil, sat_xCons, sat_xTup, sat_xLst, sat_xChain, sat_xCall, sat_xCB, sat_xM0, sat_xM, intP_int, sat_xNoP, sat_xPart, sat_xSl, st_xSkip, st_xBrk, st_xCnt, st_xDrop, st_xRet, st_xRetN, st_xIfS, tgP_some, tgP_none, st_xAsg, g_gVar, g_gNil, g_gCons, g_gTup, augP_some, augP_none, st_xAug, parP_two, st_xPar, loopP_nx, loopP_ct, loopP_bk, loopP_rt, loopP_ex, st_xFor, itP_some, itP_none, sat_xIt, sat_xLc, sat_xItA, sat_xYes, sat_xLenSet, oAdd_ii, oSub_ii, oMul_ii, oFdiv_ii, oMod_ii, oNeg_i, oLt_ii, oLe_ii, oGt_ii, oGe_ii, oInt_i, oIx_ti, oIx_qi, oLen_t, oLen_q, oLen_s, atI_0, atI_1, atI_2, atI_3, atI_4, atI_5, atI_6, atI_7, atI_8, atI_9, atI_10, atI_11, atI_12, atI_13, atI_14, List.getElem?_cons_zero, List.getElem?_cons_succ, List.map_cons, List.map_nil, List.cons_append, List.nil_append, List.length_cons, List.length_nil, List.set_cons_zero, List.set_cons_succ, List.replicate, Option.map_some, Option.map_none, Option.bind_some, Option.bind_none, if_true, if_false, Nat.reduceAdd, Nat.reduceSub, Nat.reduceLT, Nat.reduceLeDiff, Nat.reduceEqDiff, Int.reduceLT, Int.reduceLE, Int.reduceNeg, Int.reduceEq, Bool.false_eq_true, Bool.true_eq_false, reduceIte, reduceCtorEq, Bool.not_true, Bool.not_false, decide_eq_true_eq, Nat.zero_lt_succ, and_true, true_and, and_self, and_false, false_and, isi_non_tuple, isi_non_int, isi_non_str, isi_non_bool, isi_non_list, type_non, isi_bl_tuple, isi_bl_int, isi_bl_str, isi_bl_bool, isi_bl_list, type_bl, isi_int_tuple, isi_int_int, isi_int_str, isi_int_bool, isi_int_list, type_int, isi_str_tuple, isi_str_int, isi_str_str, isi_str_bool, isi_str_list, type_str, isi_tup_tuple, isi_tup_int, isi_tup_str, isi_tup_bool, isi_tup_list, type_tup, is_int_int, isn_int_int, is_int_str, isn_int_str, is_int_tuple, isn_int_tuple, is_int_list, isn_int_list, is_int_bool, isn_int_bool, is_str_int, isn_str_int, is_str_str, isn_str_str, is_str_tuple, isn_str_tuple, is_str_list, isn_str_list, is_str_bool, isn_str_bool, is_tuple_int, isn_tuple_int, is_tuple_str, isn_tuple_str, is_tuple_tuple, isn_tuple_tuple, is_tuple_list, isn_tuple_list, is_tuple_bool, isn_tuple_bool, is_list_int, isn_list_int, is_list_str, isn_list_str, is_list_tuple, isn_list_tuple, is_list_list, isn_list_list, is_list_bool, isn_list_bool, is_bool_int, isn_bool_int, is_bool_str, isn_bool_str, is_bool_tuple, isn_bool_tuple, is_bool_list, isn_bool_list, is_bool_bool, isn_bool_bool, is_NoneType_int, isn_NoneType_int, is_NoneType_str, isn_NoneType_str, is_NoneType_tuple, isn_NoneType_tuple, is_NoneType_list, isn_NoneType_list, is_NoneType_bool, isn_NoneType_bool, isN_non, isnN_non, isB_non, isnB_non, isN_bl, isnN_bl, isB_bl, isnB_bl, isN_int, isnN_int, isB_int, isnB_int, isN_str, isnN_str, isB_str, isnB_str, isN_tup, isnN_tup, isB_tup, isnB_tup, eq_non_non, eq_non_bl, ne_non_bl, eq_non_int, ne_non_int, eq_non_str, ne_non_str, eq_bl_non, ne_bl_non, eq_bl_bl, ne_bl_bl, eq_bl_str, ne_bl_str, eq_int_non, ne_int_non, eq_int_int, ne_int_int, eq_int_str, ne_int_str, eq_str_non, ne_str_non, eq_str_bl, ne_str_bl, eq_str_int, ne_str_int, eq_str_str, ne_str_str, isN_ref, isB_ref, tru_bl, tru_int]; exact h
noncomputable abbrev fIsAmount : Fn := bodyF 1 (B_is_amount fWithin)
def amountD (d : D) : Bool := match d with
  | .int i => decide (-99999999 ≤ i) && decide (i ≤ 99999999) && decide (i ≠ 0)
  | _ => false
theorem is_amount_spec (hv : Vd S n d) (h : Pd (.bl (amountD d)) S) : (fIsAmount [d] S).wp Pd E := by
  rw [sat_bodyF]
  unfold B_is_amount
  simp only [sat_ok, sat_ex, sat_err, sat_bind_eq, ofP_some, ofP_none, sat_of_eq, st_nx, st_rt, st_bk, st_ct, st_ex, st_err, st_then, seqP_nx, seqP_rt, seqP_bk, seqP_ct, seqP_ex, st_xSeq, endP_nx, endP_rt, endP_ex, endP_bk, endP_ct, varP_some, varP_none, varP_non, sat_xVar, sat_xC, sat_xOp, sat_xUn, blP_bl, sat_xTB, trP_some, trP_none, sat_xT, sat_xAndT, sat_xOrT, sat_xNotT, sat_xAnd, sat_xOr, sat_xNot, sat_xIf, sat_xNil, sat_xCons, sat_xTup, sat_xLst, sat_xChain, sat_xCall, sat_xCB, sat_xM0, sat_xM, intP_int, sat_xNoP, sat_xPart, sat_xSl, st_xSkip, st_xBrk, st_xCnt, st_xDrop, st_xRet, st_xRetN, st_xIfS, tgP_some, tgP_none, st_xAsg, g_gVar, g_gNil, g_gCons, g_gTup, augP_some, augP_none, st_xAug, parP_two, st_xPar, loopP_nx, loopP_ct, loopP_bk, loopP_rt, loopP_ex, st_xFor, itP_some, itP_none, sat_xIt, sat_xLc, sat_xItA, sat_xYes, sat_xLenSet, oAdd_ii, oSub_ii, oMul_ii, oFdiv_ii, oMod_ii, oNeg_i, oLt_ii, oLe_ii, oGt_ii, oGe_ii, oInt_i, oIx_ti, oIx_qi, oLen_t, oLen_q, oLen_s, atI_0, atI_1, atI_2, atI_3, atI_4, atI_5, atI_6, atI_7, atI_8, atI_9, atI_10, atI_11, atI_12, atI_13, atI_14, List.getElem?_cons_zero, List.getElem?_cons_succ, List.map_cons, List.map_nil, List.cons_append, List.nil_append, List.length_cons, List.length_nil, List.set_cons_zero, List.set_cons_succ, List.replicate, Option.map_some, Option.map_none, Option.bind_some, Option.bind_none, if_true, if_false, Nat.reduceAdd, Nat.reduceSub, Nat.reduceLT, Nat.reduceLeDiff, Nat.reduceEqDiff, Int.reduceLT, Int.reduceLE, Int.reduceNeg, Int.reduceEq, Bool.false_eq_true, Bool.true_eq_false, reduceIte, reduceCtorEq, Bool.not_true, Bool.not_false, decide_eq_true_eq, Nat.zero_lt_succ, and_true, true_and, and_self, and_false, false_and, isi_non_tuple, isi_non_int, isi_non_str, isi_non_bool, isi_non_list, type_non, isi_bl_tuple, isi_bl_int, isi_bl_str, isi_bl_bool, isi_bl_list, type_bl, isi_int_tuple, isi_int_int, isi_int_str, isi_int_bool, isi_int_list, type_int, isi_str_tuple, isi_str_int, isi_str_str, isi_str_bool, isi_str_list, type_str, isi_tup_tuple, isi_tup_int, isi_tup_str, isi_tup_bool, isi_tup_list, type_tup, is_int_int, isn_int_int, is_int_str, isn_int_str, is_int_tuple, isn_int_tuple, is_int_list, isn_int_list, is_int_bool, isn_int_bool, is_str_int, isn_str_int, is_str_str, isn_str_str, is_str_tuple, isn_str_tuple, is_str_list, isn_str_list, is_str_bool, isn_str_bool, is_tuple_int, isn_tuple_int, is_tuple_str, isn_tuple_str, is_tuple_tuple, isn_tuple_tuple, is_tuple_list, isn_tuple_list, is_tuple_bool, isn_tuple_bool, is_list_int, isn_list_int, is_list_str, isn_list_str, is_list_tuple, isn_list_tuple, is_list_list, isn_list_list, is_list_bool, isn_list_bool, is_bool_int, isn_bool_int, is_bool_str, isn_bool_str, is_bool_tuple, isn_bool_tuple, is_bool_list, isn_bool_list, is_bool_bool, isn_bool_bool, is_NoneType_int, isn_NoneType_int, is_NoneType_str, isn_NoneType_str, is_NoneType_tuple, isn_NoneType_tuple, is_NoneType_list, isn_NoneType_list, is_NoneType_bool, isn_NoneType_bool, isN_non, isnN_non, isB_non, isnB_non, isN_bl, isnN_bl, isB_bl, isnB_bl, isN_int, isnN_int, isB_int, isnB_int, isN_str, isnN_str, isB_str, isnB_str, isN_tup, isnN_tup, isB_tup, isnB_tup, eq_non_non, eq_non_bl, ne_non_bl, eq_non_int, ne_non_int, eq_non_str, ne_non_str, eq_bl_non, ne_bl_non, eq_bl_bl, ne_bl_bl, eq_bl_str, ne_bl_str, eq_int_non, ne_int_non, eq_int_int, ne_int_int, eq_int_str, ne_int_str, eq_str_non, ne_str_non, eq_str_bl, ne_str_bl, eq_str_int, ne_str_int, eq_str_str, ne_str_str, isN_ref, isB_ref, tru_bl, tru_int]
  refine within_spec hv ?_
  cases hv with
  | @int _ i =>
    simp only [sat_ok, sat_ex, sat_err, sat_bind_eq, ofP_some, ofP_none, sat_of_eq, st_nx, st_rt, st_bk, st_ct, st_ex, st_err, st_then, seqP_nx, seqP_rt, seqP_bk, seqP_ct, seqP_ex, st_xSeq, endP_nx, endP_rt, endP_ex, endP_bk, endP_ct, varP_some, varP_none, varP_non, sat_xVar, sat_xC, sat_xOp, sat_xUn, blP_bl, sat_xTB, trP_some, trP_none, sat_xT, sat_xAndT, sat_xOrT, sat_xNotT, sat_xAnd, sat_xOr, sat_xNot, sat_xIf, sat_xNil, sat_xCons, sat_xTup, sat_xLst, sat_xChain, sat_xCall, sat_xCB, sat_xM0, sat_xM, intP_int, sat_xNoP, sat_xPart, sat_xSl, st_xSkip, st_xBrk, st_xCnt, st_xDrop, st_xRet, st_xRetN, st_xIfS, tgP_some, tgP_none, st_xAsg, g_gVar, g_gNil, g_gCons, g_gTup, augP_some, augP_none, st_xAug, parP_two, st_xPar, loopP_nx, loopP_ct, loopP_bk, loopP_rt, loopP_ex, st_xFor, itP_some, itP_none, sat_xIt, sat_xLc, sat_xItA, sat_xYes, sat_xLenSet, oAdd_ii, oSub_ii, oMul_ii, oFdiv_ii, oMod_ii, oNeg_i, oLt_ii, oLe_ii, oGt_ii, oGe_ii, oInt_i, oIx_ti, oIx_qi, oLen_t, oLen_q, oLen_s, atI_0, atI_1, atI_2, atI_3, atI_4, atI_5, atI_6, atI_7, atI_8, atI_9, atI_10, atI_11, atI_12, atI_13, atI_14, List.getElem?_cons_zero, List.getElem?_cons_succ, List.map_cons, List.map_nil, List.cons_append, List.nil_append, List.length_cons, List.length_nil, List.set_cons_zero, List.set_cons_succ, List.replicate, Option.map_some, Option.map_none, Option.bind_some, Option.bind_none, if_true, if_false, Nat.reduceAdd, Nat.reduceSub, Nat.reduceLT, Nat.reduceLeDiff, Nat.reduceEqDiff, Int.reduceLT, Int.reduceLE, Int.reduceNeg, Int.reduceEq, Bool.false_eq_true, Bool.true_eq_false, reduceIte, reduceCtorEq, Bool.not_true, Bool.not_false, decide_eq_true_eq, Nat.zero_lt_succ, and_true, true_and, and_self, and_false, false_and, isi_non_tuple, isi_non_int, isi_non_str, isi_non_bool, isi_non_list, type_non, isi_bl_tuple, isi_bl_int, isi_bl_str, isi_bl_bool, isi_bl_list, type_bl, isi_int_tuple, isi_int_int, isi_int_str, isi_int_bool, isi_int_list, type_int, isi_str_tuple, isi_str_int, isi_str_str, isi_str_bool, isi_str_list, type_str, isi_tup_tuple, isi_tup_int, isi_tup_str, isi_tup_bool, isi_tup_list, type_tup, is_int_int, isn_int_int, is_int_str, isn_int_str, is_int_tuple, isn_int_tuple, is_int_list, isn_int_list, is_int_bool, isn_int_bool, is_str_int, isn_str_int, is_str_str, isn_str_str, is_str_tuple, isn_str_tuple, is_str_list, isn_str_list, is_str_bool, isn_str_bool, is_tuple_int, isn_tuple_int, is_tuple_str, isn_tuple_str, is_tuple_tuple, isn_tuple_tuple, is_tuple_list, isn_tuple_list, is_tuple_bool, isn_tuple_bool, is_list_int, isn_list_int, is_list_str, isn_list_str, is_list_tuple, isn_list_tuple, is_list_list, isn_list_list, is_list_bool, isn_list_bool, is_bool_int, isn_bool_int, is_bool_str, isn_bool_str, is_bool_tuple, isn_bool_tuple, is_bool_list, isn_bool_list, is_bool_bool, isn_bool_bool, is_NoneType_int, isn_NoneType_int, is_NoneType_str, isn_NoneType_str, is_NoneType_tuple, isn_NoneType_tuple, is_NoneType_list, isn_NoneType_list, is_NoneType_bool, isn_NoneType_bool, isN_non, isnN_non, isB_non, isnB_non, isN_bl, isnN_bl, isB_bl, isnB_bl, isN_int, isnN_int, isB_int, isnB_int, isN_str, isnN_str, isB_str, isnB_str, isN_tup, isnN_tup, isB_tup, isnB_tup, eq_non_non, eq_non_bl, ne_non_bl, eq_non_int, ne_non_int, eq_non_str, ne_non_str, eq_bl_non, ne_bl_non, eq_bl_bl, ne_bl_bl, eq_bl_str, ne_bl_str, eq_int_non, ne_int_non, eq_int_int, ne_int_int, eq_int_str, ne_int_str, eq_str_non, ne_str_non, eq_str_bl, ne_str_bl, eq_str_int, ne_str_int, eq_str_str, ne_str_str, isN_ref, isB_ref, tru_bl, tru_int, wholeD]
    split
    · rename_i q
      rw [amountD, q] at h
      simpa using h
    · rename_i q
      rw [amountD] at h
      simp only [Bool.not_eq_true] at q
      rw [q] at h ⊢
      exact h
  | _ => simp only [sat_ok, sat_ex, sat_err, sat_bind_eq, ofP_some, ofP_none, sat_of_eq, st_nx, st_rt, st_bk, st_ct, st_ex, st_err, st_then, seqP_nx, seqP_rt, seqP_bk, seqP_ct, seqP_ex, st_xSeq, endP_nx, endP_rt, endP_ex, endP_bk, endP_ct, varP_some, varP_none, varP_non, sat_xVar, sat_xC, sat_xOp, sat_xUn, blP_bl, sat_xTB, trP_some, trP_none, sat_xT, sat_xAndT, sat_xOrT, sat_xNotT, sat_xAnd, sat_xOr, sat_xNot, sat_xIf, sat_xNil, sat_xCons, sat_xTup, sat_xLst, sat_xChain, sat_xCall, sat_xCB, sat_xM0, sat_xM, intP_int, sat_xNoP, sat_xPart, sat_xSl, st_xSkip, st_xBrk, st_xCnt, st_xDrop, st_xRet, st_xRetN, st_xIfS, tgP_some, tgP_none, st_xAsg, g_gVar, g_gNil, g_gCons, g_gTup, augP_some, augP_none, st_xAug, parP_two, st_xPar, loopP_nx, loopP_ct, loopP_bk, loopP_rt, loopP_ex, st_xFor, itP_some, itP_none, sat_xIt, sat_xLc, sat_xItA, sat_xYes, sat_xLenSet, oAdd_ii, oSub_ii, oMul_ii, oFdiv_ii, oMod_ii, oNeg_i, oLt_ii, oLe_ii, oGt_ii, oGe_ii, oInt_i, oIx_ti, oIx_qi, oLen_t, oLen_q, oLen_s, atI_0, atI_1, atI_2, atI_3, atI_4, atI_5, atI_6, atI_7, atI_8, atI_9, atI_10, atI_11, atI_12, atI_13, atI_14, List.getElem?_cons_zero, List.getElem?_cons_succ, List.map_cons, List.map_nil, List.cons_append, List.nil_append, List.length_cons, List.length_nil, List.set_cons_zero, List.set_cons_succ, List.replicate, Option.map_some, Option.map_none, Option.bind_some, Option.bind_none, if_true, if_false, Nat.reduceAdd, Nat.reduceSub, Nat.reduceLT, Nat.reduceLeDiff, Nat.reduceEqDiff, Int.reduceLT, Int.reduceLE, Int.reduceNeg, Int.reduceEq, Bool.false_eq_true, Bool.true_eq_false, reduceIte, reduceCtorEq, Bool.not_true, Bool.not_false, decide_eq_true_eq, Nat.zero_lt_succ, and_true, true_and, and_self, and_false, false_and, isi_non_tuple, isi_non_int, isi_non_str, isi_non_bool, isi_non_list, type_non, isi_bl_tuple, isi_bl_int, isi_bl_str, isi_bl_bool, isi_bl_list, type_bl, isi_int_tuple, isi_int_int, isi_int_str, isi_int_bool, isi_int_list, type_int, isi_str_tuple, isi_str_int, isi_str_str, isi_str_bool, isi_str_list, type_str, isi_tup_tuple, isi_tup_int, isi_tup_str, isi_tup_bool, isi_tup_list, type_tup, is_int_int, isn_int_int, is_int_str, isn_int_str, is_int_tuple, isn_int_tuple, is_int_list, isn_int_list, is_int_bool, isn_int_bool, is_str_int, isn_str_int, is_str_str, isn_str_str, is_str_tuple, isn_str_tuple, is_str_list, isn_str_list, is_str_bool, isn_str_bool, is_tuple_int, isn_tuple_int, is_tuple_str, isn_tuple_str, is_tuple_tuple, isn_tuple_tuple, is_tuple_list, isn_tuple_list, is_tuple_bool, isn_tuple_bool, is_list_int, isn_list_int, is_list_str, isn_list_str, is_list_tuple, isn_list_tuple, is_list_list, isn_list_list, is_list_bool, isn_list_bool, is_bool_int, isn_bool_int, is_bool_str, isn_bool_str, is_bool_tuple, isn_bool_tuple, is_bool_list, isn_bool_list, is_bool_bool, isn_bool_bool, is_NoneType_int, isn_NoneType_int, is_NoneType_str, isn_NoneType_str, is_NoneType_tuple, isn_NoneType_tuple, is_NoneType_list, isn_NoneType_list, is_NoneType_bool, isn_NoneType_bool, isN_non, isnN_non, isB_non, isnB_non, isN_bl, isnN_bl, isB_bl, isnB_bl, isN_int, isnN_int, isB_int, isnB_int, isN_str, isnN_str, isB_str, isnB_str, isN_tup, isnN_tup, isB_tup, isnB_tup, eq_non_non, eq_non_bl, ne_non_bl, eq_non_int, ne_non_int, eq_non_str, ne_non_str, eq_bl_non, ne_bl_non, eq_bl_bl, ne_bl_bl, eq_bl_str, ne_bl_str, eq_int_non, ne_int_non, eq_int_int, ne_int_int, eq_int_str, ne_int_str, eq_str_non, ne_str_non, eq_str_bl, ne_str_bl, eq_str_int, ne_str_int, eq_str_str, ne_str_str, isN_ref, isB_ref, tru_bl, tru_int, wholeD]; exact h
noncomputable abbrev fIsName : Fn := bodyF 1 B_is_name
theorem is_name_spec (hv : Vd S n d) (h : Pd (.bl (nameD d)) S) : (fIsName [d] S).wp Pd E := by
  rw [sat_bodyF]
  unfold B_is_name
  cases hv with
  | ref hr => simp only [sat_ok, sat_ex, sat_err, sat_bind_eq, ofP_some, ofP_none, sat_of_eq, st_nx, st_rt, st_bk, st_ct, st_ex, st_err, st_then, seqP_nx, seqP_rt, seqP_bk, seqP_ct, seqP_ex, st_xSeq, endP_nx, endP_rt, endP_ex, endP_bk, endP_ct, varP_some, varP_none, varP_non, sat_xVar, sat_xC, sat_xOp, sat_xUn, blP_bl, sat_xTB, trP_some, trP_none, sat_xT, sat_xAndT, sat_xOrT, sat_xNotT, sat_xAnd, sat_xOr, sat_xNot, sat_xIf, sat_xNil, sat_xCons, sat_xTup, sat_xLst, sat_xChain, sat_xCall, sat_xCB, sat_xM0, sat_xM, intP_int, sat_xNoP, sat_xPart, sat_xSl, st_xSkip, st_xBrk, st_xCnt, st_xDrop, st_xRet, st_xRetN, st_xIfS, tgP_some, tgP_none, st_xAsg, g_gVar, g_gNil, g_gCons, g_gTup, augP_some, augP_none, st_xAug, parP_two, st_xPar, loopP_nx, loopP_ct, loopP_bk, loopP_rt, loopP_ex, st_xFor, itP_some, itP_none, sat_xIt, sat_xLc, sat_xItA, sat_xYes, sat_xLenSet, oAdd_ii, oSub_ii, oMul_ii, oFdiv_ii, oMod_ii, oNeg_i, oLt_ii, oLe_ii, oGt_ii, oGe_ii, oInt_i, oIx_ti, oIx_qi, oLen_t, oLen_q, oLen_s, atI_0, atI_1, atI_2, atI_3, atI_4, atI_5, atI_6, atI_7, atI_8, atI_9, atI_10, atI_11, atI_12, atI_13, atI_14, List.getElem?_cons_zero, List.getElem?_cons_succ, List.map_cons, List.map_nil, List.cons_append, List.nil_append, List.length_cons, List.length_nil, List.set_cons_zero, List.set_cons_succ, List.replicate, Option.map_some, Option.map_none, Option.bind_some, Option.bind_none, if_true, if_false, Nat.reduceAdd, Nat.reduceSub, Nat.reduceLT, Nat.reduceLeDiff, Nat.reduceEqDiff, Int.reduceLT, Int.reduceLE, Int.reduceNeg, Int.reduceEq, Bool.false_eq_true, Bool.true_eq_false, reduceIte, reduceCtorEq, Bool.not_true, Bool.not_false, decide_eq_true_eq, Nat.zero_lt_succ, and_true, true_and, and_self, and_false, false_and, isi_non_tuple, isi_non_int, isi_non_str, isi_non_bool, isi_non_list, type_non, isi_bl_tuple, isi_bl_int, isi_bl_str, isi_bl_bool, isi_bl_list, type_bl, isi_int_tuple, isi_int_int, isi_int_str, isi_int_bool, isi_int_list, type_int, isi_str_tuple, isi_str_int, isi_str_str, isi_str_bool, isi_str_list, type_str, isi_tup_tuple, isi_tup_int, isi_tup_str, isi_tup_bool, isi_tup_list, type_tup, is_int_int, isn_int_int, is_int_str, isn_int_str, is_int_tuple, isn_int_tuple, is_int_list, isn_int_list, is_int_bool, isn_int_bool, is_str_int, isn_str_int, is_str_str, isn_str_str, is_str_tuple, isn_str_tuple, is_str_list, isn_str_list, is_str_bool, isn_str_bool, is_tuple_int, isn_tuple_int, is_tuple_str, isn_tuple_str, is_tuple_tuple, isn_tuple_tuple, is_tuple_list, isn_tuple_list, is_tuple_bool, isn_tuple_bool, is_list_int, isn_list_int, is_list_str, isn_list_str, is_list_tuple, isn_list_tuple, is_list_list, isn_list_list, is_list_bool, isn_list_bool, is_bool_int, isn_bool_int, is_bool_str, isn_bool_str, is_bool_tuple, isn_bool_tuple, is_bool_list, isn_bool_list, is_bool_bool, isn_bool_bool, is_NoneType_int, isn_NoneType_int, is_NoneType_str, isn_NoneType_str, is_NoneType_tuple, isn_NoneType_tuple, is_NoneType_list, isn_NoneType_list, is_NoneType_bool, isn_NoneType_bool, isN_non, isnN_non, isB_non, isnB_non, isN_bl, isnN_bl, isB_bl, isnB_bl, isN_int, isnN_int, isB_int, isnB_int, isN_str, isnN_str, isB_str, isnB_str, isN_tup, isnN_tup, isB_tup, isnB_tup, eq_non_non, eq_non_bl, ne_non_bl, eq_non_int, ne_non_int, eq_non_str, ne_non_str, eq_bl_non, ne_bl_non, eq_bl_bl, ne_bl_bl, eq_bl_str, ne_bl_str, eq_int_non, ne_int_non, eq_int_int, ne_int_int, eq_int_str, ne_int_str, eq_str_non, ne_str_non, eq_str_bl, ne_str_bl, eq_str_int, ne_str_int, eq_str_str, ne_str_str, isN_ref, isB_ref, tru_bl, tru_int, type_r hr]; exact h
  | @str _ z hz =>
    have zz : sizeLine = 16777216 := rfl
    have hl : z.length = z.cps.toList.length := by simp [Str.length]
    rw [nameD, nameB] at h
    have e1 := strip_len0 z g_SIGNS
    simp only [sat_ok, sat_ex, sat_err, sat_bind_eq, ofP_some, ofP_none, sat_of_eq, st_nx, st_rt, st_bk, st_ct, st_ex, st_err, st_then, seqP_nx, seqP_rt, seqP_bk, seqP_ct, seqP_ex, st_xSeq, endP_nx, endP_rt, endP_ex, endP_bk, endP_ct, varP_some, varP_none, varP_non, sat_xVar, sat_xC, sat_xOp, sat_xUn, blP_bl, sat_xTB, trP_some, trP_none, sat_xT, sat_xAndT, sat_xOrT, sat_xNotT, sat_xAnd, sat_xOr, sat_xNot, sat_xIf, sat_xNil, sat_xCons, sat_xTup, sat_xLst, sat_xChain, sat_xCall, sat_xCB, sat_xM0, sat_xM, intP_int, sat_xNoP, sat_xPart, sat_xSl, st_xSkip, st_xBrk, st_xCnt, st_xDrop, st_xRet, st_xRetN, st_xIfS, tgP_some, tgP_none, st_xAsg, g_gVar, g_gNil, g_gCons, g_gTup, augP_some, augP_none, st_xAug, parP_two, st_xPar, loopP_nx, loopP_ct, loopP_bk, loopP_rt, loopP_ex, st_xFor, itP_some, itP_none, sat_xIt, sat_xLc, sat_xItA, sat_xYes, sat_xLenSet, oAdd_ii, oSub_ii, oMul_ii, oFdiv_ii, oMod_ii, oNeg_i, oLt_ii, oLe_ii, oGt_ii, oGe_ii, oInt_i, oIx_ti, oIx_qi, oLen_t, oLen_q, oLen_s, atI_0, atI_1, atI_2, atI_3, atI_4, atI_5, atI_6, atI_7, atI_8, atI_9, atI_10, atI_11, atI_12, atI_13, atI_14, List.getElem?_cons_zero, List.getElem?_cons_succ, List.map_cons, List.map_nil, List.cons_append, List.nil_append, List.length_cons, List.length_nil, List.set_cons_zero, List.set_cons_succ, List.replicate, Option.map_some, Option.map_none, Option.bind_some, Option.bind_none, if_true, if_false, Nat.reduceAdd, Nat.reduceSub, Nat.reduceLT, Nat.reduceLeDiff, Nat.reduceEqDiff, Int.reduceLT, Int.reduceLE, Int.reduceNeg, Int.reduceEq, Bool.false_eq_true, Bool.true_eq_false, reduceIte, reduceCtorEq, Bool.not_true, Bool.not_false, decide_eq_true_eq, Nat.zero_lt_succ, and_true, true_and, and_self, and_false, false_and, isi_non_tuple, isi_non_int, isi_non_str, isi_non_bool, isi_non_list, type_non, isi_bl_tuple, isi_bl_int, isi_bl_str, isi_bl_bool, isi_bl_list, type_bl, isi_int_tuple, isi_int_int, isi_int_str, isi_int_bool, isi_int_list, type_int, isi_str_tuple, isi_str_int, isi_str_str, isi_str_bool, isi_str_list, type_str, isi_tup_tuple, isi_tup_int, isi_tup_str, isi_tup_bool, isi_tup_list, type_tup, is_int_int, isn_int_int, is_int_str, isn_int_str, is_int_tuple, isn_int_tuple, is_int_list, isn_int_list, is_int_bool, isn_int_bool, is_str_int, isn_str_int, is_str_str, isn_str_str, is_str_tuple, isn_str_tuple, is_str_list, isn_str_list, is_str_bool, isn_str_bool, is_tuple_int, isn_tuple_int, is_tuple_str, isn_tuple_str, is_tuple_tuple, isn_tuple_tuple, is_tuple_list, isn_tuple_list, is_tuple_bool, isn_tuple_bool, is_list_int, isn_list_int, is_list_str, isn_list_str, is_list_tuple, isn_list_tuple, is_list_list, isn_list_list, is_list_bool, isn_list_bool, is_bool_int, isn_bool_int, is_bool_str, isn_bool_str, is_bool_tuple, isn_bool_tuple, is_bool_list, isn_bool_list, is_bool_bool, isn_bool_bool, is_NoneType_int, isn_NoneType_int, is_NoneType_str, isn_NoneType_str, is_NoneType_tuple, isn_NoneType_tuple, is_NoneType_list, isn_NoneType_list, is_NoneType_bool, isn_NoneType_bool, isN_non, isnN_non, isB_non, isnB_non, isN_bl, isnN_bl, isB_bl, isnB_bl, isN_int, isnN_int, isB_int, isnB_int, isN_str, isnN_str, isB_str, isnB_str, isN_tup, isnN_tup, isB_tup, isnB_tup, eq_non_non, eq_non_bl, ne_non_bl, eq_non_int, ne_non_int, eq_non_str, ne_non_str, eq_bl_non, ne_bl_non, eq_bl_bl, ne_bl_bl, eq_bl_str, ne_bl_str, eq_int_non, ne_int_non, eq_int_int, ne_int_int, eq_int_str, ne_int_str, eq_str_non, ne_str_non, eq_str_bl, ne_str_bl, eq_str_int, ne_str_int, eq_str_str, ne_str_str, isN_ref, isB_ref, tru_bl, tru_int]
    rw [if_pos (by omega)]
    simp only [sat_ok, sat_ex, sat_err, sat_bind_eq, ofP_some, ofP_none, sat_of_eq, st_nx, st_rt, st_bk, st_ct, st_ex, st_err, st_then, seqP_nx, seqP_rt, seqP_bk, seqP_ct, seqP_ex, st_xSeq, endP_nx, endP_rt, endP_ex, endP_bk, endP_ct, varP_some, varP_none, varP_non, sat_xVar, sat_xC, sat_xOp, sat_xUn, blP_bl, sat_xTB, trP_some, trP_none, sat_xT, sat_xAndT, sat_xOrT, sat_xNotT, sat_xAnd, sat_xOr, sat_xNot, sat_xIf, sat_xNil, sat_xCons, sat_xTup, sat_xLst, sat_xChain, sat_xCall, sat_xCB, sat_xM0, sat_xM, intP_int, sat_xNoP, sat_xPart, sat_xSl, st_xSkip, st_xBrk, st_xCnt, st_xDrop, st_xRet, st_xRetN, st_xIfS, tgP_some, tgP_none, st_xAsg, g_gVar, g_gNil, g_gCons, g_gTup, augP_some, augP_none, st_xAug, parP_two, st_xPar, loopP_nx, loopP_ct, loopP_bk, loopP_rt, loopP_ex, st_xFor, itP_some, itP_none, sat_xIt, sat_xLc, sat_xItA, sat_xYes, sat_xLenSet, oAdd_ii, oSub_ii, oMul_ii, oFdiv_ii, oMod_ii, oNeg_i, oLt_ii, oLe_ii, oGt_ii, oGe_ii, oInt_i, oIx_ti, oIx_qi, oLen_t, oLen_q, oLen_s, atI_0, atI_1, atI_2, atI_3, atI_4, atI_5, atI_6, atI_7, atI_8, atI_9, atI_10, atI_11, atI_12, atI_13, atI_14, List.getElem?_cons_zero, List.getElem?_cons_succ, List.map_cons, List.map_nil, List.cons_append, List.nil_append, List.length_cons, List.length_nil, List.set_cons_zero, List.set_cons_succ, List.replicate, Option.map_some, Option.map_none, Option.bind_some, Option.bind_none, if_true, if_false, Nat.reduceAdd, Nat.reduceSub, Nat.reduceLT, Nat.reduceLeDiff, Nat.reduceEqDiff, Int.reduceLT, Int.reduceLE, Int.reduceNeg, Int.reduceEq, Bool.false_eq_true, Bool.true_eq_false, reduceIte, reduceCtorEq, Bool.not_true, Bool.not_false, decide_eq_true_eq, Nat.zero_lt_succ, and_true, true_and, and_self, and_false, false_and, isi_non_tuple, isi_non_int, isi_non_str, isi_non_bool, isi_non_list, type_non, isi_bl_tuple, isi_bl_int, isi_bl_str, isi_bl_bool, isi_bl_list, type_bl, isi_int_tuple, isi_int_int, isi_int_str, isi_int_bool, isi_int_list, type_int, isi_str_tuple, isi_str_int, isi_str_str, isi_str_bool, isi_str_list, type_str, isi_tup_tuple, isi_tup_int, isi_tup_str, isi_tup_bool, isi_tup_list, type_tup, is_int_int, isn_int_int, is_int_str, isn_int_str, is_int_tuple, isn_int_tuple, is_int_list, isn_int_list, is_int_bool, isn_int_bool, is_str_int, isn_str_int, is_str_str, isn_str_str, is_str_tuple, isn_str_tuple, is_str_list, isn_str_list, is_str_bool, isn_str_bool, is_tuple_int, isn_tuple_int, is_tuple_str, isn_tuple_str, is_tuple_tuple, isn_tuple_tuple, is_tuple_list, isn_tuple_list, is_tuple_bool, isn_tuple_bool, is_list_int, isn_list_int, is_list_str, isn_list_str, is_list_tuple, isn_list_tuple, is_list_list, isn_list_list, is_list_bool, isn_list_bool, is_bool_int, isn_bool_int, is_bool_str, isn_bool_str, is_bool_tuple, isn_bool_tuple, is_bool_list, isn_bool_list, is_bool_bool, isn_bool_bool, is_NoneType_int, isn_NoneType_int, is_NoneType_str, isn_NoneType_str, is_NoneType_tuple, isn_NoneType_tuple, is_NoneType_list, isn_NoneType_list, is_NoneType_bool, isn_NoneType_bool, isN_non, isnN_non, isB_non, isnB_non, isN_bl, isnN_bl, isB_bl, isnB_bl, isN_int, isnN_int, isB_int, isnB_int, isN_str, isnN_str, isB_str, isnB_str, isN_tup, isnN_tup, isB_tup, isnB_tup, eq_non_non, eq_non_bl, ne_non_bl, eq_non_int, ne_non_int, eq_non_str, ne_non_str, eq_bl_non, ne_bl_non, eq_bl_bl, ne_bl_bl, eq_bl_str, ne_bl_str, eq_int_non, ne_int_non, eq_int_int, ne_int_int, eq_int_str, ne_int_str, eq_str_non, ne_str_non, eq_str_bl, ne_str_bl, eq_str_int, ne_str_int, eq_str_str, ne_str_str, isN_ref, isB_ref, tru_bl, tru_int]
    split
    · rename_i h1
      split
      · rename_i h2
        cases e : z.cps.toList with
        | nil => rw [e] at hl; simp at hl; omega
        | cons c r =>
          have hz' : z.length ≤ sizeLine := by omega
          have hz2 := strip_le z g_SIGNS
          simp only [sat_ok, sat_ex, sat_err, sat_bind_eq, ofP_some, ofP_none, sat_of_eq, st_nx, st_rt, st_bk, st_ct, st_ex, st_err, st_then, seqP_nx, seqP_rt, seqP_bk, seqP_ct, seqP_ex, st_xSeq, endP_nx, endP_rt, endP_ex, endP_bk, endP_ct, varP_some, varP_none, varP_non, sat_xVar, sat_xC, sat_xOp, sat_xUn, blP_bl, sat_xTB, trP_some, trP_none, sat_xT, sat_xAndT, sat_xOrT, sat_xNotT, sat_xAnd, sat_xOr, sat_xNot, sat_xIf, sat_xNil, sat_xCons, sat_xTup, sat_xLst, sat_xChain, sat_xCall, sat_xCB, sat_xM0, sat_xM, intP_int, sat_xNoP, sat_xPart, sat_xSl, st_xSkip, st_xBrk, st_xCnt, st_xDrop, st_xRet, st_xRetN, st_xIfS, tgP_some, tgP_none, st_xAsg, g_gVar, g_gNil, g_gCons, g_gTup, augP_some, augP_none, st_xAug, parP_two, st_xPar, loopP_nx, loopP_ct, loopP_bk, loopP_rt, loopP_ex, st_xFor, itP_some, itP_none, sat_xIt, sat_xLc, sat_xItA, sat_xYes, sat_xLenSet, oAdd_ii, oSub_ii, oMul_ii, oFdiv_ii, oMod_ii, oNeg_i, oLt_ii, oLe_ii, oGt_ii, oGe_ii, oInt_i, oIx_ti, oIx_qi, oLen_t, oLen_q, oLen_s, atI_0, atI_1, atI_2, atI_3, atI_4, atI_5, atI_6, atI_7, atI_8, atI_9, atI_10, atI_11, atI_12, atI_13, atI_14, List.getElem?_cons_zero, List.getElem?_cons_succ, List.map_cons, List.map_nil, List.cons_append, List.nil_append, List.length_cons, List.length_nil, List.set_cons_zero, List.set_cons_succ, List.replicate, Option.map_some, Option.map_none, Option.bind_some, Option.bind_none, if_true, if_false, Nat.reduceAdd, Nat.reduceSub, Nat.reduceLT, Nat.reduceLeDiff, Nat.reduceEqDiff, Int.reduceLT, Int.reduceLE, Int.reduceNeg, Int.reduceEq, Bool.false_eq_true, Bool.true_eq_false, reduceIte, reduceCtorEq, Bool.not_true, Bool.not_false, decide_eq_true_eq, Nat.zero_lt_succ, and_true, true_and, and_self, and_false, false_and, isi_non_tuple, isi_non_int, isi_non_str, isi_non_bool, isi_non_list, type_non, isi_bl_tuple, isi_bl_int, isi_bl_str, isi_bl_bool, isi_bl_list, type_bl, isi_int_tuple, isi_int_int, isi_int_str, isi_int_bool, isi_int_list, type_int, isi_str_tuple, isi_str_int, isi_str_str, isi_str_bool, isi_str_list, type_str, isi_tup_tuple, isi_tup_int, isi_tup_str, isi_tup_bool, isi_tup_list, type_tup, is_int_int, isn_int_int, is_int_str, isn_int_str, is_int_tuple, isn_int_tuple, is_int_list, isn_int_list, is_int_bool, isn_int_bool, is_str_int, isn_str_int, is_str_str, isn_str_str, is_str_tuple, isn_str_tuple, is_str_list, isn_str_list, is_str_bool, isn_str_bool, is_tuple_int, isn_tuple_int, is_tuple_str, isn_tuple_str, is_tuple_tuple, isn_tuple_tuple, is_tuple_list, isn_tuple_list, is_tuple_bool, isn_tuple_bool, is_list_int, isn_list_int, is_list_str, isn_list_str, is_list_tuple, isn_list_tuple, is_list_list, isn_list_list, is_list_bool, isn_list_bool, is_bool_int, isn_bool_int, is_bool_str, isn_bool_str, is_bool_tuple, isn_bool_tuple, is_bool_list, isn_bool_list, is_bool_bool, isn_bool_bool, is_NoneType_int, isn_NoneType_int, is_NoneType_str, isn_NoneType_str, is_NoneType_tuple, isn_NoneType_tuple, is_NoneType_list, isn_NoneType_list, is_NoneType_bool, isn_NoneType_bool, isN_non, isnN_non, isB_non, isnB_non, isN_bl, isnN_bl, isB_bl, isnB_bl, isN_int, isnN_int, isB_int, isnB_int, isN_str, isnN_str, isB_str, isnB_str, isN_tup, isnN_tup, isB_tup, isnB_tup, eq_non_non, eq_non_bl, ne_non_bl, eq_non_int, ne_non_int, eq_non_str, ne_non_str, eq_bl_non, ne_bl_non, eq_bl_bl, ne_bl_bl, eq_bl_str, ne_bl_str, eq_int_non, ne_int_non, eq_int_int, ne_int_int, eq_int_str, ne_int_str, eq_str_non, ne_str_non, eq_str_bl, ne_str_bl, eq_str_int, ne_str_int, eq_str_str, ne_str_str, isN_ref, isB_ref, tru_bl, tru_int, oIx_s0 e hz', oIn_c, letters_mem, tyM_s, strip_op hz', tru_s (show (Txt.stripChars z g_SIGNS).length ≤ sizeLine by omega)]
          have e2 : decide ((Txt.stripChars z g_SIGNS).length = 0) = (c :: r).all isSign := by
            rw [Bool.eq_iff_iff, decide_eq_true_eq, e1, e, List.all_eq_true]
            have : ∀ c, (g_SIGNS : Str).cps.contains c = isSign c := fun c => by
              rw [← signs_mem, Bool.eq_iff_iff, decide_eq_true_eq]; simp
            simp only [this]
          have e3 : nameL (c :: r) = (isLow c && (c :: r).all isSign) := by
            rw [nameL, List.all_cons, decide_eq_true (by rw [e, List.length_cons] at hl; omega)]
            simp [Bool.and_assoc]
          rw [e, e3] at h
          split
          · rename_i q
            rw [q, Bool.true_and, ← e2] at h
            simpa using h
          · rename_i q
            simp only [Bool.not_eq_true] at q
            rw [q] at h ⊢
            exact h
      · rename_i h2
        have e3 : nameL z.cps.toList = false := by
          cases e : z.cps.toList with
          | nil => rfl
          | cons c r =>
            rw [e, List.length_cons] at hl
            rw [nameL, decide_eq_false (by omega)]; rfl
        rw [e3] at h
        simpa [h2] using h
    · rename_i h1
      have e3 : nameL z.cps.toList = false := by
        cases e : z.cps.toList with
        | nil => rfl
        | cons c r => rw [e, List.length_cons] at hl; omega
      rw [e3] at h
      simpa [h1] using h
  | _ => simp only [sat_ok, sat_ex, sat_err, sat_bind_eq, ofP_some, ofP_none, sat_of_eq, st_nx, st_rt, st_bk, st_ct, st_ex, st_err, st_then, seqP_nx, seqP_rt, seqP_bk, seqP_ct, seqP_ex, st_xSeq, endP_nx, endP_rt, endP_ex, endP_bk, endP_ct, varP_some, varP_none, varP_non, sat_xVar, sat_xC, sat_xOp, sat_xUn, blP_bl, sat_xTB, trP_some, trP_none, sat_xT, sat_xAndT, sat_xOrT, sat_xNotT, sat_xAnd, sat_xOr, sat_xNot, sat_xIf, sat_xNil, sat_xCons, sat_xTup, sat_xLst, sat_xChain, sat_xCall, sat_xCB, sat_xM0, sat_xM, intP_int, sat_xNoP, sat_xPart, sat_xSl, st_xSkip, st_xBrk, st_xCnt, st_xDrop, st_xRet, st_xRetN, st_xIfS, tgP_some, tgP_none, st_xAsg, g_gVar, g_gNil, g_gCons, g_gTup, augP_some, augP_none, st_xAug, parP_two, st_xPar, loopP_nx, loopP_ct, loopP_bk, loopP_rt, loopP_ex, st_xFor, itP_some, itP_none, sat_xIt, sat_xLc, sat_xItA, sat_xYes, sat_xLenSet, oAdd_ii, oSub_ii, oMul_ii, oFdiv_ii, oMod_ii, oNeg_i, oLt_ii, oLe_ii, oGt_ii, oGe_ii, oInt_i, oIx_ti, oIx_qi, oLen_t, oLen_q, oLen_s, atI_0, atI_1, atI_2, atI_3, atI_4, atI_5, atI_6, atI_7, atI_8, atI_9, atI_10, atI_11, atI_12, atI_13, atI_14, List.getElem?_cons_zero, List.getElem?_cons_succ, List.map_cons, List.map_nil, List.cons_append, List.nil_append, List.length_cons, List.length_nil, List.set_cons_zero, List.set_cons_succ, List.replicate, Option.map_some, Option.map_none, Option.bind_some, Option.bind_none, if_true, if_false, Nat.reduceAdd, Nat.reduceSub, Nat.reduceLT, Nat.reduceLeDiff, Nat.reduceEqDiff, Int.reduceLT, Int.reduceLE, Int.reduceNeg, Int.reduceEq, Bool.false_eq_true, Bool.true_eq_false, reduceIte, reduceCtorEq, Bool.not_true, Bool.not_false, decide_eq_true_eq, Nat.zero_lt_succ, and_true, true_and, and_self, and_false, false_and, isi_non_tuple, isi_non_int, isi_non_str, isi_non_bool, isi_non_list, type_non, isi_bl_tuple, isi_bl_int, isi_bl_str, isi_bl_bool, isi_bl_list, type_bl, isi_int_tuple, isi_int_int, isi_int_str, isi_int_bool, isi_int_list, type_int, isi_str_tuple, isi_str_int, isi_str_str, isi_str_bool, isi_str_list, type_str, isi_tup_tuple, isi_tup_int, isi_tup_str, isi_tup_bool, isi_tup_list, type_tup, is_int_int, isn_int_int, is_int_str, isn_int_str, is_int_tuple, isn_int_tuple, is_int_list, isn_int_list, is_int_bool, isn_int_bool, is_str_int, isn_str_int, is_str_str, isn_str_str, is_str_tuple, isn_str_tuple, is_str_list, isn_str_list, is_str_bool, isn_str_bool, is_tuple_int, isn_tuple_int, is_tuple_str, isn_tuple_str, is_tuple_tuple, isn_tuple_tuple, is_tuple_list, isn_tuple_list, is_tuple_bool, isn_tuple_bool, is_list_int, isn_list_int, is_list_str, isn_list_str, is_list_tuple, isn_list_tuple, is_list_list, isn_list_list, is_list_bool, isn_list_bool, is_bool_int, isn_bool_int, is_bool_str, isn_bool_str, is_bool_tuple, isn_bool_tuple, is_bool_list, isn_bool_list, is_bool_bool, isn_bool_bool, is_NoneType_int, isn_NoneType_int, is_NoneType_str, isn_NoneType_str, is_NoneType_tuple, isn_NoneType_tuple, is_NoneType_list, isn_NoneType_list, is_NoneType_bool, isn_NoneType_bool, isN_non, isnN_non, isB_non, isnB_non, isN_bl, isnN_bl, isB_bl, isnB_bl, isN_int, isnN_int, isB_int, isnB_int, isN_str, isnN_str, isB_str, isnB_str, isN_tup, isnN_tup, isB_tup, isnB_tup, eq_non_non, eq_non_bl, ne_non_bl, eq_non_int, ne_non_int, eq_non_str, ne_non_str, eq_bl_non, ne_bl_non, eq_bl_bl, ne_bl_bl, eq_bl_str, ne_bl_str, eq_int_non, ne_int_non, eq_int_int, ne_int_int, eq_int_str, ne_int_str, eq_str_non, ne_str_non, eq_str_bl, ne_str_bl, eq_str_int, ne_str_int, eq_str_str, ne_str_str, isN_ref, isB_ref, tru_bl, tru_int]; exact h
noncomputable abbrev fLawWhole : Fn := bodyF 3 B__law_is_whole
theorem law_whole_spec (hv : Vd S n d) (h : Pd (.bl (wholeD d lo hi)) S) : (fLawWhole [d, .int lo, .int hi] S).wp Pd E := by
  rw [sat_bodyF]
  unfold B__law_is_whole
  cases hv with
  | ref hr => simp only [sat_ok, sat_ex, sat_err, sat_bind_eq, ofP_some, ofP_none, sat_of_eq, st_nx, st_rt, st_bk, st_ct, st_ex, st_err, st_then, seqP_nx, seqP_rt, seqP_bk, seqP_ct, seqP_ex, st_xSeq, endP_nx, endP_rt, endP_ex, endP_bk, endP_ct, varP_some, varP_none, varP_non, sat_xVar, sat_xC, sat_xOp, sat_xUn, blP_bl, sat_xTB, trP_some, trP_none, sat_xT, sat_xAndT, sat_xOrT, sat_xNotT, sat_xAnd, sat_xOr, sat_xNot, sat_xIf, sat_xNil, sat_xCons, sat_xTup, sat_xLst, sat_xChain, sat_xCall, sat_xCB, sat_xM0, sat_xM, intP_int, sat_xNoP, sat_xPart, sat_xSl, st_xSkip, st_xBrk, st_xCnt, st_xDrop, st_xRet, st_xRetN, st_xIfS, tgP_some, tgP_none, st_xAsg, g_gVar, g_gNil, g_gCons, g_gTup, augP_some, augP_none, st_xAug, parP_two, st_xPar, loopP_nx, loopP_ct, loopP_bk, loopP_rt, loopP_ex, st_xFor, itP_some, itP_none, sat_xIt, sat_xLc, sat_xItA, sat_xYes, sat_xLenSet, oAdd_ii, oSub_ii, oMul_ii, oFdiv_ii, oMod_ii, oNeg_i, oLt_ii, oLe_ii, oGt_ii, oGe_ii, oInt_i, oIx_ti, oIx_qi, oLen_t, oLen_q, oLen_s, atI_0, atI_1, atI_2, atI_3, atI_4, atI_5, atI_6, atI_7, atI_8, atI_9, atI_10, atI_11, atI_12, atI_13, atI_14, List.getElem?_cons_zero, List.getElem?_cons_succ, List.map_cons, List.map_nil, List.cons_append, List.nil_append, List.length_cons, List.length_nil, List.set_cons_zero, List.set_cons_succ, List.replicate, Option.map_some, Option.map_none, Option.bind_some, Option.bind_none, if_true, if_false, Nat.reduceAdd, Nat.reduceSub, Nat.reduceLT, Nat.reduceLeDiff, Nat.reduceEqDiff, Int.reduceLT, Int.reduceLE, Int.reduceNeg, Int.reduceEq, Bool.false_eq_true, Bool.true_eq_false, reduceIte, reduceCtorEq, Bool.not_true, Bool.not_false, decide_eq_true_eq, Nat.zero_lt_succ, and_true, true_and, and_self, and_false, false_and, isi_non_tuple, isi_non_int, isi_non_str, isi_non_bool, isi_non_list, type_non, isi_bl_tuple, isi_bl_int, isi_bl_str, isi_bl_bool, isi_bl_list, type_bl, isi_int_tuple, isi_int_int, isi_int_str, isi_int_bool, isi_int_list, type_int, isi_str_tuple, isi_str_int, isi_str_str, isi_str_bool, isi_str_list, type_str, isi_tup_tuple, isi_tup_int, isi_tup_str, isi_tup_bool, isi_tup_list, type_tup, is_int_int, isn_int_int, is_int_str, isn_int_str, is_int_tuple, isn_int_tuple, is_int_list, isn_int_list, is_int_bool, isn_int_bool, is_str_int, isn_str_int, is_str_str, isn_str_str, is_str_tuple, isn_str_tuple, is_str_list, isn_str_list, is_str_bool, isn_str_bool, is_tuple_int, isn_tuple_int, is_tuple_str, isn_tuple_str, is_tuple_tuple, isn_tuple_tuple, is_tuple_list, isn_tuple_list, is_tuple_bool, isn_tuple_bool, is_list_int, isn_list_int, is_list_str, isn_list_str, is_list_tuple, isn_list_tuple, is_list_list, isn_list_list, is_list_bool, isn_list_bool, is_bool_int, isn_bool_int, is_bool_str, isn_bool_str, is_bool_tuple, isn_bool_tuple, is_bool_list, isn_bool_list, is_bool_bool, isn_bool_bool, is_NoneType_int, isn_NoneType_int, is_NoneType_str, isn_NoneType_str, is_NoneType_tuple, isn_NoneType_tuple, is_NoneType_list, isn_NoneType_list, is_NoneType_bool, isn_NoneType_bool, isN_non, isnN_non, isB_non, isnB_non, isN_bl, isnN_bl, isB_bl, isnB_bl, isN_int, isnN_int, isB_int, isnB_int, isN_str, isnN_str, isB_str, isnB_str, isN_tup, isnN_tup, isB_tup, isnB_tup, eq_non_non, eq_non_bl, ne_non_bl, eq_non_int, ne_non_int, eq_non_str, ne_non_str, eq_bl_non, ne_bl_non, eq_bl_bl, ne_bl_bl, eq_bl_str, ne_bl_str, eq_int_non, ne_int_non, eq_int_int, ne_int_int, eq_int_str, ne_int_str, eq_str_non, ne_str_non, eq_str_bl, ne_str_bl, eq_str_int, ne_str_int, eq_str_str, ne_str_str, isN_ref, isB_ref, tru_bl, tru_int, isi_r_int hr]; exact h
  | @int _ i =>
    simp only [sat_ok, sat_ex, sat_err, sat_bind_eq, ofP_some, ofP_none, sat_of_eq, st_nx, st_rt, st_bk, st_ct, st_ex, st_err, st_then, seqP_nx, seqP_rt, seqP_bk, seqP_ct, seqP_ex, st_xSeq, endP_nx, endP_rt, endP_ex, endP_bk, endP_ct, varP_some, varP_none, varP_non, sat_xVar, sat_xC, sat_xOp, sat_xUn, blP_bl, sat_xTB, trP_some, trP_none, sat_xT, sat_xAndT, sat_xOrT, sat_xNotT, sat_xAnd, sat_xOr, sat_xNot, sat_xIf, sat_xNil, sat_xCons, sat_xTup, sat_xLst, sat_xChain, sat_xCall, sat_xCB, sat_xM0, sat_xM, intP_int, sat_xNoP, sat_xPart, sat_xSl, st_xSkip, st_xBrk, st_xCnt, st_xDrop, st_xRet, st_xRetN, st_xIfS, tgP_some, tgP_none, st_xAsg, g_gVar, g_gNil, g_gCons, g_gTup, augP_some, augP_none, st_xAug, parP_two, st_xPar, loopP_nx, loopP_ct, loopP_bk, loopP_rt, loopP_ex, st_xFor, itP_some, itP_none, sat_xIt, sat_xLc, sat_xItA, sat_xYes, sat_xLenSet, oAdd_ii, oSub_ii, oMul_ii, oFdiv_ii, oMod_ii, oNeg_i, oLt_ii, oLe_ii, oGt_ii, oGe_ii, oInt_i, oIx_ti, oIx_qi, oLen_t, oLen_q, oLen_s, atI_0, atI_1, atI_2, atI_3, atI_4, atI_5, atI_6, atI_7, atI_8, atI_9, atI_10, atI_11, atI_12, atI_13, atI_14, List.getElem?_cons_zero, List.getElem?_cons_succ, List.map_cons, List.map_nil, List.cons_append, List.nil_append, List.length_cons, List.length_nil, List.set_cons_zero, List.set_cons_succ, List.replicate, Option.map_some, Option.map_none, Option.bind_some, Option.bind_none, if_true, if_false, Nat.reduceAdd, Nat.reduceSub, Nat.reduceLT, Nat.reduceLeDiff, Nat.reduceEqDiff, Int.reduceLT, Int.reduceLE, Int.reduceNeg, Int.reduceEq, Bool.false_eq_true, Bool.true_eq_false, reduceIte, reduceCtorEq, Bool.not_true, Bool.not_false, decide_eq_true_eq, Nat.zero_lt_succ, and_true, true_and, and_self, and_false, false_and, isi_non_tuple, isi_non_int, isi_non_str, isi_non_bool, isi_non_list, type_non, isi_bl_tuple, isi_bl_int, isi_bl_str, isi_bl_bool, isi_bl_list, type_bl, isi_int_tuple, isi_int_int, isi_int_str, isi_int_bool, isi_int_list, type_int, isi_str_tuple, isi_str_int, isi_str_str, isi_str_bool, isi_str_list, type_str, isi_tup_tuple, isi_tup_int, isi_tup_str, isi_tup_bool, isi_tup_list, type_tup, is_int_int, isn_int_int, is_int_str, isn_int_str, is_int_tuple, isn_int_tuple, is_int_list, isn_int_list, is_int_bool, isn_int_bool, is_str_int, isn_str_int, is_str_str, isn_str_str, is_str_tuple, isn_str_tuple, is_str_list, isn_str_list, is_str_bool, isn_str_bool, is_tuple_int, isn_tuple_int, is_tuple_str, isn_tuple_str, is_tuple_tuple, isn_tuple_tuple, is_tuple_list, isn_tuple_list, is_tuple_bool, isn_tuple_bool, is_list_int, isn_list_int, is_list_str, isn_list_str, is_list_tuple, isn_list_tuple, is_list_list, isn_list_list, is_list_bool, isn_list_bool, is_bool_int, isn_bool_int, is_bool_str, isn_bool_str, is_bool_tuple, isn_bool_tuple, is_bool_list, isn_bool_list, is_bool_bool, isn_bool_bool, is_NoneType_int, isn_NoneType_int, is_NoneType_str, isn_NoneType_str, is_NoneType_tuple, isn_NoneType_tuple, is_NoneType_list, isn_NoneType_list, is_NoneType_bool, isn_NoneType_bool, isN_non, isnN_non, isB_non, isnB_non, isN_bl, isnN_bl, isB_bl, isnB_bl, isN_int, isnN_int, isB_int, isnB_int, isN_str, isnN_str, isB_str, isnB_str, isN_tup, isnN_tup, isB_tup, isnB_tup, eq_non_non, eq_non_bl, ne_non_bl, eq_non_int, ne_non_int, eq_non_str, ne_non_str, eq_bl_non, ne_bl_non, eq_bl_bl, ne_bl_bl, eq_bl_str, ne_bl_str, eq_int_non, ne_int_non, eq_int_int, ne_int_int, eq_int_str, ne_int_str, eq_str_non, ne_str_non, eq_str_bl, ne_str_bl, eq_str_int, ne_str_int, eq_str_str, ne_str_str, isN_ref, isB_ref, tru_bl, tru_int]
    rw [wholeD] at h
    split
    · rename_i q; simpa [q] using h
    · rename_i q; simpa [q] using h
  | _ => simp only [sat_ok, sat_ex, sat_err, sat_bind_eq, ofP_some, ofP_none, sat_of_eq, st_nx, st_rt, st_bk, st_ct, st_ex, st_err, st_then, seqP_nx, seqP_rt, seqP_bk, seqP_ct, seqP_ex, st_xSeq, endP_nx, endP_rt, endP_ex, endP_bk, endP_ct, varP_some, varP_none, varP_non, sat_xVar, sat_xC, sat_xOp, sat_xUn, blP_bl, sat_xTB, trP_some, trP_none, sat_xT, sat_xAndT, sat_xOrT, sat_xNotT, sat_xAnd, sat_xOr, sat_xNot, sat_xIf, sat_xNil, sat_xCons, sat_xTup, sat_xLst, sat_xChain, sat_xCall, sat_xCB, sat_xM0, sat_xM, intP_int, sat_xNoP, sat_xPart, sat_xSl, st_xSkip, st_xBrk, st_xCnt, st_xDrop, st_xRet, st_xRetN, st_xIfS, tgP_some, tgP_none, st_xAsg, g_gVar, g_gNil, g_gCons, g_gTup, augP_some, augP_none, st_xAug, parP_two, st_xPar, loopP_nx, loopP_ct, loopP_bk, loopP_rt, loopP_ex, st_xFor, itP_some, itP_none, sat_xIt, sat_xLc, sat_xItA, sat_xYes, sat_xLenSet, oAdd_ii, oSub_ii, oMul_ii, oFdiv_ii, oMod_ii, oNeg_i, oLt_ii, oLe_ii, oGt_ii, oGe_ii, oInt_i, oIx_ti, oIx_qi, oLen_t, oLen_q, oLen_s, atI_0, atI_1, atI_2, atI_3, atI_4, atI_5, atI_6, atI_7, atI_8, atI_9, atI_10, atI_11, atI_12, atI_13, atI_14, List.getElem?_cons_zero, List.getElem?_cons_succ, List.map_cons, List.map_nil, List.cons_append, List.nil_append, List.length_cons, List.length_nil, List.set_cons_zero, List.set_cons_succ, List.replicate, Option.map_some, Option.map_none, Option.bind_some, Option.bind_none, if_true, if_false, Nat.reduceAdd, Nat.reduceSub, Nat.reduceLT, Nat.reduceLeDiff, Nat.reduceEqDiff, Int.reduceLT, Int.reduceLE, Int.reduceNeg, Int.reduceEq, Bool.false_eq_true, Bool.true_eq_false, reduceIte, reduceCtorEq, Bool.not_true, Bool.not_false, decide_eq_true_eq, Nat.zero_lt_succ, and_true, true_and, and_self, and_false, false_and, isi_non_tuple, isi_non_int, isi_non_str, isi_non_bool, isi_non_list, type_non, isi_bl_tuple, isi_bl_int, isi_bl_str, isi_bl_bool, isi_bl_list, type_bl, isi_int_tuple, isi_int_int, isi_int_str, isi_int_bool, isi_int_list, type_int, isi_str_tuple, isi_str_int, isi_str_str, isi_str_bool, isi_str_list, type_str, isi_tup_tuple, isi_tup_int, isi_tup_str, isi_tup_bool, isi_tup_list, type_tup, is_int_int, isn_int_int, is_int_str, isn_int_str, is_int_tuple, isn_int_tuple, is_int_list, isn_int_list, is_int_bool, isn_int_bool, is_str_int, isn_str_int, is_str_str, isn_str_str, is_str_tuple, isn_str_tuple, is_str_list, isn_str_list, is_str_bool, isn_str_bool, is_tuple_int, isn_tuple_int, is_tuple_str, isn_tuple_str, is_tuple_tuple, isn_tuple_tuple, is_tuple_list, isn_tuple_list, is_tuple_bool, isn_tuple_bool, is_list_int, isn_list_int, is_list_str, isn_list_str, is_list_tuple, isn_list_tuple, is_list_list, isn_list_list, is_list_bool, isn_list_bool, is_bool_int, isn_bool_int, is_bool_str, isn_bool_str, is_bool_tuple, isn_bool_tuple, is_bool_list, isn_bool_list, is_bool_bool, isn_bool_bool, is_NoneType_int, isn_NoneType_int, is_NoneType_str, isn_NoneType_str, is_NoneType_tuple, isn_NoneType_tuple, is_NoneType_list, isn_NoneType_list, is_NoneType_bool, isn_NoneType_bool, isN_non, isnN_non, isB_non, isnB_non, isN_bl, isnN_bl, isB_bl, isnB_bl, isN_int, isnN_int, isB_int, isnB_int, isN_str, isnN_str, isB_str, isnB_str, isN_tup, isnN_tup, isB_tup, isnB_tup, eq_non_non, eq_non_bl, ne_non_bl, eq_non_int, ne_non_int, eq_non_str, ne_non_str, eq_bl_non, ne_bl_non, eq_bl_bl, ne_bl_bl, eq_bl_str, ne_bl_str, eq_int_non, ne_int_non, eq_int_int, ne_int_int, eq_int_str, ne_int_str, eq_str_non, ne_str_non, eq_str_bl, ne_str_bl, eq_str_int, ne_str_int, eq_str_str, ne_str_str, isN_ref, isB_ref, tru_bl, tru_int]; exact h
noncomputable abbrev fLawName : Fn := bodyF 2 B__law_is_name
theorem law_name_spec {z : Str} (hz : z.length ≤ 1000000) (h : ∀ S', Kp S S' → Pd (.bl (nameB z)) S') : (fLawName [.str z] S).wp Pd E := by
  rw [sat_bodyF]
  unfold B__law_is_name
  have zz : sizeLine = 16777216 := rfl
  have hl : z.length = z.cps.toList.length := by simp [Str.length]
  have hz' : z.length ≤ sizeLine := by omega
  simp only [sat_ok, sat_ex, sat_err, sat_bind_eq, ofP_some, ofP_none, sat_of_eq, st_nx, st_rt, st_bk, st_ct, st_ex, st_err, st_then, seqP_nx, seqP_rt, seqP_bk, seqP_ct, seqP_ex, st_xSeq, endP_nx, endP_rt, endP_ex, endP_bk, endP_ct, varP_some, varP_none, varP_non, sat_xVar, sat_xC, sat_xOp, sat_xUn, blP_bl, sat_xTB, trP_some, trP_none, sat_xT, sat_xAndT, sat_xOrT, sat_xNotT, sat_xAnd, sat_xOr, sat_xNot, sat_xIf, sat_xNil, sat_xCons, sat_xTup, sat_xLst, sat_xChain, sat_xCall, sat_xCB, sat_xM0, sat_xM, intP_int, sat_xNoP, sat_xPart, sat_xSl, st_xSkip, st_xBrk, st_xCnt, st_xDrop, st_xRet, st_xRetN, st_xIfS, tgP_some, tgP_none, st_xAsg, g_gVar, g_gNil, g_gCons, g_gTup, augP_some, augP_none, st_xAug, parP_two, st_xPar, loopP_nx, loopP_ct, loopP_bk, loopP_rt, loopP_ex, st_xFor, itP_some, itP_none, sat_xIt, sat_xLc, sat_xItA, sat_xYes, sat_xLenSet, oAdd_ii, oSub_ii, oMul_ii, oFdiv_ii, oMod_ii, oNeg_i, oLt_ii, oLe_ii, oGt_ii, oGe_ii, oInt_i, oIx_ti, oIx_qi, oLen_t, oLen_q, oLen_s, atI_0, atI_1, atI_2, atI_3, atI_4, atI_5, atI_6, atI_7, atI_8, atI_9, atI_10, atI_11, atI_12, atI_13, atI_14, List.getElem?_cons_zero, List.getElem?_cons_succ, List.map_cons, List.map_nil, List.cons_append, List.nil_append, List.length_cons, List.length_nil, List.set_cons_zero, List.set_cons_succ, List.replicate, Option.map_some, Option.map_none, Option.bind_some, Option.bind_none, if_true, if_false, Nat.reduceAdd, Nat.reduceSub, Nat.reduceLT, Nat.reduceLeDiff, Nat.reduceEqDiff, Int.reduceLT, Int.reduceLE, Int.reduceNeg, Int.reduceEq, Bool.false_eq_true, Bool.true_eq_false, reduceIte, reduceCtorEq, Bool.not_true, Bool.not_false, decide_eq_true_eq, Nat.zero_lt_succ, and_true, true_and, and_self, and_false, false_and, isi_non_tuple, isi_non_int, isi_non_str, isi_non_bool, isi_non_list, type_non, isi_bl_tuple, isi_bl_int, isi_bl_str, isi_bl_bool, isi_bl_list, type_bl, isi_int_tuple, isi_int_int, isi_int_str, isi_int_bool, isi_int_list, type_int, isi_str_tuple, isi_str_int, isi_str_str, isi_str_bool, isi_str_list, type_str, isi_tup_tuple, isi_tup_int, isi_tup_str, isi_tup_bool, isi_tup_list, type_tup, is_int_int, isn_int_int, is_int_str, isn_int_str, is_int_tuple, isn_int_tuple, is_int_list, isn_int_list, is_int_bool, isn_int_bool, is_str_int, isn_str_int, is_str_str, isn_str_str, is_str_tuple, isn_str_tuple, is_str_list, isn_str_list, is_str_bool, isn_str_bool, is_tuple_int, isn_tuple_int, is_tuple_str, isn_tuple_str, is_tuple_tuple, isn_tuple_tuple, is_tuple_list, isn_tuple_list, is_tuple_bool, isn_tuple_bool, is_list_int, isn_list_int, is_list_str, isn_list_str, is_list_tuple, isn_list_tuple, is_list_list, isn_list_list, is_list_bool, isn_list_bool, is_bool_int, isn_bool_int, is_bool_str, isn_bool_str, is_bool_tuple, isn_bool_tuple, is_bool_list, isn_bool_list, is_bool_bool, isn_bool_bool, is_NoneType_int, isn_NoneType_int, is_NoneType_str, isn_NoneType_str, is_NoneType_tuple, isn_NoneType_tuple, is_NoneType_list, isn_NoneType_list, is_NoneType_bool, isn_NoneType_bool, isN_non, isnN_non, isB_non, isnB_non, isN_bl, isnN_bl, isB_bl, isnB_bl, isN_int, isnN_int, isB_int, isnB_int, isN_str, isnN_str, isB_str, isnB_str, isN_tup, isnN_tup, isB_tup, isnB_tup, eq_non_non, eq_non_bl, ne_non_bl, eq_non_int, ne_non_int, eq_non_str, ne_non_str, eq_bl_non, ne_bl_non, eq_bl_bl, ne_bl_bl, eq_bl_str, ne_bl_str, eq_int_non, ne_int_non, eq_int_int, ne_int_int, eq_int_str, ne_int_str, eq_str_non, ne_str_non, eq_str_bl, ne_str_bl, eq_str_int, ne_str_int, eq_str_str, ne_str_str, isN_ref, isB_ref, tru_bl, tru_int, itOf, if_pos hz']
  split
  · rename_i h1
    split
    · rename_i h2
      simp only [sat_ok, sat_ex, sat_err, sat_bind_eq, ofP_some, ofP_none, sat_of_eq, st_nx, st_rt, st_bk, st_ct, st_ex, st_err, st_then, seqP_nx, seqP_rt, seqP_bk, seqP_ct, seqP_ex, st_xSeq, endP_nx, endP_rt, endP_ex, endP_bk, endP_ct, varP_some, varP_none, varP_non, sat_xVar, sat_xC, sat_xOp, sat_xUn, blP_bl, sat_xTB, trP_some, trP_none, sat_xT, sat_xAndT, sat_xOrT, sat_xNotT, sat_xAnd, sat_xOr, sat_xNot, sat_xIf, sat_xNil, sat_xCons, sat_xTup, sat_xLst, sat_xChain, sat_xCall, sat_xCB, sat_xM0, sat_xM, intP_int, sat_xNoP, sat_xPart, sat_xSl, st_xSkip, st_xBrk, st_xCnt, st_xDrop, st_xRet, st_xRetN, st_xIfS, tgP_some, tgP_none, st_xAsg, g_gVar, g_gNil, g_gCons, g_gTup, augP_some, augP_none, st_xAug, parP_two, st_xPar, loopP_nx, loopP_ct, loopP_bk, loopP_rt, loopP_ex, st_xFor, itP_some, itP_none, sat_xIt, sat_xLc, sat_xItA, sat_xYes, sat_xLenSet, oAdd_ii, oSub_ii, oMul_ii, oFdiv_ii, oMod_ii, oNeg_i, oLt_ii, oLe_ii, oGt_ii, oGe_ii, oInt_i, oIx_ti, oIx_qi, oLen_t, oLen_q, oLen_s, atI_0, atI_1, atI_2, atI_3, atI_4, atI_5, atI_6, atI_7, atI_8, atI_9, atI_10, atI_11, atI_12, atI_13, atI_14, List.getElem?_cons_zero, List.getElem?_cons_succ, List.map_cons, List.map_nil, List.cons_append, List.nil_append, List.length_cons, List.length_nil, List.set_cons_zero, List.set_cons_succ, List.replicate, Option.map_some, Option.map_none, Option.bind_some, Option.bind_none, if_true, if_false, Nat.reduceAdd, Nat.reduceSub, Nat.reduceLT, Nat.reduceLeDiff, Nat.reduceEqDiff, Int.reduceLT, Int.reduceLE, Int.reduceNeg, Int.reduceEq, Bool.false_eq_true, Bool.true_eq_false, reduceIte, reduceCtorEq, Bool.not_true, Bool.not_false, decide_eq_true_eq, Nat.zero_lt_succ, and_true, true_and, and_self, and_false, false_and, isi_non_tuple, isi_non_int, isi_non_str, isi_non_bool, isi_non_list, type_non, isi_bl_tuple, isi_bl_int, isi_bl_str, isi_bl_bool, isi_bl_list, type_bl, isi_int_tuple, isi_int_int, isi_int_str, isi_int_bool, isi_int_list, type_int, isi_str_tuple, isi_str_int, isi_str_str, isi_str_bool, isi_str_list, type_str, isi_tup_tuple, isi_tup_int, isi_tup_str, isi_tup_bool, isi_tup_list, type_tup, is_int_int, isn_int_int, is_int_str, isn_int_str, is_int_tuple, isn_int_tuple, is_int_list, isn_int_list, is_int_bool, isn_int_bool, is_str_int, isn_str_int, is_str_str, isn_str_str, is_str_tuple, isn_str_tuple, is_str_list, isn_str_list, is_str_bool, isn_str_bool, is_tuple_int, isn_tuple_int, is_tuple_str, isn_tuple_str, is_tuple_tuple, isn_tuple_tuple, is_tuple_list, isn_tuple_list, is_tuple_bool, isn_tuple_bool, is_list_int, isn_list_int, is_list_str, isn_list_str, is_list_tuple, isn_list_tuple, is_list_list, isn_list_list, is_list_bool, isn_list_bool, is_bool_int, isn_bool_int, is_bool_str, isn_bool_str, is_bool_tuple, isn_bool_tuple, is_bool_list, isn_bool_list, is_bool_bool, isn_bool_bool, is_NoneType_int, isn_NoneType_int, is_NoneType_str, isn_NoneType_str, is_NoneType_tuple, isn_NoneType_tuple, is_NoneType_list, isn_NoneType_list, is_NoneType_bool, isn_NoneType_bool, isN_non, isnN_non, isB_non, isnB_non, isN_bl, isnN_bl, isB_bl, isnB_bl, isN_int, isnN_int, isB_int, isnB_int, isN_str, isnN_str, isB_str, isnB_str, isN_tup, isnN_tup, isB_tup, isnB_tup, eq_non_non, eq_non_bl, ne_non_bl, eq_non_int, ne_non_int, eq_non_str, ne_non_str, eq_bl_non, ne_bl_non, eq_bl_bl, ne_bl_bl, eq_bl_str, ne_bl_str, eq_int_non, ne_int_non, eq_int_int, ne_int_int, eq_int_str, ne_int_str, eq_str_non, ne_str_non, eq_str_bl, ne_str_bl, eq_str_int, ne_str_int, eq_str_str, ne_str_str, isN_ref, isB_ref, tru_bl, tru_int, wipeG]
      refine lc_pure (fun d => match d with | .str y => !isSign (y.cps.getD 0 0) | _ => false) (fun d => d) (by rw [List.length_map]; omega) (fun _ _ => trivial) (fun d hd => ?_) fun S1 k1 e1 => ?_
      · obtain ⟨c, hc, rfl⟩ := List.mem_map.mp hd
        refine ⟨_, rfl, fun S1 k1 => ?_⟩
        have e4 : (("abcdefghijklmnopqrstuvwxyz0123456789" : Str)) = g_SIGNS := rfl
        simp only [sat_ok, sat_ex, sat_err, sat_bind_eq, ofP_some, ofP_none, sat_of_eq, st_nx, st_rt, st_bk, st_ct, st_ex, st_err, st_then, seqP_nx, seqP_rt, seqP_bk, seqP_ct, seqP_ex, st_xSeq, endP_nx, endP_rt, endP_ex, endP_bk, endP_ct, varP_some, varP_none, varP_non, sat_xVar, sat_xC, sat_xOp, sat_xUn, blP_bl, sat_xTB, trP_some, trP_none, sat_xT, sat_xAndT, sat_xOrT, sat_xNotT, sat_xAnd, sat_xOr, sat_xNot, sat_xIf, sat_xNil, sat_xCons, sat_xTup, sat_xLst, sat_xChain, sat_xCall, sat_xCB, sat_xM0, sat_xM, intP_int, sat_xNoP, sat_xPart, sat_xSl, st_xSkip, st_xBrk, st_xCnt, st_xDrop, st_xRet, st_xRetN, st_xIfS, tgP_some, tgP_none, st_xAsg, g_gVar, g_gNil, g_gCons, g_gTup, augP_some, augP_none, st_xAug, parP_two, st_xPar, loopP_nx, loopP_ct, loopP_bk, loopP_rt, loopP_ex, st_xFor, itP_some, itP_none, sat_xIt, sat_xLc, sat_xItA, sat_xYes, sat_xLenSet, oAdd_ii, oSub_ii, oMul_ii, oFdiv_ii, oMod_ii, oNeg_i, oLt_ii, oLe_ii, oGt_ii, oGe_ii, oInt_i, oIx_ti, oIx_qi, oLen_t, oLen_q, oLen_s, atI_0, atI_1, atI_2, atI_3, atI_4, atI_5, atI_6, atI_7, atI_8, atI_9, atI_10, atI_11, atI_12, atI_13, atI_14, List.getElem?_cons_zero, List.getElem?_cons_succ, List.map_cons, List.map_nil, List.cons_append, List.nil_append, List.length_cons, List.length_nil, List.set_cons_zero, List.set_cons_succ, List.replicate, Option.map_some, Option.map_none, Option.bind_some, Option.bind_none, if_true, if_false, Nat.reduceAdd, Nat.reduceSub, Nat.reduceLT, Nat.reduceLeDiff, Nat.reduceEqDiff, Int.reduceLT, Int.reduceLE, Int.reduceNeg, Int.reduceEq, Bool.false_eq_true, Bool.true_eq_false, reduceIte, reduceCtorEq, Bool.not_true, Bool.not_false, decide_eq_true_eq, Nat.zero_lt_succ, and_true, true_and, and_self, and_false, false_and, isi_non_tuple, isi_non_int, isi_non_str, isi_non_bool, isi_non_list, type_non, isi_bl_tuple, isi_bl_int, isi_bl_str, isi_bl_bool, isi_bl_list, type_bl, isi_int_tuple, isi_int_int, isi_int_str, isi_int_bool, isi_int_list, type_int, isi_str_tuple, isi_str_int, isi_str_str, isi_str_bool, isi_str_list, type_str, isi_tup_tuple, isi_tup_int, isi_tup_str, isi_tup_bool, isi_tup_list, type_tup, is_int_int, isn_int_int, is_int_str, isn_int_str, is_int_tuple, isn_int_tuple, is_int_list, isn_int_list, is_int_bool, isn_int_bool, is_str_int, isn_str_int, is_str_str, isn_str_str, is_str_tuple, isn_str_tuple, is_str_list, isn_str_list, is_str_bool, isn_str_bool, is_tuple_int, isn_tuple_int, is_tuple_str, isn_tuple_str, is_tuple_tuple, isn_tuple_tuple, is_tuple_list, isn_tuple_list, is_tuple_bool, isn_tuple_bool, is_list_int, isn_list_int, is_list_str, isn_list_str, is_list_tuple, isn_list_tuple, is_list_list, isn_list_list, is_list_bool, isn_list_bool, is_bool_int, isn_bool_int, is_bool_str, isn_bool_str, is_bool_tuple, isn_bool_tuple, is_bool_list, isn_bool_list, is_bool_bool, isn_bool_bool, is_NoneType_int, isn_NoneType_int, is_NoneType_str, isn_NoneType_str, is_NoneType_tuple, isn_NoneType_tuple, is_NoneType_list, isn_NoneType_list, is_NoneType_bool, isn_NoneType_bool, isN_non, isnN_non, isB_non, isnB_non, isN_bl, isnN_bl, isB_bl, isnB_bl, isN_int, isnN_int, isB_int, isnB_int, isN_str, isnN_str, isB_str, isnB_str, isN_tup, isnN_tup, isB_tup, isnB_tup, eq_non_non, eq_non_bl, ne_non_bl, eq_non_int, ne_non_int, eq_non_str, ne_non_str, eq_bl_non, ne_bl_non, eq_bl_bl, ne_bl_bl, eq_bl_str, ne_bl_str, eq_int_non, ne_int_non, eq_int_int, ne_int_int, eq_int_str, ne_int_str, eq_str_non, ne_str_non, eq_str_bl, ne_str_bl, eq_str_int, ne_str_int, eq_str_str, ne_str_str, isN_ref, isB_ref, tru_bl, tru_int, signD, e4, oNotIn_c, signs_mem]
        exact ⟨rfl, Kx.refl _ _, fun _ => Kx.refl _ _⟩
      · have hsh : (((z.cps.toList.map signD).filter (fun d => match d with | .str y => !isSign (y.cps.getD 0 0) | _ => false)).map (fun d => d)).all (shD 40) = true := by
          rw [List.all_eq_true]
          intro d hd
          obtain ⟨d', hd', rfl⟩ := List.mem_map.mp hd
          obtain ⟨c, _, rfl⟩ := List.mem_map.mp (List.mem_filter.mp hd').1
          rfl
        have hall : ((z.cps.toList.map signD).all fun x => !(match x with | .str y => !isSign (y.cps.getD 0 0) | _ => false)) = z.cps.toList.all isSign := by
          rw [List.all_map]
          refine congrArg (List.all z.cps.toList) (funext fun c => ?_)
          simp [signD]
        cases e : z.cps.toList with
        | nil => rw [e] at hl; simp at hl; omega
        | cons c r =>
          simp only [sat_ok, sat_ex, sat_err, sat_bind_eq, ofP_some, ofP_none, sat_of_eq, st_nx, st_rt, st_bk, st_ct, st_ex, st_err, st_then, seqP_nx, seqP_rt, seqP_bk, seqP_ct, seqP_ex, st_xSeq, endP_nx, endP_rt, endP_ex, endP_bk, endP_ct, varP_some, varP_none, varP_non, sat_xVar, sat_xC, sat_xOp, sat_xUn, blP_bl, sat_xTB, trP_some, trP_none, sat_xT, sat_xAndT, sat_xOrT, sat_xNotT, sat_xAnd, sat_xOr, sat_xNot, sat_xIf, sat_xNil, sat_xCons, sat_xTup, sat_xLst, sat_xChain, sat_xCall, sat_xCB, sat_xM0, sat_xM, intP_int, sat_xNoP, sat_xPart, sat_xSl, st_xSkip, st_xBrk, st_xCnt, st_xDrop, st_xRet, st_xRetN, st_xIfS, tgP_some, tgP_none, st_xAsg, g_gVar, g_gNil, g_gCons, g_gTup, augP_some, augP_none, st_xAug, parP_two, st_xPar, loopP_nx, loopP_ct, loopP_bk, loopP_rt, loopP_ex, st_xFor, itP_some, itP_none, sat_xIt, sat_xLc, sat_xItA, sat_xYes, sat_xLenSet, oAdd_ii, oSub_ii, oMul_ii, oFdiv_ii, oMod_ii, oNeg_i, oLt_ii, oLe_ii, oGt_ii, oGe_ii, oInt_i, oIx_ti, oIx_qi, oLen_t, oLen_q, oLen_s, atI_0, atI_1, atI_2, atI_3, atI_4, atI_5, atI_6, atI_7, atI_8, atI_9, atI_10, atI_11, atI_12, atI_13, atI_14, List.getElem?_cons_zero, List.getElem?_cons_succ, List.map_cons, List.map_nil, List.cons_append, List.nil_append, List.length_cons, List.length_nil, List.set_cons_zero, List.set_cons_succ, List.replicate, Option.map_some, Option.map_none, Option.bind_some, Option.bind_none, if_true, if_false, Nat.reduceAdd, Nat.reduceSub, Nat.reduceLT, Nat.reduceLeDiff, Nat.reduceEqDiff, Int.reduceLT, Int.reduceLE, Int.reduceNeg, Int.reduceEq, Bool.false_eq_true, Bool.true_eq_false, reduceIte, reduceCtorEq, Bool.not_true, Bool.not_false, decide_eq_true_eq, Nat.zero_lt_succ, and_true, true_and, and_self, and_false, false_and, isi_non_tuple, isi_non_int, isi_non_str, isi_non_bool, isi_non_list, type_non, isi_bl_tuple, isi_bl_int, isi_bl_str, isi_bl_bool, isi_bl_list, type_bl, isi_int_tuple, isi_int_int, isi_int_str, isi_int_bool, isi_int_list, type_int, isi_str_tuple, isi_str_int, isi_str_str, isi_str_bool, isi_str_list, type_str, isi_tup_tuple, isi_tup_int, isi_tup_str, isi_tup_bool, isi_tup_list, type_tup, is_int_int, isn_int_int, is_int_str, isn_int_str, is_int_tuple, isn_int_tuple, is_int_list, isn_int_list, is_int_bool, isn_int_bool, is_str_int, isn_str_int, is_str_str, isn_str_str, is_str_tuple, isn_str_tuple, is_str_list, isn_str_list, is_str_bool, isn_str_bool, is_tuple_int, isn_tuple_int, is_tuple_str, isn_tuple_str, is_tuple_tuple, isn_tuple_tuple, is_tuple_list, isn_tuple_list, is_tuple_bool, isn_tuple_bool, is_list_int, isn_list_int, is_list_str, isn_list_str, is_list_tuple, isn_list_tuple, is_list_list, isn_list_list, is_list_bool, isn_list_bool, is_bool_int, isn_bool_int, is_bool_str, isn_bool_str, is_bool_tuple, isn_bool_tuple, is_bool_list, isn_bool_list, is_bool_bool, isn_bool_bool, is_NoneType_int, isn_NoneType_int, is_NoneType_str, isn_NoneType_str, is_NoneType_tuple, isn_NoneType_tuple, is_NoneType_list, isn_NoneType_list, is_NoneType_bool, isn_NoneType_bool, isN_non, isnN_non, isB_non, isnB_non, isN_bl, isnN_bl, isB_bl, isnB_bl, isN_int, isnN_int, isB_int, isnB_int, isN_str, isnN_str, isB_str, isnB_str, isN_tup, isnN_tup, isB_tup, isnB_tup, eq_non_non, eq_non_bl, ne_non_bl, eq_non_int, ne_non_int, eq_non_str, ne_non_str, eq_bl_non, ne_bl_non, eq_bl_bl, ne_bl_bl, eq_bl_str, ne_bl_str, eq_int_non, ne_int_non, eq_int_int, ne_int_int, eq_int_str, ne_int_str, eq_str_non, ne_str_non, eq_str_bl, ne_str_bl, eq_str_int, ne_str_int, eq_str_str, ne_str_str, isN_ref, isB_ref, tru_bl, tru_int, eq_nil e1 hsh, ones_empty, hall, oIx_s0 e hz', oNotIn_c, figs_mem]
          refine ⟨Nat.zero_le _, ?_⟩
          have hk : Kp S (S1 ++ [.lst []]) := k1.trans (Kx.app _ _ _)
          have e3 : nameB z = (z.cps.toList.all isSign && !isFig c) := by
            rw [nameB, e, nameL, List.all_cons, decide_eq_true (by rw [e, List.length_cons] at hl; omega)]
            have hc : isLow c = (isSign c && !isFig c) := by
              rw [isSign, isLow, isFig, Bool.eq_iff_iff]
              simp only [Bool.and_eq_true, Bool.or_eq_true, decide_eq_true_eq, Bool.not_eq_true', Bool.and_eq_false_iff, decide_eq_false_iff_not]
              omega
            rw [hc]
            cases isSign c <;> cases isFig c <;> cases r.all isSign <;> rfl
          have h' := h _ hk
          rw [e3] at h'
          split
          · rename_i q
            rw [q, Bool.true_and] at h'
            exact h'
          · rename_i q
            simp only [Bool.not_eq_true] at q
            rw [q] at h' ⊢
            exact h'
    · rename_i h2
      have e3 : nameB z = false := by
        rw [nameB]
        cases e : z.cps.toList with
        | nil => rfl
        | cons c r =>
          rw [e, List.length_cons] at hl
          rw [nameL, decide_eq_false (by omega)]; rfl
      rw [e3] at h
      simpa [h2] using h _ (Kx.refl _ _)
  · rename_i h1
    have e3 : nameB z = false := by
      rw [nameB]
      cases e : z.cps.toList with
      | nil => rfl
      | cons c r => rw [e, List.length_cons] at hl; omega
    rw [e3] at h
    simpa [h1] using h _ (Kx.refl _ _)
end
theorem gate {b : Bool} {P Q : Prop} (h0 : b = false → P) (h1 : b = true → Q) : if (!b) = true then P else Q := by
  cases b
  · exact h0 rfl
  · exact h1 rfl
theorem gateT {b : Bool} {P Q : Prop} (h0 : b = true → P) (h1 : b = false → Q) : if b = true then P else Q := by
  cases b
  · exact h1 rfl
  · exact h0 rfl
theorem bls_map {α : Type} (f : α → Bool) : ∀ xs : List α, blsOf (xs.map fun d => D.bl (f d)) = some (xs.map f)
  | [] => rfl
  | x :: xs => by rw [List.map_cons, blsOf, bls_map f xs]; rfl
theorem all_of {S : Sto} {n : Nat} {xs : List D} {f : D → Bool} (h : S[n]? = some (.lst ((xs.filter fun _ => true).map fun d => .bl (f d)))) : oAll [.ref n] S = some (.bl (xs.all f), S) := by
  have e : xs.filter (fun _ => true) = xs := List.filter_eq_self.mpr fun _ _ => rfl
  rw [e] at h
  simp only [oAll, lstOf, h, Option.bind_some, bls_map, Option.map_some]
  congr 3
  rw [List.all_map]; rfl
/-- one statement, the rest closed -/
theorem seq_cut {F G : XS} {Γ : Gam} {S : Sto} {Q : RS → Prop} (h : ∀ K : RS → Prop, (∀ Γ S, (G Γ S).ws Q → K (.nx Γ S)) → (∀ d S, Q (.rt d S) → K (.rt d S)) → (F Γ S).ws K) : (xSeq F G Γ S).ws Q := by
  rw [st_xSeq]
  exact h _ (fun _ _ z => z) fun _ _ z => z
theorem seq_cutR {F G : XS} {Γ : Gam} {S : Sto} {Q : RS → Prop} : (xSeq F G Γ S).ws Q = ∀ K : RS → Prop, (∀ Γ S, (G Γ S).ws Q → K (.nx Γ S)) → (∀ d S, Q (.rt d S) → K (.rt d S)) → (∀ Γ S, Q (.bk Γ S) → K (.bk Γ S)) → (∀ Γ S, Q (.ct Γ S) → K (.ct Γ S)) → (∀ x Γ S, Q (.ex x Γ S) → K (.ex x Γ S)) → (F Γ S).ws K := by
  apply propext
  rw [st_xSeq]
  constructor
  · intro h K k1 k2 k3 k4 k5
    cases e : F Γ S with
    | nx Γ S => rw [e, st_nx] at h; rw [st_nx]; exact k1 _ _ h
    | rt d S => rw [e, st_rt] at h; rw [st_rt]; exact k2 _ _ h
    | bk Γ S => rw [e, st_bk] at h; rw [st_bk]; exact k3 _ _ h
    | ct Γ S => rw [e, st_ct] at h; rw [st_ct]; exact k4 _ _ h
    | ex x Γ S => rw [e, st_ex] at h; rw [st_ex]; exact k5 _ _ _ h
    | err => rw [e, st_err] at h; exact h.elim
  · intro h
    exact h _ (fun _ _ z => z) (fun _ _ z => z) (fun _ _ z => z) (fun _ _ z => z) fun _ _ _ z => z
end Dx
namespace Dx
open PySem PySem.Spec PyProof.Rows L2
/-! ### from the plain function of a law to the law -/
/-- what is asked of a law's def -/
def spLaw (K : PySem.W.Frag) : Sp := fun vs H Q _ => ∃ (a : Addr) (ns : List Int), vs = [.ref a] ∧ Only H ∧ SqL K H a (ns.map V.int) ∧ ∀ H', Q (.bl true) H'
theorem rds_script {K : PySem.W.Frag} {ι : Nat → Addr} {n : Nat} {H : Hp} : ∀ ns : List Int, RDs K ι n H (ns.map D.int) (ns.map V.int)
  | [] => rfl
  | _ :: r => ⟨_, _, rfl, rfl, rds_script r⟩
theorem law_fn {P : Program} {w : World} {K : PySem.W.Frag} {mg : Str → Option Value} {base : Heap} {k : Nat} {f : Addr} {fd : FuncData} {x : Str} {F : Fn} (h : FnOk P w K mg base (L2.CX P w) k f fd [x] (spF K mg 1 F))
    (hF : ∀ ns : List Int, (F [.sq (ns.map D.int)] []).sat (fun d _ => d = .bl true) fun _ _ => False) : FnOk P w K mg base CX0 k f fd [x] (spLaw K) := by
  have key : ∀ vs H (Q : VK), spLaw K vs H Q (fun _ _ _ => False) → spF K mg 1 F vs H Q fun _ _ _ => False := by
    rintro vs H Q ⟨a, ns, rfl, hO, hS, hQ⟩
    have hI : SqI K H a (ns.map V.int) := by
      rcases hS with (hS | hS) | hS
      · rcases hO a with e | ⟨o, xs, e⟩ <;> rw [e] at hS <;> cases hS
      · exact .inl hS
      · exact .inr hS
    refine ⟨rfl, fun _ => 0, [], [.sq (ns.map D.int)], ⟨fun i j hi => absurd hi (Nat.not_lt_zero _), fun i o e => by simp at e⟩, ⟨_, _, rfl, ⟨a, _, rfl, hI, rds_script ns⟩, rfl⟩, ?_⟩
    refine R.sat_imp (hF ns) (fun d S' e => ?_) fun _ _ z => z.elim
    subst e
    intro ι' H' v _ r
    cases r
    exact hQ H'
  refine ⟨fun vs H Q E q => h.len vs H Q (fun _ _ _ => False) (key vs H Q ?_), fun A outer s H args us vs Q E hr he hb hv hs => ?_⟩
  · obtain ⟨a, ns, h1, h2, h3, h4⟩ := q
    exact ⟨a, ns, h1, h2, h3, h4⟩
  · have hs' : spLaw K vs H Q (fun _ _ _ => False) := by
      obtain ⟨a, ns, h1, h2, h3, h4⟩ := hs
      exact ⟨a, ns, h1, h2, h3, h4⟩
    refine codeAny_mono (h.run A outer s H args us vs Q (fun _ _ _ => False) hr he hb hv (key vs H Q hs')) fun r s' hr' => ?_
    cases r with
    | ok fl => cases fl <;> exact hr'
    | error e =>
      obtain ⟨a, B, H', cls, d, _, _, _, _, _, _, _, hE⟩ := hr'
      exact hE.elim
end Dx
namespace K43
open PySem PySem.Spec PyProof.Rows L2 Dx
def top (i : Nat) : Stmt := PySem.Challenge.pw_accorded_k43_ord_is_things.main.body.getD i (.Pass ⟨0, 0, 0, 0⟩)
abbrev FnP (K : PySem.W.Frag) (x : Str) (st : Stmt) (f : Addr) (fd : FuncData) : Prop := FunD K x x (defArgs st) (defBody st) (defScope st) [] [] f fd
structure Tx (mg : Str → Option Value) : Prop where
  f_all : mg "all" = none
  f_bool : mg "bool" = none
  f_int : mg "int" = none
  f_isinstance : mg "isinstance" = none
  f_len : mg "len" = none
  f_list : mg "list" = none
  f_range : mg "range" = none
  f_set : mg "set" = none
  f_str : mg "str" = none
  f_tuple : mg "tuple" = none
  f_type : mg "type" = none
  g_LETTERS : ∃ t, mg "LETTERS" = some (.str g_LETTERS t)
  g_SIGNS : ∃ t, mg "SIGNS" = some (.str g_SIGNS t)
  g_LAST_DAY : ∃ t, mg "LAST_DAY" = some (.int 9999 t)
  g_MOST_AMOUNT : ∃ t, mg "MOST_AMOUNT" = some (.int 99999999 t)
  g_MOST_ORDERS : ∃ t, mg "MOST_ORDERS" = some (.int 12 t)
  g_MOST_STEP : ∃ t, mg "MOST_STEP" = some (.int 999 t)
  g_MOST_DUES : ∃ t, mg "MOST_DUES" = some (.int 60 t)
  g_MOST_SLACK : ∃ t, mg "MOST_SLACK" = some (.int 99 t)
section
variable {P : Program} {w : World} {K : PySem.W.Frag} {mg : Str → Option Value} {base : Heap}
theorem sc_within : FnScope ["thing", "low", "high"] ["thing", "low", "high"] (defScope (top 1)) := ⟨rfl, rfl, rfl, by decide +kernel, rfl, by decide +kernel, by decide +kernel⟩
theorem ok_within {k : Nat} (T : Tx mg) {f : Addr} {fd : FuncData} (F : FnP K "within" (top 1) f fd) (hf : mg "within" = some (.ref f)) : HasFn P w K mg base "within" 3 (k + 1) (bodyF 3 (B_within)) :=
  def_ok F hf sc_within (fun _ _ _ _ _ _ us hl => match us, hl with | [_, _, _], _ => rfl) fun cdv A outer s H E hr =>
    b_one (s_ret (d_and (d_cmp o_is (d_callTy o_type rfl T.f_type (by decide +kernel) (a_cons (d_var (i := 0) rfl (.inl rfl)) a_nil)) (d_bltn rfl T.f_int (by decide +kernel)) (nomark _)) (d_one (d_chain o_le o_le (d_var (i := 1) rfl (.inl rfl)) (d_var (i := 0) rfl (.inl rfl)) (d_var (i := 2) rfl (.inl rfl))))))
theorem sc_is_tuple : FnScope ["thing", "many"] ["thing", "many"] (defScope (top 2)) := ⟨rfl, rfl, rfl, by decide +kernel, rfl, by decide +kernel, by decide +kernel⟩
theorem ok_is_tuple {k : Nat} (T : Tx mg) {f : Addr} {fd : FuncData} (F : FnP K "is_tuple" (top 2) f fd) (hf : mg "is_tuple" = some (.ref f)) : HasFn P w K mg base "is_tuple" 2 (k + 1) (bodyF 2 (B_is_tuple)) :=
  def_ok F hf sc_is_tuple (fun _ _ _ _ _ _ us hl => match us, hl with | [_, _], _ => rfl) fun cdv A outer s H E hr =>
    b_one (s_ret (d_and (d_cmp o_is (d_callTy o_type rfl T.f_type (by decide +kernel) (a_cons (d_var (i := 0) rfl (.inl rfl)) a_nil)) (d_bltn rfl T.f_tuple (by decide +kernel)) (nomark _)) (d_one (d_cmp o_le (d_callB o_len rfl T.f_len PySem.boot_len (a_cons (d_var (i := 0) rfl (.inl rfl)) a_nil)) (d_var (i := 1) rfl (.inl rfl)) (nomark _)))))
theorem sc_unlike : FnScope ["rows"] ["rows"] (defScope (top 3)) := ⟨rfl, rfl, rfl, by decide +kernel, rfl, by decide +kernel, by decide +kernel⟩
theorem ok_unlike {k : Nat} (T : Tx mg) {f : Addr} {fd : FuncData} (F : FnP K "unlike" (top 3) f fd) (hf : mg "unlike" = some (.ref f)) : HasFn P w K mg base "unlike" 1 (k + 1) (bodyF 1 (B_unlike)) :=
  def_ok F hf sc_unlike (fun _ _ _ _ _ _ us hl => match us, hl with | [_], _ => rfl) fun cdv A outer s H E hr =>
    b_one (s_ret (d_cmp (op_eqL hr.units) (d_lenSet rfl T.f_len rfl T.f_set (d_var (i := 0) rfl (.inl rfl))) (d_callB o_len rfl T.f_len PySem.boot_len (a_cons (d_var (i := 0) rfl (.inl rfl)) a_nil)) (nomark _)))
theorem sc_is_name : FnScope ["thing"] ["thing"] (defScope (top 9)) := ⟨rfl, rfl, rfl, by decide +kernel, rfl, by decide +kernel, by decide +kernel⟩
theorem ok_is_name {k : Nat} (T : Tx mg) {f : Addr} {fd : FuncData} (F : FnP K "is_name" (top 9) f fd) (hf : mg "is_name" = some (.ref f)) : HasFn P w K mg base "is_name" 1 (k + 1) (bodyF 1 (B_is_name)) :=
  def_ok F hf sc_is_name (fun _ _ _ _ _ _ us hl => match us, hl with | [_], _ => rfl) fun cdv A outer s H E hr =>
    b_one (s_ret (d_and (d_cmp o_is (d_callTy o_type rfl T.f_type (by decide +kernel) (a_cons (d_var (i := 0) rfl (.inl rfl)) a_nil)) (d_bltn rfl T.f_str (by decide +kernel)) (nomark _)) (d_and (d_chain o_le o_le d_int (d_callB o_len rfl T.f_len PySem.boot_len (a_cons (d_var (i := 0) rfl (.inl rfl)) a_nil)) d_int) (d_and (d_cmp (o_in hr.units) (d_ix o_ix (d_var (i := 0) rfl (.inl rfl)) d_int (fun _ _ => rfl)) (d_globS T.g_LETTERS rfl) (by with_unfolding_all rfl)) (d_one (d_not (d_m PySem.F.plainAttrs_str PySem.F.slot_str_strip PySem.F.type_str_strip m_strip (d_var (i := 0) rfl (.inl rfl)) (a_cons (d_globS T.g_SIGNS rfl) a_nil))))))))
noncomputable def B_is_day (G_within : Fn) : XS :=
    xRet (xCall 3 G_within (xCons (xVar 0) (xCons (xC (.int 0)) (xCons (xC (.int 9999)) xNil))))
theorem sc_is_day : FnScope ["thing"] ["thing"] (defScope (top 10)) := ⟨rfl, rfl, rfl, by decide +kernel, rfl, by decide +kernel, by decide +kernel⟩
theorem ok_is_day {k : Nat} {G_within : Fn} (T : Tx mg) {f : Addr} {fd : FuncData} (F : FnP K "is_day" (top 10) f fd) (hf : mg "is_day" = some (.ref f)) (h_within : HasFn P w K mg base "within" 3 k G_within) : HasFn P w K mg base "is_day" 1 (k + 1) (bodyF 1 (B_is_day G_within)) :=
  def_ok F hf sc_is_day (fun _ _ _ _ _ _ us hl => match us, hl with | [_], _ => rfl) fun cdv A outer s H E hr =>
    b_one (s_ret (d_call h_within hr (takes_of rfl rfl rfl rfl) rfl (a_cons (d_var (i := 0) rfl (.inl rfl)) (a_cons d_int (a_cons (d_globI T.g_LAST_DAY rfl) a_nil)))))
theorem sc_is_amount : FnScope ["thing"] ["thing"] (defScope (top 11)) := ⟨rfl, rfl, rfl, by decide +kernel, rfl, by decide +kernel, by decide +kernel⟩
theorem ok_is_amount {k : Nat} {G_within : Fn} (T : Tx mg) {f : Addr} {fd : FuncData} (F : FnP K "is_amount" (top 11) f fd) (hf : mg "is_amount" = some (.ref f)) (h_within : HasFn P w K mg base "within" 3 k G_within) : HasFn P w K mg base "is_amount" 1 (k + 1) (bodyF 1 (B_is_amount G_within)) :=
  def_ok F hf sc_is_amount (fun _ _ _ _ _ _ us hl => match us, hl with | [_], _ => rfl) fun cdv A outer s H E hr =>
    b_one (s_ret (d_and (d_call h_within hr (takes_of rfl rfl rfl rfl) rfl (a_cons (d_var (i := 0) rfl (.inl rfl)) (a_cons (d_un o_neg (d_globI T.g_MOST_AMOUNT rfl)) (a_cons (d_globI T.g_MOST_AMOUNT rfl) a_nil)))) (d_one (d_cmp (op_neL hr.units) (d_var (i := 0) rfl (.inl rfl)) d_int (nomark _)))))
theorem sc_is_order : FnScope ["thing", "_", "name", "start", "step", "many", "amount", "party", "ref", "slack", "word"] ["thing"] (defScope (top 17)) := ⟨rfl, rfl, rfl, by decide +kernel, rfl, by decide +kernel, by decide +kernel⟩
theorem ok_is_order {k : Nat} {G_is_name G_is_day G_is_amount G_within : Fn} (T : Tx mg) {f : Addr} {fd : FuncData} (F : FnP K "is_order" (top 17) f fd) (hf : mg "is_order" = some (.ref f)) (h_is_name : HasFn P w K mg base "is_name" 1 k G_is_name) (h_is_day : HasFn P w K mg base "is_day" 1 k G_is_day) (h_is_amount : HasFn P w K mg base "is_amount" 1 k G_is_amount) (h_within : HasFn P w K mg base "within" 3 k G_within) : HasFn P w K mg base "is_order" 1 (k + 1) (bodyF 11 (B_is_order G_is_name G_is_day G_is_amount G_within)) :=
  def_ok F hf sc_is_order (fun _ _ _ _ _ _ us hl => match us, hl with | [_], _ => rfl) fun cdv A outer s H E hr =>
    b_cons (s_if (WOk.t (w_or (t_cmp o_isNot (d_callTy o_type rfl T.f_type (by decide +kernel) (a_cons (d_var (i := 0) rfl (.inl rfl)) a_nil)) (d_bltn rfl T.f_tuple (by decide +kernel)) (nomark _)) (w_or (t_cmp (op_neL hr.units) (d_callB o_len rfl T.f_len PySem.boot_len (a_cons (d_var (i := 0) rfl (.inl rfl)) a_nil)) d_int (nomark _)) (w_or1 (t_cmp (op_neL hr.units) (d_ix o_ix (d_var (i := 0) rfl (.inl rfl)) d_int (fun _ _ => rfl)) d_str (nomark _)))))) (b_one (s_ret d_bl)) b_nil)
    (b_cons (s_asg (d_var (i := 0) rfl (.inl rfl)) (g_tup rfl (gs_cons (g_var (i := 1) sc_is_order.nd rfl (.inl rfl)) (gs_cons (g_var (i := 2) sc_is_order.nd rfl (.inl rfl)) (gs_cons (g_var (i := 3) sc_is_order.nd rfl (.inl rfl)) (gs_cons (g_var (i := 4) sc_is_order.nd rfl (.inl rfl)) (gs_cons (g_var (i := 5) sc_is_order.nd rfl (.inl rfl)) (gs_cons (g_var (i := 6) sc_is_order.nd rfl (.inl rfl)) (gs_cons (g_var (i := 7) sc_is_order.nd rfl (.inl rfl)) (gs_cons (g_var (i := 8) sc_is_order.nd rfl (.inl rfl)) (gs_cons (g_var (i := 9) sc_is_order.nd rfl (.inl rfl)) gs_nil)))))))))))
    (b_cons (s_if (WOk.t (w_or (t_not (t_truth (d_call h_is_name hr (takes_of rfl rfl rfl rfl) rfl (a_cons (d_var (i := 2) rfl (.inl rfl)) a_nil)) (fun _ => rfl))) (w_or (t_not (t_truth (d_call h_is_day hr (takes_of rfl rfl rfl rfl) rfl (a_cons (d_var (i := 3) rfl (.inl rfl)) a_nil)) (fun _ => rfl))) (w_or1 (t_not (t_truth (d_call h_is_amount hr (takes_of rfl rfl rfl rfl) rfl (a_cons (d_var (i := 6) rfl (.inl rfl)) a_nil)) (fun _ => rfl))))))) (b_one (s_ret d_bl)) b_nil)
    (b_cons (s_if (WOk.t (w_or (t_not (t_truth (d_call h_within hr (takes_of rfl rfl rfl rfl) rfl (a_cons (d_var (i := 4) rfl (.inl rfl)) (a_cons d_int (a_cons (d_globI T.g_MOST_STEP rfl) a_nil)))) (fun _ => rfl))) (w_or (t_not (t_truth (d_call h_within hr (takes_of rfl rfl rfl rfl) rfl (a_cons (d_var (i := 5) rfl (.inl rfl)) (a_cons d_int (a_cons (d_globI T.g_MOST_DUES rfl) a_nil)))) (fun _ => rfl))) (w_or1 (t_not (t_truth (d_call h_within hr (takes_of rfl rfl rfl rfl) rfl (a_cons (d_var (i := 9) rfl (.inl rfl)) (a_cons d_int (a_cons (d_globI T.g_MOST_SLACK rfl) a_nil)))) (fun _ => rfl))))))) (b_one (s_ret d_bl)) b_nil)
    (b_one (s_ret (d_callB (o_all rfl) rfl T.f_all (by decide +kernel) (a_cons (d_lc (own := [("word", 10)]) rfl sc_is_order.nd (i_any (d_tup (a_cons (d_var (i := 7) rfl (.inl rfl)) (a_cons (d_var (i := 8) rfl (.inl rfl)) a_nil)))) (blkOk_by (N := ["thing", "_", "name", "start", "step", "many", "amount", "party", "ref", "slack", "word"]) (sc := defScope (top 17)) (by decide +kernel)) (fun _ _ _ _ _ => c_var (i := 10) (by decide) sc_is_order.nd rfl (.inl rfl)) (fun _ _ _ _ _ => ts_nil) (fun _ _ _ _ _ => d_or (d_cmp (op_eqL hr.units) (d_var (i := 10) rfl (.inl rfl)) d_str (nomark _)) (d_one (d_call h_is_name hr takes0 rfl (a_cons (d_var (i := 10) rfl (.inl rfl)) a_nil))))) a_nil)))))))
noncomputable def B_is_orders (G_is_tuple G_is_order G_unlike : Fn) : XS :=
    xSeq (xIfS (xOrT (xNotT (xT (xCall 2 G_is_tuple (xCons (xVar 0) (xCons (xC (.int 12)) xNil))))) (xNotT (xT (xCB oAll (xCons (xLc (xIt (xVar 0)) (cVar 1) xYes (xCall 1 G_is_order (xCons (xVar 1) xNil)) [1]) xNil))))) (xRet (xC (.bl false))) xSkip)
    (xRet (xCall 1 G_unlike (xCons (xLc (xIt (xVar 0)) (cVar 1) xYes (xOp oIx (xVar 1) (xC (.int 1))) [1]) xNil)))
theorem sc_is_orders : FnScope ["thing", "order"] ["thing"] (defScope (top 18)) := ⟨rfl, rfl, rfl, by decide +kernel, rfl, by decide +kernel, by decide +kernel⟩
theorem ok_is_orders {k : Nat} {G_is_tuple G_is_order G_unlike : Fn} (T : Tx mg) {f : Addr} {fd : FuncData} (F : FnP K "is_orders" (top 18) f fd) (hf : mg "is_orders" = some (.ref f)) (h_is_tuple : HasFn P w K mg base "is_tuple" 2 k G_is_tuple) (h_is_order : HasFn P w K mg base "is_order" 1 k G_is_order) (h_unlike : HasFn P w K mg base "unlike" 1 k G_unlike) : HasFn P w K mg base "is_orders" 1 (k + 1) (bodyF 2 (B_is_orders G_is_tuple G_is_order G_unlike)) :=
  def_ok F hf sc_is_orders (fun _ _ _ _ _ _ us hl => match us, hl with | [_], _ => rfl) fun cdv A outer s H E hr =>
    b_cons (s_if (WOk.t (w_or (t_not (t_truth (d_call h_is_tuple hr (takes_of rfl rfl rfl rfl) rfl (a_cons (d_var (i := 0) rfl (.inl rfl)) (a_cons (d_globI T.g_MOST_ORDERS rfl) a_nil))) (fun _ => rfl))) (w_or1 (t_not (t_truth (d_callB (o_all rfl) rfl T.f_all (by decide +kernel) (a_cons (d_lc (own := [("order", 1)]) rfl sc_is_orders.nd (i_any (d_var (i := 0) rfl (.inl rfl))) (blkOk_by (N := ["thing", "order"]) (sc := defScope (top 18)) (by decide +kernel)) (fun _ _ _ _ _ => c_var (i := 1) (by decide) sc_is_orders.nd rfl (.inl rfl)) (fun _ _ _ _ _ => ts_nil) (fun _ _ _ _ _ => d_call h_is_order hr takes0 rfl (a_cons (d_var (i := 1) rfl (.inl rfl)) a_nil))) a_nil)) (fun _ => rfl)))))) (b_one (s_ret d_bl)) b_nil)
    (b_one (s_ret (d_call h_unlike hr (takes_of rfl rfl rfl rfl) rfl (a_cons (d_lc (own := [("order", 1)]) rfl sc_is_orders.nd (i_any (d_var (i := 0) rfl (.inl rfl))) (blkOk_by (N := ["thing", "order"]) (sc := defScope (top 18)) (by decide +kernel)) (fun _ _ _ _ _ => c_var (i := 1) (by decide) sc_is_orders.nd rfl (.inl rfl)) (fun _ _ _ _ _ => ts_nil) (fun _ _ _ _ _ => d_ix o_ix (d_var (i := 1) rfl (.inl rfl)) d_int (fun _ _ => rfl))) a_nil))))
theorem sc__law_cell : FnScope ["script", "k"] ["script", "k"] (defScope (top 20)) := ⟨rfl, rfl, rfl, by decide +kernel, rfl, by decide +kernel, by decide +kernel⟩
theorem ok__law_cell {k : Nat} (T : Tx mg) {f : Addr} {fd : FuncData} (F : FnP K "_law_cell" (top 20) f fd) (hf : mg "_law_cell" = some (.ref f)) : HasFn P w K mg base "_law_cell" 2 (k + 1) (bodyF 2 (B__law_cell)) :=
  def_ok F hf sc__law_cell (fun _ _ _ _ _ _ us hl => match us, hl with | [_, _], _ => rfl) fun cdv A outer s H E hr =>
    b_cons (s_if (t_cmp o_lt (d_var (i := 1) rfl (.inl rfl)) (d_callB o_len rfl T.f_len PySem.boot_len (a_cons (d_var (i := 0) rfl (.inl rfl)) a_nil)) (nomark _)) (b_one (s_ret (d_ix o_ix (d_var (i := 0) rfl (.inl rfl)) (d_var (i := 1) rfl (.inl rfl)) (fun _ _ => rfl)))) b_nil)
    (b_one (s_ret d_int))
theorem sc__law_digits : FnScope ["script", "first", "last", "digits", "k", "cell", "step", "seed"] ["script", "first", "last"] (defScope (top 21)) := ⟨rfl, rfl, rfl, by decide +kernel, rfl, by decide +kernel, by decide +kernel⟩
theorem ok__law_digits {k : Nat} {G__law_cell : Fn} (T : Tx mg) {f : Addr} {fd : FuncData} (F : FnP K "_law_digits" (top 21) f fd) (hf : mg "_law_digits" = some (.ref f)) (h__law_cell : HasFn P w K mg base "_law_cell" 2 k G__law_cell) : HasFn P w K mg base "_law_digits" 3 (k + 1) (bodyF 8 (B__law_digits G__law_cell)) :=
  def_ok F hf sc__law_digits (fun _ _ _ _ _ _ us hl => match us, hl with | [_, _, _], _ => rfl) fun cdv A outer s H E hr =>
    b_cons (s_set (i := 3) sc__law_digits.nd rfl (.inl rfl) (d_lst a_nil))
    (b_cons (s_for (passes_of rfl) rfl (i_rng2 rfl T.f_range (a_cons (d_var (i := 1) rfl (.inl rfl)) (a_cons (d_var (i := 2) rfl (.inl rfl)) a_nil))) (g_var (i := 4) sc__law_digits.nd rfl (.inl rfl)) (b_cons (s_set (i := 5) sc__law_digits.nd rfl (.inl rfl) (d_call h__law_cell hr (takes_of rfl rfl rfl rfl) rfl (a_cons (d_var (i := 0) rfl (.inl rfl)) (a_cons (d_var (i := 4) rfl (.inl rfl)) a_nil))))
    (b_cons (s_if (t_cmp o_lt (d_var (i := 5) rfl (.inl rfl)) d_int (nomark _)) (b_one (s_set (i := 5) sc__law_digits.nd rfl (.inl rfl) (d_op o_sub d_int (d_op o_mul d_int (d_var (i := 5) rfl (.inl rfl)))))) b_nil)
    (b_cons (s_if (t_cmp o_gt (d_callB o_len rfl T.f_len PySem.boot_len (a_cons (d_var (i := 3) rfl (.inl rfl)) a_nil)) d_int (nomark _)) (b_one s_break) b_nil)
    (b_one (s_if (t_cmp o_ge (d_var (i := 5) rfl (.inl rfl)) (d_op o_pow d_int d_int) (nomark _)) (b_one (s_for (passes_of rfl) rfl (i_rng1 rfl T.f_range (a_cons d_int a_nil)) (g_var (i := 6) sc__law_digits.nd rfl (.inl rfl)) (b_one (s_if (t_cmp o_gt (d_var (i := 5) rfl (.inl rfl)) d_int (nomark _)) (b_cons (s_expr (d_m PySem.F.plainAttrs_list PySem.F.slot_list_append PySem.F.type_list_append m_append (d_var (i := 3) rfl (.inl rfl)) (a_cons (d_op o_mod (d_callTy o_int rfl T.f_int (by decide +kernel) (a_cons (d_var (i := 5) rfl (.inl rfl)) a_nil)) d_int) a_nil)))
    (b_one (s_set (i := 5) sc__law_digits.nd rfl (.inl rfl) (d_op o_fdiv (d_var (i := 5) rfl (.inl rfl)) d_int)))) b_nil)))) (b_cons (s_set (i := 7) sc__law_digits.nd rfl (.inl rfl) (d_op o_mod (d_callTy o_int rfl T.f_int (by decide +kernel) (a_cons (d_op o_add (d_op o_add (d_op o_mul (d_var (i := 5) rfl (.inl rfl)) d_int) (d_op o_mul (d_var (i := 4) rfl (.inl rfl)) d_int)) d_int) a_nil)) d_int))
    (b_one (s_for (passes_of rfl) rfl (i_rng1 rfl T.f_range (a_cons d_int a_nil)) (g_var (i := 6) sc__law_digits.nd rfl (.inl rfl)) (b_cons (s_set (i := 7) sc__law_digits.nd rfl (.inl rfl) (d_op o_mod (d_callTy o_int rfl T.f_int (by decide +kernel) (a_cons (d_op o_add (d_op o_add (d_op o_mul (d_var (i := 7) rfl (.inl rfl)) d_int) (d_op o_mul d_int (d_var (i := 6) rfl (.inl rfl)))) d_int) a_nil)) d_int))
    (b_one (s_expr (d_m PySem.F.plainAttrs_list PySem.F.slot_list_append PySem.F.type_list_append m_append (d_var (i := 3) rfl (.inl rfl)) (a_cons (d_op o_mod (d_callTy o_int rfl T.f_int (by decide +kernel) (a_cons (d_op o_fdiv (d_var (i := 7) rfl (.inl rfl)) d_int) a_nil)) d_int) a_nil))))))))))))))
    (b_one (s_ret (d_var (i := 3) rfl (.inl rfl)))))
theorem sc__law_draw : FnScope ["box", "many", "at"] ["box", "many"] (defScope (top 22)) := ⟨rfl, rfl, rfl, by decide +kernel, rfl, by decide +kernel, by decide +kernel⟩
theorem ok__law_draw {k : Nat} (T : Tx mg) {f : Addr} {fd : FuncData} (F : FnP K "_law_draw" (top 22) f fd) (hf : mg "_law_draw" = some (.ref f)) : HasFn P w K mg base "_law_draw" 2 (k + 1) (bodyF 3 (B__law_draw)) :=
  def_ok F hf sc__law_draw (fun _ _ _ _ _ _ us hl => match us, hl with | [_, _], _ => rfl) fun cdv A outer s H E hr =>
    b_cons (s_set (i := 2) sc__law_draw.nd rfl (.inl rfl) (d_ix o_ix (d_var (i := 0) rfl (.inl rfl)) d_int (fun _ _ => rfl)))
    (b_cons (s_asg (d_op o_add (d_var (i := 2) rfl (.inl rfl)) d_int) (g_subL (W := W0) (d_var (i := 0) rfl (.inl rfl)) d_int))
    (b_cons (s_if (t_cmp o_lt (d_var (i := 2) rfl (.inl rfl)) (d_callB o_len rfl T.f_len PySem.boot_len (a_cons (d_ix o_ix (d_var (i := 0) rfl (.inl rfl)) d_int (fun _ _ => rfl)) a_nil)) (nomark _)) (b_one (s_ret (d_op o_mod (d_callTy o_int rfl T.f_int (by decide +kernel) (a_cons (d_ix o_ix (d_ix o_ix (d_var (i := 0) rfl (.inl rfl)) d_int (fun _ _ => rfl)) (d_var (i := 2) rfl (.inl rfl)) (fun _ _ => rfl)) a_nil)) (d_var (i := 1) rfl (.inl rfl))))) b_nil)
    (b_one (s_ret (d_op o_mod (d_callTy o_int rfl T.f_int (by decide +kernel) (a_cons (d_op o_mul (d_var (i := 2) rfl (.inl rfl)) d_int) a_nil)) (d_var (i := 1) rfl (.inl rfl)))))))
theorem sc__law_wide : FnScope ["box", "many", "number"] ["box", "many"] (defScope (top 23)) := ⟨rfl, rfl, rfl, by decide +kernel, rfl, by decide +kernel, by decide +kernel⟩
theorem ok__law_wide {k : Nat} {G__law_draw : Fn} (T : Tx mg) {f : Addr} {fd : FuncData} (F : FnP K "_law_wide" (top 23) f fd) (hf : mg "_law_wide" = some (.ref f)) (h__law_draw : HasFn P w K mg base "_law_draw" 2 k G__law_draw) : HasFn P w K mg base "_law_wide" 2 (k + 1) (bodyF 3 (B__law_wide G__law_draw)) :=
  def_ok F hf sc__law_wide (fun _ _ _ _ _ _ us hl => match us, hl with | [_, _], _ => rfl) fun cdv A outer s H E hr =>
    b_cons (s_set (i := 2) sc__law_wide.nd rfl (.inl rfl) (d_op o_add (d_op o_add (d_call h__law_draw hr (takes_of rfl rfl rfl rfl) rfl (a_cons (d_var (i := 0) rfl (.inl rfl)) (a_cons d_int a_nil))) (d_op o_mul d_int (d_call h__law_draw hr (takes_of rfl rfl rfl rfl) rfl (a_cons (d_var (i := 0) rfl (.inl rfl)) (a_cons d_int a_nil))))) (d_op o_mul d_int (d_call h__law_draw hr (takes_of rfl rfl rfl rfl) rfl (a_cons (d_var (i := 0) rfl (.inl rfl)) (a_cons d_int a_nil))))))
    (b_one (s_ret (d_op o_mod (d_callTy o_int rfl T.f_int (by decide +kernel) (a_cons (d_var (i := 2) rfl (.inl rfl)) a_nil)) (d_var (i := 1) rfl (.inl rfl)))))
theorem sc__law_like : FnScope ["told", "due", "k"] ["told", "due"] (defScope (top 24)) := ⟨rfl, rfl, rfl, by decide +kernel, rfl, by decide +kernel, by decide +kernel⟩
theorem ok__law_like {k : Nat} {G__law_like : Fn} (T : Tx mg) {f : Addr} {fd : FuncData} (F : FnP K "_law_like" (top 24) f fd) (hf : mg "_law_like" = some (.ref f)) (h__law_like : HasFn P w K mg base "_law_like" 2 k G__law_like) : HasFn P w K mg base "_law_like" 2 (k + 1) (bodyF 3 (B__law_like G__law_like)) :=
  def_ok F hf sc__law_like (fun _ _ _ _ _ _ us hl => match us, hl with | [_, _], _ => rfl) fun cdv A outer s H E hr =>
    b_cons (s_if (t_truth (d_callB o_isi rfl T.f_isinstance (by decide +kernel) (a_cons (d_var (i := 1) rfl (.inr (.inl rfl))) (a_cons (d_bltn rfl T.f_tuple (by decide +kernel)) a_nil))) (fun _ => rfl)) (b_cons (s_if (WOk.t (w_or (t_not (t_truth (d_callB o_isi rfl T.f_isinstance (by decide +kernel) (a_cons (d_var (i := 0) rfl (.inr (.inl rfl))) (a_cons (d_bltn rfl T.f_tuple (by decide +kernel)) a_nil))) (fun _ => rfl))) (w_or1 (t_cmp (op_neL hr.units) (d_callB o_len rfl T.f_len PySem.boot_len (a_cons (d_var (i := 0) rfl (.inr (.inl rfl))) a_nil)) (d_callB o_len rfl T.f_len PySem.boot_len (a_cons (d_var (i := 1) rfl (.inr (.inl rfl))) a_nil)) (nomark _))))) (b_one (s_ret d_bl)) b_nil)
    (b_one (s_ret (d_cmp (op_eqL hr.units) (d_lc (own := [("k", 2)]) rfl sc__law_like.nd (i_rng1 rfl T.f_range (a_cons (d_callB o_len rfl T.f_len PySem.boot_len (a_cons (d_var (i := 1) rfl (.inr (.inl rfl))) a_nil)) a_nil)) (blkOk_by (N := ["told", "due", "k"]) (sc := defScope (top 24)) (by decide +kernel)) (fun _ _ _ _ _ => c_var (i := 2) (by decide) sc__law_like.nd rfl (.inl rfl)) (fun _ _ _ _ _ => ts_one (t_not (t_truth (d_call h__law_like hr takes0 rfl (a_cons (d_ix o_ix (d_var (i := 0) rfl (.inr (.inl rfl))) (d_var (i := 2) rfl (.inl rfl)) (fun _ _ => rfl)) (a_cons (d_ix o_ix (d_var (i := 1) rfl (.inr (.inl rfl))) (d_var (i := 2) rfl (.inl rfl)) (fun _ _ => rfl)) a_nil))) (fun _ => rfl)))) (fun _ _ _ _ _ => d_int)) (d_lst a_nil) (nomark _))))) b_nil)
    (b_cons (s_if (t_cmp o_is (d_var (i := 1) rfl (.inr (.inl rfl))) d_non (nomark _)) (b_one (s_ret (d_cmp o_is (d_var (i := 0) rfl (.inr (.inl rfl))) d_non (nomark _)))) b_nil)
    (b_cons (s_if (t_cmp o_is (d_var (i := 1) rfl (.inr (.inl rfl))) d_bl (nomark _)) (b_one (s_ret (d_cmp o_is (d_var (i := 0) rfl (.inr (.inl rfl))) d_bl (nomark _)))) b_nil)
    (b_cons (s_if (t_cmp o_is (d_var (i := 1) rfl (.inr (.inl rfl))) d_bl (nomark _)) (b_one (s_ret (d_cmp o_is (d_var (i := 0) rfl (.inr (.inl rfl))) d_bl (nomark _)))) b_nil)
    (b_cons (s_if (t_truth (d_callB o_isi rfl T.f_isinstance (by decide +kernel) (a_cons (d_var (i := 1) rfl (.inr (.inl rfl))) (a_cons (d_bltn rfl T.f_str (by decide +kernel)) a_nil))) (fun _ => rfl)) (b_one (s_ret (d_and (d_callB o_isi rfl T.f_isinstance (by decide +kernel) (a_cons (d_var (i := 0) rfl (.inr (.inl rfl))) (a_cons (d_bltn rfl T.f_str (by decide +kernel)) a_nil))) (d_one (d_cmp (op_eqL hr.units) (d_m PySem.F.plainAttrs_str PySem.F.slot_str_join PySem.F.type_str_join m_join d_str (a_cons (d_lst (a_cons (d_var (i := 0) rfl (.inr (.inl rfl))) a_nil)) a_nil)) (d_var (i := 1) rfl (.inr (.inl rfl))) (nomark _)))))) b_nil)
    (b_one (s_ret (d_and (d_callB o_isi rfl T.f_isinstance (by decide +kernel) (a_cons (d_var (i := 0) rfl (.inr (.inl rfl))) (a_cons (d_bltn rfl T.f_int (by decide +kernel)) a_nil))) (d_and (d_not (d_callB o_isi rfl T.f_isinstance (by decide +kernel) (a_cons (d_var (i := 0) rfl (.inr (.inl rfl))) (a_cons (d_bltn rfl T.f_bool (by decide +kernel)) a_nil)))) (d_one (d_cmp (op_eqL hr.units) (d_var (i := 0) rfl (.inr (.inl rfl))) (d_var (i := 1) rfl (.inr (.inl rfl))) (nomark _)))))))))))
theorem err__law_like (k : Nat) {f : Addr} {fd : FuncData} (F : FnP K "_law_like" (top 24) f fd) (hf : mg "_law_like" = some (.ref f)) : HasFn P w K mg base "_law_like" 2 k (fun _ _ => .err) := has_err (ps := ["told", "due"]) F hf (fun _ _ _ _ _ _ us hl => match us, hl with | [_, _], _ => rfl)
noncomputable def B__law_order (G__law_draw G__law_wide : Fn) : XS :=
    xSeq (xIfS (xT (xVar 2)) (xSeq (xPar 3 4 (xCons (xOp oIx (xLst (xCons (xC (.int 0)) (xCons (xC (.int 9999)) (xCons (xCall 2 G__law_wide (xCons (xVar 0) (xCons (xC (.int 10000)) xNil))) xNil)))) (xCall 2 G__law_draw (xCons (xVar 0) (xCons (xC (.int 3)) xNil)))) (xCons (xOp oIx (xLst (xCons (xC (.int 1)) (xCons (xC (.int 999)) (xCons (xOp oAdd (xC (.int 1)) (xCall 2 G__law_draw (xCons (xVar 0) (xCons (xC (.int 999)) xNil)))) xNil)))) (xCall 2 G__law_draw (xCons (xVar 0) (xCons (xC (.int 3)) xNil)))) xNil)))
    (xSeq (xPar 5 6 (xCons (xOp oIx (xLst (xCons (xC (.int 1)) (xCons (xC (.int 60)) (xCons (xOp oAdd (xC (.int 1)) (xCall 2 G__law_draw (xCons (xVar 0) (xCons (xC (.int 60)) xNil)))) xNil)))) (xCall 2 G__law_draw (xCons (xVar 0) (xCons (xC (.int 3)) xNil)))) (xCons (xOp oIx (xLst (xCons (xC (.int 0)) (xCons (xC (.int 99)) (xCons (xCall 2 G__law_draw (xCons (xVar 0) (xCons (xC (.int 100)) xNil))) xNil)))) (xCall 2 G__law_draw (xCons (xVar 0) (xCons (xC (.int 3)) xNil)))) xNil)))
    (xSeq (xAsg (xOp oIx (xLst (xCons (xC (.int 1)) (xCons (xUn oNeg (xC (.int 1))) (xCons (xC (.int 99999999)) (xCons (xUn oNeg (xC (.int 99999999))) (xCons (xOp oAdd (xC (.int 1)) (xCall 2 G__law_wide (xCons (xVar 0) (xCons (xC (.int 99999999)) xNil)))) xNil)))))) (xCall 2 G__law_draw (xCons (xVar 0) (xCons (xC (.int 5)) xNil)))) (gVar 7))
    (xRet (xTup (xCons (xC (.str "order")) (xCons (xVar 1) (xCons (xVar 3) (xCons (xVar 4) (xCons (xVar 5) (xCons (xVar 7) (xCons (xOp oIx (xLst (xCons (xC (.str "")) (xCons (xC (.str "ann")) (xCons (xC (.str "abcdefghijkl")) xNil)))) (xCall 2 G__law_draw (xCons (xVar 0) (xCons (xC (.int 3)) xNil)))) (xCons (xOp oIx (xLst (xCons (xC (.str "")) (xCons (xC (.str "r1")) xNil))) (xCall 2 G__law_draw (xCons (xVar 0) (xCons (xC (.int 2)) xNil)))) (xCons (xVar 6) xNil)))))))))))))) xSkip)
    (xSeq (xAsg (xOp oIx (xLst (xCons (xC (.int 100)) (xCons (xC (.int 100)) (xCons (xUn oNeg (xC (.int 200))) xNil)))) (xCall 2 G__law_draw (xCons (xVar 0) (xCons (xC (.int 3)) xNil)))) (gVar 7))
    (xRet (xTup (xCons (xC (.str "order")) (xCons (xVar 1) (xCons (xCall 2 G__law_draw (xCons (xVar 0) (xCons (xC (.int 9)) xNil))) (xCons (xOp oAdd (xC (.int 1)) (xCall 2 G__law_draw (xCons (xVar 0) (xCons (xC (.int 9)) xNil)))) (xCons (xOp oAdd (xC (.int 1)) (xCall 2 G__law_draw (xCons (xVar 0) (xCons (xC (.int 3)) xNil)))) (xCons (xVar 7) (xCons (xOp oIx (xLst (xCons (xC (.str "ann")) (xCons (xC (.str "ann")) (xCons (xC (.str "")) xNil)))) (xCall 2 G__law_draw (xCons (xVar 0) (xCons (xC (.int 3)) xNil)))) (xCons (xOp oIx (xLst (xCons (xC (.str "")) (xCons (xC (.str "")) (xCons (xC (.str "r1")) xNil)))) (xCall 2 G__law_draw (xCons (xVar 0) (xCons (xC (.int 3)) xNil)))) (xCons (xCall 2 G__law_draw (xCons (xVar 0) (xCons (xC (.int 4)) xNil))) xNil))))))))))))
theorem sc__law_order : FnScope ["box", "name", "wide", "start", "step", "many", "slack", "amount"] ["box", "name", "wide"] (defScope (top 25)) := ⟨rfl, rfl, rfl, by decide +kernel, rfl, by decide +kernel, by decide +kernel⟩
theorem ok__law_order {k : Nat} {G__law_draw G__law_wide : Fn} (T : Tx mg) {f : Addr} {fd : FuncData} (F : FnP K "_law_order" (top 25) f fd) (hf : mg "_law_order" = some (.ref f)) (h__law_draw : HasFn P w K mg base "_law_draw" 2 k G__law_draw) (h__law_wide : HasFn P w K mg base "_law_wide" 2 k G__law_wide) : HasFn P w K mg base "_law_order" 3 (k + 1) (bodyF 8 (B__law_order G__law_draw G__law_wide)) :=
  def_ok F hf sc__law_order (fun _ _ _ _ _ _ us hl => match us, hl with | [_, _, _], _ => rfl) fun cdv A outer s H E hr =>
    b_cons (s_if (t_truth (d_var (i := 2) rfl (.inl rfl)) (fun _ => rfl)) (b_cons (s_par (i := 3) (j := 4) rfl sc__law_order.nd rfl rfl (by decide) rfl rfl (a_cons (d_ix o_ix (d_lst (a_cons d_int (a_cons d_int (a_cons (d_call h__law_wide hr (takes_of rfl rfl rfl rfl) rfl (a_cons (d_var (i := 0) rfl (.inl rfl)) (a_cons d_int a_nil))) a_nil)))) (d_call h__law_draw hr (takes_of rfl rfl rfl rfl) rfl (a_cons (d_var (i := 0) rfl (.inl rfl)) (a_cons d_int a_nil))) (fun _ _ => rfl)) (a_cons (d_ix o_ix (d_lst (a_cons d_int (a_cons d_int (a_cons (d_op o_add d_int (d_call h__law_draw hr (takes_of rfl rfl rfl rfl) rfl (a_cons (d_var (i := 0) rfl (.inl rfl)) (a_cons d_int a_nil)))) a_nil)))) (d_call h__law_draw hr (takes_of rfl rfl rfl rfl) rfl (a_cons (d_var (i := 0) rfl (.inl rfl)) (a_cons d_int a_nil))) (fun _ _ => rfl)) a_nil)) rfl)
    (b_cons (s_par (i := 5) (j := 6) rfl sc__law_order.nd rfl rfl (by decide) rfl rfl (a_cons (d_ix o_ix (d_lst (a_cons d_int (a_cons d_int (a_cons (d_op o_add d_int (d_call h__law_draw hr (takes_of rfl rfl rfl rfl) rfl (a_cons (d_var (i := 0) rfl (.inl rfl)) (a_cons d_int a_nil)))) a_nil)))) (d_call h__law_draw hr (takes_of rfl rfl rfl rfl) rfl (a_cons (d_var (i := 0) rfl (.inl rfl)) (a_cons d_int a_nil))) (fun _ _ => rfl)) (a_cons (d_ix o_ix (d_lst (a_cons d_int (a_cons d_int (a_cons (d_call h__law_draw hr (takes_of rfl rfl rfl rfl) rfl (a_cons (d_var (i := 0) rfl (.inl rfl)) (a_cons d_int a_nil))) a_nil)))) (d_call h__law_draw hr (takes_of rfl rfl rfl rfl) rfl (a_cons (d_var (i := 0) rfl (.inl rfl)) (a_cons d_int a_nil))) (fun _ _ => rfl)) a_nil)) rfl)
    (b_cons (s_set (i := 7) sc__law_order.nd rfl (.inl rfl) (d_ix o_ix (d_lst (a_cons d_int (a_cons (d_un o_neg d_int) (a_cons d_int (a_cons (d_un o_neg d_int) (a_cons (d_op o_add d_int (d_call h__law_wide hr (takes_of rfl rfl rfl rfl) rfl (a_cons (d_var (i := 0) rfl (.inl rfl)) (a_cons d_int a_nil)))) a_nil)))))) (d_call h__law_draw hr (takes_of rfl rfl rfl rfl) rfl (a_cons (d_var (i := 0) rfl (.inl rfl)) (a_cons d_int a_nil))) (fun _ _ => rfl)))
    (b_one (s_ret (d_tup (a_cons d_str (a_cons (d_var (i := 1) rfl (.inl rfl)) (a_cons (d_var (i := 3) rfl (.inl rfl)) (a_cons (d_var (i := 4) rfl (.inl rfl)) (a_cons (d_var (i := 5) rfl (.inl rfl)) (a_cons (d_var (i := 7) rfl (.inl rfl)) (a_cons (d_ix o_ix (d_lst (a_cons d_str (a_cons d_str (a_cons d_str a_nil)))) (d_call h__law_draw hr (takes_of rfl rfl rfl rfl) rfl (a_cons (d_var (i := 0) rfl (.inl rfl)) (a_cons d_int a_nil))) (fun _ _ => rfl)) (a_cons (d_ix o_ix (d_lst (a_cons d_str (a_cons d_str a_nil))) (d_call h__law_draw hr (takes_of rfl rfl rfl rfl) rfl (a_cons (d_var (i := 0) rfl (.inl rfl)) (a_cons d_int a_nil))) (fun _ _ => rfl)) (a_cons (d_var (i := 6) rfl (.inl rfl)) a_nil))))))))))))))) b_nil)
    (b_cons (s_set (i := 7) sc__law_order.nd rfl (.inl rfl) (d_ix o_ix (d_lst (a_cons d_int (a_cons d_int (a_cons (d_un o_neg d_int) a_nil)))) (d_call h__law_draw hr (takes_of rfl rfl rfl rfl) rfl (a_cons (d_var (i := 0) rfl (.inl rfl)) (a_cons d_int a_nil))) (fun _ _ => rfl)))
    (b_one (s_ret (d_tup (a_cons d_str (a_cons (d_var (i := 1) rfl (.inl rfl)) (a_cons (d_call h__law_draw hr (takes_of rfl rfl rfl rfl) rfl (a_cons (d_var (i := 0) rfl (.inl rfl)) (a_cons d_int a_nil))) (a_cons (d_op o_add d_int (d_call h__law_draw hr (takes_of rfl rfl rfl rfl) rfl (a_cons (d_var (i := 0) rfl (.inl rfl)) (a_cons d_int a_nil)))) (a_cons (d_op o_add d_int (d_call h__law_draw hr (takes_of rfl rfl rfl rfl) rfl (a_cons (d_var (i := 0) rfl (.inl rfl)) (a_cons d_int a_nil)))) (a_cons (d_var (i := 7) rfl (.inl rfl)) (a_cons (d_ix o_ix (d_lst (a_cons d_str (a_cons d_str (a_cons d_str a_nil)))) (d_call h__law_draw hr (takes_of rfl rfl rfl rfl) rfl (a_cons (d_var (i := 0) rfl (.inl rfl)) (a_cons d_int a_nil))) (fun _ _ => rfl)) (a_cons (d_ix o_ix (d_lst (a_cons d_str (a_cons d_str (a_cons d_str a_nil)))) (d_call h__law_draw hr (takes_of rfl rfl rfl rfl) rfl (a_cons (d_var (i := 0) rfl (.inl rfl)) (a_cons d_int a_nil))) (fun _ _ => rfl)) (a_cons (d_call h__law_draw hr (takes_of rfl rfl rfl rfl) rfl (a_cons (d_var (i := 0) rfl (.inl rfl)) (a_cons d_int a_nil))) a_nil)))))))))))))
theorem sc__law_is_name : FnScope ["text", "sign"] ["text"] (defScope (top 26)) := ⟨rfl, rfl, rfl, by decide +kernel, rfl, by decide +kernel, by decide +kernel⟩
theorem ok__law_is_name {k : Nat} (T : Tx mg) {f : Addr} {fd : FuncData} (F : FnP K "_law_is_name" (top 26) f fd) (hf : mg "_law_is_name" = some (.ref f)) : HasFn P w K mg base "_law_is_name" 1 (k + 1) (bodyF 2 (B__law_is_name)) :=
  def_ok F hf sc__law_is_name (fun _ _ _ _ _ _ us hl => match us, hl with | [_], _ => rfl) fun cdv A outer s H E hr =>
    b_one (s_ret (d_and (d_chain o_le o_le d_int (d_callB o_len rfl T.f_len PySem.boot_len (a_cons (d_var (i := 0) rfl (.inl rfl)) a_nil)) d_int) (d_and (d_cmp (op_eqL hr.units) (d_lc (own := [("sign", 1)]) rfl sc__law_is_name.nd (i_any (d_var (i := 0) rfl (.inl rfl))) (blkOk_by (N := ["text", "sign"]) (sc := defScope (top 26)) (by decide +kernel)) (fun _ _ _ _ _ => c_var (i := 1) (by decide) sc__law_is_name.nd rfl (.inl rfl)) (fun _ _ _ _ _ => ts_one (t_cmp (o_notIn hr.units) (d_var (i := 1) rfl (.inl rfl)) d_str (by with_unfolding_all rfl))) (fun _ _ _ _ _ => d_var (i := 1) rfl (.inl rfl))) (d_lst a_nil) (nomark _)) (d_one (d_cmp (o_notIn hr.units) (d_ix o_ix (d_var (i := 0) rfl (.inl rfl)) d_int (fun _ _ => rfl)) d_str (by with_unfolding_all rfl))))))
theorem sc__law_is_whole : FnScope ["thing", "low", "high"] ["thing", "low", "high"] (defScope (top 27)) := ⟨rfl, rfl, rfl, by decide +kernel, rfl, by decide +kernel, by decide +kernel⟩
theorem ok__law_is_whole {k : Nat} (T : Tx mg) {f : Addr} {fd : FuncData} (F : FnP K "_law_is_whole" (top 27) f fd) (hf : mg "_law_is_whole" = some (.ref f)) : HasFn P w K mg base "_law_is_whole" 3 (k + 1) (bodyF 3 (B__law_is_whole)) :=
  def_ok F hf sc__law_is_whole (fun _ _ _ _ _ _ us hl => match us, hl with | [_, _, _], _ => rfl) fun cdv A outer s H E hr =>
    b_one (s_ret (d_and (d_callB o_isi rfl T.f_isinstance (by decide +kernel) (a_cons (d_var (i := 0) rfl (.inl rfl)) (a_cons (d_bltn rfl T.f_int (by decide +kernel)) a_nil))) (d_and (d_not (d_callB o_isi rfl T.f_isinstance (by decide +kernel) (a_cons (d_var (i := 0) rfl (.inl rfl)) (a_cons (d_bltn rfl T.f_bool (by decide +kernel)) a_nil)))) (d_one (d_chain o_le o_le (d_var (i := 1) rfl (.inl rfl)) (d_var (i := 0) rfl (.inl rfl)) (d_var (i := 2) rfl (.inl rfl)))))))
noncomputable def B__law_due_order (G__law_like G__law_is_name G__law_is_whole : Fn) : XS :=
    xSeq (xIfS (xOrT (xNotT (xT (xCB oIsi (xCons (xVar 0) (xCons (xC (.ty "tuple")) xNil))))) (xOrT (xTB (xOp oNe (xCB oLen (xCons (xVar 0) xNil)) (xC (.int 9)))) (xOrT (xNotT (xT (xCall 2 G__law_like (xCons (xOp oIx (xVar 0) (xC (.int 0))) (xCons (xC (.str "order")) xNil))))) (xOrT (xNotT (xT (xCB oIsi (xCons (xOp oIx (xVar 0) (xC (.int 1))) (xCons (xC (.ty "str")) xNil))))) (xNotT (xT (xCall 1 G__law_is_name (xCons (xOp oIx (xVar 0) (xC (.int 1))) xNil)))))))) (xRet (xC (.bl false))) xSkip)
    (xSeq (xAsg (xAnd (xCall 3 G__law_is_whole (xCons (xOp oIx (xVar 0) (xC (.int 2))) (xCons (xC (.int 0)) (xCons (xC (.int 9999)) xNil)))) (xAnd (xCall 3 G__law_is_whole (xCons (xOp oIx (xVar 0) (xC (.int 3))) (xCons (xC (.int 1)) (xCons (xC (.int 999)) xNil)))) (xAnd (xCall 3 G__law_is_whole (xCons (xOp oIx (xVar 0) (xC (.int 4))) (xCons (xC (.int 1)) (xCons (xC (.int 60)) xNil)))) (xCall 3 G__law_is_whole (xCons (xOp oIx (xVar 0) (xC (.int 8))) (xCons (xC (.int 0)) (xCons (xC (.int 99)) xNil))))))) (gVar 1))
    (xSeq (xIfS (xOrT (xNotT (xT (xVar 1))) (xOrT (xNotT (xT (xCall 3 G__law_is_whole (xCons (xOp oIx (xVar 0) (xC (.int 5))) (xCons (xUn oNeg (xC (.int 99999999))) (xCons (xC (.int 99999999)) xNil)))))) (xTB (xOp oEq (xOp oIx (xVar 0) (xC (.int 5))) (xC (.int 0)))))) (xRet (xC (.bl false))) xSkip)
    (xRet (xOp oEq (xLc (xIt (xTup (xCons (xC (.int 6)) (xCons (xC (.int 7)) xNil)))) (cVar 2) (xOrT (xNotT (xT (xCB oIsi (xCons (xOp oIx (xVar 0) (xVar 2)) (xCons (xC (.ty "str")) xNil))))) (xAndT (xTB (xOp oNe (xOp oIx (xVar 0) (xVar 2)) (xC (.str "")))) (xNotT (xT (xCall 1 G__law_is_name (xCons (xOp oIx (xVar 0) (xVar 2)) xNil)))))) (xC (.int 1)) [2]) (xLst xNil)))))
theorem sc__law_due_order : FnScope ["thing", "right", "k"] ["thing"] (defScope (top 28)) := ⟨rfl, rfl, rfl, by decide +kernel, rfl, by decide +kernel, by decide +kernel⟩
theorem ok__law_due_order {k : Nat} {G__law_like G__law_is_name G__law_is_whole : Fn} (T : Tx mg) {f : Addr} {fd : FuncData} (F : FnP K "_law_due_order" (top 28) f fd) (hf : mg "_law_due_order" = some (.ref f)) (h__law_like : HasFn P w K mg base "_law_like" 2 k G__law_like) (h__law_is_name : HasFn P w K mg base "_law_is_name" 1 k G__law_is_name) (h__law_is_whole : HasFn P w K mg base "_law_is_whole" 3 k G__law_is_whole) : HasFn P w K mg base "_law_due_order" 1 (k + 1) (bodyF 3 (B__law_due_order G__law_like G__law_is_name G__law_is_whole)) :=
  def_ok F hf sc__law_due_order (fun _ _ _ _ _ _ us hl => match us, hl with | [_], _ => rfl) fun cdv A outer s H E hr =>
    b_cons (s_if (WOk.t (w_or (t_not (t_truth (d_callB o_isi rfl T.f_isinstance (by decide +kernel) (a_cons (d_var (i := 0) rfl (.inr (.inl rfl))) (a_cons (d_bltn rfl T.f_tuple (by decide +kernel)) a_nil))) (fun _ => rfl))) (w_or (t_cmp (op_neL hr.units) (d_callB o_len rfl T.f_len PySem.boot_len (a_cons (d_var (i := 0) rfl (.inr (.inl rfl))) a_nil)) d_int (nomark _)) (w_or (t_not (t_truth (d_call h__law_like hr (takes_of rfl rfl rfl rfl) rfl (a_cons (d_ix o_ix (d_var (i := 0) rfl (.inr (.inl rfl))) d_int (fun _ _ => rfl)) (a_cons d_str a_nil))) (fun _ => rfl))) (w_or (t_not (t_truth (d_callB o_isi rfl T.f_isinstance (by decide +kernel) (a_cons (d_ix o_ix (d_var (i := 0) rfl (.inr (.inl rfl))) d_int (fun _ _ => rfl)) (a_cons (d_bltn rfl T.f_str (by decide +kernel)) a_nil))) (fun _ => rfl))) (w_or1 (t_not (t_truth (d_call h__law_is_name hr (takes_of rfl rfl rfl rfl) rfl (a_cons (d_ix o_ix (d_var (i := 0) rfl (.inr (.inl rfl))) d_int (fun _ _ => rfl)) a_nil)) (fun _ => rfl))))))))) (b_one (s_ret d_bl)) b_nil)
    (b_cons (s_set (i := 1) sc__law_due_order.nd rfl (.inl rfl) (d_and (d_call h__law_is_whole hr (takes_of rfl rfl rfl rfl) rfl (a_cons (d_ix o_ix (d_var (i := 0) rfl (.inr (.inl rfl))) d_int (fun _ _ => rfl)) (a_cons d_int (a_cons d_int a_nil)))) (d_and (d_call h__law_is_whole hr (takes_of rfl rfl rfl rfl) rfl (a_cons (d_ix o_ix (d_var (i := 0) rfl (.inr (.inl rfl))) d_int (fun _ _ => rfl)) (a_cons d_int (a_cons d_int a_nil)))) (d_and (d_call h__law_is_whole hr (takes_of rfl rfl rfl rfl) rfl (a_cons (d_ix o_ix (d_var (i := 0) rfl (.inr (.inl rfl))) d_int (fun _ _ => rfl)) (a_cons d_int (a_cons d_int a_nil)))) (d_one (d_call h__law_is_whole hr (takes_of rfl rfl rfl rfl) rfl (a_cons (d_ix o_ix (d_var (i := 0) rfl (.inr (.inl rfl))) d_int (fun _ _ => rfl)) (a_cons d_int (a_cons d_int a_nil)))))))))
    (b_cons (s_if (WOk.t (w_or (t_not (t_truth (d_var (i := 1) rfl (.inl rfl)) (fun _ => rfl))) (w_or (t_not (t_truth (d_call h__law_is_whole hr (takes_of rfl rfl rfl rfl) rfl (a_cons (d_ix o_ix (d_var (i := 0) rfl (.inr (.inl rfl))) d_int (fun _ _ => rfl)) (a_cons (d_un o_neg d_int) (a_cons d_int a_nil)))) (fun _ => rfl))) (w_or1 (t_cmp (op_eqL hr.units) (d_ix o_ix (d_var (i := 0) rfl (.inr (.inl rfl))) d_int (fun _ _ => rfl)) d_int (nomark _)))))) (b_one (s_ret d_bl)) b_nil)
    (b_one (s_ret (d_cmp (op_eqL hr.units) (d_lc (own := [("k", 2)]) rfl sc__law_due_order.nd (i_any (d_tup (a_cons d_int (a_cons d_int a_nil)))) (blkOk_by (N := ["thing", "right", "k"]) (sc := defScope (top 28)) (by decide +kernel)) (fun _ _ _ _ _ => c_var (i := 2) (by decide) sc__law_due_order.nd rfl (.inl rfl)) (fun _ _ _ _ _ => ts_one (WOk.t (w_or (t_not (t_truth (d_callB o_isi rfl T.f_isinstance (by decide +kernel) (a_cons (d_ix o_ix (d_var (i := 0) rfl (.inr (.inl rfl))) (d_var (i := 2) rfl (.inl rfl)) (fun _ _ => rfl)) (a_cons (d_bltn rfl T.f_str (by decide +kernel)) a_nil))) (fun _ => rfl))) (w_or1 (WOk.t (w_and (t_cmp (op_neL hr.units) (d_ix o_ix (d_var (i := 0) rfl (.inr (.inl rfl))) (d_var (i := 2) rfl (.inl rfl)) (fun _ _ => rfl)) d_str (nomark _)) (w_and1 (t_not (t_truth (d_call h__law_is_name hr takes0 rfl (a_cons (d_ix o_ix (d_var (i := 0) rfl (.inr (.inl rfl))) (d_var (i := 2) rfl (.inl rfl)) (fun _ _ => rfl)) a_nil)) (fun _ => rfl)))))))))) (fun _ _ _ _ _ => d_int)) (d_lst a_nil) (nomark _))))))
noncomputable def B__law_due_orders (G__law_due_order : Fn) : XS :=
    xSeq (xIfS (xOrT (xNotT (xT (xCB oIsi (xCons (xVar 0) (xCons (xC (.ty "tuple")) xNil))))) (xOrT (xTB (xOp oGt (xCB oLen (xCons (xVar 0) xNil)) (xC (.int 12)))) (xTB (xOp oNe (xLc (xIt (xVar 0)) (cVar 1) (xNotT (xT (xCall 1 G__law_due_order (xCons (xVar 1) xNil)))) (xC (.int 1)) [1]) (xLst xNil))))) (xRet (xC (.bl false))) xSkip)
    (xRet (xOp oEq (xLenSet (xLc (xIt (xVar 0)) (cVar 1) xYes (xOp oIx (xVar 1) (xC (.int 1))) [1])) (xCB oLen (xCons (xVar 0) xNil))))
theorem sc__law_due_orders : FnScope ["thing", "order"] ["thing"] (defScope (top 29)) := ⟨rfl, rfl, rfl, by decide +kernel, rfl, by decide +kernel, by decide +kernel⟩
theorem ok__law_due_orders {k : Nat} {G__law_due_order : Fn} (T : Tx mg) {f : Addr} {fd : FuncData} (F : FnP K "_law_due_orders" (top 29) f fd) (hf : mg "_law_due_orders" = some (.ref f)) (h__law_due_order : HasFn P w K mg base "_law_due_order" 1 k G__law_due_order) : HasFn P w K mg base "_law_due_orders" 1 (k + 1) (bodyF 2 (B__law_due_orders G__law_due_order)) :=
  def_ok F hf sc__law_due_orders (fun _ _ _ _ _ _ us hl => match us, hl with | [_], _ => rfl) fun cdv A outer s H E hr =>
    b_cons (s_if (WOk.t (w_or (t_not (t_truth (d_callB o_isi rfl T.f_isinstance (by decide +kernel) (a_cons (d_var (i := 0) rfl (.inl rfl)) (a_cons (d_bltn rfl T.f_tuple (by decide +kernel)) a_nil))) (fun _ => rfl))) (w_or (t_cmp o_gt (d_callB o_len rfl T.f_len PySem.boot_len (a_cons (d_var (i := 0) rfl (.inl rfl)) a_nil)) d_int (nomark _)) (w_or1 (t_cmp (op_neL hr.units) (d_lc (own := [("order", 1)]) rfl sc__law_due_orders.nd (i_any (d_var (i := 0) rfl (.inl rfl))) (blkOk_by (N := ["thing", "order"]) (sc := defScope (top 29)) (by decide +kernel)) (fun _ _ _ _ _ => c_var (i := 1) (by decide) sc__law_due_orders.nd rfl (.inl rfl)) (fun _ _ _ _ _ => ts_one (t_not (t_truth (d_call h__law_due_order hr takes0 rfl (a_cons (d_var (i := 1) rfl (.inl rfl)) a_nil)) (fun _ => rfl)))) (fun _ _ _ _ _ => d_int)) (d_lst a_nil) (nomark _)))))) (b_one (s_ret d_bl)) b_nil)
    (b_one (s_ret (d_cmp (op_eqL hr.units) (d_lenSet rfl T.f_len rfl T.f_set (d_lc (own := [("order", 1)]) rfl sc__law_due_orders.nd (i_any (d_var (i := 0) rfl (.inl rfl))) (blkOk_by (N := ["thing", "order"]) (sc := defScope (top 29)) (by decide +kernel)) (fun _ _ _ _ _ => c_var (i := 1) (by decide) sc__law_due_orders.nd rfl (.inl rfl)) (fun _ _ _ _ _ => ts_nil) (fun _ _ _ _ _ => d_ix o_ix (d_var (i := 1) rfl (.inl rfl)) d_int (fun _ _ => rfl)))) (d_callB o_len rfl T.f_len PySem.boot_len (a_cons (d_var (i := 0) rfl (.inl rfl)) a_nil)) (nomark _))))
noncomputable def B__law_other (G__law_draw : Fn) : XS :=
    xSeq (xIfS (xT (xCB oIsi (xCons (xVar 1) (xCons (xC (.ty "tuple")) xNil)))) (xSeq (xAsg (xCB oTuple (xCons (xLc (xRng1 (xCons (xCB oLen (xCons (xVar 1) xNil)) xNil)) (cVar 3) xYes (xOp oIx (xVar 1) (xOp oSub (xOp oSub (xCB oLen (xCons (xVar 1) xNil)) (xC (.int 1))) (xVar 3))) [3]) xNil)) (gVar 2))
    (xRet (xOp oIx (xLst (xCons (xCB oList (xCons (xVar 1) xNil)) (xCons (xOp oAdd (xVar 1) (xSl oSl (xVar 1) xNoP (xPart (xC (.int 1))))) (xCons (xSl oSl (xVar 1) (xPart (xC (.int 1))) xNoP) (xCons (xC .non) (xCons (xTup xNil) (xCons (xVar 2) xNil))))))) (xCall 2 G__law_draw (xCons (xVar 0) (xCons (xC (.int 6)) xNil)))))) xSkip)
    (xSeq (xIfS (xT (xCB oIsi (xCons (xVar 1) (xCons (xC (.ty "str")) xNil)))) (xRet (xOp oIx (xLst (xCons (xOp oAdd (xVar 1) (xC (.str "x"))) (xCons (xC (.str "")) (xCons (xC (.str "9a")) (xCons (xC .non) (xCons (xC (.str "order")) (xCons (xC (.str "A")) xNil))))))) (xCall 2 G__law_draw (xCons (xVar 0) (xCons (xC (.int 6)) xNil))))) xSkip)
    (xRet (xOp oIx (xLst (xCons (xOp oAdd (xVar 1) (xC (.int 1))) (xCons (xOp oSub (xVar 1) (xC (.int 1))) (xCons (xOp oSub (xC (.int 0)) (xVar 1)) (xCons (xC (.bl true)) (xCons (xC (.int 0)) (xCons (xC (.int 10000)) (xCons (xC (.int 60)) (xCons (xC (.int 61)) (xCons (xC (.int 99)) (xCons (xC (.int 100)) (xCons (xC .non) (xCons (xCB oStr (xCons (xVar 1) xNil)) (xCons (xC (.int 1000)) xNil)))))))))))))) (xCall 2 G__law_draw (xCons (xVar 0) (xCons (xC (.int 13)) xNil))))))
theorem sc__law_other : FnScope ["box", "thing", "turned", "k"] ["box", "thing"] (defScope (top 30)) := ⟨rfl, rfl, rfl, by decide +kernel, rfl, by decide +kernel, by decide +kernel⟩
theorem ok__law_other {k : Nat} {G__law_draw : Fn} (T : Tx mg) {f : Addr} {fd : FuncData} (F : FnP K "_law_other" (top 30) f fd) (hf : mg "_law_other" = some (.ref f)) (h__law_draw : HasFn P w K mg base "_law_draw" 2 k G__law_draw) : HasFn P w K mg base "_law_other" 2 (k + 1) (bodyF 4 (B__law_other G__law_draw)) :=
  def_ok F hf sc__law_other (fun _ _ _ _ _ _ us hl => match us, hl with | [_, _], _ => rfl) fun cdv A outer s H E hr =>
    b_cons (s_if (t_truth (d_callB o_isi rfl T.f_isinstance (by decide +kernel) (a_cons (d_var (i := 1) rfl (.inr (.inl rfl))) (a_cons (d_bltn rfl T.f_tuple (by decide +kernel)) a_nil))) (fun _ => rfl)) (b_cons (s_set (i := 2) sc__law_other.nd rfl (.inl rfl) (d_callTy o_tuple rfl T.f_tuple (by decide +kernel) (a_cons (d_lc (own := [("k", 3)]) rfl sc__law_other.nd (i_rng1 rfl T.f_range (a_cons (d_callB o_len rfl T.f_len PySem.boot_len (a_cons (d_var (i := 1) rfl (.inr (.inl rfl))) a_nil)) a_nil)) (blkOk_by (N := ["box", "thing", "turned", "k"]) (sc := defScope (top 30)) (by decide +kernel)) (fun _ _ _ _ _ => c_var (i := 3) (by decide) sc__law_other.nd rfl (.inl rfl)) (fun _ _ _ _ _ => ts_nil) (fun _ _ _ _ _ => d_ix o_ix (d_var (i := 1) rfl (.inr (.inl rfl))) (d_op o_sub (d_op o_sub (d_callB o_len rfl T.f_len PySem.boot_len (a_cons (d_var (i := 1) rfl (.inr (.inl rfl))) a_nil)) d_int) (d_var (i := 3) rfl (.inl rfl))) (fun _ _ => rfl))) a_nil)))
    (b_one (s_ret (d_ix o_ix (d_lst (a_cons (d_callTy o_list rfl T.f_list (by decide +kernel) (a_cons (d_var (i := 1) rfl (.inr (.inl rfl))) a_nil)) (a_cons (d_op o_add (d_var (i := 1) rfl (.inr (.inl rfl))) (d_slice (d_var (i := 1) rfl (.inr (.inl rfl))) p_none (p_some d_int))) (a_cons (d_slice (d_var (i := 1) rfl (.inr (.inl rfl))) (p_some d_int) p_none) (a_cons d_non (a_cons (d_tup a_nil) (a_cons (d_var (i := 2) rfl (.inl rfl)) a_nil))))))) (d_call h__law_draw hr (takes_of rfl rfl rfl rfl) rfl (a_cons (d_var (i := 0) rfl (.inl rfl)) (a_cons d_int a_nil))) (fun _ _ => rfl))))) b_nil)
    (b_cons (s_if (t_truth (d_callB o_isi rfl T.f_isinstance (by decide +kernel) (a_cons (d_var (i := 1) rfl (.inr (.inl rfl))) (a_cons (d_bltn rfl T.f_str (by decide +kernel)) a_nil))) (fun _ => rfl)) (b_one (s_ret (d_ix o_ix (d_lst (a_cons (d_op o_add (d_var (i := 1) rfl (.inr (.inl rfl))) d_str) (a_cons d_str (a_cons d_str (a_cons d_non (a_cons d_str (a_cons d_str a_nil))))))) (d_call h__law_draw hr (takes_of rfl rfl rfl rfl) rfl (a_cons (d_var (i := 0) rfl (.inl rfl)) (a_cons d_int a_nil))) (fun _ _ => rfl)))) b_nil)
    (b_one (s_ret (d_ix o_ix (d_lst (a_cons (d_op o_add (d_var (i := 1) rfl (.inr (.inl rfl))) d_int) (a_cons (d_op o_sub (d_var (i := 1) rfl (.inr (.inl rfl))) d_int) (a_cons (d_op o_sub d_int (d_var (i := 1) rfl (.inr (.inl rfl)))) (a_cons d_bl (a_cons d_int (a_cons d_int (a_cons d_int (a_cons d_int (a_cons d_int (a_cons d_int (a_cons d_non (a_cons (d_callTy o_str rfl T.f_str (by decide +kernel) (a_cons (d_var (i := 1) rfl (.inr (.inl rfl))) a_nil)) (a_cons d_int a_nil)))))))))))))) (d_call h__law_draw hr (takes_of rfl rfl rfl rfl) rfl (a_cons (d_var (i := 0) rfl (.inl rfl)) (a_cons d_int a_nil))) (fun _ _ => rfl)))))
noncomputable def B__law_changed (G__law_draw G__law_other G__law_changed : Fn) : XS :=
    xSeq (xIfS (xOrT (xNotT (xT (xCB oIsi (xCons (xVar 1) (xCons (xC (.ty "tuple")) xNil))))) (xOrT (xTB (xOp oEq (xVar 1) (xTup xNil))) (xTB (xOp oEq (xCall 2 G__law_draw (xCons (xVar 0) (xCons (xC (.int 9)) xNil))) (xC (.int 0)))))) (xRet (xCall 2 G__law_other (xCons (xVar 0) (xCons (xVar 1) xNil)))) xSkip)
    (xSeq (xAsg (xOp oMod (xCall 2 G__law_draw (xCons (xVar 0) (xCons (xC (.int 900)) xNil))) (xCB oLen (xCons (xVar 1) xNil))) (gVar 2))
    (xRet (xOp oAdd (xOp oAdd (xSl oSl (xVar 1) xNoP (xPart (xVar 2))) (xTup (xCons (xCall 2 G__law_changed (xCons (xVar 0) (xCons (xOp oIx (xVar 1) (xVar 2)) xNil))) xNil))) (xSl oSl (xVar 1) (xPart (xOp oAdd (xVar 2) (xC (.int 1)))) xNoP))))
theorem sc__law_changed : FnScope ["box", "thing", "at"] ["box", "thing"] (defScope (top 31)) := ⟨rfl, rfl, rfl, by decide +kernel, rfl, by decide +kernel, by decide +kernel⟩
theorem ok__law_changed {k : Nat} {G__law_draw G__law_other G__law_changed : Fn} (T : Tx mg) {f : Addr} {fd : FuncData} (F : FnP K "_law_changed" (top 31) f fd) (hf : mg "_law_changed" = some (.ref f)) (h__law_draw : HasFn P w K mg base "_law_draw" 2 k G__law_draw) (h__law_other : HasFn P w K mg base "_law_other" 2 k G__law_other) (h__law_changed : HasFn P w K mg base "_law_changed" 2 k G__law_changed) : HasFn P w K mg base "_law_changed" 2 (k + 1) (bodyF 3 (B__law_changed G__law_draw G__law_other G__law_changed)) :=
  def_ok F hf sc__law_changed (fun _ _ _ _ _ _ us hl => match us, hl with | [_, _], _ => rfl) fun cdv A outer s H E hr =>
    b_cons (s_if (WOk.t (w_or (t_not (t_truth (d_callB o_isi rfl T.f_isinstance (by decide +kernel) (a_cons (d_var (i := 1) rfl (.inl rfl)) (a_cons (d_bltn rfl T.f_tuple (by decide +kernel)) a_nil))) (fun _ => rfl))) (w_or (t_cmp (op_eqL hr.units) (d_var (i := 1) rfl (.inl rfl)) (d_tup a_nil) (nomark _)) (w_or1 (t_cmp (op_eqL hr.units) (d_call h__law_draw hr (takes_of rfl rfl rfl rfl) rfl (a_cons (d_var (i := 0) rfl (.inl rfl)) (a_cons d_int a_nil))) d_int (nomark _)))))) (b_one (s_ret (d_call h__law_other hr (takes_of rfl rfl rfl rfl) rfl (a_cons (d_var (i := 0) rfl (.inl rfl)) (a_cons (d_var (i := 1) rfl (.inl rfl)) a_nil))))) b_nil)
    (b_cons (s_set (i := 2) sc__law_changed.nd rfl (.inl rfl) (d_op o_mod (d_call h__law_draw hr (takes_of rfl rfl rfl rfl) rfl (a_cons (d_var (i := 0) rfl (.inl rfl)) (a_cons d_int a_nil))) (d_callB o_len rfl T.f_len PySem.boot_len (a_cons (d_var (i := 1) rfl (.inl rfl)) a_nil))))
    (b_one (s_ret (d_op o_add (d_op o_add (d_slice (d_var (i := 1) rfl (.inl rfl)) p_none (p_some (d_var (i := 2) rfl (.inl rfl)))) (d_tup (a_cons (d_call h__law_changed hr (takes_of rfl rfl rfl rfl) rfl (a_cons (d_var (i := 0) rfl (.inl rfl)) (a_cons (d_ix o_ix (d_var (i := 1) rfl (.inl rfl)) (d_var (i := 2) rfl (.inl rfl)) (fun _ _ => rfl)) a_nil))) a_nil))) (d_slice (d_var (i := 1) rfl (.inl rfl)) (p_some (d_op o_add (d_var (i := 2) rfl (.inl rfl)) d_int)) p_none)))))
theorem err__law_changed (k : Nat) {f : Addr} {fd : FuncData} (F : FnP K "_law_changed" (top 31) f fd) (hf : mg "_law_changed" = some (.ref f)) : HasFn P w K mg base "_law_changed" 2 k (fun _ _ => .err) := has_err (ps := ["box", "thing"]) F hf (fun _ _ _ _ _ _ us hl => match us, hl with | [_, _], _ => rfl)
noncomputable def B_law (G__law_digits G__law_draw G__law_order G__law_changed G__law_like G__law_due_orders G_is_orders G__law_due_order G_is_order : Fn) : XS :=
    xSeq (xAsg (xLst (xCons (xCall 3 G__law_digits (xCons (xVar 0) (xCons (xC (.int 0)) (xCons (xC (.int 63)) xNil)))) (xCons (xC (.int 0)) xNil))) (gVar 1))
    (xSeq (xFor (xRng1 (xCons (xC (.int 6)) xNil)) (gVar 2) (xSeq (xAsg (xCB oTuple (xCons (xLc (xRng1 (xCons (xOp oIx (xLst (xCons (xC (.int 0)) (xCons (xC (.int 1)) (xCons (xC (.int 2)) (xCons (xC (.int 12)) (xCons (xC (.int 13)) xNil)))))) (xCall 2 G__law_draw (xCons (xVar 1) (xCons (xC (.int 5)) xNil)))) xNil)) (cVar 6) xYes (xCall 3 G__law_order (xCons (xVar 1) (xCons (xOp oAdd (xC (.str "n")) (xCB oStr (xCons (xVar 6) xNil))) (xCons (xC (.bl true)) xNil)))) [6]) xNil)) (gVar 3))
    (xSeq (xFor (xIt (xTup (xCons (xVar 3) (xCons (xCall 2 G__law_changed (xCons (xVar 1) (xCons (xVar 3) xNil))) xNil)))) (gVar 4) (xIfS (xNotT (xT (xCall 2 G__law_like (xCons (xCall 1 G_is_orders (xCons (xVar 4) xNil)) (xCons (xCall 1 G__law_due_orders (xCons (xVar 4) xNil)) xNil))))) (xRet (xC (.bl false))) xSkip))
    (xSeq (xAsg (xCall 3 G__law_order (xCons (xVar 1) (xCons (xC (.str "rent")) (xCons (xC (.bl true)) xNil)))) (gVar 5))
    (xFor (xIt (xTup (xCons (xVar 5) (xCons (xCall 2 G__law_changed (xCons (xVar 1) (xCons (xVar 5) xNil))) (xCons (xCall 2 G__law_changed (xCons (xVar 1) (xCons (xVar 5) xNil))) xNil))))) (gVar 4) (xIfS (xNotT (xT (xCall 2 G__law_like (xCons (xCall 1 G_is_order (xCons (xVar 4) xNil)) (xCons (xCall 1 G__law_due_order (xCons (xVar 4) xNil)) xNil))))) (xRet (xC (.bl false))) xSkip))))))
    (xRet (xC (.bl true))))
theorem sc_law : FnScope ["script", "box", "turn", "orders", "thing", "order", "k"] ["script"] (defScope (top 32)) := ⟨rfl, rfl, rfl, by decide +kernel, rfl, by decide +kernel, by decide +kernel⟩
theorem fn_law {k : Nat} {G__law_digits G__law_draw G__law_order G__law_changed G__law_like G__law_due_orders G_is_orders G__law_due_order G_is_order : Fn} (T : Tx mg) {f : Addr} {fd : FuncData} (F : FnP K "law" (top 32) f fd) (h__law_digits : HasFn P w K mg base "_law_digits" 3 k G__law_digits) (h__law_draw : HasFn P w K mg base "_law_draw" 2 k G__law_draw) (h__law_order : HasFn P w K mg base "_law_order" 3 k G__law_order) (h__law_changed : HasFn P w K mg base "_law_changed" 2 k G__law_changed) (h__law_like : HasFn P w K mg base "_law_like" 2 k G__law_like) (h__law_due_orders : HasFn P w K mg base "_law_due_orders" 1 k G__law_due_orders) (h_is_orders : HasFn P w K mg base "is_orders" 1 k G_is_orders) (h__law_due_order : HasFn P w K mg base "_law_due_order" 1 k G__law_due_order) (h_is_order : HasFn P w K mg base "is_order" 1 k G_is_order) : FnOk P w K mg base (L2.CX P w) (k + 1) f fd ["script"] (spF K mg 1 (bodyF 7 (B_law G__law_digits G__law_draw G__law_order G__law_changed G__law_like G__law_due_orders G_is_orders G__law_due_order G_is_order))) :=
  def_fn F sc_law (fun _ _ _ _ _ _ us hl => match us, hl with | [_], _ => rfl) fun cdv A outer s H E hr =>
    b_cons (s_set (i := 1) sc_law.nd rfl (.inr rfl) (d_lst (a_cons (d_call h__law_digits hr (takes_of rfl rfl rfl rfl) rfl (a_cons (d_var (i := 0) rfl (.inl rfl)) (a_cons d_int (a_cons d_int a_nil)))) (a_cons d_int a_nil))))
    (b_cons (s_for (passes_of rfl) rfl (i_rng1 rfl T.f_range (a_cons d_int a_nil)) (g_var (i := 2) sc_law.nd rfl (.inl rfl)) (b_cons (s_set (i := 3) sc_law.nd rfl (.inl rfl) (d_callTy o_tuple rfl T.f_tuple (by decide +kernel) (a_cons (d_lc (own := [("k", 6)]) rfl sc_law.nd (i_rng1 rfl T.f_range (a_cons (d_ix o_ix (d_lst (a_cons d_int (a_cons d_int (a_cons d_int (a_cons d_int (a_cons d_int a_nil)))))) (d_call h__law_draw hr (takes_of rfl rfl rfl rfl) rfl (a_cons (d_var (i := 1) rfl (.inr (.inl rfl))) (a_cons d_int a_nil))) (fun _ _ => rfl)) a_nil)) (blkOk_by (N := ["script", "box", "turn", "orders", "thing", "order", "k"]) (sc := defScope (top 32)) (by decide +kernel)) (fun _ _ _ _ _ => c_var (i := 6) (by decide) sc_law.nd rfl (.inl rfl)) (fun _ _ _ _ _ => ts_nil) (fun _ _ _ _ _ => d_call h__law_order hr takes0 rfl (a_cons (d_var (i := 1) rfl (.inr (.inl rfl))) (a_cons (d_op o_add d_str (d_callTy o_str rfl T.f_str (by decide +kernel) (a_cons (d_var (i := 6) rfl (.inl rfl)) a_nil))) (a_cons d_bl a_nil))))) a_nil)))
    (b_cons (s_for (passes_of rfl) rfl (i_any (d_tup (a_cons (d_var (i := 3) rfl (.inl rfl)) (a_cons (d_call h__law_changed hr (takes_of rfl rfl rfl rfl) rfl (a_cons (d_var (i := 1) rfl (.inr (.inl rfl))) (a_cons (d_var (i := 3) rfl (.inl rfl)) a_nil))) a_nil)))) (g_var (i := 4) sc_law.nd rfl (.inl rfl)) (b_one (s_if (t_not (t_truth (d_call h__law_like hr (takes_of rfl rfl rfl rfl) rfl (a_cons (d_call h_is_orders hr (takes_of rfl rfl rfl rfl) rfl (a_cons (d_var (i := 4) rfl (.inl rfl)) a_nil)) (a_cons (d_call h__law_due_orders hr (takes_of rfl rfl rfl rfl) rfl (a_cons (d_var (i := 4) rfl (.inl rfl)) a_nil)) a_nil))) (fun _ => rfl))) (b_one (s_ret d_bl)) b_nil)))
    (b_cons (s_set (i := 5) sc_law.nd rfl (.inl rfl) (d_call h__law_order hr (takes_of rfl rfl rfl rfl) rfl (a_cons (d_var (i := 1) rfl (.inr (.inl rfl))) (a_cons d_str (a_cons d_bl a_nil)))))
    (b_one (s_for (passes_of rfl) rfl (i_any (d_tup (a_cons (d_var (i := 5) rfl (.inl rfl)) (a_cons (d_call h__law_changed hr (takes_of rfl rfl rfl rfl) rfl (a_cons (d_var (i := 1) rfl (.inr (.inl rfl))) (a_cons (d_var (i := 5) rfl (.inl rfl)) a_nil))) (a_cons (d_call h__law_changed hr (takes_of rfl rfl rfl rfl) rfl (a_cons (d_var (i := 1) rfl (.inr (.inl rfl))) (a_cons (d_var (i := 5) rfl (.inl rfl)) a_nil))) a_nil))))) (g_var (i := 4) sc_law.nd rfl (.inl rfl)) (b_one (s_if (t_not (t_truth (d_call h__law_like hr (takes_of rfl rfl rfl rfl) rfl (a_cons (d_call h_is_order hr (takes_of rfl rfl rfl rfl) rfl (a_cons (d_var (i := 4) rfl (.inl rfl)) a_nil)) (a_cons (d_call h__law_due_order hr (takes_of rfl rfl rfl rfl) rfl (a_cons (d_var (i := 4) rfl (.inl rfl)) a_nil)) a_nil))) (fun _ => rfl))) (b_one (s_ret d_bl)) b_nil))))))))
    (b_one (s_ret d_bl)))
end
end K43
namespace K43
open PySem PySem.Spec PyProof.Rows Dx
section
variable {S : Sto} {n : Nat} {d : D} {Pd : D → Sto → Prop} {E : Exn → Sto → Prop}
noncomputable abbrev fIsDay : Fn := bodyF 1 (B_is_day fWithin)
theorem is_day_spec (hv : Vd S n d) (h : Pd (.bl (wholeD d 0 9999)) S) : (fIsDay [d] S).wp Pd E := by
  rw [sat_bodyF]
  unfold B_is_day
  simp only [sat_ok, sat_ex, sat_err, sat_bind_eq, ofP_some, ofP_none, sat_of_eq, st_nx, st_rt, st_bk, st_ct, st_ex, st_err, st_then, seqP_nx, seqP_rt, seqP_bk, seqP_ct, seqP_ex, st_xSeq, endP_nx, endP_rt, endP_ex, endP_bk, endP_ct, varP_some, varP_none, varP_non, sat_xVar, sat_xC, sat_xOp, sat_xUn, blP_bl, sat_xTB, trP_some, trP_none, sat_xT, sat_xAndT, sat_xOrT, sat_xNotT, sat_xAnd, sat_xOr, sat_xNot, sat_xIf, sat_xNil, sat_xCons, sat_xTup, sat_xLst, sat_xChain, sat_xCall, sat_xCB, sat_xM0, sat_xM, intP_int, sat_xNoP, sat_xPart, sat_xSl, st_xSkip, st_xBrk, st_xCnt, st_xDrop, st_xRet, st_xRetN, st_xIfS, tgP_some, tgP_none, st_xAsg, g_gVar, g_gNil, g_gCons, g_gTup, augP_some, augP_none, st_xAug, parP_two, st_xPar, loopP_nx, loopP_ct, loopP_bk, loopP_rt, loopP_ex, st_xFor, itP_some, itP_none, sat_xIt, sat_xLc, sat_xItA, sat_xYes, sat_xLenSet, oAdd_ii, oSub_ii, oMul_ii, oFdiv_ii, oMod_ii, oNeg_i, oLt_ii, oLe_ii, oGt_ii, oGe_ii, oInt_i, oIx_ti, oIx_qi, oLen_t, oLen_q, oLen_s, atI_0, atI_1, atI_2, atI_3, atI_4, atI_5, atI_6, atI_7, atI_8, atI_9, atI_10, atI_11, atI_12, atI_13, atI_14, List.getElem?_cons_zero, List.getElem?_cons_succ, List.map_cons, List.map_nil, List.cons_append, List.nil_append, List.length_cons, List.length_nil, List.set_cons_zero, List.set_cons_succ, List.replicate, Option.map_some, Option.map_none, Option.bind_some, Option.bind_none, if_true, if_false, Nat.reduceAdd, Nat.reduceSub, Nat.reduceLT, Nat.reduceLeDiff, Nat.reduceEqDiff, Int.reduceLT, Int.reduceLE, Int.reduceNeg, Int.reduceEq, Bool.false_eq_true, Bool.true_eq_false, reduceIte, reduceCtorEq, Bool.not_true, Bool.not_false, decide_eq_true_eq, Nat.zero_lt_succ, and_true, true_and, and_self, and_false, false_and, isi_non_tuple, isi_non_int, isi_non_str, isi_non_bool, isi_non_list, type_non, isi_bl_tuple, isi_bl_int, isi_bl_str, isi_bl_bool, isi_bl_list, type_bl, isi_int_tuple, isi_int_int, isi_int_str, isi_int_bool, isi_int_list, type_int, isi_str_tuple, isi_str_int, isi_str_str, isi_str_bool, isi_str_list, type_str, isi_tup_tuple, isi_tup_int, isi_tup_str, isi_tup_bool, isi_tup_list, type_tup, is_int_int, isn_int_int, is_int_str, isn_int_str, is_int_tuple, isn_int_tuple, is_int_list, isn_int_list, is_int_bool, isn_int_bool, is_str_int, isn_str_int, is_str_str, isn_str_str, is_str_tuple, isn_str_tuple, is_str_list, isn_str_list, is_str_bool, isn_str_bool, is_tuple_int, isn_tuple_int, is_tuple_str, isn_tuple_str, is_tuple_tuple, isn_tuple_tuple, is_tuple_list, isn_tuple_list, is_tuple_bool, isn_tuple_bool, is_list_int, isn_list_int, is_list_str, isn_list_str, is_list_tuple, isn_list_tuple, is_list_list, isn_list_list, is_list_bool, isn_list_bool, is_bool_int, isn_bool_int, is_bool_str, isn_bool_str, is_bool_tuple, isn_bool_tuple, is_bool_list, isn_bool_list, is_bool_bool, isn_bool_bool, is_NoneType_int, isn_NoneType_int, is_NoneType_str, isn_NoneType_str, is_NoneType_tuple, isn_NoneType_tuple, is_NoneType_list, isn_NoneType_list, is_NoneType_bool, isn_NoneType_bool, isN_non, isnN_non, isB_non, isnB_non, isN_bl, isnN_bl, isB_bl, isnB_bl, isN_int, isnN_int, isB_int, isnB_int, isN_str, isnN_str, isB_str, isnB_str, isN_tup, isnN_tup, isB_tup, isnB_tup, eq_non_non, eq_non_bl, ne_non_bl, eq_non_int, ne_non_int, eq_non_str, ne_non_str, eq_bl_non, ne_bl_non, eq_bl_bl, ne_bl_bl, eq_bl_str, ne_bl_str, eq_int_non, ne_int_non, eq_int_int, ne_int_int, eq_int_str, ne_int_str, eq_str_non, ne_str_non, eq_str_bl, ne_str_bl, eq_str_int, ne_str_int, eq_str_str, ne_str_str, isN_ref, isB_ref, tru_bl, tru_int]
  exact within_spec hv h
/-- an order, by its parts -/
def orderL : List D → Bool
  | [a, name, start, step, many, amount, party, ref, slack] =>
    likeB a (.str "order") && nameD name && wholeD start 0 9999 && wholeD step 1 999 && wholeD many 1 60 && wholeD slack 0 99 && amountD amount &&
      (likeB party (.str "") || nameD party) && (likeB ref (.str "") || nameD ref)
  | _ => false
def orderD : D → Bool
  | .tup ds => orderL ds
  | _ => false
noncomputable abbrev fIsOrder : Fn := bodyF 11 (B_is_order fIsName fIsDay fIsAmount fWithin)
theorem nine {ds : List D} (h : ds.length = 9) : ∃ a b c d e f g i j, ds = [a, b, c, d, e, f, g, i, j] := by
  match ds, h with
  | [a, b, c, d, e, f, g, i, j], _ => exact ⟨a, b, c, d, e, f, g, i, j, rfl⟩
/-- an order or what was made of one -/
inductive Od (S : Sto) : D → Prop
  | one {d : D} (h : Pl 0 d) : Od S d
  | ref {m : Nat} {ds : List D} (h : S[m]? = some (.lst ds)) : Od S (.ref m)
  | tup {ds : List D} (hz : ds.length ≤ 1000000) (h : ∀ d ∈ ds, Pl 0 d) : Od S (.tup ds)
theorem eq_str {z : Str} (hv : Pl 0 d) : oEq d (.str z) S = some (.bl (likeB d (.str z)), S) := by
  cases hv <;> simp only [sat_ok, sat_ex, sat_err, sat_bind_eq, ofP_some, ofP_none, sat_of_eq, st_nx, st_rt, st_bk, st_ct, st_ex, st_err, st_then, seqP_nx, seqP_rt, seqP_bk, seqP_ct, seqP_ex, st_xSeq, endP_nx, endP_rt, endP_ex, endP_bk, endP_ct, varP_some, varP_none, varP_non, sat_xVar, sat_xC, sat_xOp, sat_xUn, blP_bl, sat_xTB, trP_some, trP_none, sat_xT, sat_xAndT, sat_xOrT, sat_xNotT, sat_xAnd, sat_xOr, sat_xNot, sat_xIf, sat_xNil, sat_xCons, sat_xTup, sat_xLst, sat_xChain, sat_xCall, sat_xCB, sat_xM0, sat_xM, intP_int, sat_xNoP, sat_xPart, sat_xSl, st_xSkip, st_xBrk, st_xCnt, st_xDrop, st_xRet, st_xRetN, st_xIfS, tgP_some, tgP_none, st_xAsg, g_gVar, g_gNil, g_gCons, g_gTup, augP_some, augP_none, st_xAug, parP_two, st_xPar, loopP_nx, loopP_ct, loopP_bk, loopP_rt, loopP_ex, st_xFor, itP_some, itP_none, sat_xIt, sat_xLc, sat_xItA, sat_xYes, sat_xLenSet, oAdd_ii, oSub_ii, oMul_ii, oFdiv_ii, oMod_ii, oNeg_i, oLt_ii, oLe_ii, oGt_ii, oGe_ii, oInt_i, oIx_ti, oIx_qi, oLen_t, oLen_q, oLen_s, atI_0, atI_1, atI_2, atI_3, atI_4, atI_5, atI_6, atI_7, atI_8, atI_9, atI_10, atI_11, atI_12, atI_13, atI_14, List.getElem?_cons_zero, List.getElem?_cons_succ, List.map_cons, List.map_nil, List.cons_append, List.nil_append, List.length_cons, List.length_nil, List.set_cons_zero, List.set_cons_succ, List.replicate, Option.map_some, Option.map_none, Option.bind_some, Option.bind_none, if_true, if_false, Nat.reduceAdd, Nat.reduceSub, Nat.reduceLT, Nat.reduceLeDiff, Nat.reduceEqDiff, Int.reduceLT, Int.reduceLE, Int.reduceNeg, Int.reduceEq, Bool.false_eq_true, Bool.true_eq_false, reduceIte, reduceCtorEq, Bool.not_true, Bool.not_false, decide_eq_true_eq, Nat.zero_lt_succ, and_true, true_and, and_self, and_false, false_and, isi_non_tuple, isi_non_int, isi_non_str, isi_non_bool, isi_non_list, type_non, isi_bl_tuple, isi_bl_int, isi_bl_str, isi_bl_bool, isi_bl_list, type_bl, isi_int_tuple, isi_int_int, isi_int_str, isi_int_bool, isi_int_list, type_int, isi_str_tuple, isi_str_int, isi_str_str, isi_str_bool, isi_str_list, type_str, isi_tup_tuple, isi_tup_int, isi_tup_str, isi_tup_bool, isi_tup_list, type_tup, is_int_int, isn_int_int, is_int_str, isn_int_str, is_int_tuple, isn_int_tuple, is_int_list, isn_int_list, is_int_bool, isn_int_bool, is_str_int, isn_str_int, is_str_str, isn_str_str, is_str_tuple, isn_str_tuple, is_str_list, isn_str_list, is_str_bool, isn_str_bool, is_tuple_int, isn_tuple_int, is_tuple_str, isn_tuple_str, is_tuple_tuple, isn_tuple_tuple, is_tuple_list, isn_tuple_list, is_tuple_bool, isn_tuple_bool, is_list_int, isn_list_int, is_list_str, isn_list_str, is_list_tuple, isn_list_tuple, is_list_list, isn_list_list, is_list_bool, isn_list_bool, is_bool_int, isn_bool_int, is_bool_str, isn_bool_str, is_bool_tuple, isn_bool_tuple, is_bool_list, isn_bool_list, is_bool_bool, isn_bool_bool, is_NoneType_int, isn_NoneType_int, is_NoneType_str, isn_NoneType_str, is_NoneType_tuple, isn_NoneType_tuple, is_NoneType_list, isn_NoneType_list, is_NoneType_bool, isn_NoneType_bool, isN_non, isnN_non, isB_non, isnB_non, isN_bl, isnN_bl, isB_bl, isnB_bl, isN_int, isnN_int, isB_int, isnB_int, isN_str, isnN_str, isB_str, isnB_str, isN_tup, isnN_tup, isB_tup, isnB_tup, eq_non_non, eq_non_bl, ne_non_bl, eq_non_int, ne_non_int, eq_non_str, ne_non_str, eq_bl_non, ne_bl_non, eq_bl_bl, ne_bl_bl, eq_bl_str, ne_bl_str, eq_int_non, ne_int_non, eq_int_int, ne_int_int, eq_int_str, ne_int_str, eq_str_non, ne_str_non, eq_str_bl, ne_str_bl, eq_str_int, ne_str_int, eq_str_str, ne_str_str, isN_ref, isB_ref, tru_bl, tru_int, likeB]
theorem ne_str0 {z : Str} (hv : Pl 0 d) : oNe d (.str z) S = some (.bl (!likeB d (.str z)), S) := by
  cases hv <;> simp only [sat_ok, sat_ex, sat_err, sat_bind_eq, ofP_some, ofP_none, sat_of_eq, st_nx, st_rt, st_bk, st_ct, st_ex, st_err, st_then, seqP_nx, seqP_rt, seqP_bk, seqP_ct, seqP_ex, st_xSeq, endP_nx, endP_rt, endP_ex, endP_bk, endP_ct, varP_some, varP_none, varP_non, sat_xVar, sat_xC, sat_xOp, sat_xUn, blP_bl, sat_xTB, trP_some, trP_none, sat_xT, sat_xAndT, sat_xOrT, sat_xNotT, sat_xAnd, sat_xOr, sat_xNot, sat_xIf, sat_xNil, sat_xCons, sat_xTup, sat_xLst, sat_xChain, sat_xCall, sat_xCB, sat_xM0, sat_xM, intP_int, sat_xNoP, sat_xPart, sat_xSl, st_xSkip, st_xBrk, st_xCnt, st_xDrop, st_xRet, st_xRetN, st_xIfS, tgP_some, tgP_none, st_xAsg, g_gVar, g_gNil, g_gCons, g_gTup, augP_some, augP_none, st_xAug, parP_two, st_xPar, loopP_nx, loopP_ct, loopP_bk, loopP_rt, loopP_ex, st_xFor, itP_some, itP_none, sat_xIt, sat_xLc, sat_xItA, sat_xYes, sat_xLenSet, oAdd_ii, oSub_ii, oMul_ii, oFdiv_ii, oMod_ii, oNeg_i, oLt_ii, oLe_ii, oGt_ii, oGe_ii, oInt_i, oIx_ti, oIx_qi, oLen_t, oLen_q, oLen_s, atI_0, atI_1, atI_2, atI_3, atI_4, atI_5, atI_6, atI_7, atI_8, atI_9, atI_10, atI_11, atI_12, atI_13, atI_14, List.getElem?_cons_zero, List.getElem?_cons_succ, List.map_cons, List.map_nil, List.cons_append, List.nil_append, List.length_cons, List.length_nil, List.set_cons_zero, List.set_cons_succ, List.replicate, Option.map_some, Option.map_none, Option.bind_some, Option.bind_none, if_true, if_false, Nat.reduceAdd, Nat.reduceSub, Nat.reduceLT, Nat.reduceLeDiff, Nat.reduceEqDiff, Int.reduceLT, Int.reduceLE, Int.reduceNeg, Int.reduceEq, Bool.false_eq_true, Bool.true_eq_false, reduceIte, reduceCtorEq, Bool.not_true, Bool.not_false, decide_eq_true_eq, Nat.zero_lt_succ, and_true, true_and, and_self, and_false, false_and, isi_non_tuple, isi_non_int, isi_non_str, isi_non_bool, isi_non_list, type_non, isi_bl_tuple, isi_bl_int, isi_bl_str, isi_bl_bool, isi_bl_list, type_bl, isi_int_tuple, isi_int_int, isi_int_str, isi_int_bool, isi_int_list, type_int, isi_str_tuple, isi_str_int, isi_str_str, isi_str_bool, isi_str_list, type_str, isi_tup_tuple, isi_tup_int, isi_tup_str, isi_tup_bool, isi_tup_list, type_tup, is_int_int, isn_int_int, is_int_str, isn_int_str, is_int_tuple, isn_int_tuple, is_int_list, isn_int_list, is_int_bool, isn_int_bool, is_str_int, isn_str_int, is_str_str, isn_str_str, is_str_tuple, isn_str_tuple, is_str_list, isn_str_list, is_str_bool, isn_str_bool, is_tuple_int, isn_tuple_int, is_tuple_str, isn_tuple_str, is_tuple_tuple, isn_tuple_tuple, is_tuple_list, isn_tuple_list, is_tuple_bool, isn_tuple_bool, is_list_int, isn_list_int, is_list_str, isn_list_str, is_list_tuple, isn_list_tuple, is_list_list, isn_list_list, is_list_bool, isn_list_bool, is_bool_int, isn_bool_int, is_bool_str, isn_bool_str, is_bool_tuple, isn_bool_tuple, is_bool_list, isn_bool_list, is_bool_bool, isn_bool_bool, is_NoneType_int, isn_NoneType_int, is_NoneType_str, isn_NoneType_str, is_NoneType_tuple, isn_NoneType_tuple, is_NoneType_list, isn_NoneType_list, is_NoneType_bool, isn_NoneType_bool, isN_non, isnN_non, isB_non, isnB_non, isN_bl, isnN_bl, isB_bl, isnB_bl, isN_int, isnN_int, isB_int, isnB_int, isN_str, isnN_str, isB_str, isnB_str, isN_tup, isnN_tup, isB_tup, isnB_tup, eq_non_non, eq_non_bl, ne_non_bl, eq_non_int, ne_non_int, eq_non_str, ne_non_str, eq_bl_non, ne_bl_non, eq_bl_bl, ne_bl_bl, eq_bl_str, ne_bl_str, eq_int_non, ne_int_non, eq_int_int, ne_int_int, eq_int_str, ne_int_str, eq_str_non, ne_str_non, eq_str_bl, ne_str_bl, eq_str_int, ne_str_int, eq_str_str, ne_str_str, isN_ref, isB_ref, tru_bl, tru_int, likeB]
theorem is_order_spec (hv : Od S d) (h : ∀ S', Kp S S' → Pd (.bl (orderD d)) S') : (fIsOrder [d] S).wp Pd E := by
  have z : sizeLine = 16777216 := rfl
  rw [sat_bodyF]
  unfold B_is_order
  cases hv with
  | ref hr => simp only [sat_ok, sat_ex, sat_err, sat_bind_eq, ofP_some, ofP_none, sat_of_eq, st_nx, st_rt, st_bk, st_ct, st_ex, st_err, st_then, seqP_nx, seqP_rt, seqP_bk, seqP_ct, seqP_ex, st_xSeq, endP_nx, endP_rt, endP_ex, endP_bk, endP_ct, varP_some, varP_none, varP_non, sat_xVar, sat_xC, sat_xOp, sat_xUn, blP_bl, sat_xTB, trP_some, trP_none, sat_xT, sat_xAndT, sat_xOrT, sat_xNotT, sat_xAnd, sat_xOr, sat_xNot, sat_xIf, sat_xNil, sat_xCons, sat_xTup, sat_xLst, sat_xChain, sat_xCall, sat_xCB, sat_xM0, sat_xM, intP_int, sat_xNoP, sat_xPart, sat_xSl, st_xSkip, st_xBrk, st_xCnt, st_xDrop, st_xRet, st_xRetN, st_xIfS, tgP_some, tgP_none, st_xAsg, g_gVar, g_gNil, g_gCons, g_gTup, augP_some, augP_none, st_xAug, parP_two, st_xPar, loopP_nx, loopP_ct, loopP_bk, loopP_rt, loopP_ex, st_xFor, itP_some, itP_none, sat_xIt, sat_xLc, sat_xItA, sat_xYes, sat_xLenSet, oAdd_ii, oSub_ii, oMul_ii, oFdiv_ii, oMod_ii, oNeg_i, oLt_ii, oLe_ii, oGt_ii, oGe_ii, oInt_i, oIx_ti, oIx_qi, oLen_t, oLen_q, oLen_s, atI_0, atI_1, atI_2, atI_3, atI_4, atI_5, atI_6, atI_7, atI_8, atI_9, atI_10, atI_11, atI_12, atI_13, atI_14, List.getElem?_cons_zero, List.getElem?_cons_succ, List.map_cons, List.map_nil, List.cons_append, List.nil_append, List.length_cons, List.length_nil, List.set_cons_zero, List.set_cons_succ, List.replicate, Option.map_some, Option.map_none, Option.bind_some, Option.bind_none, if_true, if_false, Nat.reduceAdd, Nat.reduceSub, Nat.reduceLT, Nat.reduceLeDiff, Nat.reduceEqDiff, Int.reduceLT, Int.reduceLE, Int.reduceNeg, Int.reduceEq, Bool.false_eq_true, Bool.true_eq_false, reduceIte, reduceCtorEq, Bool.not_true, Bool.not_false, decide_eq_true_eq, Nat.zero_lt_succ, and_true, true_and, and_self, and_false, false_and, isi_non_tuple, isi_non_int, isi_non_str, isi_non_bool, isi_non_list, type_non, isi_bl_tuple, isi_bl_int, isi_bl_str, isi_bl_bool, isi_bl_list, type_bl, isi_int_tuple, isi_int_int, isi_int_str, isi_int_bool, isi_int_list, type_int, isi_str_tuple, isi_str_int, isi_str_str, isi_str_bool, isi_str_list, type_str, isi_tup_tuple, isi_tup_int, isi_tup_str, isi_tup_bool, isi_tup_list, type_tup, is_int_int, isn_int_int, is_int_str, isn_int_str, is_int_tuple, isn_int_tuple, is_int_list, isn_int_list, is_int_bool, isn_int_bool, is_str_int, isn_str_int, is_str_str, isn_str_str, is_str_tuple, isn_str_tuple, is_str_list, isn_str_list, is_str_bool, isn_str_bool, is_tuple_int, isn_tuple_int, is_tuple_str, isn_tuple_str, is_tuple_tuple, isn_tuple_tuple, is_tuple_list, isn_tuple_list, is_tuple_bool, isn_tuple_bool, is_list_int, isn_list_int, is_list_str, isn_list_str, is_list_tuple, isn_list_tuple, is_list_list, isn_list_list, is_list_bool, isn_list_bool, is_bool_int, isn_bool_int, is_bool_str, isn_bool_str, is_bool_tuple, isn_bool_tuple, is_bool_list, isn_bool_list, is_bool_bool, isn_bool_bool, is_NoneType_int, isn_NoneType_int, is_NoneType_str, isn_NoneType_str, is_NoneType_tuple, isn_NoneType_tuple, is_NoneType_list, isn_NoneType_list, is_NoneType_bool, isn_NoneType_bool, isN_non, isnN_non, isB_non, isnB_non, isN_bl, isnN_bl, isB_bl, isnB_bl, isN_int, isnN_int, isB_int, isnB_int, isN_str, isnN_str, isB_str, isnB_str, isN_tup, isnN_tup, isB_tup, isnB_tup, eq_non_non, eq_non_bl, ne_non_bl, eq_non_int, ne_non_int, eq_non_str, ne_non_str, eq_bl_non, ne_bl_non, eq_bl_bl, ne_bl_bl, eq_bl_str, ne_bl_str, eq_int_non, ne_int_non, eq_int_int, ne_int_int, eq_int_str, ne_int_str, eq_str_non, ne_str_non, eq_str_bl, ne_str_bl, eq_str_int, ne_str_int, eq_str_str, ne_str_str, isN_ref, isB_ref, tru_bl, tru_int, type_r hr]; exact h _ (Kx.refl _ _)
  | one h1 => cases h1 <;> (simp only [sat_ok, sat_ex, sat_err, sat_bind_eq, ofP_some, ofP_none, sat_of_eq, st_nx, st_rt, st_bk, st_ct, st_ex, st_err, st_then, seqP_nx, seqP_rt, seqP_bk, seqP_ct, seqP_ex, st_xSeq, endP_nx, endP_rt, endP_ex, endP_bk, endP_ct, varP_some, varP_none, varP_non, sat_xVar, sat_xC, sat_xOp, sat_xUn, blP_bl, sat_xTB, trP_some, trP_none, sat_xT, sat_xAndT, sat_xOrT, sat_xNotT, sat_xAnd, sat_xOr, sat_xNot, sat_xIf, sat_xNil, sat_xCons, sat_xTup, sat_xLst, sat_xChain, sat_xCall, sat_xCB, sat_xM0, sat_xM, intP_int, sat_xNoP, sat_xPart, sat_xSl, st_xSkip, st_xBrk, st_xCnt, st_xDrop, st_xRet, st_xRetN, st_xIfS, tgP_some, tgP_none, st_xAsg, g_gVar, g_gNil, g_gCons, g_gTup, augP_some, augP_none, st_xAug, parP_two, st_xPar, loopP_nx, loopP_ct, loopP_bk, loopP_rt, loopP_ex, st_xFor, itP_some, itP_none, sat_xIt, sat_xLc, sat_xItA, sat_xYes, sat_xLenSet, oAdd_ii, oSub_ii, oMul_ii, oFdiv_ii, oMod_ii, oNeg_i, oLt_ii, oLe_ii, oGt_ii, oGe_ii, oInt_i, oIx_ti, oIx_qi, oLen_t, oLen_q, oLen_s, atI_0, atI_1, atI_2, atI_3, atI_4, atI_5, atI_6, atI_7, atI_8, atI_9, atI_10, atI_11, atI_12, atI_13, atI_14, List.getElem?_cons_zero, List.getElem?_cons_succ, List.map_cons, List.map_nil, List.cons_append, List.nil_append, List.length_cons, List.length_nil, List.set_cons_zero, List.set_cons_succ, List.replicate, Option.map_some, Option.map_none, Option.bind_some, Option.bind_none, if_true, if_false, Nat.reduceAdd, Nat.reduceSub, Nat.reduceLT, Nat.reduceLeDiff, Nat.reduceEqDiff, Int.reduceLT, Int.reduceLE, Int.reduceNeg, Int.reduceEq, Bool.false_eq_true, Bool.true_eq_false, reduceIte, reduceCtorEq, Bool.not_true, Bool.not_false, decide_eq_true_eq, Nat.zero_lt_succ, and_true, true_and, and_self, and_false, false_and, isi_non_tuple, isi_non_int, isi_non_str, isi_non_bool, isi_non_list, type_non, isi_bl_tuple, isi_bl_int, isi_bl_str, isi_bl_bool, isi_bl_list, type_bl, isi_int_tuple, isi_int_int, isi_int_str, isi_int_bool, isi_int_list, type_int, isi_str_tuple, isi_str_int, isi_str_str, isi_str_bool, isi_str_list, type_str, isi_tup_tuple, isi_tup_int, isi_tup_str, isi_tup_bool, isi_tup_list, type_tup, is_int_int, isn_int_int, is_int_str, isn_int_str, is_int_tuple, isn_int_tuple, is_int_list, isn_int_list, is_int_bool, isn_int_bool, is_str_int, isn_str_int, is_str_str, isn_str_str, is_str_tuple, isn_str_tuple, is_str_list, isn_str_list, is_str_bool, isn_str_bool, is_tuple_int, isn_tuple_int, is_tuple_str, isn_tuple_str, is_tuple_tuple, isn_tuple_tuple, is_tuple_list, isn_tuple_list, is_tuple_bool, isn_tuple_bool, is_list_int, isn_list_int, is_list_str, isn_list_str, is_list_tuple, isn_list_tuple, is_list_list, isn_list_list, is_list_bool, isn_list_bool, is_bool_int, isn_bool_int, is_bool_str, isn_bool_str, is_bool_tuple, isn_bool_tuple, is_bool_list, isn_bool_list, is_bool_bool, isn_bool_bool, is_NoneType_int, isn_NoneType_int, is_NoneType_str, isn_NoneType_str, is_NoneType_tuple, isn_NoneType_tuple, is_NoneType_list, isn_NoneType_list, is_NoneType_bool, isn_NoneType_bool, isN_non, isnN_non, isB_non, isnB_non, isN_bl, isnN_bl, isB_bl, isnB_bl, isN_int, isnN_int, isB_int, isnB_int, isN_str, isnN_str, isB_str, isnB_str, isN_tup, isnN_tup, isB_tup, isnB_tup, eq_non_non, eq_non_bl, ne_non_bl, eq_non_int, ne_non_int, eq_non_str, ne_non_str, eq_bl_non, ne_bl_non, eq_bl_bl, ne_bl_bl, eq_bl_str, ne_bl_str, eq_int_non, ne_int_non, eq_int_int, ne_int_int, eq_int_str, ne_int_str, eq_str_non, ne_str_non, eq_str_bl, ne_str_bl, eq_str_int, ne_str_int, eq_str_str, ne_str_str, isN_ref, isB_ref, tru_bl, tru_int]; exact h _ (Kx.refl _ _))
  | @tup ds hz hp =>
    simp only [sat_ok, sat_ex, sat_err, sat_bind_eq, ofP_some, ofP_none, sat_of_eq, st_nx, st_rt, st_bk, st_ct, st_ex, st_err, st_then, seqP_nx, seqP_rt, seqP_bk, seqP_ct, seqP_ex, st_xSeq, endP_nx, endP_rt, endP_ex, endP_bk, endP_ct, varP_some, varP_none, varP_non, sat_xVar, sat_xC, sat_xOp, sat_xUn, blP_bl, sat_xTB, trP_some, trP_none, sat_xT, sat_xAndT, sat_xOrT, sat_xNotT, sat_xAnd, sat_xOr, sat_xNot, sat_xIf, sat_xNil, sat_xCons, sat_xTup, sat_xLst, sat_xChain, sat_xCall, sat_xCB, sat_xM0, sat_xM, intP_int, sat_xNoP, sat_xPart, sat_xSl, st_xSkip, st_xBrk, st_xCnt, st_xDrop, st_xRet, st_xRetN, st_xIfS, tgP_some, tgP_none, st_xAsg, g_gVar, g_gNil, g_gCons, g_gTup, augP_some, augP_none, st_xAug, parP_two, st_xPar, loopP_nx, loopP_ct, loopP_bk, loopP_rt, loopP_ex, st_xFor, itP_some, itP_none, sat_xIt, sat_xLc, sat_xItA, sat_xYes, sat_xLenSet, oAdd_ii, oSub_ii, oMul_ii, oFdiv_ii, oMod_ii, oNeg_i, oLt_ii, oLe_ii, oGt_ii, oGe_ii, oInt_i, oIx_ti, oIx_qi, oLen_t, oLen_q, oLen_s, atI_0, atI_1, atI_2, atI_3, atI_4, atI_5, atI_6, atI_7, atI_8, atI_9, atI_10, atI_11, atI_12, atI_13, atI_14, List.getElem?_cons_zero, List.getElem?_cons_succ, List.map_cons, List.map_nil, List.cons_append, List.nil_append, List.length_cons, List.length_nil, List.set_cons_zero, List.set_cons_succ, List.replicate, Option.map_some, Option.map_none, Option.bind_some, Option.bind_none, if_true, if_false, Nat.reduceAdd, Nat.reduceSub, Nat.reduceLT, Nat.reduceLeDiff, Nat.reduceEqDiff, Int.reduceLT, Int.reduceLE, Int.reduceNeg, Int.reduceEq, Bool.false_eq_true, Bool.true_eq_false, reduceIte, reduceCtorEq, Bool.not_true, Bool.not_false, decide_eq_true_eq, Nat.zero_lt_succ, and_true, true_and, and_self, and_false, false_and, isi_non_tuple, isi_non_int, isi_non_str, isi_non_bool, isi_non_list, type_non, isi_bl_tuple, isi_bl_int, isi_bl_str, isi_bl_bool, isi_bl_list, type_bl, isi_int_tuple, isi_int_int, isi_int_str, isi_int_bool, isi_int_list, type_int, isi_str_tuple, isi_str_int, isi_str_str, isi_str_bool, isi_str_list, type_str, isi_tup_tuple, isi_tup_int, isi_tup_str, isi_tup_bool, isi_tup_list, type_tup, is_int_int, isn_int_int, is_int_str, isn_int_str, is_int_tuple, isn_int_tuple, is_int_list, isn_int_list, is_int_bool, isn_int_bool, is_str_int, isn_str_int, is_str_str, isn_str_str, is_str_tuple, isn_str_tuple, is_str_list, isn_str_list, is_str_bool, isn_str_bool, is_tuple_int, isn_tuple_int, is_tuple_str, isn_tuple_str, is_tuple_tuple, isn_tuple_tuple, is_tuple_list, isn_tuple_list, is_tuple_bool, isn_tuple_bool, is_list_int, isn_list_int, is_list_str, isn_list_str, is_list_tuple, isn_list_tuple, is_list_list, isn_list_list, is_list_bool, isn_list_bool, is_bool_int, isn_bool_int, is_bool_str, isn_bool_str, is_bool_tuple, isn_bool_tuple, is_bool_list, isn_bool_list, is_bool_bool, isn_bool_bool, is_NoneType_int, isn_NoneType_int, is_NoneType_str, isn_NoneType_str, is_NoneType_tuple, isn_NoneType_tuple, is_NoneType_list, isn_NoneType_list, is_NoneType_bool, isn_NoneType_bool, isN_non, isnN_non, isB_non, isnB_non, isN_bl, isnN_bl, isB_bl, isnB_bl, isN_int, isnN_int, isB_int, isnB_int, isN_str, isnN_str, isB_str, isnB_str, isN_tup, isnN_tup, isB_tup, isnB_tup, eq_non_non, eq_non_bl, ne_non_bl, eq_non_int, ne_non_int, eq_non_str, ne_non_str, eq_bl_non, ne_bl_non, eq_bl_bl, ne_bl_bl, eq_bl_str, ne_bl_str, eq_int_non, ne_int_non, eq_int_int, ne_int_int, eq_int_str, ne_int_str, eq_str_non, ne_str_non, eq_str_bl, ne_str_bl, eq_str_int, ne_str_int, eq_str_str, ne_str_str, isN_ref, isB_ref, tru_bl, tru_int]
    split
    · rename_i hl
      have : orderL ds = false := by
        unfold orderL
        split
        · simp at hl
        · rfl
      rw [orderD, this] at h
      exact h _ (Kx.refl _ _)
    · rename_i hl
      have hl' : ds.length = 9 := by simp at hl; omega
      obtain ⟨a0, a1, a2, a3, a4, a5, a6, a7, a8, rfl⟩ := nine hl'
      have p0 : Pl 0 a0 := hp _ (by simp)
      have p1 : Pl 0 a1 := hp _ (by simp)
      have p2 : Pl 0 a2 := hp _ (by simp)
      have p3 : Pl 0 a3 := hp _ (by simp)
      have p4 : Pl 0 a4 := hp _ (by simp)
      have p5 : Pl 0 a5 := hp _ (by simp)
      have p6 : Pl 0 a6 := hp _ (by simp)
      have p7 : Pl 0 a7 := hp _ (by simp)
      have p8 : Pl 0 a8 := hp _ (by simp)
      rw [orderD, orderL] at h
      simp only [sat_ok, sat_ex, sat_err, sat_bind_eq, ofP_some, ofP_none, sat_of_eq, st_nx, st_rt, st_bk, st_ct, st_ex, st_err, st_then, seqP_nx, seqP_rt, seqP_bk, seqP_ct, seqP_ex, st_xSeq, endP_nx, endP_rt, endP_ex, endP_bk, endP_ct, varP_some, varP_none, varP_non, sat_xVar, sat_xC, sat_xOp, sat_xUn, blP_bl, sat_xTB, trP_some, trP_none, sat_xT, sat_xAndT, sat_xOrT, sat_xNotT, sat_xAnd, sat_xOr, sat_xNot, sat_xIf, sat_xNil, sat_xCons, sat_xTup, sat_xLst, sat_xChain, sat_xCall, sat_xCB, sat_xM0, sat_xM, intP_int, sat_xNoP, sat_xPart, sat_xSl, st_xSkip, st_xBrk, st_xCnt, st_xDrop, st_xRet, st_xRetN, st_xIfS, tgP_some, tgP_none, st_xAsg, g_gVar, g_gNil, g_gCons, g_gTup, augP_some, augP_none, st_xAug, parP_two, st_xPar, loopP_nx, loopP_ct, loopP_bk, loopP_rt, loopP_ex, st_xFor, itP_some, itP_none, sat_xIt, sat_xLc, sat_xItA, sat_xYes, sat_xLenSet, oAdd_ii, oSub_ii, oMul_ii, oFdiv_ii, oMod_ii, oNeg_i, oLt_ii, oLe_ii, oGt_ii, oGe_ii, oInt_i, oIx_ti, oIx_qi, oLen_t, oLen_q, oLen_s, atI_0, atI_1, atI_2, atI_3, atI_4, atI_5, atI_6, atI_7, atI_8, atI_9, atI_10, atI_11, atI_12, atI_13, atI_14, List.getElem?_cons_zero, List.getElem?_cons_succ, List.map_cons, List.map_nil, List.cons_append, List.nil_append, List.length_cons, List.length_nil, List.set_cons_zero, List.set_cons_succ, List.replicate, Option.map_some, Option.map_none, Option.bind_some, Option.bind_none, if_true, if_false, Nat.reduceAdd, Nat.reduceSub, Nat.reduceLT, Nat.reduceLeDiff, Nat.reduceEqDiff, Int.reduceLT, Int.reduceLE, Int.reduceNeg, Int.reduceEq, Bool.false_eq_true, Bool.true_eq_false, reduceIte, reduceCtorEq, Bool.not_true, Bool.not_false, decide_eq_true_eq, Nat.zero_lt_succ, and_true, true_and, and_self, and_false, false_and, isi_non_tuple, isi_non_int, isi_non_str, isi_non_bool, isi_non_list, type_non, isi_bl_tuple, isi_bl_int, isi_bl_str, isi_bl_bool, isi_bl_list, type_bl, isi_int_tuple, isi_int_int, isi_int_str, isi_int_bool, isi_int_list, type_int, isi_str_tuple, isi_str_int, isi_str_str, isi_str_bool, isi_str_list, type_str, isi_tup_tuple, isi_tup_int, isi_tup_str, isi_tup_bool, isi_tup_list, type_tup, is_int_int, isn_int_int, is_int_str, isn_int_str, is_int_tuple, isn_int_tuple, is_int_list, isn_int_list, is_int_bool, isn_int_bool, is_str_int, isn_str_int, is_str_str, isn_str_str, is_str_tuple, isn_str_tuple, is_str_list, isn_str_list, is_str_bool, isn_str_bool, is_tuple_int, isn_tuple_int, is_tuple_str, isn_tuple_str, is_tuple_tuple, isn_tuple_tuple, is_tuple_list, isn_tuple_list, is_tuple_bool, isn_tuple_bool, is_list_int, isn_list_int, is_list_str, isn_list_str, is_list_tuple, isn_list_tuple, is_list_list, isn_list_list, is_list_bool, isn_list_bool, is_bool_int, isn_bool_int, is_bool_str, isn_bool_str, is_bool_tuple, isn_bool_tuple, is_bool_list, isn_bool_list, is_bool_bool, isn_bool_bool, is_NoneType_int, isn_NoneType_int, is_NoneType_str, isn_NoneType_str, is_NoneType_tuple, isn_NoneType_tuple, is_NoneType_list, isn_NoneType_list, is_NoneType_bool, isn_NoneType_bool, isN_non, isnN_non, isB_non, isnB_non, isN_bl, isnN_bl, isB_bl, isnB_bl, isN_int, isnN_int, isB_int, isnB_int, isN_str, isnN_str, isB_str, isnB_str, isN_tup, isnN_tup, isB_tup, isnB_tup, eq_non_non, eq_non_bl, ne_non_bl, eq_non_int, ne_non_int, eq_non_str, ne_non_str, eq_bl_non, ne_bl_non, eq_bl_bl, ne_bl_bl, eq_bl_str, ne_bl_str, eq_int_non, ne_int_non, eq_int_int, ne_int_int, eq_int_str, ne_int_str, eq_str_non, ne_str_non, eq_str_bl, ne_str_bl, eq_str_int, ne_str_int, eq_str_str, ne_str_str, isN_ref, isB_ref, tru_bl, tru_int, ne_str0 p0]
      split
      · rename_i q
        simp only [Bool.not_eq_true'] at q
        rw [q] at h
        exact h _ (Kx.refl _ _)
      · rename_i q
        simp only [Bool.not_eq_true', Bool.not_eq_false] at q
        rw [q, Bool.true_and] at h
        try simp only [sat_ok, sat_ex, sat_err, sat_bind_eq, ofP_some, ofP_none, sat_of_eq, st_nx, st_rt, st_bk, st_ct, st_ex, st_err, st_then, seqP_nx, seqP_rt, seqP_bk, seqP_ct, seqP_ex, st_xSeq, endP_nx, endP_rt, endP_ex, endP_bk, endP_ct, varP_some, varP_none, varP_non, sat_xVar, sat_xC, sat_xOp, sat_xUn, blP_bl, sat_xTB, trP_some, trP_none, sat_xT, sat_xAndT, sat_xOrT, sat_xNotT, sat_xAnd, sat_xOr, sat_xNot, sat_xIf, sat_xNil, sat_xCons, sat_xTup, sat_xLst, sat_xChain, sat_xCall, sat_xCB, sat_xM0, sat_xM, intP_int, sat_xNoP, sat_xPart, sat_xSl, st_xSkip, st_xBrk, st_xCnt, st_xDrop, st_xRet, st_xRetN, st_xIfS, tgP_some, tgP_none, st_xAsg, g_gVar, g_gNil, g_gCons, g_gTup, augP_some, augP_none, st_xAug, parP_two, st_xPar, loopP_nx, loopP_ct, loopP_bk, loopP_rt, loopP_ex, st_xFor, itP_some, itP_none, sat_xIt, sat_xLc, sat_xItA, sat_xYes, sat_xLenSet, oAdd_ii, oSub_ii, oMul_ii, oFdiv_ii, oMod_ii, oNeg_i, oLt_ii, oLe_ii, oGt_ii, oGe_ii, oInt_i, oIx_ti, oIx_qi, oLen_t, oLen_q, oLen_s, atI_0, atI_1, atI_2, atI_3, atI_4, atI_5, atI_6, atI_7, atI_8, atI_9, atI_10, atI_11, atI_12, atI_13, atI_14, List.getElem?_cons_zero, List.getElem?_cons_succ, List.map_cons, List.map_nil, List.cons_append, List.nil_append, List.length_cons, List.length_nil, List.set_cons_zero, List.set_cons_succ, List.replicate, Option.map_some, Option.map_none, Option.bind_some, Option.bind_none, if_true, if_false, Nat.reduceAdd, Nat.reduceSub, Nat.reduceLT, Nat.reduceLeDiff, Nat.reduceEqDiff, Int.reduceLT, Int.reduceLE, Int.reduceNeg, Int.reduceEq, Bool.false_eq_true, Bool.true_eq_false, reduceIte, reduceCtorEq, Bool.not_true, Bool.not_false, decide_eq_true_eq, Nat.zero_lt_succ, and_true, true_and, and_self, and_false, false_and, isi_non_tuple, isi_non_int, isi_non_str, isi_non_bool, isi_non_list, type_non, isi_bl_tuple, isi_bl_int, isi_bl_str, isi_bl_bool, isi_bl_list, type_bl, isi_int_tuple, isi_int_int, isi_int_str, isi_int_bool, isi_int_list, type_int, isi_str_tuple, isi_str_int, isi_str_str, isi_str_bool, isi_str_list, type_str, isi_tup_tuple, isi_tup_int, isi_tup_str, isi_tup_bool, isi_tup_list, type_tup, is_int_int, isn_int_int, is_int_str, isn_int_str, is_int_tuple, isn_int_tuple, is_int_list, isn_int_list, is_int_bool, isn_int_bool, is_str_int, isn_str_int, is_str_str, isn_str_str, is_str_tuple, isn_str_tuple, is_str_list, isn_str_list, is_str_bool, isn_str_bool, is_tuple_int, isn_tuple_int, is_tuple_str, isn_tuple_str, is_tuple_tuple, isn_tuple_tuple, is_tuple_list, isn_tuple_list, is_tuple_bool, isn_tuple_bool, is_list_int, isn_list_int, is_list_str, isn_list_str, is_list_tuple, isn_list_tuple, is_list_list, isn_list_list, is_list_bool, isn_list_bool, is_bool_int, isn_bool_int, is_bool_str, isn_bool_str, is_bool_tuple, isn_bool_tuple, is_bool_list, isn_bool_list, is_bool_bool, isn_bool_bool, is_NoneType_int, isn_NoneType_int, is_NoneType_str, isn_NoneType_str, is_NoneType_tuple, isn_NoneType_tuple, is_NoneType_list, isn_NoneType_list, is_NoneType_bool, isn_NoneType_bool, isN_non, isnN_non, isB_non, isnB_non, isN_bl, isnN_bl, isB_bl, isnB_bl, isN_int, isnN_int, isB_int, isnB_int, isN_str, isnN_str, isB_str, isnB_str, isN_tup, isnN_tup, isB_tup, isnB_tup, eq_non_non, eq_non_bl, ne_non_bl, eq_non_int, ne_non_int, eq_non_str, ne_non_str, eq_bl_non, ne_bl_non, eq_bl_bl, ne_bl_bl, eq_bl_str, ne_bl_str, eq_int_non, ne_int_non, eq_int_int, ne_int_int, eq_int_str, ne_int_str, eq_str_non, ne_str_non, eq_str_bl, ne_str_bl, eq_str_int, ne_str_int, eq_str_str, ne_str_str, isN_ref, isB_ref, tru_bl, tru_int]
        refine is_name_spec (Pl.vd p1) ?_
        try simp only [sat_ok, sat_ex, sat_err, sat_bind_eq, ofP_some, ofP_none, sat_of_eq, st_nx, st_rt, st_bk, st_ct, st_ex, st_err, st_then, seqP_nx, seqP_rt, seqP_bk, seqP_ct, seqP_ex, st_xSeq, endP_nx, endP_rt, endP_ex, endP_bk, endP_ct, varP_some, varP_none, varP_non, sat_xVar, sat_xC, sat_xOp, sat_xUn, blP_bl, sat_xTB, trP_some, trP_none, sat_xT, sat_xAndT, sat_xOrT, sat_xNotT, sat_xAnd, sat_xOr, sat_xNot, sat_xIf, sat_xNil, sat_xCons, sat_xTup, sat_xLst, sat_xChain, sat_xCall, sat_xCB, sat_xM0, sat_xM, intP_int, sat_xNoP, sat_xPart, sat_xSl, st_xSkip, st_xBrk, st_xCnt, st_xDrop, st_xRet, st_xRetN, st_xIfS, tgP_some, tgP_none, st_xAsg, g_gVar, g_gNil, g_gCons, g_gTup, augP_some, augP_none, st_xAug, parP_two, st_xPar, loopP_nx, loopP_ct, loopP_bk, loopP_rt, loopP_ex, st_xFor, itP_some, itP_none, sat_xIt, sat_xLc, sat_xItA, sat_xYes, sat_xLenSet, oAdd_ii, oSub_ii, oMul_ii, oFdiv_ii, oMod_ii, oNeg_i, oLt_ii, oLe_ii, oGt_ii, oGe_ii, oInt_i, oIx_ti, oIx_qi, oLen_t, oLen_q, oLen_s, atI_0, atI_1, atI_2, atI_3, atI_4, atI_5, atI_6, atI_7, atI_8, atI_9, atI_10, atI_11, atI_12, atI_13, atI_14, List.getElem?_cons_zero, List.getElem?_cons_succ, List.map_cons, List.map_nil, List.cons_append, List.nil_append, List.length_cons, List.length_nil, List.set_cons_zero, List.set_cons_succ, List.replicate, Option.map_some, Option.map_none, Option.bind_some, Option.bind_none, if_true, if_false, Nat.reduceAdd, Nat.reduceSub, Nat.reduceLT, Nat.reduceLeDiff, Nat.reduceEqDiff, Int.reduceLT, Int.reduceLE, Int.reduceNeg, Int.reduceEq, Bool.false_eq_true, Bool.true_eq_false, reduceIte, reduceCtorEq, Bool.not_true, Bool.not_false, decide_eq_true_eq, Nat.zero_lt_succ, and_true, true_and, and_self, and_false, false_and, isi_non_tuple, isi_non_int, isi_non_str, isi_non_bool, isi_non_list, type_non, isi_bl_tuple, isi_bl_int, isi_bl_str, isi_bl_bool, isi_bl_list, type_bl, isi_int_tuple, isi_int_int, isi_int_str, isi_int_bool, isi_int_list, type_int, isi_str_tuple, isi_str_int, isi_str_str, isi_str_bool, isi_str_list, type_str, isi_tup_tuple, isi_tup_int, isi_tup_str, isi_tup_bool, isi_tup_list, type_tup, is_int_int, isn_int_int, is_int_str, isn_int_str, is_int_tuple, isn_int_tuple, is_int_list, isn_int_list, is_int_bool, isn_int_bool, is_str_int, isn_str_int, is_str_str, isn_str_str, is_str_tuple, isn_str_tuple, is_str_list, isn_str_list, is_str_bool, isn_str_bool, is_tuple_int, isn_tuple_int, is_tuple_str, isn_tuple_str, is_tuple_tuple, isn_tuple_tuple, is_tuple_list, isn_tuple_list, is_tuple_bool, isn_tuple_bool, is_list_int, isn_list_int, is_list_str, isn_list_str, is_list_tuple, isn_list_tuple, is_list_list, isn_list_list, is_list_bool, isn_list_bool, is_bool_int, isn_bool_int, is_bool_str, isn_bool_str, is_bool_tuple, isn_bool_tuple, is_bool_list, isn_bool_list, is_bool_bool, isn_bool_bool, is_NoneType_int, isn_NoneType_int, is_NoneType_str, isn_NoneType_str, is_NoneType_tuple, isn_NoneType_tuple, is_NoneType_list, isn_NoneType_list, is_NoneType_bool, isn_NoneType_bool, isN_non, isnN_non, isB_non, isnB_non, isN_bl, isnN_bl, isB_bl, isnB_bl, isN_int, isnN_int, isB_int, isnB_int, isN_str, isnN_str, isB_str, isnB_str, isN_tup, isnN_tup, isB_tup, isnB_tup, eq_non_non, eq_non_bl, ne_non_bl, eq_non_int, ne_non_int, eq_non_str, ne_non_str, eq_bl_non, ne_bl_non, eq_bl_bl, ne_bl_bl, eq_bl_str, ne_bl_str, eq_int_non, ne_int_non, eq_int_int, ne_int_int, eq_int_str, ne_int_str, eq_str_non, ne_str_non, eq_str_bl, ne_str_bl, eq_str_int, ne_str_int, eq_str_str, ne_str_str, isN_ref, isB_ref, tru_bl, tru_int]
        refine gate (fun q => by simp only [q, Bool.false_and, Bool.and_false] at h; exact h _ (Kx.refl _ _)) fun q => ?_
        simp only [q, Bool.true_and, Bool.and_true] at h
        refine is_day_spec (Pl.vd p2) ?_
        try simp only [sat_ok, sat_ex, sat_err, sat_bind_eq, ofP_some, ofP_none, sat_of_eq, st_nx, st_rt, st_bk, st_ct, st_ex, st_err, st_then, seqP_nx, seqP_rt, seqP_bk, seqP_ct, seqP_ex, st_xSeq, endP_nx, endP_rt, endP_ex, endP_bk, endP_ct, varP_some, varP_none, varP_non, sat_xVar, sat_xC, sat_xOp, sat_xUn, blP_bl, sat_xTB, trP_some, trP_none, sat_xT, sat_xAndT, sat_xOrT, sat_xNotT, sat_xAnd, sat_xOr, sat_xNot, sat_xIf, sat_xNil, sat_xCons, sat_xTup, sat_xLst, sat_xChain, sat_xCall, sat_xCB, sat_xM0, sat_xM, intP_int, sat_xNoP, sat_xPart, sat_xSl, st_xSkip, st_xBrk, st_xCnt, st_xDrop, st_xRet, st_xRetN, st_xIfS, tgP_some, tgP_none, st_xAsg, g_gVar, g_gNil, g_gCons, g_gTup, augP_some, augP_none, st_xAug, parP_two, st_xPar, loopP_nx, loopP_ct, loopP_bk, loopP_rt, loopP_ex, st_xFor, itP_some, itP_none, sat_xIt, sat_xLc, sat_xItA, sat_xYes, sat_xLenSet, oAdd_ii, oSub_ii, oMul_ii, oFdiv_ii, oMod_ii, oNeg_i, oLt_ii, oLe_ii, oGt_ii, oGe_ii, oInt_i, oIx_ti, oIx_qi, oLen_t, oLen_q, oLen_s, atI_0, atI_1, atI_2, atI_3, atI_4, atI_5, atI_6, atI_7, atI_8, atI_9, atI_10, atI_11, atI_12, atI_13, atI_14, List.getElem?_cons_zero, List.getElem?_cons_succ, List.map_cons, List.map_nil, List.cons_append, List.nil_append, List.length_cons, List.length_nil, List.set_cons_zero, List.set_cons_succ, List.replicate, Option.map_some, Option.map_none, Option.bind_some, Option.bind_none, if_true, if_false, Nat.reduceAdd, Nat.reduceSub, Nat.reduceLT, Nat.reduceLeDiff, Nat.reduceEqDiff, Int.reduceLT, Int.reduceLE, Int.reduceNeg, Int.reduceEq, Bool.false_eq_true, Bool.true_eq_false, reduceIte, reduceCtorEq, Bool.not_true, Bool.not_false, decide_eq_true_eq, Nat.zero_lt_succ, and_true, true_and, and_self, and_false, false_and, isi_non_tuple, isi_non_int, isi_non_str, isi_non_bool, isi_non_list, type_non, isi_bl_tuple, isi_bl_int, isi_bl_str, isi_bl_bool, isi_bl_list, type_bl, isi_int_tuple, isi_int_int, isi_int_str, isi_int_bool, isi_int_list, type_int, isi_str_tuple, isi_str_int, isi_str_str, isi_str_bool, isi_str_list, type_str, isi_tup_tuple, isi_tup_int, isi_tup_str, isi_tup_bool, isi_tup_list, type_tup, is_int_int, isn_int_int, is_int_str, isn_int_str, is_int_tuple, isn_int_tuple, is_int_list, isn_int_list, is_int_bool, isn_int_bool, is_str_int, isn_str_int, is_str_str, isn_str_str, is_str_tuple, isn_str_tuple, is_str_list, isn_str_list, is_str_bool, isn_str_bool, is_tuple_int, isn_tuple_int, is_tuple_str, isn_tuple_str, is_tuple_tuple, isn_tuple_tuple, is_tuple_list, isn_tuple_list, is_tuple_bool, isn_tuple_bool, is_list_int, isn_list_int, is_list_str, isn_list_str, is_list_tuple, isn_list_tuple, is_list_list, isn_list_list, is_list_bool, isn_list_bool, is_bool_int, isn_bool_int, is_bool_str, isn_bool_str, is_bool_tuple, isn_bool_tuple, is_bool_list, isn_bool_list, is_bool_bool, isn_bool_bool, is_NoneType_int, isn_NoneType_int, is_NoneType_str, isn_NoneType_str, is_NoneType_tuple, isn_NoneType_tuple, is_NoneType_list, isn_NoneType_list, is_NoneType_bool, isn_NoneType_bool, isN_non, isnN_non, isB_non, isnB_non, isN_bl, isnN_bl, isB_bl, isnB_bl, isN_int, isnN_int, isB_int, isnB_int, isN_str, isnN_str, isB_str, isnB_str, isN_tup, isnN_tup, isB_tup, isnB_tup, eq_non_non, eq_non_bl, ne_non_bl, eq_non_int, ne_non_int, eq_non_str, ne_non_str, eq_bl_non, ne_bl_non, eq_bl_bl, ne_bl_bl, eq_bl_str, ne_bl_str, eq_int_non, ne_int_non, eq_int_int, ne_int_int, eq_int_str, ne_int_str, eq_str_non, ne_str_non, eq_str_bl, ne_str_bl, eq_str_int, ne_str_int, eq_str_str, ne_str_str, isN_ref, isB_ref, tru_bl, tru_int]
        refine gate (fun q => by simp only [q, Bool.false_and, Bool.and_false] at h; exact h _ (Kx.refl _ _)) fun q => ?_
        simp only [q, Bool.true_and, Bool.and_true] at h
        refine is_amount_spec (Pl.vd p5) ?_
        try simp only [sat_ok, sat_ex, sat_err, sat_bind_eq, ofP_some, ofP_none, sat_of_eq, st_nx, st_rt, st_bk, st_ct, st_ex, st_err, st_then, seqP_nx, seqP_rt, seqP_bk, seqP_ct, seqP_ex, st_xSeq, endP_nx, endP_rt, endP_ex, endP_bk, endP_ct, varP_some, varP_none, varP_non, sat_xVar, sat_xC, sat_xOp, sat_xUn, blP_bl, sat_xTB, trP_some, trP_none, sat_xT, sat_xAndT, sat_xOrT, sat_xNotT, sat_xAnd, sat_xOr, sat_xNot, sat_xIf, sat_xNil, sat_xCons, sat_xTup, sat_xLst, sat_xChain, sat_xCall, sat_xCB, sat_xM0, sat_xM, intP_int, sat_xNoP, sat_xPart, sat_xSl, st_xSkip, st_xBrk, st_xCnt, st_xDrop, st_xRet, st_xRetN, st_xIfS, tgP_some, tgP_none, st_xAsg, g_gVar, g_gNil, g_gCons, g_gTup, augP_some, augP_none, st_xAug, parP_two, st_xPar, loopP_nx, loopP_ct, loopP_bk, loopP_rt, loopP_ex, st_xFor, itP_some, itP_none, sat_xIt, sat_xLc, sat_xItA, sat_xYes, sat_xLenSet, oAdd_ii, oSub_ii, oMul_ii, oFdiv_ii, oMod_ii, oNeg_i, oLt_ii, oLe_ii, oGt_ii, oGe_ii, oInt_i, oIx_ti, oIx_qi, oLen_t, oLen_q, oLen_s, atI_0, atI_1, atI_2, atI_3, atI_4, atI_5, atI_6, atI_7, atI_8, atI_9, atI_10, atI_11, atI_12, atI_13, atI_14, List.getElem?_cons_zero, List.getElem?_cons_succ, List.map_cons, List.map_nil, List.cons_append, List.nil_append, List.length_cons, List.length_nil, List.set_cons_zero, List.set_cons_succ, List.replicate, Option.map_some, Option.map_none, Option.bind_some, Option.bind_none, if_true, if_false, Nat.reduceAdd, Nat.reduceSub, Nat.reduceLT, Nat.reduceLeDiff, Nat.reduceEqDiff, Int.reduceLT, Int.reduceLE, Int.reduceNeg, Int.reduceEq, Bool.false_eq_true, Bool.true_eq_false, reduceIte, reduceCtorEq, Bool.not_true, Bool.not_false, decide_eq_true_eq, Nat.zero_lt_succ, and_true, true_and, and_self, and_false, false_and, isi_non_tuple, isi_non_int, isi_non_str, isi_non_bool, isi_non_list, type_non, isi_bl_tuple, isi_bl_int, isi_bl_str, isi_bl_bool, isi_bl_list, type_bl, isi_int_tuple, isi_int_int, isi_int_str, isi_int_bool, isi_int_list, type_int, isi_str_tuple, isi_str_int, isi_str_str, isi_str_bool, isi_str_list, type_str, isi_tup_tuple, isi_tup_int, isi_tup_str, isi_tup_bool, isi_tup_list, type_tup, is_int_int, isn_int_int, is_int_str, isn_int_str, is_int_tuple, isn_int_tuple, is_int_list, isn_int_list, is_int_bool, isn_int_bool, is_str_int, isn_str_int, is_str_str, isn_str_str, is_str_tuple, isn_str_tuple, is_str_list, isn_str_list, is_str_bool, isn_str_bool, is_tuple_int, isn_tuple_int, is_tuple_str, isn_tuple_str, is_tuple_tuple, isn_tuple_tuple, is_tuple_list, isn_tuple_list, is_tuple_bool, isn_tuple_bool, is_list_int, isn_list_int, is_list_str, isn_list_str, is_list_tuple, isn_list_tuple, is_list_list, isn_list_list, is_list_bool, isn_list_bool, is_bool_int, isn_bool_int, is_bool_str, isn_bool_str, is_bool_tuple, isn_bool_tuple, is_bool_list, isn_bool_list, is_bool_bool, isn_bool_bool, is_NoneType_int, isn_NoneType_int, is_NoneType_str, isn_NoneType_str, is_NoneType_tuple, isn_NoneType_tuple, is_NoneType_list, isn_NoneType_list, is_NoneType_bool, isn_NoneType_bool, isN_non, isnN_non, isB_non, isnB_non, isN_bl, isnN_bl, isB_bl, isnB_bl, isN_int, isnN_int, isB_int, isnB_int, isN_str, isnN_str, isB_str, isnB_str, isN_tup, isnN_tup, isB_tup, isnB_tup, eq_non_non, eq_non_bl, ne_non_bl, eq_non_int, ne_non_int, eq_non_str, ne_non_str, eq_bl_non, ne_bl_non, eq_bl_bl, ne_bl_bl, eq_bl_str, ne_bl_str, eq_int_non, ne_int_non, eq_int_int, ne_int_int, eq_int_str, ne_int_str, eq_str_non, ne_str_non, eq_str_bl, ne_str_bl, eq_str_int, ne_str_int, eq_str_str, ne_str_str, isN_ref, isB_ref, tru_bl, tru_int]
        refine gate (fun q => by simp only [q, Bool.false_and, Bool.and_false] at h; exact h _ (Kx.refl _ _)) fun q => ?_
        simp only [q, Bool.true_and, Bool.and_true] at h
        refine within_spec (Pl.vd p3) ?_
        try simp only [sat_ok, sat_ex, sat_err, sat_bind_eq, ofP_some, ofP_none, sat_of_eq, st_nx, st_rt, st_bk, st_ct, st_ex, st_err, st_then, seqP_nx, seqP_rt, seqP_bk, seqP_ct, seqP_ex, st_xSeq, endP_nx, endP_rt, endP_ex, endP_bk, endP_ct, varP_some, varP_none, varP_non, sat_xVar, sat_xC, sat_xOp, sat_xUn, blP_bl, sat_xTB, trP_some, trP_none, sat_xT, sat_xAndT, sat_xOrT, sat_xNotT, sat_xAnd, sat_xOr, sat_xNot, sat_xIf, sat_xNil, sat_xCons, sat_xTup, sat_xLst, sat_xChain, sat_xCall, sat_xCB, sat_xM0, sat_xM, intP_int, sat_xNoP, sat_xPart, sat_xSl, st_xSkip, st_xBrk, st_xCnt, st_xDrop, st_xRet, st_xRetN, st_xIfS, tgP_some, tgP_none, st_xAsg, g_gVar, g_gNil, g_gCons, g_gTup, augP_some, augP_none, st_xAug, parP_two, st_xPar, loopP_nx, loopP_ct, loopP_bk, loopP_rt, loopP_ex, st_xFor, itP_some, itP_none, sat_xIt, sat_xLc, sat_xItA, sat_xYes, sat_xLenSet, oAdd_ii, oSub_ii, oMul_ii, oFdiv_ii, oMod_ii, oNeg_i, oLt_ii, oLe_ii, oGt_ii, oGe_ii, oInt_i, oIx_ti, oIx_qi, oLen_t, oLen_q, oLen_s, atI_0, atI_1, atI_2, atI_3, atI_4, atI_5, atI_6, atI_7, atI_8, atI_9, atI_10, atI_11, atI_12, atI_13, atI_14, List.getElem?_cons_zero, List.getElem?_cons_succ, List.map_cons, List.map_nil, List.cons_append, List.nil_append, List.length_cons, List.length_nil, List.set_cons_zero, List.set_cons_succ, List.replicate, Option.map_some, Option.map_none, Option.bind_some, Option.bind_none, if_true, if_false, Nat.reduceAdd, Nat.reduceSub, Nat.reduceLT, Nat.reduceLeDiff, Nat.reduceEqDiff, Int.reduceLT, Int.reduceLE, Int.reduceNeg, Int.reduceEq, Bool.false_eq_true, Bool.true_eq_false, reduceIte, reduceCtorEq, Bool.not_true, Bool.not_false, decide_eq_true_eq, Nat.zero_lt_succ, and_true, true_and, and_self, and_false, false_and, isi_non_tuple, isi_non_int, isi_non_str, isi_non_bool, isi_non_list, type_non, isi_bl_tuple, isi_bl_int, isi_bl_str, isi_bl_bool, isi_bl_list, type_bl, isi_int_tuple, isi_int_int, isi_int_str, isi_int_bool, isi_int_list, type_int, isi_str_tuple, isi_str_int, isi_str_str, isi_str_bool, isi_str_list, type_str, isi_tup_tuple, isi_tup_int, isi_tup_str, isi_tup_bool, isi_tup_list, type_tup, is_int_int, isn_int_int, is_int_str, isn_int_str, is_int_tuple, isn_int_tuple, is_int_list, isn_int_list, is_int_bool, isn_int_bool, is_str_int, isn_str_int, is_str_str, isn_str_str, is_str_tuple, isn_str_tuple, is_str_list, isn_str_list, is_str_bool, isn_str_bool, is_tuple_int, isn_tuple_int, is_tuple_str, isn_tuple_str, is_tuple_tuple, isn_tuple_tuple, is_tuple_list, isn_tuple_list, is_tuple_bool, isn_tuple_bool, is_list_int, isn_list_int, is_list_str, isn_list_str, is_list_tuple, isn_list_tuple, is_list_list, isn_list_list, is_list_bool, isn_list_bool, is_bool_int, isn_bool_int, is_bool_str, isn_bool_str, is_bool_tuple, isn_bool_tuple, is_bool_list, isn_bool_list, is_bool_bool, isn_bool_bool, is_NoneType_int, isn_NoneType_int, is_NoneType_str, isn_NoneType_str, is_NoneType_tuple, isn_NoneType_tuple, is_NoneType_list, isn_NoneType_list, is_NoneType_bool, isn_NoneType_bool, isN_non, isnN_non, isB_non, isnB_non, isN_bl, isnN_bl, isB_bl, isnB_bl, isN_int, isnN_int, isB_int, isnB_int, isN_str, isnN_str, isB_str, isnB_str, isN_tup, isnN_tup, isB_tup, isnB_tup, eq_non_non, eq_non_bl, ne_non_bl, eq_non_int, ne_non_int, eq_non_str, ne_non_str, eq_bl_non, ne_bl_non, eq_bl_bl, ne_bl_bl, eq_bl_str, ne_bl_str, eq_int_non, ne_int_non, eq_int_int, ne_int_int, eq_int_str, ne_int_str, eq_str_non, ne_str_non, eq_str_bl, ne_str_bl, eq_str_int, ne_str_int, eq_str_str, ne_str_str, isN_ref, isB_ref, tru_bl, tru_int]
        refine gate (fun q => by simp only [q, Bool.false_and, Bool.and_false] at h; exact h _ (Kx.refl _ _)) fun q => ?_
        simp only [q, Bool.true_and, Bool.and_true] at h
        refine within_spec (Pl.vd p4) ?_
        try simp only [sat_ok, sat_ex, sat_err, sat_bind_eq, ofP_some, ofP_none, sat_of_eq, st_nx, st_rt, st_bk, st_ct, st_ex, st_err, st_then, seqP_nx, seqP_rt, seqP_bk, seqP_ct, seqP_ex, st_xSeq, endP_nx, endP_rt, endP_ex, endP_bk, endP_ct, varP_some, varP_none, varP_non, sat_xVar, sat_xC, sat_xOp, sat_xUn, blP_bl, sat_xTB, trP_some, trP_none, sat_xT, sat_xAndT, sat_xOrT, sat_xNotT, sat_xAnd, sat_xOr, sat_xNot, sat_xIf, sat_xNil, sat_xCons, sat_xTup, sat_xLst, sat_xChain, sat_xCall, sat_xCB, sat_xM0, sat_xM, intP_int, sat_xNoP, sat_xPart, sat_xSl, st_xSkip, st_xBrk, st_xCnt, st_xDrop, st_xRet, st_xRetN, st_xIfS, tgP_some, tgP_none, st_xAsg, g_gVar, g_gNil, g_gCons, g_gTup, augP_some, augP_none, st_xAug, parP_two, st_xPar, loopP_nx, loopP_ct, loopP_bk, loopP_rt, loopP_ex, st_xFor, itP_some, itP_none, sat_xIt, sat_xLc, sat_xItA, sat_xYes, sat_xLenSet, oAdd_ii, oSub_ii, oMul_ii, oFdiv_ii, oMod_ii, oNeg_i, oLt_ii, oLe_ii, oGt_ii, oGe_ii, oInt_i, oIx_ti, oIx_qi, oLen_t, oLen_q, oLen_s, atI_0, atI_1, atI_2, atI_3, atI_4, atI_5, atI_6, atI_7, atI_8, atI_9, atI_10, atI_11, atI_12, atI_13, atI_14, List.getElem?_cons_zero, List.getElem?_cons_succ, List.map_cons, List.map_nil, List.cons_append, List.nil_append, List.length_cons, List.length_nil, List.set_cons_zero, List.set_cons_succ, List.replicate, Option.map_some, Option.map_none, Option.bind_some, Option.bind_none, if_true, if_false, Nat.reduceAdd, Nat.reduceSub, Nat.reduceLT, Nat.reduceLeDiff, Nat.reduceEqDiff, Int.reduceLT, Int.reduceLE, Int.reduceNeg, Int.reduceEq, Bool.false_eq_true, Bool.true_eq_false, reduceIte, reduceCtorEq, Bool.not_true, Bool.not_false, decide_eq_true_eq, Nat.zero_lt_succ, and_true, true_and, and_self, and_false, false_and, isi_non_tuple, isi_non_int, isi_non_str, isi_non_bool, isi_non_list, type_non, isi_bl_tuple, isi_bl_int, isi_bl_str, isi_bl_bool, isi_bl_list, type_bl, isi_int_tuple, isi_int_int, isi_int_str, isi_int_bool, isi_int_list, type_int, isi_str_tuple, isi_str_int, isi_str_str, isi_str_bool, isi_str_list, type_str, isi_tup_tuple, isi_tup_int, isi_tup_str, isi_tup_bool, isi_tup_list, type_tup, is_int_int, isn_int_int, is_int_str, isn_int_str, is_int_tuple, isn_int_tuple, is_int_list, isn_int_list, is_int_bool, isn_int_bool, is_str_int, isn_str_int, is_str_str, isn_str_str, is_str_tuple, isn_str_tuple, is_str_list, isn_str_list, is_str_bool, isn_str_bool, is_tuple_int, isn_tuple_int, is_tuple_str, isn_tuple_str, is_tuple_tuple, isn_tuple_tuple, is_tuple_list, isn_tuple_list, is_tuple_bool, isn_tuple_bool, is_list_int, isn_list_int, is_list_str, isn_list_str, is_list_tuple, isn_list_tuple, is_list_list, isn_list_list, is_list_bool, isn_list_bool, is_bool_int, isn_bool_int, is_bool_str, isn_bool_str, is_bool_tuple, isn_bool_tuple, is_bool_list, isn_bool_list, is_bool_bool, isn_bool_bool, is_NoneType_int, isn_NoneType_int, is_NoneType_str, isn_NoneType_str, is_NoneType_tuple, isn_NoneType_tuple, is_NoneType_list, isn_NoneType_list, is_NoneType_bool, isn_NoneType_bool, isN_non, isnN_non, isB_non, isnB_non, isN_bl, isnN_bl, isB_bl, isnB_bl, isN_int, isnN_int, isB_int, isnB_int, isN_str, isnN_str, isB_str, isnB_str, isN_tup, isnN_tup, isB_tup, isnB_tup, eq_non_non, eq_non_bl, ne_non_bl, eq_non_int, ne_non_int, eq_non_str, ne_non_str, eq_bl_non, ne_bl_non, eq_bl_bl, ne_bl_bl, eq_bl_str, ne_bl_str, eq_int_non, ne_int_non, eq_int_int, ne_int_int, eq_int_str, ne_int_str, eq_str_non, ne_str_non, eq_str_bl, ne_str_bl, eq_str_int, ne_str_int, eq_str_str, ne_str_str, isN_ref, isB_ref, tru_bl, tru_int]
        refine gate (fun q => by simp only [q, Bool.false_and, Bool.and_false] at h; exact h _ (Kx.refl _ _)) fun q => ?_
        simp only [q, Bool.true_and, Bool.and_true] at h
        refine within_spec (Pl.vd p8) ?_
        try simp only [sat_ok, sat_ex, sat_err, sat_bind_eq, ofP_some, ofP_none, sat_of_eq, st_nx, st_rt, st_bk, st_ct, st_ex, st_err, st_then, seqP_nx, seqP_rt, seqP_bk, seqP_ct, seqP_ex, st_xSeq, endP_nx, endP_rt, endP_ex, endP_bk, endP_ct, varP_some, varP_none, varP_non, sat_xVar, sat_xC, sat_xOp, sat_xUn, blP_bl, sat_xTB, trP_some, trP_none, sat_xT, sat_xAndT, sat_xOrT, sat_xNotT, sat_xAnd, sat_xOr, sat_xNot, sat_xIf, sat_xNil, sat_xCons, sat_xTup, sat_xLst, sat_xChain, sat_xCall, sat_xCB, sat_xM0, sat_xM, intP_int, sat_xNoP, sat_xPart, sat_xSl, st_xSkip, st_xBrk, st_xCnt, st_xDrop, st_xRet, st_xRetN, st_xIfS, tgP_some, tgP_none, st_xAsg, g_gVar, g_gNil, g_gCons, g_gTup, augP_some, augP_none, st_xAug, parP_two, st_xPar, loopP_nx, loopP_ct, loopP_bk, loopP_rt, loopP_ex, st_xFor, itP_some, itP_none, sat_xIt, sat_xLc, sat_xItA, sat_xYes, sat_xLenSet, oAdd_ii, oSub_ii, oMul_ii, oFdiv_ii, oMod_ii, oNeg_i, oLt_ii, oLe_ii, oGt_ii, oGe_ii, oInt_i, oIx_ti, oIx_qi, oLen_t, oLen_q, oLen_s, atI_0, atI_1, atI_2, atI_3, atI_4, atI_5, atI_6, atI_7, atI_8, atI_9, atI_10, atI_11, atI_12, atI_13, atI_14, List.getElem?_cons_zero, List.getElem?_cons_succ, List.map_cons, List.map_nil, List.cons_append, List.nil_append, List.length_cons, List.length_nil, List.set_cons_zero, List.set_cons_succ, List.replicate, Option.map_some, Option.map_none, Option.bind_some, Option.bind_none, if_true, if_false, Nat.reduceAdd, Nat.reduceSub, Nat.reduceLT, Nat.reduceLeDiff, Nat.reduceEqDiff, Int.reduceLT, Int.reduceLE, Int.reduceNeg, Int.reduceEq, Bool.false_eq_true, Bool.true_eq_false, reduceIte, reduceCtorEq, Bool.not_true, Bool.not_false, decide_eq_true_eq, Nat.zero_lt_succ, and_true, true_and, and_self, and_false, false_and, isi_non_tuple, isi_non_int, isi_non_str, isi_non_bool, isi_non_list, type_non, isi_bl_tuple, isi_bl_int, isi_bl_str, isi_bl_bool, isi_bl_list, type_bl, isi_int_tuple, isi_int_int, isi_int_str, isi_int_bool, isi_int_list, type_int, isi_str_tuple, isi_str_int, isi_str_str, isi_str_bool, isi_str_list, type_str, isi_tup_tuple, isi_tup_int, isi_tup_str, isi_tup_bool, isi_tup_list, type_tup, is_int_int, isn_int_int, is_int_str, isn_int_str, is_int_tuple, isn_int_tuple, is_int_list, isn_int_list, is_int_bool, isn_int_bool, is_str_int, isn_str_int, is_str_str, isn_str_str, is_str_tuple, isn_str_tuple, is_str_list, isn_str_list, is_str_bool, isn_str_bool, is_tuple_int, isn_tuple_int, is_tuple_str, isn_tuple_str, is_tuple_tuple, isn_tuple_tuple, is_tuple_list, isn_tuple_list, is_tuple_bool, isn_tuple_bool, is_list_int, isn_list_int, is_list_str, isn_list_str, is_list_tuple, isn_list_tuple, is_list_list, isn_list_list, is_list_bool, isn_list_bool, is_bool_int, isn_bool_int, is_bool_str, isn_bool_str, is_bool_tuple, isn_bool_tuple, is_bool_list, isn_bool_list, is_bool_bool, isn_bool_bool, is_NoneType_int, isn_NoneType_int, is_NoneType_str, isn_NoneType_str, is_NoneType_tuple, isn_NoneType_tuple, is_NoneType_list, isn_NoneType_list, is_NoneType_bool, isn_NoneType_bool, isN_non, isnN_non, isB_non, isnB_non, isN_bl, isnN_bl, isB_bl, isnB_bl, isN_int, isnN_int, isB_int, isnB_int, isN_str, isnN_str, isB_str, isnB_str, isN_tup, isnN_tup, isB_tup, isnB_tup, eq_non_non, eq_non_bl, ne_non_bl, eq_non_int, ne_non_int, eq_non_str, ne_non_str, eq_bl_non, ne_bl_non, eq_bl_bl, ne_bl_bl, eq_bl_str, ne_bl_str, eq_int_non, ne_int_non, eq_int_int, ne_int_int, eq_int_str, ne_int_str, eq_str_non, ne_str_non, eq_str_bl, ne_str_bl, eq_str_int, ne_str_int, eq_str_str, ne_str_str, isN_ref, isB_ref, tru_bl, tru_int]
        refine gate (fun q => by simp only [q, Bool.false_and, Bool.and_false] at h; exact h _ (Kx.refl _ _)) fun q => ?_
        simp only [q, Bool.true_and, Bool.and_true] at h
        try simp only [sat_ok, sat_ex, sat_err, sat_bind_eq, ofP_some, ofP_none, sat_of_eq, st_nx, st_rt, st_bk, st_ct, st_ex, st_err, st_then, seqP_nx, seqP_rt, seqP_bk, seqP_ct, seqP_ex, st_xSeq, endP_nx, endP_rt, endP_ex, endP_bk, endP_ct, varP_some, varP_none, varP_non, sat_xVar, sat_xC, sat_xOp, sat_xUn, blP_bl, sat_xTB, trP_some, trP_none, sat_xT, sat_xAndT, sat_xOrT, sat_xNotT, sat_xAnd, sat_xOr, sat_xNot, sat_xIf, sat_xNil, sat_xCons, sat_xTup, sat_xLst, sat_xChain, sat_xCall, sat_xCB, sat_xM0, sat_xM, intP_int, sat_xNoP, sat_xPart, sat_xSl, st_xSkip, st_xBrk, st_xCnt, st_xDrop, st_xRet, st_xRetN, st_xIfS, tgP_some, tgP_none, st_xAsg, g_gVar, g_gNil, g_gCons, g_gTup, augP_some, augP_none, st_xAug, parP_two, st_xPar, loopP_nx, loopP_ct, loopP_bk, loopP_rt, loopP_ex, st_xFor, itP_some, itP_none, sat_xIt, sat_xLc, sat_xItA, sat_xYes, sat_xLenSet, oAdd_ii, oSub_ii, oMul_ii, oFdiv_ii, oMod_ii, oNeg_i, oLt_ii, oLe_ii, oGt_ii, oGe_ii, oInt_i, oIx_ti, oIx_qi, oLen_t, oLen_q, oLen_s, atI_0, atI_1, atI_2, atI_3, atI_4, atI_5, atI_6, atI_7, atI_8, atI_9, atI_10, atI_11, atI_12, atI_13, atI_14, List.getElem?_cons_zero, List.getElem?_cons_succ, List.map_cons, List.map_nil, List.cons_append, List.nil_append, List.length_cons, List.length_nil, List.set_cons_zero, List.set_cons_succ, List.replicate, Option.map_some, Option.map_none, Option.bind_some, Option.bind_none, if_true, if_false, Nat.reduceAdd, Nat.reduceSub, Nat.reduceLT, Nat.reduceLeDiff, Nat.reduceEqDiff, Int.reduceLT, Int.reduceLE, Int.reduceNeg, Int.reduceEq, Bool.false_eq_true, Bool.true_eq_false, reduceIte, reduceCtorEq, Bool.not_true, Bool.not_false, decide_eq_true_eq, Nat.zero_lt_succ, and_true, true_and, and_self, and_false, false_and, isi_non_tuple, isi_non_int, isi_non_str, isi_non_bool, isi_non_list, type_non, isi_bl_tuple, isi_bl_int, isi_bl_str, isi_bl_bool, isi_bl_list, type_bl, isi_int_tuple, isi_int_int, isi_int_str, isi_int_bool, isi_int_list, type_int, isi_str_tuple, isi_str_int, isi_str_str, isi_str_bool, isi_str_list, type_str, isi_tup_tuple, isi_tup_int, isi_tup_str, isi_tup_bool, isi_tup_list, type_tup, is_int_int, isn_int_int, is_int_str, isn_int_str, is_int_tuple, isn_int_tuple, is_int_list, isn_int_list, is_int_bool, isn_int_bool, is_str_int, isn_str_int, is_str_str, isn_str_str, is_str_tuple, isn_str_tuple, is_str_list, isn_str_list, is_str_bool, isn_str_bool, is_tuple_int, isn_tuple_int, is_tuple_str, isn_tuple_str, is_tuple_tuple, isn_tuple_tuple, is_tuple_list, isn_tuple_list, is_tuple_bool, isn_tuple_bool, is_list_int, isn_list_int, is_list_str, isn_list_str, is_list_tuple, isn_list_tuple, is_list_list, isn_list_list, is_list_bool, isn_list_bool, is_bool_int, isn_bool_int, is_bool_str, isn_bool_str, is_bool_tuple, isn_bool_tuple, is_bool_list, isn_bool_list, is_bool_bool, isn_bool_bool, is_NoneType_int, isn_NoneType_int, is_NoneType_str, isn_NoneType_str, is_NoneType_tuple, isn_NoneType_tuple, is_NoneType_list, isn_NoneType_list, is_NoneType_bool, isn_NoneType_bool, isN_non, isnN_non, isB_non, isnB_non, isN_bl, isnN_bl, isB_bl, isnB_bl, isN_int, isnN_int, isB_int, isnB_int, isN_str, isnN_str, isB_str, isnB_str, isN_tup, isnN_tup, isB_tup, isnB_tup, eq_non_non, eq_non_bl, ne_non_bl, eq_non_int, ne_non_int, eq_non_str, ne_non_str, eq_bl_non, ne_bl_non, eq_bl_bl, ne_bl_bl, eq_bl_str, ne_bl_str, eq_int_non, ne_int_non, eq_int_int, ne_int_int, eq_int_str, ne_int_str, eq_str_non, ne_str_non, eq_str_bl, ne_str_bl, eq_str_int, ne_str_int, eq_str_str, ne_str_str, isN_ref, isB_ref, tru_bl, tru_int, itOf, wipeG]
        refine ⟨by rw [z]; decide, lc_pure (fun _ => true) (fun d => .bl (likeB d (.str "") || nameD d)) (by rw [z]; show 2 < 16777216; decide) (fun _ _ => trivial) (fun d hd => ?_) fun S1 k1 e1 => ?_⟩
        · refine ⟨_, rfl, fun S1 k1 => ?_⟩
          have pd : Pl 0 d := by
            simp only [List.mem_cons, List.not_mem_nil, or_false] at hd
            rcases hd with rfl | rfl
            · exact p6
            · exact p7
          simp only [sat_ok, sat_ex, sat_err, sat_bind_eq, ofP_some, ofP_none, sat_of_eq, st_nx, st_rt, st_bk, st_ct, st_ex, st_err, st_then, seqP_nx, seqP_rt, seqP_bk, seqP_ct, seqP_ex, st_xSeq, endP_nx, endP_rt, endP_ex, endP_bk, endP_ct, varP_some, varP_none, varP_non, sat_xVar, sat_xC, sat_xOp, sat_xUn, blP_bl, sat_xTB, trP_some, trP_none, sat_xT, sat_xAndT, sat_xOrT, sat_xNotT, sat_xAnd, sat_xOr, sat_xNot, sat_xIf, sat_xNil, sat_xCons, sat_xTup, sat_xLst, sat_xChain, sat_xCall, sat_xCB, sat_xM0, sat_xM, intP_int, sat_xNoP, sat_xPart, sat_xSl, st_xSkip, st_xBrk, st_xCnt, st_xDrop, st_xRet, st_xRetN, st_xIfS, tgP_some, tgP_none, st_xAsg, g_gVar, g_gNil, g_gCons, g_gTup, augP_some, augP_none, st_xAug, parP_two, st_xPar, loopP_nx, loopP_ct, loopP_bk, loopP_rt, loopP_ex, st_xFor, itP_some, itP_none, sat_xIt, sat_xLc, sat_xItA, sat_xYes, sat_xLenSet, oAdd_ii, oSub_ii, oMul_ii, oFdiv_ii, oMod_ii, oNeg_i, oLt_ii, oLe_ii, oGt_ii, oGe_ii, oInt_i, oIx_ti, oIx_qi, oLen_t, oLen_q, oLen_s, atI_0, atI_1, atI_2, atI_3, atI_4, atI_5, atI_6, atI_7, atI_8, atI_9, atI_10, atI_11, atI_12, atI_13, atI_14, List.getElem?_cons_zero, List.getElem?_cons_succ, List.map_cons, List.map_nil, List.cons_append, List.nil_append, List.length_cons, List.length_nil, List.set_cons_zero, List.set_cons_succ, List.replicate, Option.map_some, Option.map_none, Option.bind_some, Option.bind_none, if_true, if_false, Nat.reduceAdd, Nat.reduceSub, Nat.reduceLT, Nat.reduceLeDiff, Nat.reduceEqDiff, Int.reduceLT, Int.reduceLE, Int.reduceNeg, Int.reduceEq, Bool.false_eq_true, Bool.true_eq_false, reduceIte, reduceCtorEq, Bool.not_true, Bool.not_false, decide_eq_true_eq, Nat.zero_lt_succ, and_true, true_and, and_self, and_false, false_and, isi_non_tuple, isi_non_int, isi_non_str, isi_non_bool, isi_non_list, type_non, isi_bl_tuple, isi_bl_int, isi_bl_str, isi_bl_bool, isi_bl_list, type_bl, isi_int_tuple, isi_int_int, isi_int_str, isi_int_bool, isi_int_list, type_int, isi_str_tuple, isi_str_int, isi_str_str, isi_str_bool, isi_str_list, type_str, isi_tup_tuple, isi_tup_int, isi_tup_str, isi_tup_bool, isi_tup_list, type_tup, is_int_int, isn_int_int, is_int_str, isn_int_str, is_int_tuple, isn_int_tuple, is_int_list, isn_int_list, is_int_bool, isn_int_bool, is_str_int, isn_str_int, is_str_str, isn_str_str, is_str_tuple, isn_str_tuple, is_str_list, isn_str_list, is_str_bool, isn_str_bool, is_tuple_int, isn_tuple_int, is_tuple_str, isn_tuple_str, is_tuple_tuple, isn_tuple_tuple, is_tuple_list, isn_tuple_list, is_tuple_bool, isn_tuple_bool, is_list_int, isn_list_int, is_list_str, isn_list_str, is_list_tuple, isn_list_tuple, is_list_list, isn_list_list, is_list_bool, isn_list_bool, is_bool_int, isn_bool_int, is_bool_str, isn_bool_str, is_bool_tuple, isn_bool_tuple, is_bool_list, isn_bool_list, is_bool_bool, isn_bool_bool, is_NoneType_int, isn_NoneType_int, is_NoneType_str, isn_NoneType_str, is_NoneType_tuple, isn_NoneType_tuple, is_NoneType_list, isn_NoneType_list, is_NoneType_bool, isn_NoneType_bool, isN_non, isnN_non, isB_non, isnB_non, isN_bl, isnN_bl, isB_bl, isnB_bl, isN_int, isnN_int, isB_int, isnB_int, isN_str, isnN_str, isB_str, isnB_str, isN_tup, isnN_tup, isB_tup, isnB_tup, eq_non_non, eq_non_bl, ne_non_bl, eq_non_int, ne_non_int, eq_non_str, ne_non_str, eq_bl_non, ne_bl_non, eq_bl_bl, ne_bl_bl, eq_bl_str, ne_bl_str, eq_int_non, ne_int_non, eq_int_int, ne_int_int, eq_int_str, ne_int_str, eq_str_non, ne_str_non, eq_str_bl, ne_str_bl, eq_str_int, ne_str_int, eq_str_str, ne_str_str, isN_ref, isB_ref, tru_bl, tru_int, eq_str pd]
          refine ⟨Kx.refl _ _, fun _ => gateT (fun q => ?_) fun q => ?_⟩
          · rw [q]; exact ⟨rfl, Kx.refl _ _⟩
          · rw [q, Bool.false_or]
            exact is_name_spec (Pl.vd pd) ⟨rfl, Kx.refl _ _⟩
        · simp only [sat_ok, sat_ex, sat_err, sat_bind_eq, ofP_some, ofP_none, sat_of_eq, st_nx, st_rt, st_bk, st_ct, st_ex, st_err, st_then, seqP_nx, seqP_rt, seqP_bk, seqP_ct, seqP_ex, st_xSeq, endP_nx, endP_rt, endP_ex, endP_bk, endP_ct, varP_some, varP_none, varP_non, sat_xVar, sat_xC, sat_xOp, sat_xUn, blP_bl, sat_xTB, trP_some, trP_none, sat_xT, sat_xAndT, sat_xOrT, sat_xNotT, sat_xAnd, sat_xOr, sat_xNot, sat_xIf, sat_xNil, sat_xCons, sat_xTup, sat_xLst, sat_xChain, sat_xCall, sat_xCB, sat_xM0, sat_xM, intP_int, sat_xNoP, sat_xPart, sat_xSl, st_xSkip, st_xBrk, st_xCnt, st_xDrop, st_xRet, st_xRetN, st_xIfS, tgP_some, tgP_none, st_xAsg, g_gVar, g_gNil, g_gCons, g_gTup, augP_some, augP_none, st_xAug, parP_two, st_xPar, loopP_nx, loopP_ct, loopP_bk, loopP_rt, loopP_ex, st_xFor, itP_some, itP_none, sat_xIt, sat_xLc, sat_xItA, sat_xYes, sat_xLenSet, oAdd_ii, oSub_ii, oMul_ii, oFdiv_ii, oMod_ii, oNeg_i, oLt_ii, oLe_ii, oGt_ii, oGe_ii, oInt_i, oIx_ti, oIx_qi, oLen_t, oLen_q, oLen_s, atI_0, atI_1, atI_2, atI_3, atI_4, atI_5, atI_6, atI_7, atI_8, atI_9, atI_10, atI_11, atI_12, atI_13, atI_14, List.getElem?_cons_zero, List.getElem?_cons_succ, List.map_cons, List.map_nil, List.cons_append, List.nil_append, List.length_cons, List.length_nil, List.set_cons_zero, List.set_cons_succ, List.replicate, Option.map_some, Option.map_none, Option.bind_some, Option.bind_none, if_true, if_false, Nat.reduceAdd, Nat.reduceSub, Nat.reduceLT, Nat.reduceLeDiff, Nat.reduceEqDiff, Int.reduceLT, Int.reduceLE, Int.reduceNeg, Int.reduceEq, Bool.false_eq_true, Bool.true_eq_false, reduceIte, reduceCtorEq, Bool.not_true, Bool.not_false, decide_eq_true_eq, Nat.zero_lt_succ, and_true, true_and, and_self, and_false, false_and, isi_non_tuple, isi_non_int, isi_non_str, isi_non_bool, isi_non_list, type_non, isi_bl_tuple, isi_bl_int, isi_bl_str, isi_bl_bool, isi_bl_list, type_bl, isi_int_tuple, isi_int_int, isi_int_str, isi_int_bool, isi_int_list, type_int, isi_str_tuple, isi_str_int, isi_str_str, isi_str_bool, isi_str_list, type_str, isi_tup_tuple, isi_tup_int, isi_tup_str, isi_tup_bool, isi_tup_list, type_tup, is_int_int, isn_int_int, is_int_str, isn_int_str, is_int_tuple, isn_int_tuple, is_int_list, isn_int_list, is_int_bool, isn_int_bool, is_str_int, isn_str_int, is_str_str, isn_str_str, is_str_tuple, isn_str_tuple, is_str_list, isn_str_list, is_str_bool, isn_str_bool, is_tuple_int, isn_tuple_int, is_tuple_str, isn_tuple_str, is_tuple_tuple, isn_tuple_tuple, is_tuple_list, isn_tuple_list, is_tuple_bool, isn_tuple_bool, is_list_int, isn_list_int, is_list_str, isn_list_str, is_list_tuple, isn_list_tuple, is_list_list, isn_list_list, is_list_bool, isn_list_bool, is_bool_int, isn_bool_int, is_bool_str, isn_bool_str, is_bool_tuple, isn_bool_tuple, is_bool_list, isn_bool_list, is_bool_bool, isn_bool_bool, is_NoneType_int, isn_NoneType_int, is_NoneType_str, isn_NoneType_str, is_NoneType_tuple, isn_NoneType_tuple, is_NoneType_list, isn_NoneType_list, is_NoneType_bool, isn_NoneType_bool, isN_non, isnN_non, isB_non, isnB_non, isN_bl, isnN_bl, isB_bl, isnB_bl, isN_int, isnN_int, isB_int, isnB_int, isN_str, isnN_str, isB_str, isnB_str, isN_tup, isnN_tup, isB_tup, isnB_tup, eq_non_non, eq_non_bl, ne_non_bl, eq_non_int, ne_non_int, eq_non_str, ne_non_str, eq_bl_non, ne_bl_non, eq_bl_bl, ne_bl_bl, eq_bl_str, ne_bl_str, eq_int_non, ne_int_non, eq_int_int, ne_int_int, eq_int_str, ne_int_str, eq_str_non, ne_str_non, eq_str_bl, ne_str_bl, eq_str_int, ne_str_int, eq_str_str, ne_str_str, isN_ref, isB_ref, tru_bl, tru_int, all_of e1]
          simp only [List.all_cons, List.all_nil, Bool.and_true]
          exact h _ k1
noncomputable abbrev fDueOrder (j : Nat) : Fn := bodyF 3 (B__law_due_order (fLike (j + 1)) fLawName fLawWhole)
theorem due_order_spec {j : Nat} (hv : Od S d) (h : ∀ S', Kp S S' → Pd (.bl (orderD d)) S') : (fDueOrder j [d] S).wp Pd E := by
  have z : sizeLine = 16777216 := rfl
  rw [sat_bodyF]
  unfold B__law_due_order
  refine seq_cut fun K1 n1 r1 => ?_
  cases hv with
  | ref hr => simp only [sat_ok, sat_ex, sat_err, sat_bind_eq, ofP_some, ofP_none, sat_of_eq, st_nx, st_rt, st_bk, st_ct, st_ex, st_err, st_then, seqP_nx, seqP_rt, seqP_bk, seqP_ct, seqP_ex, st_xSeq, endP_nx, endP_rt, endP_ex, endP_bk, endP_ct, varP_some, varP_none, varP_non, sat_xVar, sat_xC, sat_xOp, sat_xUn, blP_bl, sat_xTB, trP_some, trP_none, sat_xT, sat_xAndT, sat_xOrT, sat_xNotT, sat_xAnd, sat_xOr, sat_xNot, sat_xIf, sat_xNil, sat_xCons, sat_xTup, sat_xLst, sat_xChain, sat_xCall, sat_xCB, sat_xM0, sat_xM, intP_int, sat_xNoP, sat_xPart, sat_xSl, st_xSkip, st_xBrk, st_xCnt, st_xDrop, st_xRet, st_xRetN, st_xIfS, tgP_some, tgP_none, st_xAsg, g_gVar, g_gNil, g_gCons, g_gTup, augP_some, augP_none, st_xAug, parP_two, st_xPar, loopP_nx, loopP_ct, loopP_bk, loopP_rt, loopP_ex, st_xFor, itP_some, itP_none, sat_xIt, sat_xLc, sat_xItA, sat_xYes, sat_xLenSet, oAdd_ii, oSub_ii, oMul_ii, oFdiv_ii, oMod_ii, oNeg_i, oLt_ii, oLe_ii, oGt_ii, oGe_ii, oInt_i, oIx_ti, oIx_qi, oLen_t, oLen_q, oLen_s, atI_0, atI_1, atI_2, atI_3, atI_4, atI_5, atI_6, atI_7, atI_8, atI_9, atI_10, atI_11, atI_12, atI_13, atI_14, List.getElem?_cons_zero, List.getElem?_cons_succ, List.map_cons, List.map_nil, List.cons_append, List.nil_append, List.length_cons, List.length_nil, List.set_cons_zero, List.set_cons_succ, List.replicate, Option.map_some, Option.map_none, Option.bind_some, Option.bind_none, if_true, if_false, Nat.reduceAdd, Nat.reduceSub, Nat.reduceLT, Nat.reduceLeDiff, Nat.reduceEqDiff, Int.reduceLT, Int.reduceLE, Int.reduceNeg, Int.reduceEq, Bool.false_eq_true, Bool.true_eq_false, reduceIte, reduceCtorEq, Bool.not_true, Bool.not_false, decide_eq_true_eq, Nat.zero_lt_succ, and_true, true_and, and_self, and_false, false_and, isi_non_tuple, isi_non_int, isi_non_str, isi_non_bool, isi_non_list, type_non, isi_bl_tuple, isi_bl_int, isi_bl_str, isi_bl_bool, isi_bl_list, type_bl, isi_int_tuple, isi_int_int, isi_int_str, isi_int_bool, isi_int_list, type_int, isi_str_tuple, isi_str_int, isi_str_str, isi_str_bool, isi_str_list, type_str, isi_tup_tuple, isi_tup_int, isi_tup_str, isi_tup_bool, isi_tup_list, type_tup, is_int_int, isn_int_int, is_int_str, isn_int_str, is_int_tuple, isn_int_tuple, is_int_list, isn_int_list, is_int_bool, isn_int_bool, is_str_int, isn_str_int, is_str_str, isn_str_str, is_str_tuple, isn_str_tuple, is_str_list, isn_str_list, is_str_bool, isn_str_bool, is_tuple_int, isn_tuple_int, is_tuple_str, isn_tuple_str, is_tuple_tuple, isn_tuple_tuple, is_tuple_list, isn_tuple_list, is_tuple_bool, isn_tuple_bool, is_list_int, isn_list_int, is_list_str, isn_list_str, is_list_tuple, isn_list_tuple, is_list_list, isn_list_list, is_list_bool, isn_list_bool, is_bool_int, isn_bool_int, is_bool_str, isn_bool_str, is_bool_tuple, isn_bool_tuple, is_bool_list, isn_bool_list, is_bool_bool, isn_bool_bool, is_NoneType_int, isn_NoneType_int, is_NoneType_str, isn_NoneType_str, is_NoneType_tuple, isn_NoneType_tuple, is_NoneType_list, isn_NoneType_list, is_NoneType_bool, isn_NoneType_bool, isN_non, isnN_non, isB_non, isnB_non, isN_bl, isnN_bl, isB_bl, isnB_bl, isN_int, isnN_int, isB_int, isnB_int, isN_str, isnN_str, isB_str, isnB_str, isN_tup, isnN_tup, isB_tup, isnB_tup, eq_non_non, eq_non_bl, ne_non_bl, eq_non_int, ne_non_int, eq_non_str, ne_non_str, eq_bl_non, ne_bl_non, eq_bl_bl, ne_bl_bl, eq_bl_str, ne_bl_str, eq_int_non, ne_int_non, eq_int_int, ne_int_int, eq_int_str, ne_int_str, eq_str_non, ne_str_non, eq_str_bl, ne_str_bl, eq_str_int, ne_str_int, eq_str_str, ne_str_str, isN_ref, isB_ref, tru_bl, tru_int, isi_r_tuple hr]; exact r1 _ _ (h _ (Kx.refl _ _))
  | one h1 => cases h1 <;> (simp only [sat_ok, sat_ex, sat_err, sat_bind_eq, ofP_some, ofP_none, sat_of_eq, st_nx, st_rt, st_bk, st_ct, st_ex, st_err, st_then, seqP_nx, seqP_rt, seqP_bk, seqP_ct, seqP_ex, st_xSeq, endP_nx, endP_rt, endP_ex, endP_bk, endP_ct, varP_some, varP_none, varP_non, sat_xVar, sat_xC, sat_xOp, sat_xUn, blP_bl, sat_xTB, trP_some, trP_none, sat_xT, sat_xAndT, sat_xOrT, sat_xNotT, sat_xAnd, sat_xOr, sat_xNot, sat_xIf, sat_xNil, sat_xCons, sat_xTup, sat_xLst, sat_xChain, sat_xCall, sat_xCB, sat_xM0, sat_xM, intP_int, sat_xNoP, sat_xPart, sat_xSl, st_xSkip, st_xBrk, st_xCnt, st_xDrop, st_xRet, st_xRetN, st_xIfS, tgP_some, tgP_none, st_xAsg, g_gVar, g_gNil, g_gCons, g_gTup, augP_some, augP_none, st_xAug, parP_two, st_xPar, loopP_nx, loopP_ct, loopP_bk, loopP_rt, loopP_ex, st_xFor, itP_some, itP_none, sat_xIt, sat_xLc, sat_xItA, sat_xYes, sat_xLenSet, oAdd_ii, oSub_ii, oMul_ii, oFdiv_ii, oMod_ii, oNeg_i, oLt_ii, oLe_ii, oGt_ii, oGe_ii, oInt_i, oIx_ti, oIx_qi, oLen_t, oLen_q, oLen_s, atI_0, atI_1, atI_2, atI_3, atI_4, atI_5, atI_6, atI_7, atI_8, atI_9, atI_10, atI_11, atI_12, atI_13, atI_14, List.getElem?_cons_zero, List.getElem?_cons_succ, List.map_cons, List.map_nil, List.cons_append, List.nil_append, List.length_cons, List.length_nil, List.set_cons_zero, List.set_cons_succ, List.replicate, Option.map_some, Option.map_none, Option.bind_some, Option.bind_none, if_true, if_false, Nat.reduceAdd, Nat.reduceSub, Nat.reduceLT, Nat.reduceLeDiff, Nat.reduceEqDiff, Int.reduceLT, Int.reduceLE, Int.reduceNeg, Int.reduceEq, Bool.false_eq_true, Bool.true_eq_false, reduceIte, reduceCtorEq, Bool.not_true, Bool.not_false, decide_eq_true_eq, Nat.zero_lt_succ, and_true, true_and, and_self, and_false, false_and, isi_non_tuple, isi_non_int, isi_non_str, isi_non_bool, isi_non_list, type_non, isi_bl_tuple, isi_bl_int, isi_bl_str, isi_bl_bool, isi_bl_list, type_bl, isi_int_tuple, isi_int_int, isi_int_str, isi_int_bool, isi_int_list, type_int, isi_str_tuple, isi_str_int, isi_str_str, isi_str_bool, isi_str_list, type_str, isi_tup_tuple, isi_tup_int, isi_tup_str, isi_tup_bool, isi_tup_list, type_tup, is_int_int, isn_int_int, is_int_str, isn_int_str, is_int_tuple, isn_int_tuple, is_int_list, isn_int_list, is_int_bool, isn_int_bool, is_str_int, isn_str_int, is_str_str, isn_str_str, is_str_tuple, isn_str_tuple, is_str_list, isn_str_list, is_str_bool, isn_str_bool, is_tuple_int, isn_tuple_int, is_tuple_str, isn_tuple_str, is_tuple_tuple, isn_tuple_tuple, is_tuple_list, isn_tuple_list, is_tuple_bool, isn_tuple_bool, is_list_int, isn_list_int, is_list_str, isn_list_str, is_list_tuple, isn_list_tuple, is_list_list, isn_list_list, is_list_bool, isn_list_bool, is_bool_int, isn_bool_int, is_bool_str, isn_bool_str, is_bool_tuple, isn_bool_tuple, is_bool_list, isn_bool_list, is_bool_bool, isn_bool_bool, is_NoneType_int, isn_NoneType_int, is_NoneType_str, isn_NoneType_str, is_NoneType_tuple, isn_NoneType_tuple, is_NoneType_list, isn_NoneType_list, is_NoneType_bool, isn_NoneType_bool, isN_non, isnN_non, isB_non, isnB_non, isN_bl, isnN_bl, isB_bl, isnB_bl, isN_int, isnN_int, isB_int, isnB_int, isN_str, isnN_str, isB_str, isnB_str, isN_tup, isnN_tup, isB_tup, isnB_tup, eq_non_non, eq_non_bl, ne_non_bl, eq_non_int, ne_non_int, eq_non_str, ne_non_str, eq_bl_non, ne_bl_non, eq_bl_bl, ne_bl_bl, eq_bl_str, ne_bl_str, eq_int_non, ne_int_non, eq_int_int, ne_int_int, eq_int_str, ne_int_str, eq_str_non, ne_str_non, eq_str_bl, ne_str_bl, eq_str_int, ne_str_int, eq_str_str, ne_str_str, isN_ref, isB_ref, tru_bl, tru_int]; exact r1 _ _ (h _ (Kx.refl _ _)))
  | @tup ds hz hp =>
    simp only [sat_ok, sat_ex, sat_err, sat_bind_eq, ofP_some, ofP_none, sat_of_eq, st_nx, st_rt, st_bk, st_ct, st_ex, st_err, st_then, seqP_nx, seqP_rt, seqP_bk, seqP_ct, seqP_ex, st_xSeq, endP_nx, endP_rt, endP_ex, endP_bk, endP_ct, varP_some, varP_none, varP_non, sat_xVar, sat_xC, sat_xOp, sat_xUn, blP_bl, sat_xTB, trP_some, trP_none, sat_xT, sat_xAndT, sat_xOrT, sat_xNotT, sat_xAnd, sat_xOr, sat_xNot, sat_xIf, sat_xNil, sat_xCons, sat_xTup, sat_xLst, sat_xChain, sat_xCall, sat_xCB, sat_xM0, sat_xM, intP_int, sat_xNoP, sat_xPart, sat_xSl, st_xSkip, st_xBrk, st_xCnt, st_xDrop, st_xRet, st_xRetN, st_xIfS, tgP_some, tgP_none, st_xAsg, g_gVar, g_gNil, g_gCons, g_gTup, augP_some, augP_none, st_xAug, parP_two, st_xPar, loopP_nx, loopP_ct, loopP_bk, loopP_rt, loopP_ex, st_xFor, itP_some, itP_none, sat_xIt, sat_xLc, sat_xItA, sat_xYes, sat_xLenSet, oAdd_ii, oSub_ii, oMul_ii, oFdiv_ii, oMod_ii, oNeg_i, oLt_ii, oLe_ii, oGt_ii, oGe_ii, oInt_i, oIx_ti, oIx_qi, oLen_t, oLen_q, oLen_s, atI_0, atI_1, atI_2, atI_3, atI_4, atI_5, atI_6, atI_7, atI_8, atI_9, atI_10, atI_11, atI_12, atI_13, atI_14, List.getElem?_cons_zero, List.getElem?_cons_succ, List.map_cons, List.map_nil, List.cons_append, List.nil_append, List.length_cons, List.length_nil, List.set_cons_zero, List.set_cons_succ, List.replicate, Option.map_some, Option.map_none, Option.bind_some, Option.bind_none, if_true, if_false, Nat.reduceAdd, Nat.reduceSub, Nat.reduceLT, Nat.reduceLeDiff, Nat.reduceEqDiff, Int.reduceLT, Int.reduceLE, Int.reduceNeg, Int.reduceEq, Bool.false_eq_true, Bool.true_eq_false, reduceIte, reduceCtorEq, Bool.not_true, Bool.not_false, decide_eq_true_eq, Nat.zero_lt_succ, and_true, true_and, and_self, and_false, false_and, isi_non_tuple, isi_non_int, isi_non_str, isi_non_bool, isi_non_list, type_non, isi_bl_tuple, isi_bl_int, isi_bl_str, isi_bl_bool, isi_bl_list, type_bl, isi_int_tuple, isi_int_int, isi_int_str, isi_int_bool, isi_int_list, type_int, isi_str_tuple, isi_str_int, isi_str_str, isi_str_bool, isi_str_list, type_str, isi_tup_tuple, isi_tup_int, isi_tup_str, isi_tup_bool, isi_tup_list, type_tup, is_int_int, isn_int_int, is_int_str, isn_int_str, is_int_tuple, isn_int_tuple, is_int_list, isn_int_list, is_int_bool, isn_int_bool, is_str_int, isn_str_int, is_str_str, isn_str_str, is_str_tuple, isn_str_tuple, is_str_list, isn_str_list, is_str_bool, isn_str_bool, is_tuple_int, isn_tuple_int, is_tuple_str, isn_tuple_str, is_tuple_tuple, isn_tuple_tuple, is_tuple_list, isn_tuple_list, is_tuple_bool, isn_tuple_bool, is_list_int, isn_list_int, is_list_str, isn_list_str, is_list_tuple, isn_list_tuple, is_list_list, isn_list_list, is_list_bool, isn_list_bool, is_bool_int, isn_bool_int, is_bool_str, isn_bool_str, is_bool_tuple, isn_bool_tuple, is_bool_list, isn_bool_list, is_bool_bool, isn_bool_bool, is_NoneType_int, isn_NoneType_int, is_NoneType_str, isn_NoneType_str, is_NoneType_tuple, isn_NoneType_tuple, is_NoneType_list, isn_NoneType_list, is_NoneType_bool, isn_NoneType_bool, isN_non, isnN_non, isB_non, isnB_non, isN_bl, isnN_bl, isB_bl, isnB_bl, isN_int, isnN_int, isB_int, isnB_int, isN_str, isnN_str, isB_str, isnB_str, isN_tup, isnN_tup, isB_tup, isnB_tup, eq_non_non, eq_non_bl, ne_non_bl, eq_non_int, ne_non_int, eq_non_str, ne_non_str, eq_bl_non, ne_bl_non, eq_bl_bl, ne_bl_bl, eq_bl_str, ne_bl_str, eq_int_non, ne_int_non, eq_int_int, ne_int_int, eq_int_str, ne_int_str, eq_str_non, ne_str_non, eq_str_bl, ne_str_bl, eq_str_int, ne_str_int, eq_str_str, ne_str_str, isN_ref, isB_ref, tru_bl, tru_int]
    split
    · rename_i hl
      have : orderL ds = false := by
        unfold orderL
        split
        · simp at hl
        · rfl
      rw [orderD, this] at h
      exact r1 _ _ (h _ (Kx.refl _ _))
    · rename_i hl
      have hl' : ds.length = 9 := by simp at hl; omega
      obtain ⟨a0, a1, a2, a3, a4, a5, a6, a7, a8, rfl⟩ := nine hl'
      have p0 : Pl 0 a0 := hp _ (by simp)
      have p1 : Pl 0 a1 := hp _ (by simp)
      have p2 : Pl 0 a2 := hp _ (by simp)
      have p3 : Pl 0 a3 := hp _ (by simp)
      have p4 : Pl 0 a4 := hp _ (by simp)
      have p5 : Pl 0 a5 := hp _ (by simp)
      have p6 : Pl 0 a6 := hp _ (by simp)
      have p7 : Pl 0 a7 := hp _ (by simp)
      have p8 : Pl 0 a8 := hp _ (by simp)
      rw [orderD, orderL] at h
      simp only [sat_ok, sat_ex, sat_err, sat_bind_eq, ofP_some, ofP_none, sat_of_eq, st_nx, st_rt, st_bk, st_ct, st_ex, st_err, st_then, seqP_nx, seqP_rt, seqP_bk, seqP_ct, seqP_ex, st_xSeq, endP_nx, endP_rt, endP_ex, endP_bk, endP_ct, varP_some, varP_none, varP_non, sat_xVar, sat_xC, sat_xOp, sat_xUn, blP_bl, sat_xTB, trP_some, trP_none, sat_xT, sat_xAndT, sat_xOrT, sat_xNotT, sat_xAnd, sat_xOr, sat_xNot, sat_xIf, sat_xNil, sat_xCons, sat_xTup, sat_xLst, sat_xChain, sat_xCall, sat_xCB, sat_xM0, sat_xM, intP_int, sat_xNoP, sat_xPart, sat_xSl, st_xSkip, st_xBrk, st_xCnt, st_xDrop, st_xRet, st_xRetN, st_xIfS, tgP_some, tgP_none, st_xAsg, g_gVar, g_gNil, g_gCons, g_gTup, augP_some, augP_none, st_xAug, parP_two, st_xPar, loopP_nx, loopP_ct, loopP_bk, loopP_rt, loopP_ex, st_xFor, itP_some, itP_none, sat_xIt, sat_xLc, sat_xItA, sat_xYes, sat_xLenSet, oAdd_ii, oSub_ii, oMul_ii, oFdiv_ii, oMod_ii, oNeg_i, oLt_ii, oLe_ii, oGt_ii, oGe_ii, oInt_i, oIx_ti, oIx_qi, oLen_t, oLen_q, oLen_s, atI_0, atI_1, atI_2, atI_3, atI_4, atI_5, atI_6, atI_7, atI_8, atI_9, atI_10, atI_11, atI_12, atI_13, atI_14, List.getElem?_cons_zero, List.getElem?_cons_succ, List.map_cons, List.map_nil, List.cons_append, List.nil_append, List.length_cons, List.length_nil, List.set_cons_zero, List.set_cons_succ, List.replicate, Option.map_some, Option.map_none, Option.bind_some, Option.bind_none, if_true, if_false, Nat.reduceAdd, Nat.reduceSub, Nat.reduceLT, Nat.reduceLeDiff, Nat.reduceEqDiff, Int.reduceLT, Int.reduceLE, Int.reduceNeg, Int.reduceEq, Bool.false_eq_true, Bool.true_eq_false, reduceIte, reduceCtorEq, Bool.not_true, Bool.not_false, decide_eq_true_eq, Nat.zero_lt_succ, and_true, true_and, and_self, and_false, false_and, isi_non_tuple, isi_non_int, isi_non_str, isi_non_bool, isi_non_list, type_non, isi_bl_tuple, isi_bl_int, isi_bl_str, isi_bl_bool, isi_bl_list, type_bl, isi_int_tuple, isi_int_int, isi_int_str, isi_int_bool, isi_int_list, type_int, isi_str_tuple, isi_str_int, isi_str_str, isi_str_bool, isi_str_list, type_str, isi_tup_tuple, isi_tup_int, isi_tup_str, isi_tup_bool, isi_tup_list, type_tup, is_int_int, isn_int_int, is_int_str, isn_int_str, is_int_tuple, isn_int_tuple, is_int_list, isn_int_list, is_int_bool, isn_int_bool, is_str_int, isn_str_int, is_str_str, isn_str_str, is_str_tuple, isn_str_tuple, is_str_list, isn_str_list, is_str_bool, isn_str_bool, is_tuple_int, isn_tuple_int, is_tuple_str, isn_tuple_str, is_tuple_tuple, isn_tuple_tuple, is_tuple_list, isn_tuple_list, is_tuple_bool, isn_tuple_bool, is_list_int, isn_list_int, is_list_str, isn_list_str, is_list_tuple, isn_list_tuple, is_list_list, isn_list_list, is_list_bool, isn_list_bool, is_bool_int, isn_bool_int, is_bool_str, isn_bool_str, is_bool_tuple, isn_bool_tuple, is_bool_list, isn_bool_list, is_bool_bool, isn_bool_bool, is_NoneType_int, isn_NoneType_int, is_NoneType_str, isn_NoneType_str, is_NoneType_tuple, isn_NoneType_tuple, is_NoneType_list, isn_NoneType_list, is_NoneType_bool, isn_NoneType_bool, isN_non, isnN_non, isB_non, isnB_non, isN_bl, isnN_bl, isB_bl, isnB_bl, isN_int, isnN_int, isB_int, isnB_int, isN_str, isnN_str, isB_str, isnB_str, isN_tup, isnN_tup, isB_tup, isnB_tup, eq_non_non, eq_non_bl, ne_non_bl, eq_non_int, ne_non_int, eq_non_str, ne_non_str, eq_bl_non, ne_bl_non, eq_bl_bl, ne_bl_bl, eq_bl_str, ne_bl_str, eq_int_non, ne_int_non, eq_int_int, ne_int_int, eq_int_str, ne_int_str, eq_str_non, ne_str_non, eq_str_bl, ne_str_bl, eq_str_int, ne_str_int, eq_str_str, ne_str_str, isN_ref, isB_ref, tru_bl, tru_int]
      refine like_spec j (Pl.str (by decide)) (Pl.vd p0) fun S1 k1 => ?_
      replace h : ∀ S', Kp S1 S' → _ := fun S' k => h S' (k1.trans k)
      simp only [sat_ok, sat_ex, sat_err, sat_bind_eq, ofP_some, ofP_none, sat_of_eq, st_nx, st_rt, st_bk, st_ct, st_ex, st_err, st_then, seqP_nx, seqP_rt, seqP_bk, seqP_ct, seqP_ex, st_xSeq, endP_nx, endP_rt, endP_ex, endP_bk, endP_ct, varP_some, varP_none, varP_non, sat_xVar, sat_xC, sat_xOp, sat_xUn, blP_bl, sat_xTB, trP_some, trP_none, sat_xT, sat_xAndT, sat_xOrT, sat_xNotT, sat_xAnd, sat_xOr, sat_xNot, sat_xIf, sat_xNil, sat_xCons, sat_xTup, sat_xLst, sat_xChain, sat_xCall, sat_xCB, sat_xM0, sat_xM, intP_int, sat_xNoP, sat_xPart, sat_xSl, st_xSkip, st_xBrk, st_xCnt, st_xDrop, st_xRet, st_xRetN, st_xIfS, tgP_some, tgP_none, st_xAsg, g_gVar, g_gNil, g_gCons, g_gTup, augP_some, augP_none, st_xAug, parP_two, st_xPar, loopP_nx, loopP_ct, loopP_bk, loopP_rt, loopP_ex, st_xFor, itP_some, itP_none, sat_xIt, sat_xLc, sat_xItA, sat_xYes, sat_xLenSet, oAdd_ii, oSub_ii, oMul_ii, oFdiv_ii, oMod_ii, oNeg_i, oLt_ii, oLe_ii, oGt_ii, oGe_ii, oInt_i, oIx_ti, oIx_qi, oLen_t, oLen_q, oLen_s, atI_0, atI_1, atI_2, atI_3, atI_4, atI_5, atI_6, atI_7, atI_8, atI_9, atI_10, atI_11, atI_12, atI_13, atI_14, List.getElem?_cons_zero, List.getElem?_cons_succ, List.map_cons, List.map_nil, List.cons_append, List.nil_append, List.length_cons, List.length_nil, List.set_cons_zero, List.set_cons_succ, List.replicate, Option.map_some, Option.map_none, Option.bind_some, Option.bind_none, if_true, if_false, Nat.reduceAdd, Nat.reduceSub, Nat.reduceLT, Nat.reduceLeDiff, Nat.reduceEqDiff, Int.reduceLT, Int.reduceLE, Int.reduceNeg, Int.reduceEq, Bool.false_eq_true, Bool.true_eq_false, reduceIte, reduceCtorEq, Bool.not_true, Bool.not_false, decide_eq_true_eq, Nat.zero_lt_succ, and_true, true_and, and_self, and_false, false_and, isi_non_tuple, isi_non_int, isi_non_str, isi_non_bool, isi_non_list, type_non, isi_bl_tuple, isi_bl_int, isi_bl_str, isi_bl_bool, isi_bl_list, type_bl, isi_int_tuple, isi_int_int, isi_int_str, isi_int_bool, isi_int_list, type_int, isi_str_tuple, isi_str_int, isi_str_str, isi_str_bool, isi_str_list, type_str, isi_tup_tuple, isi_tup_int, isi_tup_str, isi_tup_bool, isi_tup_list, type_tup, is_int_int, isn_int_int, is_int_str, isn_int_str, is_int_tuple, isn_int_tuple, is_int_list, isn_int_list, is_int_bool, isn_int_bool, is_str_int, isn_str_int, is_str_str, isn_str_str, is_str_tuple, isn_str_tuple, is_str_list, isn_str_list, is_str_bool, isn_str_bool, is_tuple_int, isn_tuple_int, is_tuple_str, isn_tuple_str, is_tuple_tuple, isn_tuple_tuple, is_tuple_list, isn_tuple_list, is_tuple_bool, isn_tuple_bool, is_list_int, isn_list_int, is_list_str, isn_list_str, is_list_tuple, isn_list_tuple, is_list_list, isn_list_list, is_list_bool, isn_list_bool, is_bool_int, isn_bool_int, is_bool_str, isn_bool_str, is_bool_tuple, isn_bool_tuple, is_bool_list, isn_bool_list, is_bool_bool, isn_bool_bool, is_NoneType_int, isn_NoneType_int, is_NoneType_str, isn_NoneType_str, is_NoneType_tuple, isn_NoneType_tuple, is_NoneType_list, isn_NoneType_list, is_NoneType_bool, isn_NoneType_bool, isN_non, isnN_non, isB_non, isnB_non, isN_bl, isnN_bl, isB_bl, isnB_bl, isN_int, isnN_int, isB_int, isnB_int, isN_str, isnN_str, isB_str, isnB_str, isN_tup, isnN_tup, isB_tup, isnB_tup, eq_non_non, eq_non_bl, ne_non_bl, eq_non_int, ne_non_int, eq_non_str, ne_non_str, eq_bl_non, ne_bl_non, eq_bl_bl, ne_bl_bl, eq_bl_str, ne_bl_str, eq_int_non, ne_int_non, eq_int_int, ne_int_int, eq_int_str, ne_int_str, eq_str_non, ne_str_non, eq_str_bl, ne_str_bl, eq_str_int, ne_str_int, eq_str_str, ne_str_str, isN_ref, isB_ref, tru_bl, tru_int]
      refine gate (fun q => by simp only [q, Bool.false_and, Bool.and_false] at h; exact r1 _ _ (h _ (Kx.refl _ _))) fun q => ?_
      simp only [q, Bool.true_and, Bool.and_true] at h
      by_cases hs : ∃ y : Str, a1 = .str y ∧ y.length ≤ 1000000
      · obtain ⟨y, rfl, hy⟩ := hs
        simp only [sat_ok, sat_ex, sat_err, sat_bind_eq, ofP_some, ofP_none, sat_of_eq, st_nx, st_rt, st_bk, st_ct, st_ex, st_err, st_then, seqP_nx, seqP_rt, seqP_bk, seqP_ct, seqP_ex, st_xSeq, endP_nx, endP_rt, endP_ex, endP_bk, endP_ct, varP_some, varP_none, varP_non, sat_xVar, sat_xC, sat_xOp, sat_xUn, blP_bl, sat_xTB, trP_some, trP_none, sat_xT, sat_xAndT, sat_xOrT, sat_xNotT, sat_xAnd, sat_xOr, sat_xNot, sat_xIf, sat_xNil, sat_xCons, sat_xTup, sat_xLst, sat_xChain, sat_xCall, sat_xCB, sat_xM0, sat_xM, intP_int, sat_xNoP, sat_xPart, sat_xSl, st_xSkip, st_xBrk, st_xCnt, st_xDrop, st_xRet, st_xRetN, st_xIfS, tgP_some, tgP_none, st_xAsg, g_gVar, g_gNil, g_gCons, g_gTup, augP_some, augP_none, st_xAug, parP_two, st_xPar, loopP_nx, loopP_ct, loopP_bk, loopP_rt, loopP_ex, st_xFor, itP_some, itP_none, sat_xIt, sat_xLc, sat_xItA, sat_xYes, sat_xLenSet, oAdd_ii, oSub_ii, oMul_ii, oFdiv_ii, oMod_ii, oNeg_i, oLt_ii, oLe_ii, oGt_ii, oGe_ii, oInt_i, oIx_ti, oIx_qi, oLen_t, oLen_q, oLen_s, atI_0, atI_1, atI_2, atI_3, atI_4, atI_5, atI_6, atI_7, atI_8, atI_9, atI_10, atI_11, atI_12, atI_13, atI_14, List.getElem?_cons_zero, List.getElem?_cons_succ, List.map_cons, List.map_nil, List.cons_append, List.nil_append, List.length_cons, List.length_nil, List.set_cons_zero, List.set_cons_succ, List.replicate, Option.map_some, Option.map_none, Option.bind_some, Option.bind_none, if_true, if_false, Nat.reduceAdd, Nat.reduceSub, Nat.reduceLT, Nat.reduceLeDiff, Nat.reduceEqDiff, Int.reduceLT, Int.reduceLE, Int.reduceNeg, Int.reduceEq, Bool.false_eq_true, Bool.true_eq_false, reduceIte, reduceCtorEq, Bool.not_true, Bool.not_false, decide_eq_true_eq, Nat.zero_lt_succ, and_true, true_and, and_self, and_false, false_and, isi_non_tuple, isi_non_int, isi_non_str, isi_non_bool, isi_non_list, type_non, isi_bl_tuple, isi_bl_int, isi_bl_str, isi_bl_bool, isi_bl_list, type_bl, isi_int_tuple, isi_int_int, isi_int_str, isi_int_bool, isi_int_list, type_int, isi_str_tuple, isi_str_int, isi_str_str, isi_str_bool, isi_str_list, type_str, isi_tup_tuple, isi_tup_int, isi_tup_str, isi_tup_bool, isi_tup_list, type_tup, is_int_int, isn_int_int, is_int_str, isn_int_str, is_int_tuple, isn_int_tuple, is_int_list, isn_int_list, is_int_bool, isn_int_bool, is_str_int, isn_str_int, is_str_str, isn_str_str, is_str_tuple, isn_str_tuple, is_str_list, isn_str_list, is_str_bool, isn_str_bool, is_tuple_int, isn_tuple_int, is_tuple_str, isn_tuple_str, is_tuple_tuple, isn_tuple_tuple, is_tuple_list, isn_tuple_list, is_tuple_bool, isn_tuple_bool, is_list_int, isn_list_int, is_list_str, isn_list_str, is_list_tuple, isn_list_tuple, is_list_list, isn_list_list, is_list_bool, isn_list_bool, is_bool_int, isn_bool_int, is_bool_str, isn_bool_str, is_bool_tuple, isn_bool_tuple, is_bool_list, isn_bool_list, is_bool_bool, isn_bool_bool, is_NoneType_int, isn_NoneType_int, is_NoneType_str, isn_NoneType_str, is_NoneType_tuple, isn_NoneType_tuple, is_NoneType_list, isn_NoneType_list, is_NoneType_bool, isn_NoneType_bool, isN_non, isnN_non, isB_non, isnB_non, isN_bl, isnN_bl, isB_bl, isnB_bl, isN_int, isnN_int, isB_int, isnB_int, isN_str, isnN_str, isB_str, isnB_str, isN_tup, isnN_tup, isB_tup, isnB_tup, eq_non_non, eq_non_bl, ne_non_bl, eq_non_int, ne_non_int, eq_non_str, ne_non_str, eq_bl_non, ne_bl_non, eq_bl_bl, ne_bl_bl, eq_bl_str, ne_bl_str, eq_int_non, ne_int_non, eq_int_int, ne_int_int, eq_int_str, ne_int_str, eq_str_non, ne_str_non, eq_str_bl, ne_str_bl, eq_str_int, ne_str_int, eq_str_str, ne_str_str, isN_ref, isB_ref, tru_bl, tru_int]
        refine law_name_spec hy fun S2 k2 => ?_
        replace h : ∀ S', Kp S2 S' → _ := fun S' k => h S' (k2.trans k)
        rw [nameD] at h
        simp only [sat_ok, sat_ex, sat_err, sat_bind_eq, ofP_some, ofP_none, sat_of_eq, st_nx, st_rt, st_bk, st_ct, st_ex, st_err, st_then, seqP_nx, seqP_rt, seqP_bk, seqP_ct, seqP_ex, st_xSeq, endP_nx, endP_rt, endP_ex, endP_bk, endP_ct, varP_some, varP_none, varP_non, sat_xVar, sat_xC, sat_xOp, sat_xUn, blP_bl, sat_xTB, trP_some, trP_none, sat_xT, sat_xAndT, sat_xOrT, sat_xNotT, sat_xAnd, sat_xOr, sat_xNot, sat_xIf, sat_xNil, sat_xCons, sat_xTup, sat_xLst, sat_xChain, sat_xCall, sat_xCB, sat_xM0, sat_xM, intP_int, sat_xNoP, sat_xPart, sat_xSl, st_xSkip, st_xBrk, st_xCnt, st_xDrop, st_xRet, st_xRetN, st_xIfS, tgP_some, tgP_none, st_xAsg, g_gVar, g_gNil, g_gCons, g_gTup, augP_some, augP_none, st_xAug, parP_two, st_xPar, loopP_nx, loopP_ct, loopP_bk, loopP_rt, loopP_ex, st_xFor, itP_some, itP_none, sat_xIt, sat_xLc, sat_xItA, sat_xYes, sat_xLenSet, oAdd_ii, oSub_ii, oMul_ii, oFdiv_ii, oMod_ii, oNeg_i, oLt_ii, oLe_ii, oGt_ii, oGe_ii, oInt_i, oIx_ti, oIx_qi, oLen_t, oLen_q, oLen_s, atI_0, atI_1, atI_2, atI_3, atI_4, atI_5, atI_6, atI_7, atI_8, atI_9, atI_10, atI_11, atI_12, atI_13, atI_14, List.getElem?_cons_zero, List.getElem?_cons_succ, List.map_cons, List.map_nil, List.cons_append, List.nil_append, List.length_cons, List.length_nil, List.set_cons_zero, List.set_cons_succ, List.replicate, Option.map_some, Option.map_none, Option.bind_some, Option.bind_none, if_true, if_false, Nat.reduceAdd, Nat.reduceSub, Nat.reduceLT, Nat.reduceLeDiff, Nat.reduceEqDiff, Int.reduceLT, Int.reduceLE, Int.reduceNeg, Int.reduceEq, Bool.false_eq_true, Bool.true_eq_false, reduceIte, reduceCtorEq, Bool.not_true, Bool.not_false, decide_eq_true_eq, Nat.zero_lt_succ, and_true, true_and, and_self, and_false, false_and, isi_non_tuple, isi_non_int, isi_non_str, isi_non_bool, isi_non_list, type_non, isi_bl_tuple, isi_bl_int, isi_bl_str, isi_bl_bool, isi_bl_list, type_bl, isi_int_tuple, isi_int_int, isi_int_str, isi_int_bool, isi_int_list, type_int, isi_str_tuple, isi_str_int, isi_str_str, isi_str_bool, isi_str_list, type_str, isi_tup_tuple, isi_tup_int, isi_tup_str, isi_tup_bool, isi_tup_list, type_tup, is_int_int, isn_int_int, is_int_str, isn_int_str, is_int_tuple, isn_int_tuple, is_int_list, isn_int_list, is_int_bool, isn_int_bool, is_str_int, isn_str_int, is_str_str, isn_str_str, is_str_tuple, isn_str_tuple, is_str_list, isn_str_list, is_str_bool, isn_str_bool, is_tuple_int, isn_tuple_int, is_tuple_str, isn_tuple_str, is_tuple_tuple, isn_tuple_tuple, is_tuple_list, isn_tuple_list, is_tuple_bool, isn_tuple_bool, is_list_int, isn_list_int, is_list_str, isn_list_str, is_list_tuple, isn_list_tuple, is_list_list, isn_list_list, is_list_bool, isn_list_bool, is_bool_int, isn_bool_int, is_bool_str, isn_bool_str, is_bool_tuple, isn_bool_tuple, is_bool_list, isn_bool_list, is_bool_bool, isn_bool_bool, is_NoneType_int, isn_NoneType_int, is_NoneType_str, isn_NoneType_str, is_NoneType_tuple, isn_NoneType_tuple, is_NoneType_list, isn_NoneType_list, is_NoneType_bool, isn_NoneType_bool, isN_non, isnN_non, isB_non, isnB_non, isN_bl, isnN_bl, isB_bl, isnB_bl, isN_int, isnN_int, isB_int, isnB_int, isN_str, isnN_str, isB_str, isnB_str, isN_tup, isnN_tup, isB_tup, isnB_tup, eq_non_non, eq_non_bl, ne_non_bl, eq_non_int, ne_non_int, eq_non_str, ne_non_str, eq_bl_non, ne_bl_non, eq_bl_bl, ne_bl_bl, eq_bl_str, ne_bl_str, eq_int_non, ne_int_non, eq_int_int, ne_int_int, eq_int_str, ne_int_str, eq_str_non, ne_str_non, eq_str_bl, ne_str_bl, eq_str_int, ne_str_int, eq_str_str, ne_str_str, isN_ref, isB_ref, tru_bl, tru_int]
        refine gate (fun q => by simp only [q, Bool.false_and, Bool.and_false] at h; exact r1 _ _ (h _ (Kx.refl _ _))) fun q => n1 _ _ ?_
        simp only [q, Bool.true_and, Bool.and_true] at h
        refine seq_cut fun K2 n2 r2 => ?_
        have fin : ∀ b, b = (wholeD a2 0 9999 && wholeD a3 1 999 && wholeD a4 1 60 && wholeD a8 0 99) → K2 (.nx [some (.tup [a0, .str y, a2, a3, a4, a5, a6, a7, a8]), some (.bl b), none] S2) := by
          intro b hb
          rw [← hb] at h
          refine n2 _ _ (seq_cut fun K3 n3 r3 => ?_)
          simp only [sat_ok, sat_ex, sat_err, sat_bind_eq, ofP_some, ofP_none, sat_of_eq, st_nx, st_rt, st_bk, st_ct, st_ex, st_err, st_then, seqP_nx, seqP_rt, seqP_bk, seqP_ct, seqP_ex, st_xSeq, endP_nx, endP_rt, endP_ex, endP_bk, endP_ct, varP_some, varP_none, varP_non, sat_xVar, sat_xC, sat_xOp, sat_xUn, blP_bl, sat_xTB, trP_some, trP_none, sat_xT, sat_xAndT, sat_xOrT, sat_xNotT, sat_xAnd, sat_xOr, sat_xNot, sat_xIf, sat_xNil, sat_xCons, sat_xTup, sat_xLst, sat_xChain, sat_xCall, sat_xCB, sat_xM0, sat_xM, intP_int, sat_xNoP, sat_xPart, sat_xSl, st_xSkip, st_xBrk, st_xCnt, st_xDrop, st_xRet, st_xRetN, st_xIfS, tgP_some, tgP_none, st_xAsg, g_gVar, g_gNil, g_gCons, g_gTup, augP_some, augP_none, st_xAug, parP_two, st_xPar, loopP_nx, loopP_ct, loopP_bk, loopP_rt, loopP_ex, st_xFor, itP_some, itP_none, sat_xIt, sat_xLc, sat_xItA, sat_xYes, sat_xLenSet, oAdd_ii, oSub_ii, oMul_ii, oFdiv_ii, oMod_ii, oNeg_i, oLt_ii, oLe_ii, oGt_ii, oGe_ii, oInt_i, oIx_ti, oIx_qi, oLen_t, oLen_q, oLen_s, atI_0, atI_1, atI_2, atI_3, atI_4, atI_5, atI_6, atI_7, atI_8, atI_9, atI_10, atI_11, atI_12, atI_13, atI_14, List.getElem?_cons_zero, List.getElem?_cons_succ, List.map_cons, List.map_nil, List.cons_append, List.nil_append, List.length_cons, List.length_nil, List.set_cons_zero, List.set_cons_succ, List.replicate, Option.map_some, Option.map_none, Option.bind_some, Option.bind_none, if_true, if_false, Nat.reduceAdd, Nat.reduceSub, Nat.reduceLT, Nat.reduceLeDiff, Nat.reduceEqDiff, Int.reduceLT, Int.reduceLE, Int.reduceNeg, Int.reduceEq, Bool.false_eq_true, Bool.true_eq_false, reduceIte, reduceCtorEq, Bool.not_true, Bool.not_false, decide_eq_true_eq, Nat.zero_lt_succ, and_true, true_and, and_self, and_false, false_and, isi_non_tuple, isi_non_int, isi_non_str, isi_non_bool, isi_non_list, type_non, isi_bl_tuple, isi_bl_int, isi_bl_str, isi_bl_bool, isi_bl_list, type_bl, isi_int_tuple, isi_int_int, isi_int_str, isi_int_bool, isi_int_list, type_int, isi_str_tuple, isi_str_int, isi_str_str, isi_str_bool, isi_str_list, type_str, isi_tup_tuple, isi_tup_int, isi_tup_str, isi_tup_bool, isi_tup_list, type_tup, is_int_int, isn_int_int, is_int_str, isn_int_str, is_int_tuple, isn_int_tuple, is_int_list, isn_int_list, is_int_bool, isn_int_bool, is_str_int, isn_str_int, is_str_str, isn_str_str, is_str_tuple, isn_str_tuple, is_str_list, isn_str_list, is_str_bool, isn_str_bool, is_tuple_int, isn_tuple_int, is_tuple_str, isn_tuple_str, is_tuple_tuple, isn_tuple_tuple, is_tuple_list, isn_tuple_list, is_tuple_bool, isn_tuple_bool, is_list_int, isn_list_int, is_list_str, isn_list_str, is_list_tuple, isn_list_tuple, is_list_list, isn_list_list, is_list_bool, isn_list_bool, is_bool_int, isn_bool_int, is_bool_str, isn_bool_str, is_bool_tuple, isn_bool_tuple, is_bool_list, isn_bool_list, is_bool_bool, isn_bool_bool, is_NoneType_int, isn_NoneType_int, is_NoneType_str, isn_NoneType_str, is_NoneType_tuple, isn_NoneType_tuple, is_NoneType_list, isn_NoneType_list, is_NoneType_bool, isn_NoneType_bool, isN_non, isnN_non, isB_non, isnB_non, isN_bl, isnN_bl, isB_bl, isnB_bl, isN_int, isnN_int, isB_int, isnB_int, isN_str, isnN_str, isB_str, isnB_str, isN_tup, isnN_tup, isB_tup, isnB_tup, eq_non_non, eq_non_bl, ne_non_bl, eq_non_int, ne_non_int, eq_non_str, ne_non_str, eq_bl_non, ne_bl_non, eq_bl_bl, ne_bl_bl, eq_bl_str, ne_bl_str, eq_int_non, ne_int_non, eq_int_int, ne_int_int, eq_int_str, ne_int_str, eq_str_non, ne_str_non, eq_str_bl, ne_str_bl, eq_str_int, ne_str_int, eq_str_str, ne_str_str, isN_ref, isB_ref, tru_bl, tru_int]
          refine gate (fun q => by simp only [q, Bool.false_and, Bool.and_false] at h; exact r3 _ _ (h _ (Kx.refl _ _))) fun q => ?_
          simp only [q, Bool.true_and, Bool.and_true] at h
          refine law_whole_spec (Pl.vd p5) ?_
          by_cases hs : ∃ i, a5 = .int i
          · obtain ⟨i, rfl⟩ := hs
            simp only [sat_ok, sat_ex, sat_err, sat_bind_eq, ofP_some, ofP_none, sat_of_eq, st_nx, st_rt, st_bk, st_ct, st_ex, st_err, st_then, seqP_nx, seqP_rt, seqP_bk, seqP_ct, seqP_ex, st_xSeq, endP_nx, endP_rt, endP_ex, endP_bk, endP_ct, varP_some, varP_none, varP_non, sat_xVar, sat_xC, sat_xOp, sat_xUn, blP_bl, sat_xTB, trP_some, trP_none, sat_xT, sat_xAndT, sat_xOrT, sat_xNotT, sat_xAnd, sat_xOr, sat_xNot, sat_xIf, sat_xNil, sat_xCons, sat_xTup, sat_xLst, sat_xChain, sat_xCall, sat_xCB, sat_xM0, sat_xM, intP_int, sat_xNoP, sat_xPart, sat_xSl, st_xSkip, st_xBrk, st_xCnt, st_xDrop, st_xRet, st_xRetN, st_xIfS, tgP_some, tgP_none, st_xAsg, g_gVar, g_gNil, g_gCons, g_gTup, augP_some, augP_none, st_xAug, parP_two, st_xPar, loopP_nx, loopP_ct, loopP_bk, loopP_rt, loopP_ex, st_xFor, itP_some, itP_none, sat_xIt, sat_xLc, sat_xItA, sat_xYes, sat_xLenSet, oAdd_ii, oSub_ii, oMul_ii, oFdiv_ii, oMod_ii, oNeg_i, oLt_ii, oLe_ii, oGt_ii, oGe_ii, oInt_i, oIx_ti, oIx_qi, oLen_t, oLen_q, oLen_s, atI_0, atI_1, atI_2, atI_3, atI_4, atI_5, atI_6, atI_7, atI_8, atI_9, atI_10, atI_11, atI_12, atI_13, atI_14, List.getElem?_cons_zero, List.getElem?_cons_succ, List.map_cons, List.map_nil, List.cons_append, List.nil_append, List.length_cons, List.length_nil, List.set_cons_zero, List.set_cons_succ, List.replicate, Option.map_some, Option.map_none, Option.bind_some, Option.bind_none, if_true, if_false, Nat.reduceAdd, Nat.reduceSub, Nat.reduceLT, Nat.reduceLeDiff, Nat.reduceEqDiff, Int.reduceLT, Int.reduceLE, Int.reduceNeg, Int.reduceEq, Bool.false_eq_true, Bool.true_eq_false, reduceIte, reduceCtorEq, Bool.not_true, Bool.not_false, decide_eq_true_eq, Nat.zero_lt_succ, and_true, true_and, and_self, and_false, false_and, isi_non_tuple, isi_non_int, isi_non_str, isi_non_bool, isi_non_list, type_non, isi_bl_tuple, isi_bl_int, isi_bl_str, isi_bl_bool, isi_bl_list, type_bl, isi_int_tuple, isi_int_int, isi_int_str, isi_int_bool, isi_int_list, type_int, isi_str_tuple, isi_str_int, isi_str_str, isi_str_bool, isi_str_list, type_str, isi_tup_tuple, isi_tup_int, isi_tup_str, isi_tup_bool, isi_tup_list, type_tup, is_int_int, isn_int_int, is_int_str, isn_int_str, is_int_tuple, isn_int_tuple, is_int_list, isn_int_list, is_int_bool, isn_int_bool, is_str_int, isn_str_int, is_str_str, isn_str_str, is_str_tuple, isn_str_tuple, is_str_list, isn_str_list, is_str_bool, isn_str_bool, is_tuple_int, isn_tuple_int, is_tuple_str, isn_tuple_str, is_tuple_tuple, isn_tuple_tuple, is_tuple_list, isn_tuple_list, is_tuple_bool, isn_tuple_bool, is_list_int, isn_list_int, is_list_str, isn_list_str, is_list_tuple, isn_list_tuple, is_list_list, isn_list_list, is_list_bool, isn_list_bool, is_bool_int, isn_bool_int, is_bool_str, isn_bool_str, is_bool_tuple, isn_bool_tuple, is_bool_list, isn_bool_list, is_bool_bool, isn_bool_bool, is_NoneType_int, isn_NoneType_int, is_NoneType_str, isn_NoneType_str, is_NoneType_tuple, isn_NoneType_tuple, is_NoneType_list, isn_NoneType_list, is_NoneType_bool, isn_NoneType_bool, isN_non, isnN_non, isB_non, isnB_non, isN_bl, isnN_bl, isB_bl, isnB_bl, isN_int, isnN_int, isB_int, isnB_int, isN_str, isnN_str, isB_str, isnB_str, isN_tup, isnN_tup, isB_tup, isnB_tup, eq_non_non, eq_non_bl, ne_non_bl, eq_non_int, ne_non_int, eq_non_str, ne_non_str, eq_bl_non, ne_bl_non, eq_bl_bl, ne_bl_bl, eq_bl_str, ne_bl_str, eq_int_non, ne_int_non, eq_int_int, ne_int_int, eq_int_str, ne_int_str, eq_str_non, ne_str_non, eq_str_bl, ne_str_bl, eq_str_int, ne_str_int, eq_str_str, ne_str_str, isN_ref, isB_ref, tru_bl, tru_int, wholeD]
            rw [amountD] at h
            refine gate (fun q => by simp only [q, Bool.false_and, Bool.and_false] at h; exact r3 _ _ (h _ (Kx.refl _ _))) fun q => ?_
            simp only [q, Bool.true_and, Bool.and_true] at h
            by_cases hi : i = 0
            · rw [if_pos hi]
              simp only [hi, ne_eq, not_true, decide_false, Bool.false_and, Bool.and_false] at h
              exact r3 _ _ (h _ (Kx.refl _ _))
            · rw [if_neg hi]
              simp only [hi, ne_eq, not_false_eq_true, decide_true, Bool.true_and, Bool.and_true] at h
              refine n3 _ _ ?_
              simp only [sat_ok, sat_ex, sat_err, sat_bind_eq, ofP_some, ofP_none, sat_of_eq, st_nx, st_rt, st_bk, st_ct, st_ex, st_err, st_then, seqP_nx, seqP_rt, seqP_bk, seqP_ct, seqP_ex, st_xSeq, endP_nx, endP_rt, endP_ex, endP_bk, endP_ct, varP_some, varP_none, varP_non, sat_xVar, sat_xC, sat_xOp, sat_xUn, blP_bl, sat_xTB, trP_some, trP_none, sat_xT, sat_xAndT, sat_xOrT, sat_xNotT, sat_xAnd, sat_xOr, sat_xNot, sat_xIf, sat_xNil, sat_xCons, sat_xTup, sat_xLst, sat_xChain, sat_xCall, sat_xCB, sat_xM0, sat_xM, intP_int, sat_xNoP, sat_xPart, sat_xSl, st_xSkip, st_xBrk, st_xCnt, st_xDrop, st_xRet, st_xRetN, st_xIfS, tgP_some, tgP_none, st_xAsg, g_gVar, g_gNil, g_gCons, g_gTup, augP_some, augP_none, st_xAug, parP_two, st_xPar, loopP_nx, loopP_ct, loopP_bk, loopP_rt, loopP_ex, st_xFor, itP_some, itP_none, sat_xIt, sat_xLc, sat_xItA, sat_xYes, sat_xLenSet, oAdd_ii, oSub_ii, oMul_ii, oFdiv_ii, oMod_ii, oNeg_i, oLt_ii, oLe_ii, oGt_ii, oGe_ii, oInt_i, oIx_ti, oIx_qi, oLen_t, oLen_q, oLen_s, atI_0, atI_1, atI_2, atI_3, atI_4, atI_5, atI_6, atI_7, atI_8, atI_9, atI_10, atI_11, atI_12, atI_13, atI_14, List.getElem?_cons_zero, List.getElem?_cons_succ, List.map_cons, List.map_nil, List.cons_append, List.nil_append, List.length_cons, List.length_nil, List.set_cons_zero, List.set_cons_succ, List.replicate, Option.map_some, Option.map_none, Option.bind_some, Option.bind_none, if_true, if_false, Nat.reduceAdd, Nat.reduceSub, Nat.reduceLT, Nat.reduceLeDiff, Nat.reduceEqDiff, Int.reduceLT, Int.reduceLE, Int.reduceNeg, Int.reduceEq, Bool.false_eq_true, Bool.true_eq_false, reduceIte, reduceCtorEq, Bool.not_true, Bool.not_false, decide_eq_true_eq, Nat.zero_lt_succ, and_true, true_and, and_self, and_false, false_and, isi_non_tuple, isi_non_int, isi_non_str, isi_non_bool, isi_non_list, type_non, isi_bl_tuple, isi_bl_int, isi_bl_str, isi_bl_bool, isi_bl_list, type_bl, isi_int_tuple, isi_int_int, isi_int_str, isi_int_bool, isi_int_list, type_int, isi_str_tuple, isi_str_int, isi_str_str, isi_str_bool, isi_str_list, type_str, isi_tup_tuple, isi_tup_int, isi_tup_str, isi_tup_bool, isi_tup_list, type_tup, is_int_int, isn_int_int, is_int_str, isn_int_str, is_int_tuple, isn_int_tuple, is_int_list, isn_int_list, is_int_bool, isn_int_bool, is_str_int, isn_str_int, is_str_str, isn_str_str, is_str_tuple, isn_str_tuple, is_str_list, isn_str_list, is_str_bool, isn_str_bool, is_tuple_int, isn_tuple_int, is_tuple_str, isn_tuple_str, is_tuple_tuple, isn_tuple_tuple, is_tuple_list, isn_tuple_list, is_tuple_bool, isn_tuple_bool, is_list_int, isn_list_int, is_list_str, isn_list_str, is_list_tuple, isn_list_tuple, is_list_list, isn_list_list, is_list_bool, isn_list_bool, is_bool_int, isn_bool_int, is_bool_str, isn_bool_str, is_bool_tuple, isn_bool_tuple, is_bool_list, isn_bool_list, is_bool_bool, isn_bool_bool, is_NoneType_int, isn_NoneType_int, is_NoneType_str, isn_NoneType_str, is_NoneType_tuple, isn_NoneType_tuple, is_NoneType_list, isn_NoneType_list, is_NoneType_bool, isn_NoneType_bool, isN_non, isnN_non, isB_non, isnB_non, isN_bl, isnN_bl, isB_bl, isnB_bl, isN_int, isnN_int, isB_int, isnB_int, isN_str, isnN_str, isB_str, isnB_str, isN_tup, isnN_tup, isB_tup, isnB_tup, eq_non_non, eq_non_bl, ne_non_bl, eq_non_int, ne_non_int, eq_non_str, ne_non_str, eq_bl_non, ne_bl_non, eq_bl_bl, ne_bl_bl, eq_bl_str, ne_bl_str, eq_int_non, ne_int_non, eq_int_int, ne_int_int, eq_int_str, ne_int_str, eq_str_non, ne_str_non, eq_str_bl, ne_str_bl, eq_str_int, ne_str_int, eq_str_str, ne_str_str, isN_ref, isB_ref, tru_bl, tru_int, itOf, wipeG]
              refine ⟨by rw [z]; decide, lc_pure (fun d => match d with | .int 6 => !(likeB a6 (.str "") || nameD a6) | _ => !(likeB a7 (.str "") || nameD a7)) (fun _ => .int 1) (by rw [z]; show 2 < 16777216; decide) (fun _ _ => trivial) (fun d hd => ?_) fun S3 k3 e3 => ?_⟩
              · simp only [List.mem_cons, List.not_mem_nil, or_false] at hd
                rcases hd with rfl | rfl
                all_goals
                  refine ⟨_, rfl, fun S4 k4 => ?_⟩
                · cases p6 with
                  | @str _ y hy =>
                    simp only [sat_ok, sat_ex, sat_err, sat_bind_eq, ofP_some, ofP_none, sat_of_eq, st_nx, st_rt, st_bk, st_ct, st_ex, st_err, st_then, seqP_nx, seqP_rt, seqP_bk, seqP_ct, seqP_ex, st_xSeq, endP_nx, endP_rt, endP_ex, endP_bk, endP_ct, varP_some, varP_none, varP_non, sat_xVar, sat_xC, sat_xOp, sat_xUn, blP_bl, sat_xTB, trP_some, trP_none, sat_xT, sat_xAndT, sat_xOrT, sat_xNotT, sat_xAnd, sat_xOr, sat_xNot, sat_xIf, sat_xNil, sat_xCons, sat_xTup, sat_xLst, sat_xChain, sat_xCall, sat_xCB, sat_xM0, sat_xM, intP_int, sat_xNoP, sat_xPart, sat_xSl, st_xSkip, st_xBrk, st_xCnt, st_xDrop, st_xRet, st_xRetN, st_xIfS, tgP_some, tgP_none, st_xAsg, g_gVar, g_gNil, g_gCons, g_gTup, augP_some, augP_none, st_xAug, parP_two, st_xPar, loopP_nx, loopP_ct, loopP_bk, loopP_rt, loopP_ex, st_xFor, itP_some, itP_none, sat_xIt, sat_xLc, sat_xItA, sat_xYes, sat_xLenSet, oAdd_ii, oSub_ii, oMul_ii, oFdiv_ii, oMod_ii, oNeg_i, oLt_ii, oLe_ii, oGt_ii, oGe_ii, oInt_i, oIx_ti, oIx_qi, oLen_t, oLen_q, oLen_s, atI_0, atI_1, atI_2, atI_3, atI_4, atI_5, atI_6, atI_7, atI_8, atI_9, atI_10, atI_11, atI_12, atI_13, atI_14, List.getElem?_cons_zero, List.getElem?_cons_succ, List.map_cons, List.map_nil, List.cons_append, List.nil_append, List.length_cons, List.length_nil, List.set_cons_zero, List.set_cons_succ, List.replicate, Option.map_some, Option.map_none, Option.bind_some, Option.bind_none, if_true, if_false, Nat.reduceAdd, Nat.reduceSub, Nat.reduceLT, Nat.reduceLeDiff, Nat.reduceEqDiff, Int.reduceLT, Int.reduceLE, Int.reduceNeg, Int.reduceEq, Bool.false_eq_true, Bool.true_eq_false, reduceIte, reduceCtorEq, Bool.not_true, Bool.not_false, decide_eq_true_eq, Nat.zero_lt_succ, and_true, true_and, and_self, and_false, false_and, isi_non_tuple, isi_non_int, isi_non_str, isi_non_bool, isi_non_list, type_non, isi_bl_tuple, isi_bl_int, isi_bl_str, isi_bl_bool, isi_bl_list, type_bl, isi_int_tuple, isi_int_int, isi_int_str, isi_int_bool, isi_int_list, type_int, isi_str_tuple, isi_str_int, isi_str_str, isi_str_bool, isi_str_list, type_str, isi_tup_tuple, isi_tup_int, isi_tup_str, isi_tup_bool, isi_tup_list, type_tup, is_int_int, isn_int_int, is_int_str, isn_int_str, is_int_tuple, isn_int_tuple, is_int_list, isn_int_list, is_int_bool, isn_int_bool, is_str_int, isn_str_int, is_str_str, isn_str_str, is_str_tuple, isn_str_tuple, is_str_list, isn_str_list, is_str_bool, isn_str_bool, is_tuple_int, isn_tuple_int, is_tuple_str, isn_tuple_str, is_tuple_tuple, isn_tuple_tuple, is_tuple_list, isn_tuple_list, is_tuple_bool, isn_tuple_bool, is_list_int, isn_list_int, is_list_str, isn_list_str, is_list_tuple, isn_list_tuple, is_list_list, isn_list_list, is_list_bool, isn_list_bool, is_bool_int, isn_bool_int, is_bool_str, isn_bool_str, is_bool_tuple, isn_bool_tuple, is_bool_list, isn_bool_list, is_bool_bool, isn_bool_bool, is_NoneType_int, isn_NoneType_int, is_NoneType_str, isn_NoneType_str, is_NoneType_tuple, isn_NoneType_tuple, is_NoneType_list, isn_NoneType_list, is_NoneType_bool, isn_NoneType_bool, isN_non, isnN_non, isB_non, isnB_non, isN_bl, isnN_bl, isB_bl, isnB_bl, isN_int, isnN_int, isB_int, isnB_int, isN_str, isnN_str, isB_str, isnB_str, isN_tup, isnN_tup, isB_tup, isnB_tup, eq_non_non, eq_non_bl, ne_non_bl, eq_non_int, ne_non_int, eq_non_str, ne_non_str, eq_bl_non, ne_bl_non, eq_bl_bl, ne_bl_bl, eq_bl_str, ne_bl_str, eq_int_non, ne_int_non, eq_int_int, ne_int_int, eq_int_str, ne_int_str, eq_str_non, ne_str_non, eq_str_bl, ne_str_bl, eq_str_int, ne_str_int, eq_str_str, ne_str_str, isN_ref, isB_ref, tru_bl, tru_int, likeB, nameD]
                    refine gate (fun q => ?_) fun q => ?_
                    · refine law_name_spec hy fun S5 k5 => ?_
                      simp only [sat_ok, sat_ex, sat_err, sat_bind_eq, ofP_some, ofP_none, sat_of_eq, st_nx, st_rt, st_bk, st_ct, st_ex, st_err, st_then, seqP_nx, seqP_rt, seqP_bk, seqP_ct, seqP_ex, st_xSeq, endP_nx, endP_rt, endP_ex, endP_bk, endP_ct, varP_some, varP_none, varP_non, sat_xVar, sat_xC, sat_xOp, sat_xUn, blP_bl, sat_xTB, trP_some, trP_none, sat_xT, sat_xAndT, sat_xOrT, sat_xNotT, sat_xAnd, sat_xOr, sat_xNot, sat_xIf, sat_xNil, sat_xCons, sat_xTup, sat_xLst, sat_xChain, sat_xCall, sat_xCB, sat_xM0, sat_xM, intP_int, sat_xNoP, sat_xPart, sat_xSl, st_xSkip, st_xBrk, st_xCnt, st_xDrop, st_xRet, st_xRetN, st_xIfS, tgP_some, tgP_none, st_xAsg, g_gVar, g_gNil, g_gCons, g_gTup, augP_some, augP_none, st_xAug, parP_two, st_xPar, loopP_nx, loopP_ct, loopP_bk, loopP_rt, loopP_ex, st_xFor, itP_some, itP_none, sat_xIt, sat_xLc, sat_xItA, sat_xYes, sat_xLenSet, oAdd_ii, oSub_ii, oMul_ii, oFdiv_ii, oMod_ii, oNeg_i, oLt_ii, oLe_ii, oGt_ii, oGe_ii, oInt_i, oIx_ti, oIx_qi, oLen_t, oLen_q, oLen_s, atI_0, atI_1, atI_2, atI_3, atI_4, atI_5, atI_6, atI_7, atI_8, atI_9, atI_10, atI_11, atI_12, atI_13, atI_14, List.getElem?_cons_zero, List.getElem?_cons_succ, List.map_cons, List.map_nil, List.cons_append, List.nil_append, List.length_cons, List.length_nil, List.set_cons_zero, List.set_cons_succ, List.replicate, Option.map_some, Option.map_none, Option.bind_some, Option.bind_none, if_true, if_false, Nat.reduceAdd, Nat.reduceSub, Nat.reduceLT, Nat.reduceLeDiff, Nat.reduceEqDiff, Int.reduceLT, Int.reduceLE, Int.reduceNeg, Int.reduceEq, Bool.false_eq_true, Bool.true_eq_false, reduceIte, reduceCtorEq, Bool.not_true, Bool.not_false, decide_eq_true_eq, Nat.zero_lt_succ, and_true, true_and, and_self, and_false, false_and, isi_non_tuple, isi_non_int, isi_non_str, isi_non_bool, isi_non_list, type_non, isi_bl_tuple, isi_bl_int, isi_bl_str, isi_bl_bool, isi_bl_list, type_bl, isi_int_tuple, isi_int_int, isi_int_str, isi_int_bool, isi_int_list, type_int, isi_str_tuple, isi_str_int, isi_str_str, isi_str_bool, isi_str_list, type_str, isi_tup_tuple, isi_tup_int, isi_tup_str, isi_tup_bool, isi_tup_list, type_tup, is_int_int, isn_int_int, is_int_str, isn_int_str, is_int_tuple, isn_int_tuple, is_int_list, isn_int_list, is_int_bool, isn_int_bool, is_str_int, isn_str_int, is_str_str, isn_str_str, is_str_tuple, isn_str_tuple, is_str_list, isn_str_list, is_str_bool, isn_str_bool, is_tuple_int, isn_tuple_int, is_tuple_str, isn_tuple_str, is_tuple_tuple, isn_tuple_tuple, is_tuple_list, isn_tuple_list, is_tuple_bool, isn_tuple_bool, is_list_int, isn_list_int, is_list_str, isn_list_str, is_list_tuple, isn_list_tuple, is_list_list, isn_list_list, is_list_bool, isn_list_bool, is_bool_int, isn_bool_int, is_bool_str, isn_bool_str, is_bool_tuple, isn_bool_tuple, is_bool_list, isn_bool_list, is_bool_bool, isn_bool_bool, is_NoneType_int, isn_NoneType_int, is_NoneType_str, isn_NoneType_str, is_NoneType_tuple, isn_NoneType_tuple, is_NoneType_list, isn_NoneType_list, is_NoneType_bool, isn_NoneType_bool, isN_non, isnN_non, isB_non, isnB_non, isN_bl, isnN_bl, isB_bl, isnB_bl, isN_int, isnN_int, isB_int, isnB_int, isN_str, isnN_str, isB_str, isnB_str, isN_tup, isnN_tup, isB_tup, isnB_tup, eq_non_non, eq_non_bl, ne_non_bl, eq_non_int, ne_non_int, eq_non_str, ne_non_str, eq_bl_non, ne_bl_non, eq_bl_bl, ne_bl_bl, eq_bl_str, ne_bl_str, eq_int_non, ne_int_non, eq_int_int, ne_int_int, eq_int_str, ne_int_str, eq_str_non, ne_str_non, eq_str_bl, ne_str_bl, eq_str_int, ne_str_int, eq_str_str, ne_str_str, isN_ref, isB_ref, tru_bl, tru_int]
                      exact ⟨by rw [q, Bool.false_or], k5, fun _ => Kx.refl _ _⟩
                    · exact ⟨by rw [q]; rfl, Kx.refl _ _, fun q => nomatch q⟩
                  | _ => simp only [sat_ok, sat_ex, sat_err, sat_bind_eq, ofP_some, ofP_none, sat_of_eq, st_nx, st_rt, st_bk, st_ct, st_ex, st_err, st_then, seqP_nx, seqP_rt, seqP_bk, seqP_ct, seqP_ex, st_xSeq, endP_nx, endP_rt, endP_ex, endP_bk, endP_ct, varP_some, varP_none, varP_non, sat_xVar, sat_xC, sat_xOp, sat_xUn, blP_bl, sat_xTB, trP_some, trP_none, sat_xT, sat_xAndT, sat_xOrT, sat_xNotT, sat_xAnd, sat_xOr, sat_xNot, sat_xIf, sat_xNil, sat_xCons, sat_xTup, sat_xLst, sat_xChain, sat_xCall, sat_xCB, sat_xM0, sat_xM, intP_int, sat_xNoP, sat_xPart, sat_xSl, st_xSkip, st_xBrk, st_xCnt, st_xDrop, st_xRet, st_xRetN, st_xIfS, tgP_some, tgP_none, st_xAsg, g_gVar, g_gNil, g_gCons, g_gTup, augP_some, augP_none, st_xAug, parP_two, st_xPar, loopP_nx, loopP_ct, loopP_bk, loopP_rt, loopP_ex, st_xFor, itP_some, itP_none, sat_xIt, sat_xLc, sat_xItA, sat_xYes, sat_xLenSet, oAdd_ii, oSub_ii, oMul_ii, oFdiv_ii, oMod_ii, oNeg_i, oLt_ii, oLe_ii, oGt_ii, oGe_ii, oInt_i, oIx_ti, oIx_qi, oLen_t, oLen_q, oLen_s, atI_0, atI_1, atI_2, atI_3, atI_4, atI_5, atI_6, atI_7, atI_8, atI_9, atI_10, atI_11, atI_12, atI_13, atI_14, List.getElem?_cons_zero, List.getElem?_cons_succ, List.map_cons, List.map_nil, List.cons_append, List.nil_append, List.length_cons, List.length_nil, List.set_cons_zero, List.set_cons_succ, List.replicate, Option.map_some, Option.map_none, Option.bind_some, Option.bind_none, if_true, if_false, Nat.reduceAdd, Nat.reduceSub, Nat.reduceLT, Nat.reduceLeDiff, Nat.reduceEqDiff, Int.reduceLT, Int.reduceLE, Int.reduceNeg, Int.reduceEq, Bool.false_eq_true, Bool.true_eq_false, reduceIte, reduceCtorEq, Bool.not_true, Bool.not_false, decide_eq_true_eq, Nat.zero_lt_succ, and_true, true_and, and_self, and_false, false_and, isi_non_tuple, isi_non_int, isi_non_str, isi_non_bool, isi_non_list, type_non, isi_bl_tuple, isi_bl_int, isi_bl_str, isi_bl_bool, isi_bl_list, type_bl, isi_int_tuple, isi_int_int, isi_int_str, isi_int_bool, isi_int_list, type_int, isi_str_tuple, isi_str_int, isi_str_str, isi_str_bool, isi_str_list, type_str, isi_tup_tuple, isi_tup_int, isi_tup_str, isi_tup_bool, isi_tup_list, type_tup, is_int_int, isn_int_int, is_int_str, isn_int_str, is_int_tuple, isn_int_tuple, is_int_list, isn_int_list, is_int_bool, isn_int_bool, is_str_int, isn_str_int, is_str_str, isn_str_str, is_str_tuple, isn_str_tuple, is_str_list, isn_str_list, is_str_bool, isn_str_bool, is_tuple_int, isn_tuple_int, is_tuple_str, isn_tuple_str, is_tuple_tuple, isn_tuple_tuple, is_tuple_list, isn_tuple_list, is_tuple_bool, isn_tuple_bool, is_list_int, isn_list_int, is_list_str, isn_list_str, is_list_tuple, isn_list_tuple, is_list_list, isn_list_list, is_list_bool, isn_list_bool, is_bool_int, isn_bool_int, is_bool_str, isn_bool_str, is_bool_tuple, isn_bool_tuple, is_bool_list, isn_bool_list, is_bool_bool, isn_bool_bool, is_NoneType_int, isn_NoneType_int, is_NoneType_str, isn_NoneType_str, is_NoneType_tuple, isn_NoneType_tuple, is_NoneType_list, isn_NoneType_list, is_NoneType_bool, isn_NoneType_bool, isN_non, isnN_non, isB_non, isnB_non, isN_bl, isnN_bl, isB_bl, isnB_bl, isN_int, isnN_int, isB_int, isnB_int, isN_str, isnN_str, isB_str, isnB_str, isN_tup, isnN_tup, isB_tup, isnB_tup, eq_non_non, eq_non_bl, ne_non_bl, eq_non_int, ne_non_int, eq_non_str, ne_non_str, eq_bl_non, ne_bl_non, eq_bl_bl, ne_bl_bl, eq_bl_str, ne_bl_str, eq_int_non, ne_int_non, eq_int_int, ne_int_int, eq_int_str, ne_int_str, eq_str_non, ne_str_non, eq_str_bl, ne_str_bl, eq_str_int, ne_str_int, eq_str_str, ne_str_str, isN_ref, isB_ref, tru_bl, tru_int, likeB, nameD]; exact ⟨rfl, Kx.refl _ _, fun _ => Kx.refl _ _⟩
                · cases p7 with
                  | @str _ y hy =>
                    simp only [sat_ok, sat_ex, sat_err, sat_bind_eq, ofP_some, ofP_none, sat_of_eq, st_nx, st_rt, st_bk, st_ct, st_ex, st_err, st_then, seqP_nx, seqP_rt, seqP_bk, seqP_ct, seqP_ex, st_xSeq, endP_nx, endP_rt, endP_ex, endP_bk, endP_ct, varP_some, varP_none, varP_non, sat_xVar, sat_xC, sat_xOp, sat_xUn, blP_bl, sat_xTB, trP_some, trP_none, sat_xT, sat_xAndT, sat_xOrT, sat_xNotT, sat_xAnd, sat_xOr, sat_xNot, sat_xIf, sat_xNil, sat_xCons, sat_xTup, sat_xLst, sat_xChain, sat_xCall, sat_xCB, sat_xM0, sat_xM, intP_int, sat_xNoP, sat_xPart, sat_xSl, st_xSkip, st_xBrk, st_xCnt, st_xDrop, st_xRet, st_xRetN, st_xIfS, tgP_some, tgP_none, st_xAsg, g_gVar, g_gNil, g_gCons, g_gTup, augP_some, augP_none, st_xAug, parP_two, st_xPar, loopP_nx, loopP_ct, loopP_bk, loopP_rt, loopP_ex, st_xFor, itP_some, itP_none, sat_xIt, sat_xLc, sat_xItA, sat_xYes, sat_xLenSet, oAdd_ii, oSub_ii, oMul_ii, oFdiv_ii, oMod_ii, oNeg_i, oLt_ii, oLe_ii, oGt_ii, oGe_ii, oInt_i, oIx_ti, oIx_qi, oLen_t, oLen_q, oLen_s, atI_0, atI_1, atI_2, atI_3, atI_4, atI_5, atI_6, atI_7, atI_8, atI_9, atI_10, atI_11, atI_12, atI_13, atI_14, List.getElem?_cons_zero, List.getElem?_cons_succ, List.map_cons, List.map_nil, List.cons_append, List.nil_append, List.length_cons, List.length_nil, List.set_cons_zero, List.set_cons_succ, List.replicate, Option.map_some, Option.map_none, Option.bind_some, Option.bind_none, if_true, if_false, Nat.reduceAdd, Nat.reduceSub, Nat.reduceLT, Nat.reduceLeDiff, Nat.reduceEqDiff, Int.reduceLT, Int.reduceLE, Int.reduceNeg, Int.reduceEq, Bool.false_eq_true, Bool.true_eq_false, reduceIte, reduceCtorEq, Bool.not_true, Bool.not_false, decide_eq_true_eq, Nat.zero_lt_succ, and_true, true_and, and_self, and_false, false_and, isi_non_tuple, isi_non_int, isi_non_str, isi_non_bool, isi_non_list, type_non, isi_bl_tuple, isi_bl_int, isi_bl_str, isi_bl_bool, isi_bl_list, type_bl, isi_int_tuple, isi_int_int, isi_int_str, isi_int_bool, isi_int_list, type_int, isi_str_tuple, isi_str_int, isi_str_str, isi_str_bool, isi_str_list, type_str, isi_tup_tuple, isi_tup_int, isi_tup_str, isi_tup_bool, isi_tup_list, type_tup, is_int_int, isn_int_int, is_int_str, isn_int_str, is_int_tuple, isn_int_tuple, is_int_list, isn_int_list, is_int_bool, isn_int_bool, is_str_int, isn_str_int, is_str_str, isn_str_str, is_str_tuple, isn_str_tuple, is_str_list, isn_str_list, is_str_bool, isn_str_bool, is_tuple_int, isn_tuple_int, is_tuple_str, isn_tuple_str, is_tuple_tuple, isn_tuple_tuple, is_tuple_list, isn_tuple_list, is_tuple_bool, isn_tuple_bool, is_list_int, isn_list_int, is_list_str, isn_list_str, is_list_tuple, isn_list_tuple, is_list_list, isn_list_list, is_list_bool, isn_list_bool, is_bool_int, isn_bool_int, is_bool_str, isn_bool_str, is_bool_tuple, isn_bool_tuple, is_bool_list, isn_bool_list, is_bool_bool, isn_bool_bool, is_NoneType_int, isn_NoneType_int, is_NoneType_str, isn_NoneType_str, is_NoneType_tuple, isn_NoneType_tuple, is_NoneType_list, isn_NoneType_list, is_NoneType_bool, isn_NoneType_bool, isN_non, isnN_non, isB_non, isnB_non, isN_bl, isnN_bl, isB_bl, isnB_bl, isN_int, isnN_int, isB_int, isnB_int, isN_str, isnN_str, isB_str, isnB_str, isN_tup, isnN_tup, isB_tup, isnB_tup, eq_non_non, eq_non_bl, ne_non_bl, eq_non_int, ne_non_int, eq_non_str, ne_non_str, eq_bl_non, ne_bl_non, eq_bl_bl, ne_bl_bl, eq_bl_str, ne_bl_str, eq_int_non, ne_int_non, eq_int_int, ne_int_int, eq_int_str, ne_int_str, eq_str_non, ne_str_non, eq_str_bl, ne_str_bl, eq_str_int, ne_str_int, eq_str_str, ne_str_str, isN_ref, isB_ref, tru_bl, tru_int, likeB, nameD]
                    refine gate (fun q => ?_) fun q => ?_
                    · refine law_name_spec hy fun S5 k5 => ?_
                      simp only [sat_ok, sat_ex, sat_err, sat_bind_eq, ofP_some, ofP_none, sat_of_eq, st_nx, st_rt, st_bk, st_ct, st_ex, st_err, st_then, seqP_nx, seqP_rt, seqP_bk, seqP_ct, seqP_ex, st_xSeq, endP_nx, endP_rt, endP_ex, endP_bk, endP_ct, varP_some, varP_none, varP_non, sat_xVar, sat_xC, sat_xOp, sat_xUn, blP_bl, sat_xTB, trP_some, trP_none, sat_xT, sat_xAndT, sat_xOrT, sat_xNotT, sat_xAnd, sat_xOr, sat_xNot, sat_xIf, sat_xNil, sat_xCons, sat_xTup, sat_xLst, sat_xChain, sat_xCall, sat_xCB, sat_xM0, sat_xM, intP_int, sat_xNoP, sat_xPart, sat_xSl, st_xSkip, st_xBrk, st_xCnt, st_xDrop, st_xRet, st_xRetN, st_xIfS, tgP_some, tgP_none, st_xAsg, g_gVar, g_gNil, g_gCons, g_gTup, augP_some, augP_none, st_xAug, parP_two, st_xPar, loopP_nx, loopP_ct, loopP_bk, loopP_rt, loopP_ex, st_xFor, itP_some, itP_none, sat_xIt, sat_xLc, sat_xItA, sat_xYes, sat_xLenSet, oAdd_ii, oSub_ii, oMul_ii, oFdiv_ii, oMod_ii, oNeg_i, oLt_ii, oLe_ii, oGt_ii, oGe_ii, oInt_i, oIx_ti, oIx_qi, oLen_t, oLen_q, oLen_s, atI_0, atI_1, atI_2, atI_3, atI_4, atI_5, atI_6, atI_7, atI_8, atI_9, atI_10, atI_11, atI_12, atI_13, atI_14, List.getElem?_cons_zero, List.getElem?_cons_succ, List.map_cons, List.map_nil, List.cons_append, List.nil_append, List.length_cons, List.length_nil, List.set_cons_zero, List.set_cons_succ, List.replicate, Option.map_some, Option.map_none, Option.bind_some, Option.bind_none, if_true, if_false, Nat.reduceAdd, Nat.reduceSub, Nat.reduceLT, Nat.reduceLeDiff, Nat.reduceEqDiff, Int.reduceLT, Int.reduceLE, Int.reduceNeg, Int.reduceEq, Bool.false_eq_true, Bool.true_eq_false, reduceIte, reduceCtorEq, Bool.not_true, Bool.not_false, decide_eq_true_eq, Nat.zero_lt_succ, and_true, true_and, and_self, and_false, false_and, isi_non_tuple, isi_non_int, isi_non_str, isi_non_bool, isi_non_list, type_non, isi_bl_tuple, isi_bl_int, isi_bl_str, isi_bl_bool, isi_bl_list, type_bl, isi_int_tuple, isi_int_int, isi_int_str, isi_int_bool, isi_int_list, type_int, isi_str_tuple, isi_str_int, isi_str_str, isi_str_bool, isi_str_list, type_str, isi_tup_tuple, isi_tup_int, isi_tup_str, isi_tup_bool, isi_tup_list, type_tup, is_int_int, isn_int_int, is_int_str, isn_int_str, is_int_tuple, isn_int_tuple, is_int_list, isn_int_list, is_int_bool, isn_int_bool, is_str_int, isn_str_int, is_str_str, isn_str_str, is_str_tuple, isn_str_tuple, is_str_list, isn_str_list, is_str_bool, isn_str_bool, is_tuple_int, isn_tuple_int, is_tuple_str, isn_tuple_str, is_tuple_tuple, isn_tuple_tuple, is_tuple_list, isn_tuple_list, is_tuple_bool, isn_tuple_bool, is_list_int, isn_list_int, is_list_str, isn_list_str, is_list_tuple, isn_list_tuple, is_list_list, isn_list_list, is_list_bool, isn_list_bool, is_bool_int, isn_bool_int, is_bool_str, isn_bool_str, is_bool_tuple, isn_bool_tuple, is_bool_list, isn_bool_list, is_bool_bool, isn_bool_bool, is_NoneType_int, isn_NoneType_int, is_NoneType_str, isn_NoneType_str, is_NoneType_tuple, isn_NoneType_tuple, is_NoneType_list, isn_NoneType_list, is_NoneType_bool, isn_NoneType_bool, isN_non, isnN_non, isB_non, isnB_non, isN_bl, isnN_bl, isB_bl, isnB_bl, isN_int, isnN_int, isB_int, isnB_int, isN_str, isnN_str, isB_str, isnB_str, isN_tup, isnN_tup, isB_tup, isnB_tup, eq_non_non, eq_non_bl, ne_non_bl, eq_non_int, ne_non_int, eq_non_str, ne_non_str, eq_bl_non, ne_bl_non, eq_bl_bl, ne_bl_bl, eq_bl_str, ne_bl_str, eq_int_non, ne_int_non, eq_int_int, ne_int_int, eq_int_str, ne_int_str, eq_str_non, ne_str_non, eq_str_bl, ne_str_bl, eq_str_int, ne_str_int, eq_str_str, ne_str_str, isN_ref, isB_ref, tru_bl, tru_int]
                      exact ⟨by rw [q, Bool.false_or], k5, fun _ => Kx.refl _ _⟩
                    · exact ⟨by rw [q]; rfl, Kx.refl _ _, fun q => nomatch q⟩
                  | _ => simp only [sat_ok, sat_ex, sat_err, sat_bind_eq, ofP_some, ofP_none, sat_of_eq, st_nx, st_rt, st_bk, st_ct, st_ex, st_err, st_then, seqP_nx, seqP_rt, seqP_bk, seqP_ct, seqP_ex, st_xSeq, endP_nx, endP_rt, endP_ex, endP_bk, endP_ct, varP_some, varP_none, varP_non, sat_xVar, sat_xC, sat_xOp, sat_xUn, blP_bl, sat_xTB, trP_some, trP_none, sat_xT, sat_xAndT, sat_xOrT, sat_xNotT, sat_xAnd, sat_xOr, sat_xNot, sat_xIf, sat_xNil, sat_xCons, sat_xTup, sat_xLst, sat_xChain, sat_xCall, sat_xCB, sat_xM0, sat_xM, intP_int, sat_xNoP, sat_xPart, sat_xSl, st_xSkip, st_xBrk, st_xCnt, st_xDrop, st_xRet, st_xRetN, st_xIfS, tgP_some, tgP_none, st_xAsg, g_gVar, g_gNil, g_gCons, g_gTup, augP_some, augP_none, st_xAug, parP_two, st_xPar, loopP_nx, loopP_ct, loopP_bk, loopP_rt, loopP_ex, st_xFor, itP_some, itP_none, sat_xIt, sat_xLc, sat_xItA, sat_xYes, sat_xLenSet, oAdd_ii, oSub_ii, oMul_ii, oFdiv_ii, oMod_ii, oNeg_i, oLt_ii, oLe_ii, oGt_ii, oGe_ii, oInt_i, oIx_ti, oIx_qi, oLen_t, oLen_q, oLen_s, atI_0, atI_1, atI_2, atI_3, atI_4, atI_5, atI_6, atI_7, atI_8, atI_9, atI_10, atI_11, atI_12, atI_13, atI_14, List.getElem?_cons_zero, List.getElem?_cons_succ, List.map_cons, List.map_nil, List.cons_append, List.nil_append, List.length_cons, List.length_nil, List.set_cons_zero, List.set_cons_succ, List.replicate, Option.map_some, Option.map_none, Option.bind_some, Option.bind_none, if_true, if_false, Nat.reduceAdd, Nat.reduceSub, Nat.reduceLT, Nat.reduceLeDiff, Nat.reduceEqDiff, Int.reduceLT, Int.reduceLE, Int.reduceNeg, Int.reduceEq, Bool.false_eq_true, Bool.true_eq_false, reduceIte, reduceCtorEq, Bool.not_true, Bool.not_false, decide_eq_true_eq, Nat.zero_lt_succ, and_true, true_and, and_self, and_false, false_and, isi_non_tuple, isi_non_int, isi_non_str, isi_non_bool, isi_non_list, type_non, isi_bl_tuple, isi_bl_int, isi_bl_str, isi_bl_bool, isi_bl_list, type_bl, isi_int_tuple, isi_int_int, isi_int_str, isi_int_bool, isi_int_list, type_int, isi_str_tuple, isi_str_int, isi_str_str, isi_str_bool, isi_str_list, type_str, isi_tup_tuple, isi_tup_int, isi_tup_str, isi_tup_bool, isi_tup_list, type_tup, is_int_int, isn_int_int, is_int_str, isn_int_str, is_int_tuple, isn_int_tuple, is_int_list, isn_int_list, is_int_bool, isn_int_bool, is_str_int, isn_str_int, is_str_str, isn_str_str, is_str_tuple, isn_str_tuple, is_str_list, isn_str_list, is_str_bool, isn_str_bool, is_tuple_int, isn_tuple_int, is_tuple_str, isn_tuple_str, is_tuple_tuple, isn_tuple_tuple, is_tuple_list, isn_tuple_list, is_tuple_bool, isn_tuple_bool, is_list_int, isn_list_int, is_list_str, isn_list_str, is_list_tuple, isn_list_tuple, is_list_list, isn_list_list, is_list_bool, isn_list_bool, is_bool_int, isn_bool_int, is_bool_str, isn_bool_str, is_bool_tuple, isn_bool_tuple, is_bool_list, isn_bool_list, is_bool_bool, isn_bool_bool, is_NoneType_int, isn_NoneType_int, is_NoneType_str, isn_NoneType_str, is_NoneType_tuple, isn_NoneType_tuple, is_NoneType_list, isn_NoneType_list, is_NoneType_bool, isn_NoneType_bool, isN_non, isnN_non, isB_non, isnB_non, isN_bl, isnN_bl, isB_bl, isnB_bl, isN_int, isnN_int, isB_int, isnB_int, isN_str, isnN_str, isB_str, isnB_str, isN_tup, isnN_tup, isB_tup, isnB_tup, eq_non_non, eq_non_bl, ne_non_bl, eq_non_int, ne_non_int, eq_non_str, ne_non_str, eq_bl_non, ne_bl_non, eq_bl_bl, ne_bl_bl, eq_bl_str, ne_bl_str, eq_int_non, ne_int_non, eq_int_int, ne_int_int, eq_int_str, ne_int_str, eq_str_non, ne_str_non, eq_str_bl, ne_str_bl, eq_str_int, ne_str_int, eq_str_str, ne_str_str, isN_ref, isB_ref, tru_bl, tru_int, likeB, nameD]; exact ⟨rfl, Kx.refl _ _, fun _ => Kx.refl _ _⟩
              · simp only [sat_ok, sat_ex, sat_err, sat_bind_eq, ofP_some, ofP_none, sat_of_eq, st_nx, st_rt, st_bk, st_ct, st_ex, st_err, st_then, seqP_nx, seqP_rt, seqP_bk, seqP_ct, seqP_ex, st_xSeq, endP_nx, endP_rt, endP_ex, endP_bk, endP_ct, varP_some, varP_none, varP_non, sat_xVar, sat_xC, sat_xOp, sat_xUn, blP_bl, sat_xTB, trP_some, trP_none, sat_xT, sat_xAndT, sat_xOrT, sat_xNotT, sat_xAnd, sat_xOr, sat_xNot, sat_xIf, sat_xNil, sat_xCons, sat_xTup, sat_xLst, sat_xChain, sat_xCall, sat_xCB, sat_xM0, sat_xM, intP_int, sat_xNoP, sat_xPart, sat_xSl, st_xSkip, st_xBrk, st_xCnt, st_xDrop, st_xRet, st_xRetN, st_xIfS, tgP_some, tgP_none, st_xAsg, g_gVar, g_gNil, g_gCons, g_gTup, augP_some, augP_none, st_xAug, parP_two, st_xPar, loopP_nx, loopP_ct, loopP_bk, loopP_rt, loopP_ex, st_xFor, itP_some, itP_none, sat_xIt, sat_xLc, sat_xItA, sat_xYes, sat_xLenSet, oAdd_ii, oSub_ii, oMul_ii, oFdiv_ii, oMod_ii, oNeg_i, oLt_ii, oLe_ii, oGt_ii, oGe_ii, oInt_i, oIx_ti, oIx_qi, oLen_t, oLen_q, oLen_s, atI_0, atI_1, atI_2, atI_3, atI_4, atI_5, atI_6, atI_7, atI_8, atI_9, atI_10, atI_11, atI_12, atI_13, atI_14, List.getElem?_cons_zero, List.getElem?_cons_succ, List.map_cons, List.map_nil, List.cons_append, List.nil_append, List.length_cons, List.length_nil, List.set_cons_zero, List.set_cons_succ, List.replicate, Option.map_some, Option.map_none, Option.bind_some, Option.bind_none, if_true, if_false, Nat.reduceAdd, Nat.reduceSub, Nat.reduceLT, Nat.reduceLeDiff, Nat.reduceEqDiff, Int.reduceLT, Int.reduceLE, Int.reduceNeg, Int.reduceEq, Bool.false_eq_true, Bool.true_eq_false, reduceIte, reduceCtorEq, Bool.not_true, Bool.not_false, decide_eq_true_eq, Nat.zero_lt_succ, and_true, true_and, and_self, and_false, false_and, isi_non_tuple, isi_non_int, isi_non_str, isi_non_bool, isi_non_list, type_non, isi_bl_tuple, isi_bl_int, isi_bl_str, isi_bl_bool, isi_bl_list, type_bl, isi_int_tuple, isi_int_int, isi_int_str, isi_int_bool, isi_int_list, type_int, isi_str_tuple, isi_str_int, isi_str_str, isi_str_bool, isi_str_list, type_str, isi_tup_tuple, isi_tup_int, isi_tup_str, isi_tup_bool, isi_tup_list, type_tup, is_int_int, isn_int_int, is_int_str, isn_int_str, is_int_tuple, isn_int_tuple, is_int_list, isn_int_list, is_int_bool, isn_int_bool, is_str_int, isn_str_int, is_str_str, isn_str_str, is_str_tuple, isn_str_tuple, is_str_list, isn_str_list, is_str_bool, isn_str_bool, is_tuple_int, isn_tuple_int, is_tuple_str, isn_tuple_str, is_tuple_tuple, isn_tuple_tuple, is_tuple_list, isn_tuple_list, is_tuple_bool, isn_tuple_bool, is_list_int, isn_list_int, is_list_str, isn_list_str, is_list_tuple, isn_list_tuple, is_list_list, isn_list_list, is_list_bool, isn_list_bool, is_bool_int, isn_bool_int, is_bool_str, isn_bool_str, is_bool_tuple, isn_bool_tuple, is_bool_list, isn_bool_list, is_bool_bool, isn_bool_bool, is_NoneType_int, isn_NoneType_int, is_NoneType_str, isn_NoneType_str, is_NoneType_tuple, isn_NoneType_tuple, is_NoneType_list, isn_NoneType_list, is_NoneType_bool, isn_NoneType_bool, isN_non, isnN_non, isB_non, isnB_non, isN_bl, isnN_bl, isB_bl, isnB_bl, isN_int, isnN_int, isB_int, isnB_int, isN_str, isnN_str, isB_str, isnB_str, isN_tup, isnN_tup, isB_tup, isnB_tup, eq_non_non, eq_non_bl, ne_non_bl, eq_non_int, ne_non_int, eq_non_str, ne_non_str, eq_bl_non, ne_bl_non, eq_bl_bl, ne_bl_bl, eq_bl_str, ne_bl_str, eq_int_non, ne_int_non, eq_int_int, ne_int_int, eq_int_str, ne_int_str, eq_str_non, ne_str_non, eq_str_bl, ne_str_bl, eq_str_int, ne_str_int, eq_str_str, ne_str_str, isN_ref, isB_ref, tru_bl, tru_int, eq_nil e3 (ones_sh _ _), ones_empty]
                refine ⟨Nat.zero_le _, ?_⟩
                simp only [List.all_cons, List.all_nil, Bool.and_true, Bool.not_not]
                exact h _ (k3.trans (Kx.app _ _ _))
          · have e1 : wholeD a5 (-99999999) 99999999 = false := by
              cases p5 with
              | int => exact absurd ⟨_, rfl⟩ hs
              | _ => rfl
            have e2 : amountD a5 = false := by
              cases p5 with
              | int => exact absurd ⟨_, rfl⟩ hs
              | _ => rfl
            simp only [e2, Bool.false_and, Bool.and_false] at h
            simp only [sat_ok, sat_ex, sat_err, sat_bind_eq, ofP_some, ofP_none, sat_of_eq, st_nx, st_rt, st_bk, st_ct, st_ex, st_err, st_then, seqP_nx, seqP_rt, seqP_bk, seqP_ct, seqP_ex, st_xSeq, endP_nx, endP_rt, endP_ex, endP_bk, endP_ct, varP_some, varP_none, varP_non, sat_xVar, sat_xC, sat_xOp, sat_xUn, blP_bl, sat_xTB, trP_some, trP_none, sat_xT, sat_xAndT, sat_xOrT, sat_xNotT, sat_xAnd, sat_xOr, sat_xNot, sat_xIf, sat_xNil, sat_xCons, sat_xTup, sat_xLst, sat_xChain, sat_xCall, sat_xCB, sat_xM0, sat_xM, intP_int, sat_xNoP, sat_xPart, sat_xSl, st_xSkip, st_xBrk, st_xCnt, st_xDrop, st_xRet, st_xRetN, st_xIfS, tgP_some, tgP_none, st_xAsg, g_gVar, g_gNil, g_gCons, g_gTup, augP_some, augP_none, st_xAug, parP_two, st_xPar, loopP_nx, loopP_ct, loopP_bk, loopP_rt, loopP_ex, st_xFor, itP_some, itP_none, sat_xIt, sat_xLc, sat_xItA, sat_xYes, sat_xLenSet, oAdd_ii, oSub_ii, oMul_ii, oFdiv_ii, oMod_ii, oNeg_i, oLt_ii, oLe_ii, oGt_ii, oGe_ii, oInt_i, oIx_ti, oIx_qi, oLen_t, oLen_q, oLen_s, atI_0, atI_1, atI_2, atI_3, atI_4, atI_5, atI_6, atI_7, atI_8, atI_9, atI_10, atI_11, atI_12, atI_13, atI_14, List.getElem?_cons_zero, List.getElem?_cons_succ, List.map_cons, List.map_nil, List.cons_append, List.nil_append, List.length_cons, List.length_nil, List.set_cons_zero, List.set_cons_succ, List.replicate, Option.map_some, Option.map_none, Option.bind_some, Option.bind_none, if_true, if_false, Nat.reduceAdd, Nat.reduceSub, Nat.reduceLT, Nat.reduceLeDiff, Nat.reduceEqDiff, Int.reduceLT, Int.reduceLE, Int.reduceNeg, Int.reduceEq, Bool.false_eq_true, Bool.true_eq_false, reduceIte, reduceCtorEq, Bool.not_true, Bool.not_false, decide_eq_true_eq, Nat.zero_lt_succ, and_true, true_and, and_self, and_false, false_and, isi_non_tuple, isi_non_int, isi_non_str, isi_non_bool, isi_non_list, type_non, isi_bl_tuple, isi_bl_int, isi_bl_str, isi_bl_bool, isi_bl_list, type_bl, isi_int_tuple, isi_int_int, isi_int_str, isi_int_bool, isi_int_list, type_int, isi_str_tuple, isi_str_int, isi_str_str, isi_str_bool, isi_str_list, type_str, isi_tup_tuple, isi_tup_int, isi_tup_str, isi_tup_bool, isi_tup_list, type_tup, is_int_int, isn_int_int, is_int_str, isn_int_str, is_int_tuple, isn_int_tuple, is_int_list, isn_int_list, is_int_bool, isn_int_bool, is_str_int, isn_str_int, is_str_str, isn_str_str, is_str_tuple, isn_str_tuple, is_str_list, isn_str_list, is_str_bool, isn_str_bool, is_tuple_int, isn_tuple_int, is_tuple_str, isn_tuple_str, is_tuple_tuple, isn_tuple_tuple, is_tuple_list, isn_tuple_list, is_tuple_bool, isn_tuple_bool, is_list_int, isn_list_int, is_list_str, isn_list_str, is_list_tuple, isn_list_tuple, is_list_list, isn_list_list, is_list_bool, isn_list_bool, is_bool_int, isn_bool_int, is_bool_str, isn_bool_str, is_bool_tuple, isn_bool_tuple, is_bool_list, isn_bool_list, is_bool_bool, isn_bool_bool, is_NoneType_int, isn_NoneType_int, is_NoneType_str, isn_NoneType_str, is_NoneType_tuple, isn_NoneType_tuple, is_NoneType_list, isn_NoneType_list, is_NoneType_bool, isn_NoneType_bool, isN_non, isnN_non, isB_non, isnB_non, isN_bl, isnN_bl, isB_bl, isnB_bl, isN_int, isnN_int, isB_int, isnB_int, isN_str, isnN_str, isB_str, isnB_str, isN_tup, isnN_tup, isB_tup, isnB_tup, eq_non_non, eq_non_bl, ne_non_bl, eq_non_int, ne_non_int, eq_non_str, ne_non_str, eq_bl_non, ne_bl_non, eq_bl_bl, ne_bl_bl, eq_bl_str, ne_bl_str, eq_int_non, ne_int_non, eq_int_int, ne_int_int, eq_int_str, ne_int_str, eq_str_non, ne_str_non, eq_str_bl, ne_str_bl, eq_str_int, ne_str_int, eq_str_str, ne_str_str, isN_ref, isB_ref, tru_bl, tru_int, e1]
            exact r3 _ _ (h _ (Kx.refl _ _))
        simp only [sat_ok, sat_ex, sat_err, sat_bind_eq, ofP_some, ofP_none, sat_of_eq, st_nx, st_rt, st_bk, st_ct, st_ex, st_err, st_then, seqP_nx, seqP_rt, seqP_bk, seqP_ct, seqP_ex, st_xSeq, endP_nx, endP_rt, endP_ex, endP_bk, endP_ct, varP_some, varP_none, varP_non, sat_xVar, sat_xC, sat_xOp, sat_xUn, blP_bl, sat_xTB, trP_some, trP_none, sat_xT, sat_xAndT, sat_xOrT, sat_xNotT, sat_xAnd, sat_xOr, sat_xNot, sat_xIf, sat_xNil, sat_xCons, sat_xTup, sat_xLst, sat_xChain, sat_xCall, sat_xCB, sat_xM0, sat_xM, intP_int, sat_xNoP, sat_xPart, sat_xSl, st_xSkip, st_xBrk, st_xCnt, st_xDrop, st_xRet, st_xRetN, st_xIfS, tgP_some, tgP_none, st_xAsg, g_gVar, g_gNil, g_gCons, g_gTup, augP_some, augP_none, st_xAug, parP_two, st_xPar, loopP_nx, loopP_ct, loopP_bk, loopP_rt, loopP_ex, st_xFor, itP_some, itP_none, sat_xIt, sat_xLc, sat_xItA, sat_xYes, sat_xLenSet, oAdd_ii, oSub_ii, oMul_ii, oFdiv_ii, oMod_ii, oNeg_i, oLt_ii, oLe_ii, oGt_ii, oGe_ii, oInt_i, oIx_ti, oIx_qi, oLen_t, oLen_q, oLen_s, atI_0, atI_1, atI_2, atI_3, atI_4, atI_5, atI_6, atI_7, atI_8, atI_9, atI_10, atI_11, atI_12, atI_13, atI_14, List.getElem?_cons_zero, List.getElem?_cons_succ, List.map_cons, List.map_nil, List.cons_append, List.nil_append, List.length_cons, List.length_nil, List.set_cons_zero, List.set_cons_succ, List.replicate, Option.map_some, Option.map_none, Option.bind_some, Option.bind_none, if_true, if_false, Nat.reduceAdd, Nat.reduceSub, Nat.reduceLT, Nat.reduceLeDiff, Nat.reduceEqDiff, Int.reduceLT, Int.reduceLE, Int.reduceNeg, Int.reduceEq, Bool.false_eq_true, Bool.true_eq_false, reduceIte, reduceCtorEq, Bool.not_true, Bool.not_false, decide_eq_true_eq, Nat.zero_lt_succ, and_true, true_and, and_self, and_false, false_and, isi_non_tuple, isi_non_int, isi_non_str, isi_non_bool, isi_non_list, type_non, isi_bl_tuple, isi_bl_int, isi_bl_str, isi_bl_bool, isi_bl_list, type_bl, isi_int_tuple, isi_int_int, isi_int_str, isi_int_bool, isi_int_list, type_int, isi_str_tuple, isi_str_int, isi_str_str, isi_str_bool, isi_str_list, type_str, isi_tup_tuple, isi_tup_int, isi_tup_str, isi_tup_bool, isi_tup_list, type_tup, is_int_int, isn_int_int, is_int_str, isn_int_str, is_int_tuple, isn_int_tuple, is_int_list, isn_int_list, is_int_bool, isn_int_bool, is_str_int, isn_str_int, is_str_str, isn_str_str, is_str_tuple, isn_str_tuple, is_str_list, isn_str_list, is_str_bool, isn_str_bool, is_tuple_int, isn_tuple_int, is_tuple_str, isn_tuple_str, is_tuple_tuple, isn_tuple_tuple, is_tuple_list, isn_tuple_list, is_tuple_bool, isn_tuple_bool, is_list_int, isn_list_int, is_list_str, isn_list_str, is_list_tuple, isn_list_tuple, is_list_list, isn_list_list, is_list_bool, isn_list_bool, is_bool_int, isn_bool_int, is_bool_str, isn_bool_str, is_bool_tuple, isn_bool_tuple, is_bool_list, isn_bool_list, is_bool_bool, isn_bool_bool, is_NoneType_int, isn_NoneType_int, is_NoneType_str, isn_NoneType_str, is_NoneType_tuple, isn_NoneType_tuple, is_NoneType_list, isn_NoneType_list, is_NoneType_bool, isn_NoneType_bool, isN_non, isnN_non, isB_non, isnB_non, isN_bl, isnN_bl, isB_bl, isnB_bl, isN_int, isnN_int, isB_int, isnB_int, isN_str, isnN_str, isB_str, isnB_str, isN_tup, isnN_tup, isB_tup, isnB_tup, eq_non_non, eq_non_bl, ne_non_bl, eq_non_int, ne_non_int, eq_non_str, ne_non_str, eq_bl_non, ne_bl_non, eq_bl_bl, ne_bl_bl, eq_bl_str, ne_bl_str, eq_int_non, ne_int_non, eq_int_int, ne_int_int, eq_int_str, ne_int_str, eq_str_non, ne_str_non, eq_str_bl, ne_str_bl, eq_str_int, ne_str_int, eq_str_str, ne_str_str, isN_ref, isB_ref, tru_bl, tru_int]
        refine law_whole_spec (Pl.vd p2) ?_
        simp only [sat_ok, sat_ex, sat_err, sat_bind_eq, ofP_some, ofP_none, sat_of_eq, st_nx, st_rt, st_bk, st_ct, st_ex, st_err, st_then, seqP_nx, seqP_rt, seqP_bk, seqP_ct, seqP_ex, st_xSeq, endP_nx, endP_rt, endP_ex, endP_bk, endP_ct, varP_some, varP_none, varP_non, sat_xVar, sat_xC, sat_xOp, sat_xUn, blP_bl, sat_xTB, trP_some, trP_none, sat_xT, sat_xAndT, sat_xOrT, sat_xNotT, sat_xAnd, sat_xOr, sat_xNot, sat_xIf, sat_xNil, sat_xCons, sat_xTup, sat_xLst, sat_xChain, sat_xCall, sat_xCB, sat_xM0, sat_xM, intP_int, sat_xNoP, sat_xPart, sat_xSl, st_xSkip, st_xBrk, st_xCnt, st_xDrop, st_xRet, st_xRetN, st_xIfS, tgP_some, tgP_none, st_xAsg, g_gVar, g_gNil, g_gCons, g_gTup, augP_some, augP_none, st_xAug, parP_two, st_xPar, loopP_nx, loopP_ct, loopP_bk, loopP_rt, loopP_ex, st_xFor, itP_some, itP_none, sat_xIt, sat_xLc, sat_xItA, sat_xYes, sat_xLenSet, oAdd_ii, oSub_ii, oMul_ii, oFdiv_ii, oMod_ii, oNeg_i, oLt_ii, oLe_ii, oGt_ii, oGe_ii, oInt_i, oIx_ti, oIx_qi, oLen_t, oLen_q, oLen_s, atI_0, atI_1, atI_2, atI_3, atI_4, atI_5, atI_6, atI_7, atI_8, atI_9, atI_10, atI_11, atI_12, atI_13, atI_14, List.getElem?_cons_zero, List.getElem?_cons_succ, List.map_cons, List.map_nil, List.cons_append, List.nil_append, List.length_cons, List.length_nil, List.set_cons_zero, List.set_cons_succ, List.replicate, Option.map_some, Option.map_none, Option.bind_some, Option.bind_none, if_true, if_false, Nat.reduceAdd, Nat.reduceSub, Nat.reduceLT, Nat.reduceLeDiff, Nat.reduceEqDiff, Int.reduceLT, Int.reduceLE, Int.reduceNeg, Int.reduceEq, Bool.false_eq_true, Bool.true_eq_false, reduceIte, reduceCtorEq, Bool.not_true, Bool.not_false, decide_eq_true_eq, Nat.zero_lt_succ, and_true, true_and, and_self, and_false, false_and, isi_non_tuple, isi_non_int, isi_non_str, isi_non_bool, isi_non_list, type_non, isi_bl_tuple, isi_bl_int, isi_bl_str, isi_bl_bool, isi_bl_list, type_bl, isi_int_tuple, isi_int_int, isi_int_str, isi_int_bool, isi_int_list, type_int, isi_str_tuple, isi_str_int, isi_str_str, isi_str_bool, isi_str_list, type_str, isi_tup_tuple, isi_tup_int, isi_tup_str, isi_tup_bool, isi_tup_list, type_tup, is_int_int, isn_int_int, is_int_str, isn_int_str, is_int_tuple, isn_int_tuple, is_int_list, isn_int_list, is_int_bool, isn_int_bool, is_str_int, isn_str_int, is_str_str, isn_str_str, is_str_tuple, isn_str_tuple, is_str_list, isn_str_list, is_str_bool, isn_str_bool, is_tuple_int, isn_tuple_int, is_tuple_str, isn_tuple_str, is_tuple_tuple, isn_tuple_tuple, is_tuple_list, isn_tuple_list, is_tuple_bool, isn_tuple_bool, is_list_int, isn_list_int, is_list_str, isn_list_str, is_list_tuple, isn_list_tuple, is_list_list, isn_list_list, is_list_bool, isn_list_bool, is_bool_int, isn_bool_int, is_bool_str, isn_bool_str, is_bool_tuple, isn_bool_tuple, is_bool_list, isn_bool_list, is_bool_bool, isn_bool_bool, is_NoneType_int, isn_NoneType_int, is_NoneType_str, isn_NoneType_str, is_NoneType_tuple, isn_NoneType_tuple, is_NoneType_list, isn_NoneType_list, is_NoneType_bool, isn_NoneType_bool, isN_non, isnN_non, isB_non, isnB_non, isN_bl, isnN_bl, isB_bl, isnB_bl, isN_int, isnN_int, isB_int, isnB_int, isN_str, isnN_str, isB_str, isnB_str, isN_tup, isnN_tup, isB_tup, isnB_tup, eq_non_non, eq_non_bl, ne_non_bl, eq_non_int, ne_non_int, eq_non_str, ne_non_str, eq_bl_non, ne_bl_non, eq_bl_bl, ne_bl_bl, eq_bl_str, ne_bl_str, eq_int_non, ne_int_non, eq_int_int, ne_int_int, eq_int_str, ne_int_str, eq_str_non, ne_str_non, eq_str_bl, ne_str_bl, eq_str_int, ne_str_int, eq_str_str, ne_str_str, isN_ref, isB_ref, tru_bl, tru_int]
        refine gateT (fun q2 => ?_) fun q2 => fin _ (by rw [q2]; rfl)
        refine law_whole_spec (Pl.vd p3) ?_
        simp only [sat_ok, sat_ex, sat_err, sat_bind_eq, ofP_some, ofP_none, sat_of_eq, st_nx, st_rt, st_bk, st_ct, st_ex, st_err, st_then, seqP_nx, seqP_rt, seqP_bk, seqP_ct, seqP_ex, st_xSeq, endP_nx, endP_rt, endP_ex, endP_bk, endP_ct, varP_some, varP_none, varP_non, sat_xVar, sat_xC, sat_xOp, sat_xUn, blP_bl, sat_xTB, trP_some, trP_none, sat_xT, sat_xAndT, sat_xOrT, sat_xNotT, sat_xAnd, sat_xOr, sat_xNot, sat_xIf, sat_xNil, sat_xCons, sat_xTup, sat_xLst, sat_xChain, sat_xCall, sat_xCB, sat_xM0, sat_xM, intP_int, sat_xNoP, sat_xPart, sat_xSl, st_xSkip, st_xBrk, st_xCnt, st_xDrop, st_xRet, st_xRetN, st_xIfS, tgP_some, tgP_none, st_xAsg, g_gVar, g_gNil, g_gCons, g_gTup, augP_some, augP_none, st_xAug, parP_two, st_xPar, loopP_nx, loopP_ct, loopP_bk, loopP_rt, loopP_ex, st_xFor, itP_some, itP_none, sat_xIt, sat_xLc, sat_xItA, sat_xYes, sat_xLenSet, oAdd_ii, oSub_ii, oMul_ii, oFdiv_ii, oMod_ii, oNeg_i, oLt_ii, oLe_ii, oGt_ii, oGe_ii, oInt_i, oIx_ti, oIx_qi, oLen_t, oLen_q, oLen_s, atI_0, atI_1, atI_2, atI_3, atI_4, atI_5, atI_6, atI_7, atI_8, atI_9, atI_10, atI_11, atI_12, atI_13, atI_14, List.getElem?_cons_zero, List.getElem?_cons_succ, List.map_cons, List.map_nil, List.cons_append, List.nil_append, List.length_cons, List.length_nil, List.set_cons_zero, List.set_cons_succ, List.replicate, Option.map_some, Option.map_none, Option.bind_some, Option.bind_none, if_true, if_false, Nat.reduceAdd, Nat.reduceSub, Nat.reduceLT, Nat.reduceLeDiff, Nat.reduceEqDiff, Int.reduceLT, Int.reduceLE, Int.reduceNeg, Int.reduceEq, Bool.false_eq_true, Bool.true_eq_false, reduceIte, reduceCtorEq, Bool.not_true, Bool.not_false, decide_eq_true_eq, Nat.zero_lt_succ, and_true, true_and, and_self, and_false, false_and, isi_non_tuple, isi_non_int, isi_non_str, isi_non_bool, isi_non_list, type_non, isi_bl_tuple, isi_bl_int, isi_bl_str, isi_bl_bool, isi_bl_list, type_bl, isi_int_tuple, isi_int_int, isi_int_str, isi_int_bool, isi_int_list, type_int, isi_str_tuple, isi_str_int, isi_str_str, isi_str_bool, isi_str_list, type_str, isi_tup_tuple, isi_tup_int, isi_tup_str, isi_tup_bool, isi_tup_list, type_tup, is_int_int, isn_int_int, is_int_str, isn_int_str, is_int_tuple, isn_int_tuple, is_int_list, isn_int_list, is_int_bool, isn_int_bool, is_str_int, isn_str_int, is_str_str, isn_str_str, is_str_tuple, isn_str_tuple, is_str_list, isn_str_list, is_str_bool, isn_str_bool, is_tuple_int, isn_tuple_int, is_tuple_str, isn_tuple_str, is_tuple_tuple, isn_tuple_tuple, is_tuple_list, isn_tuple_list, is_tuple_bool, isn_tuple_bool, is_list_int, isn_list_int, is_list_str, isn_list_str, is_list_tuple, isn_list_tuple, is_list_list, isn_list_list, is_list_bool, isn_list_bool, is_bool_int, isn_bool_int, is_bool_str, isn_bool_str, is_bool_tuple, isn_bool_tuple, is_bool_list, isn_bool_list, is_bool_bool, isn_bool_bool, is_NoneType_int, isn_NoneType_int, is_NoneType_str, isn_NoneType_str, is_NoneType_tuple, isn_NoneType_tuple, is_NoneType_list, isn_NoneType_list, is_NoneType_bool, isn_NoneType_bool, isN_non, isnN_non, isB_non, isnB_non, isN_bl, isnN_bl, isB_bl, isnB_bl, isN_int, isnN_int, isB_int, isnB_int, isN_str, isnN_str, isB_str, isnB_str, isN_tup, isnN_tup, isB_tup, isnB_tup, eq_non_non, eq_non_bl, ne_non_bl, eq_non_int, ne_non_int, eq_non_str, ne_non_str, eq_bl_non, ne_bl_non, eq_bl_bl, ne_bl_bl, eq_bl_str, ne_bl_str, eq_int_non, ne_int_non, eq_int_int, ne_int_int, eq_int_str, ne_int_str, eq_str_non, ne_str_non, eq_str_bl, ne_str_bl, eq_str_int, ne_str_int, eq_str_str, ne_str_str, isN_ref, isB_ref, tru_bl, tru_int]
        refine gateT (fun q3 => ?_) fun q3 => fin _ (by rw [q2, q3]; rfl)
        refine law_whole_spec (Pl.vd p4) ?_
        simp only [sat_ok, sat_ex, sat_err, sat_bind_eq, ofP_some, ofP_none, sat_of_eq, st_nx, st_rt, st_bk, st_ct, st_ex, st_err, st_then, seqP_nx, seqP_rt, seqP_bk, seqP_ct, seqP_ex, st_xSeq, endP_nx, endP_rt, endP_ex, endP_bk, endP_ct, varP_some, varP_none, varP_non, sat_xVar, sat_xC, sat_xOp, sat_xUn, blP_bl, sat_xTB, trP_some, trP_none, sat_xT, sat_xAndT, sat_xOrT, sat_xNotT, sat_xAnd, sat_xOr, sat_xNot, sat_xIf, sat_xNil, sat_xCons, sat_xTup, sat_xLst, sat_xChain, sat_xCall, sat_xCB, sat_xM0, sat_xM, intP_int, sat_xNoP, sat_xPart, sat_xSl, st_xSkip, st_xBrk, st_xCnt, st_xDrop, st_xRet, st_xRetN, st_xIfS, tgP_some, tgP_none, st_xAsg, g_gVar, g_gNil, g_gCons, g_gTup, augP_some, augP_none, st_xAug, parP_two, st_xPar, loopP_nx, loopP_ct, loopP_bk, loopP_rt, loopP_ex, st_xFor, itP_some, itP_none, sat_xIt, sat_xLc, sat_xItA, sat_xYes, sat_xLenSet, oAdd_ii, oSub_ii, oMul_ii, oFdiv_ii, oMod_ii, oNeg_i, oLt_ii, oLe_ii, oGt_ii, oGe_ii, oInt_i, oIx_ti, oIx_qi, oLen_t, oLen_q, oLen_s, atI_0, atI_1, atI_2, atI_3, atI_4, atI_5, atI_6, atI_7, atI_8, atI_9, atI_10, atI_11, atI_12, atI_13, atI_14, List.getElem?_cons_zero, List.getElem?_cons_succ, List.map_cons, List.map_nil, List.cons_append, List.nil_append, List.length_cons, List.length_nil, List.set_cons_zero, List.set_cons_succ, List.replicate, Option.map_some, Option.map_none, Option.bind_some, Option.bind_none, if_true, if_false, Nat.reduceAdd, Nat.reduceSub, Nat.reduceLT, Nat.reduceLeDiff, Nat.reduceEqDiff, Int.reduceLT, Int.reduceLE, Int.reduceNeg, Int.reduceEq, Bool.false_eq_true, Bool.true_eq_false, reduceIte, reduceCtorEq, Bool.not_true, Bool.not_false, decide_eq_true_eq, Nat.zero_lt_succ, and_true, true_and, and_self, and_false, false_and, isi_non_tuple, isi_non_int, isi_non_str, isi_non_bool, isi_non_list, type_non, isi_bl_tuple, isi_bl_int, isi_bl_str, isi_bl_bool, isi_bl_list, type_bl, isi_int_tuple, isi_int_int, isi_int_str, isi_int_bool, isi_int_list, type_int, isi_str_tuple, isi_str_int, isi_str_str, isi_str_bool, isi_str_list, type_str, isi_tup_tuple, isi_tup_int, isi_tup_str, isi_tup_bool, isi_tup_list, type_tup, is_int_int, isn_int_int, is_int_str, isn_int_str, is_int_tuple, isn_int_tuple, is_int_list, isn_int_list, is_int_bool, isn_int_bool, is_str_int, isn_str_int, is_str_str, isn_str_str, is_str_tuple, isn_str_tuple, is_str_list, isn_str_list, is_str_bool, isn_str_bool, is_tuple_int, isn_tuple_int, is_tuple_str, isn_tuple_str, is_tuple_tuple, isn_tuple_tuple, is_tuple_list, isn_tuple_list, is_tuple_bool, isn_tuple_bool, is_list_int, isn_list_int, is_list_str, isn_list_str, is_list_tuple, isn_list_tuple, is_list_list, isn_list_list, is_list_bool, isn_list_bool, is_bool_int, isn_bool_int, is_bool_str, isn_bool_str, is_bool_tuple, isn_bool_tuple, is_bool_list, isn_bool_list, is_bool_bool, isn_bool_bool, is_NoneType_int, isn_NoneType_int, is_NoneType_str, isn_NoneType_str, is_NoneType_tuple, isn_NoneType_tuple, is_NoneType_list, isn_NoneType_list, is_NoneType_bool, isn_NoneType_bool, isN_non, isnN_non, isB_non, isnB_non, isN_bl, isnN_bl, isB_bl, isnB_bl, isN_int, isnN_int, isB_int, isnB_int, isN_str, isnN_str, isB_str, isnB_str, isN_tup, isnN_tup, isB_tup, isnB_tup, eq_non_non, eq_non_bl, ne_non_bl, eq_non_int, ne_non_int, eq_non_str, ne_non_str, eq_bl_non, ne_bl_non, eq_bl_bl, ne_bl_bl, eq_bl_str, ne_bl_str, eq_int_non, ne_int_non, eq_int_int, ne_int_int, eq_int_str, ne_int_str, eq_str_non, ne_str_non, eq_str_bl, ne_str_bl, eq_str_int, ne_str_int, eq_str_str, ne_str_str, isN_ref, isB_ref, tru_bl, tru_int]
        refine gateT (fun q4 => ?_) fun q4 => fin _ (by rw [q2, q3, q4]; rfl)
        refine law_whole_spec (Pl.vd p8) ?_
        exact fin _ (by rw [q2, q3, q4]; rfl)
      · have e1 : nameD a1 = false := by
          cases p1 with
          | str hy => exact absurd ⟨_, rfl, hy⟩ hs
          | _ => rfl
        simp only [e1, Bool.false_and, Bool.and_false] at h
        cases p1 with
        | str hy => exact absurd ⟨_, rfl, hy⟩ hs
        | _ => simp only [sat_ok, sat_ex, sat_err, sat_bind_eq, ofP_some, ofP_none, sat_of_eq, st_nx, st_rt, st_bk, st_ct, st_ex, st_err, st_then, seqP_nx, seqP_rt, seqP_bk, seqP_ct, seqP_ex, st_xSeq, endP_nx, endP_rt, endP_ex, endP_bk, endP_ct, varP_some, varP_none, varP_non, sat_xVar, sat_xC, sat_xOp, sat_xUn, blP_bl, sat_xTB, trP_some, trP_none, sat_xT, sat_xAndT, sat_xOrT, sat_xNotT, sat_xAnd, sat_xOr, sat_xNot, sat_xIf, sat_xNil, sat_xCons, sat_xTup, sat_xLst, sat_xChain, sat_xCall, sat_xCB, sat_xM0, sat_xM, intP_int, sat_xNoP, sat_xPart, sat_xSl, st_xSkip, st_xBrk, st_xCnt, st_xDrop, st_xRet, st_xRetN, st_xIfS, tgP_some, tgP_none, st_xAsg, g_gVar, g_gNil, g_gCons, g_gTup, augP_some, augP_none, st_xAug, parP_two, st_xPar, loopP_nx, loopP_ct, loopP_bk, loopP_rt, loopP_ex, st_xFor, itP_some, itP_none, sat_xIt, sat_xLc, sat_xItA, sat_xYes, sat_xLenSet, oAdd_ii, oSub_ii, oMul_ii, oFdiv_ii, oMod_ii, oNeg_i, oLt_ii, oLe_ii, oGt_ii, oGe_ii, oInt_i, oIx_ti, oIx_qi, oLen_t, oLen_q, oLen_s, atI_0, atI_1, atI_2, atI_3, atI_4, atI_5, atI_6, atI_7, atI_8, atI_9, atI_10, atI_11, atI_12, atI_13, atI_14, List.getElem?_cons_zero, List.getElem?_cons_succ, List.map_cons, List.map_nil, List.cons_append, List.nil_append, List.length_cons, List.length_nil, List.set_cons_zero, List.set_cons_succ, List.replicate, Option.map_some, Option.map_none, Option.bind_some, Option.bind_none, if_true, if_false, Nat.reduceAdd, Nat.reduceSub, Nat.reduceLT, Nat.reduceLeDiff, Nat.reduceEqDiff, Int.reduceLT, Int.reduceLE, Int.reduceNeg, Int.reduceEq, Bool.false_eq_true, Bool.true_eq_false, reduceIte, reduceCtorEq, Bool.not_true, Bool.not_false, decide_eq_true_eq, Nat.zero_lt_succ, and_true, true_and, and_self, and_false, false_and, isi_non_tuple, isi_non_int, isi_non_str, isi_non_bool, isi_non_list, type_non, isi_bl_tuple, isi_bl_int, isi_bl_str, isi_bl_bool, isi_bl_list, type_bl, isi_int_tuple, isi_int_int, isi_int_str, isi_int_bool, isi_int_list, type_int, isi_str_tuple, isi_str_int, isi_str_str, isi_str_bool, isi_str_list, type_str, isi_tup_tuple, isi_tup_int, isi_tup_str, isi_tup_bool, isi_tup_list, type_tup, is_int_int, isn_int_int, is_int_str, isn_int_str, is_int_tuple, isn_int_tuple, is_int_list, isn_int_list, is_int_bool, isn_int_bool, is_str_int, isn_str_int, is_str_str, isn_str_str, is_str_tuple, isn_str_tuple, is_str_list, isn_str_list, is_str_bool, isn_str_bool, is_tuple_int, isn_tuple_int, is_tuple_str, isn_tuple_str, is_tuple_tuple, isn_tuple_tuple, is_tuple_list, isn_tuple_list, is_tuple_bool, isn_tuple_bool, is_list_int, isn_list_int, is_list_str, isn_list_str, is_list_tuple, isn_list_tuple, is_list_list, isn_list_list, is_list_bool, isn_list_bool, is_bool_int, isn_bool_int, is_bool_str, isn_bool_str, is_bool_tuple, isn_bool_tuple, is_bool_list, isn_bool_list, is_bool_bool, isn_bool_bool, is_NoneType_int, isn_NoneType_int, is_NoneType_str, isn_NoneType_str, is_NoneType_tuple, isn_NoneType_tuple, is_NoneType_list, isn_NoneType_list, is_NoneType_bool, isn_NoneType_bool, isN_non, isnN_non, isB_non, isnB_non, isN_bl, isnN_bl, isB_bl, isnB_bl, isN_int, isnN_int, isB_int, isnB_int, isN_str, isnN_str, isB_str, isnB_str, isN_tup, isnN_tup, isB_tup, isnB_tup, eq_non_non, eq_non_bl, ne_non_bl, eq_non_int, ne_non_int, eq_non_str, ne_non_str, eq_bl_non, ne_bl_non, eq_bl_bl, ne_bl_bl, eq_bl_str, ne_bl_str, eq_int_non, ne_int_non, eq_int_int, ne_int_int, eq_int_str, ne_int_str, eq_str_non, ne_str_non, eq_str_bl, ne_str_bl, eq_str_int, ne_str_int, eq_str_str, ne_str_str, isN_ref, isB_ref, tru_bl, tru_int]; exact r1 _ _ (h _ (Kx.refl _ _))
/-- orders or what was made of them -/
inductive Os (S : Sto) : D → Prop
  | one {d : D} (h : Pl 0 d) : Os S d
  | ref {m : Nat} {ds : List D} (h : S[m]? = some (.lst ds)) : Os S (.ref m)
  | tup {ds : List D} (hz : ds.length ≤ 1000000) (h : ∀ d ∈ ds, Od S d) : Os S (.tup ds)
theorem Od.keep {S S' : Sto} {d : D} (h : Od S d) (k : Kp S S') : Od S' d := by
  cases h with
  | one h => exact .one h
  | ref h => exact .ref (k.get h)
  | tup hz h => exact .tup hz h
theorem Od.vd {S : Sto} {d : D} (h : Od S d) : Vd S 1 d := by
  cases h with
  | one h => cases h <;> first | exact .non | exact .bl | exact .int | (rename_i h; exact .str h)
  | ref h => exact .ref h
  | tup hz h => exact .tup hz fun d hd => (h d hd).vd
theorem Os.vd {S : Sto} {d : D} (h : Os S d) : Vd S 2 d := by
  cases h with
  | one h => cases h <;> first | exact .non | exact .bl | exact .int | (rename_i h; exact .str h)
  | ref h => exact .ref h
  | tup hz h => exact .tup hz fun d hd => (h d hd).vd
def secD : D → D
  | .tup (_ :: a :: _) => a
  | _ => .non
def secS : D → Str
  | .tup (_ :: .str a :: _) => a
  | _ => Str.empty
theorem sec_ix {d : D} {S : Sto} (h : orderD d = true) : oIx d (.int 1) S = some (secD d, S) ∧ secD d = .str (secS d) := by
  cases d with
  | tup ds =>
    rw [orderD] at h
    unfold orderL at h
    split at h
    · rename_i a b _ _ _ _ _ _ _
      refine ⟨by simp only [sat_ok, sat_ex, sat_err, sat_bind_eq, ofP_some, ofP_none, sat_of_eq, st_nx, st_rt, st_bk, st_ct, st_ex, st_err, st_then, seqP_nx, seqP_rt, seqP_bk, seqP_ct, seqP_ex, st_xSeq, endP_nx, endP_rt, endP_ex, endP_bk, endP_ct, varP_some, varP_none, varP_non, sat_xVar, sat_xC, sat_xOp, sat_xUn, blP_bl, sat_xTB, trP_some, trP_none, sat_xT, sat_xAndT, sat_xOrT, sat_xNotT, sat_xAnd, sat_xOr, sat_xNot, sat_xIf, sat_xNil, sat_xCons, sat_xTup, sat_xLst, sat_xChain, sat_xCall, sat_xCB, sat_xM0, sat_xM, intP_int, sat_xNoP, sat_xPart, sat_xSl, st_xSkip, st_xBrk, st_xCnt, st_xDrop, st_xRet, st_xRetN, st_xIfS, tgP_some, tgP_none, st_xAsg, g_gVar, g_gNil, g_gCons, g_gTup, augP_some, augP_none, st_xAug, parP_two, st_xPar, loopP_nx, loopP_ct, loopP_bk, loopP_rt, loopP_ex, st_xFor, itP_some, itP_none, sat_xIt, sat_xLc, sat_xItA, sat_xYes, sat_xLenSet, oAdd_ii, oSub_ii, oMul_ii, oFdiv_ii, oMod_ii, oNeg_i, oLt_ii, oLe_ii, oGt_ii, oGe_ii, oInt_i, oIx_ti, oIx_qi, oLen_t, oLen_q, oLen_s, atI_0, atI_1, atI_2, atI_3, atI_4, atI_5, atI_6, atI_7, atI_8, atI_9, atI_10, atI_11, atI_12, atI_13, atI_14, List.getElem?_cons_zero, List.getElem?_cons_succ, List.map_cons, List.map_nil, List.cons_append, List.nil_append, List.length_cons, List.length_nil, List.set_cons_zero, List.set_cons_succ, List.replicate, Option.map_some, Option.map_none, Option.bind_some, Option.bind_none, if_true, if_false, Nat.reduceAdd, Nat.reduceSub, Nat.reduceLT, Nat.reduceLeDiff, Nat.reduceEqDiff, Int.reduceLT, Int.reduceLE, Int.reduceNeg, Int.reduceEq, Bool.false_eq_true, Bool.true_eq_false, reduceIte, reduceCtorEq, Bool.not_true, Bool.not_false, decide_eq_true_eq, Nat.zero_lt_succ, and_true, true_and, and_self, and_false, false_and, isi_non_tuple, isi_non_int, isi_non_str, isi_non_bool, isi_non_list, type_non, isi_bl_tuple, isi_bl_int, isi_bl_str, isi_bl_bool, isi_bl_list, type_bl, isi_int_tuple, isi_int_int, isi_int_str, isi_int_bool, isi_int_list, type_int, isi_str_tuple, isi_str_int, isi_str_str, isi_str_bool, isi_str_list, type_str, isi_tup_tuple, isi_tup_int, isi_tup_str, isi_tup_bool, isi_tup_list, type_tup, is_int_int, isn_int_int, is_int_str, isn_int_str, is_int_tuple, isn_int_tuple, is_int_list, isn_int_list, is_int_bool, isn_int_bool, is_str_int, isn_str_int, is_str_str, isn_str_str, is_str_tuple, isn_str_tuple, is_str_list, isn_str_list, is_str_bool, isn_str_bool, is_tuple_int, isn_tuple_int, is_tuple_str, isn_tuple_str, is_tuple_tuple, isn_tuple_tuple, is_tuple_list, isn_tuple_list, is_tuple_bool, isn_tuple_bool, is_list_int, isn_list_int, is_list_str, isn_list_str, is_list_tuple, isn_list_tuple, is_list_list, isn_list_list, is_list_bool, isn_list_bool, is_bool_int, isn_bool_int, is_bool_str, isn_bool_str, is_bool_tuple, isn_bool_tuple, is_bool_list, isn_bool_list, is_bool_bool, isn_bool_bool, is_NoneType_int, isn_NoneType_int, is_NoneType_str, isn_NoneType_str, is_NoneType_tuple, isn_NoneType_tuple, is_NoneType_list, isn_NoneType_list, is_NoneType_bool, isn_NoneType_bool, isN_non, isnN_non, isB_non, isnB_non, isN_bl, isnN_bl, isB_bl, isnB_bl, isN_int, isnN_int, isB_int, isnB_int, isN_str, isnN_str, isB_str, isnB_str, isN_tup, isnN_tup, isB_tup, isnB_tup, eq_non_non, eq_non_bl, ne_non_bl, eq_non_int, ne_non_int, eq_non_str, ne_non_str, eq_bl_non, ne_bl_non, eq_bl_bl, ne_bl_bl, eq_bl_str, ne_bl_str, eq_int_non, ne_int_non, eq_int_int, ne_int_int, eq_int_str, ne_int_str, eq_str_non, ne_str_non, eq_str_bl, ne_str_bl, eq_str_int, ne_str_int, eq_str_str, ne_str_str, isN_ref, isB_ref, tru_bl, tru_int, secD], ?_⟩
      cases b with
      | str y => rfl
      | _ => simp [nameD] at h
    · cases h
  | _ => cases h
def manyB (ds : List D) : Bool := decide (((metK (ds.map fun d => .inr (secS d))).length : Int) = ds.length)
def ordersD : D → Bool
  | .tup ds => decide ((ds.length : Int) ≤ 12) && (ds.all orderD && manyB ds)
  | _ => false
theorem keys_str : ∀ (zs : List Str), keysOf (zs.map D.str) = some (zs.map Sum.inr)
  | [] => rfl
  | z :: zs => by rw [List.map_cons, keysOf, keys_str zs]; rfl
/-- what `len(set([order[1] for order in thing]))` is -/
theorem lenset_sec {ds : List D} {n : Nat} {S : Sto} (ha : ds.all orderD = true) (hl : ds.length ≤ 12) (e : S[n]? = some (.lst ((ds.filter fun _ => true).map secD))) :
    oLenSet (.ref n) S = some (.int (metK (ds.map fun d => .inr (secS d))).length, S) := by
  have e1 : ds.filter (fun _ => true) = ds := List.filter_eq_self.mpr fun _ _ => rfl
  have e2 : ds.map secD = (ds.map secS).map D.str := by
    rw [List.map_map]
    refine List.map_congr_left fun d hd => (sec_ix (S := []) (List.all_eq_true.mp ha d hd)).2
  rw [e1, e2] at e
  simp only [oLenSet, lstOf, e, Option.bind_some]
  rw [keys_str, Option.bind_some, List.length_map, List.length_map, if_pos (by omega), List.map_map]
  rfl
noncomputable abbrev fUnlike : Fn := bodyF 1 B_unlike
noncomputable abbrev fIsOrders : Fn := bodyF 2 (B_is_orders fIsTuple fIsOrder fUnlike)
theorem is_orders_spec {S : Sto} {d : D} {Pd : D → Sto → Prop} {E : Exn → Sto → Prop} (hv : Os S d) (h : ∀ S', Kp S S' → Pd (.bl (ordersD d)) S') : (fIsOrders [d] S).wp Pd E := by
  have z : sizeLine = 16777216 := rfl
  rw [sat_bodyF]
  unfold B_is_orders
  refine seq_cut fun K1 n1 r1 => ?_
  simp only [sat_ok, sat_ex, sat_err, sat_bind_eq, ofP_some, ofP_none, sat_of_eq, st_nx, st_rt, st_bk, st_ct, st_ex, st_err, st_then, seqP_nx, seqP_rt, seqP_bk, seqP_ct, seqP_ex, st_xSeq, endP_nx, endP_rt, endP_ex, endP_bk, endP_ct, varP_some, varP_none, varP_non, sat_xVar, sat_xC, sat_xOp, sat_xUn, blP_bl, sat_xTB, trP_some, trP_none, sat_xT, sat_xAndT, sat_xOrT, sat_xNotT, sat_xAnd, sat_xOr, sat_xNot, sat_xIf, sat_xNil, sat_xCons, sat_xTup, sat_xLst, sat_xChain, sat_xCall, sat_xCB, sat_xM0, sat_xM, intP_int, sat_xNoP, sat_xPart, sat_xSl, st_xSkip, st_xBrk, st_xCnt, st_xDrop, st_xRet, st_xRetN, st_xIfS, tgP_some, tgP_none, st_xAsg, g_gVar, g_gNil, g_gCons, g_gTup, augP_some, augP_none, st_xAug, parP_two, st_xPar, loopP_nx, loopP_ct, loopP_bk, loopP_rt, loopP_ex, st_xFor, itP_some, itP_none, sat_xIt, sat_xLc, sat_xItA, sat_xYes, sat_xLenSet, oAdd_ii, oSub_ii, oMul_ii, oFdiv_ii, oMod_ii, oNeg_i, oLt_ii, oLe_ii, oGt_ii, oGe_ii, oInt_i, oIx_ti, oIx_qi, oLen_t, oLen_q, oLen_s, atI_0, atI_1, atI_2, atI_3, atI_4, atI_5, atI_6, atI_7, atI_8, atI_9, atI_10, atI_11, atI_12, atI_13, atI_14, List.getElem?_cons_zero, List.getElem?_cons_succ, List.map_cons, List.map_nil, List.cons_append, List.nil_append, List.length_cons, List.length_nil, List.set_cons_zero, List.set_cons_succ, List.replicate, Option.map_some, Option.map_none, Option.bind_some, Option.bind_none, if_true, if_false, Nat.reduceAdd, Nat.reduceSub, Nat.reduceLT, Nat.reduceLeDiff, Nat.reduceEqDiff, Int.reduceLT, Int.reduceLE, Int.reduceNeg, Int.reduceEq, Bool.false_eq_true, Bool.true_eq_false, reduceIte, reduceCtorEq, Bool.not_true, Bool.not_false, decide_eq_true_eq, Nat.zero_lt_succ, and_true, true_and, and_self, and_false, false_and, isi_non_tuple, isi_non_int, isi_non_str, isi_non_bool, isi_non_list, type_non, isi_bl_tuple, isi_bl_int, isi_bl_str, isi_bl_bool, isi_bl_list, type_bl, isi_int_tuple, isi_int_int, isi_int_str, isi_int_bool, isi_int_list, type_int, isi_str_tuple, isi_str_int, isi_str_str, isi_str_bool, isi_str_list, type_str, isi_tup_tuple, isi_tup_int, isi_tup_str, isi_tup_bool, isi_tup_list, type_tup, is_int_int, isn_int_int, is_int_str, isn_int_str, is_int_tuple, isn_int_tuple, is_int_list, isn_int_list, is_int_bool, isn_int_bool, is_str_int, isn_str_int, is_str_str, isn_str_str, is_str_tuple, isn_str_tuple, is_str_list, isn_str_list, is_str_bool, isn_str_bool, is_tuple_int, isn_tuple_int, is_tuple_str, isn_tuple_str, is_tuple_tuple, isn_tuple_tuple, is_tuple_list, isn_tuple_list, is_tuple_bool, isn_tuple_bool, is_list_int, isn_list_int, is_list_str, isn_list_str, is_list_tuple, isn_list_tuple, is_list_list, isn_list_list, is_list_bool, isn_list_bool, is_bool_int, isn_bool_int, is_bool_str, isn_bool_str, is_bool_tuple, isn_bool_tuple, is_bool_list, isn_bool_list, is_bool_bool, isn_bool_bool, is_NoneType_int, isn_NoneType_int, is_NoneType_str, isn_NoneType_str, is_NoneType_tuple, isn_NoneType_tuple, is_NoneType_list, isn_NoneType_list, is_NoneType_bool, isn_NoneType_bool, isN_non, isnN_non, isB_non, isnB_non, isN_bl, isnN_bl, isB_bl, isnB_bl, isN_int, isnN_int, isB_int, isnB_int, isN_str, isnN_str, isB_str, isnB_str, isN_tup, isnN_tup, isB_tup, isnB_tup, eq_non_non, eq_non_bl, ne_non_bl, eq_non_int, ne_non_int, eq_non_str, ne_non_str, eq_bl_non, ne_bl_non, eq_bl_bl, ne_bl_bl, eq_bl_str, ne_bl_str, eq_int_non, ne_int_non, eq_int_int, ne_int_int, eq_int_str, ne_int_str, eq_str_non, ne_str_non, eq_str_bl, ne_str_bl, eq_str_int, ne_str_int, eq_str_str, ne_str_str, isN_ref, isB_ref, tru_bl, tru_int]
  refine is_tuple_spec hv.vd ?_
  cases hv with
  | ref hr => simp only [sat_ok, sat_ex, sat_err, sat_bind_eq, ofP_some, ofP_none, sat_of_eq, st_nx, st_rt, st_bk, st_ct, st_ex, st_err, st_then, seqP_nx, seqP_rt, seqP_bk, seqP_ct, seqP_ex, st_xSeq, endP_nx, endP_rt, endP_ex, endP_bk, endP_ct, varP_some, varP_none, varP_non, sat_xVar, sat_xC, sat_xOp, sat_xUn, blP_bl, sat_xTB, trP_some, trP_none, sat_xT, sat_xAndT, sat_xOrT, sat_xNotT, sat_xAnd, sat_xOr, sat_xNot, sat_xIf, sat_xNil, sat_xCons, sat_xTup, sat_xLst, sat_xChain, sat_xCall, sat_xCB, sat_xM0, sat_xM, intP_int, sat_xNoP, sat_xPart, sat_xSl, st_xSkip, st_xBrk, st_xCnt, st_xDrop, st_xRet, st_xRetN, st_xIfS, tgP_some, tgP_none, st_xAsg, g_gVar, g_gNil, g_gCons, g_gTup, augP_some, augP_none, st_xAug, parP_two, st_xPar, loopP_nx, loopP_ct, loopP_bk, loopP_rt, loopP_ex, st_xFor, itP_some, itP_none, sat_xIt, sat_xLc, sat_xItA, sat_xYes, sat_xLenSet, oAdd_ii, oSub_ii, oMul_ii, oFdiv_ii, oMod_ii, oNeg_i, oLt_ii, oLe_ii, oGt_ii, oGe_ii, oInt_i, oIx_ti, oIx_qi, oLen_t, oLen_q, oLen_s, atI_0, atI_1, atI_2, atI_3, atI_4, atI_5, atI_6, atI_7, atI_8, atI_9, atI_10, atI_11, atI_12, atI_13, atI_14, List.getElem?_cons_zero, List.getElem?_cons_succ, List.map_cons, List.map_nil, List.cons_append, List.nil_append, List.length_cons, List.length_nil, List.set_cons_zero, List.set_cons_succ, List.replicate, Option.map_some, Option.map_none, Option.bind_some, Option.bind_none, if_true, if_false, Nat.reduceAdd, Nat.reduceSub, Nat.reduceLT, Nat.reduceLeDiff, Nat.reduceEqDiff, Int.reduceLT, Int.reduceLE, Int.reduceNeg, Int.reduceEq, Bool.false_eq_true, Bool.true_eq_false, reduceIte, reduceCtorEq, Bool.not_true, Bool.not_false, decide_eq_true_eq, Nat.zero_lt_succ, and_true, true_and, and_self, and_false, false_and, isi_non_tuple, isi_non_int, isi_non_str, isi_non_bool, isi_non_list, type_non, isi_bl_tuple, isi_bl_int, isi_bl_str, isi_bl_bool, isi_bl_list, type_bl, isi_int_tuple, isi_int_int, isi_int_str, isi_int_bool, isi_int_list, type_int, isi_str_tuple, isi_str_int, isi_str_str, isi_str_bool, isi_str_list, type_str, isi_tup_tuple, isi_tup_int, isi_tup_str, isi_tup_bool, isi_tup_list, type_tup, is_int_int, isn_int_int, is_int_str, isn_int_str, is_int_tuple, isn_int_tuple, is_int_list, isn_int_list, is_int_bool, isn_int_bool, is_str_int, isn_str_int, is_str_str, isn_str_str, is_str_tuple, isn_str_tuple, is_str_list, isn_str_list, is_str_bool, isn_str_bool, is_tuple_int, isn_tuple_int, is_tuple_str, isn_tuple_str, is_tuple_tuple, isn_tuple_tuple, is_tuple_list, isn_tuple_list, is_tuple_bool, isn_tuple_bool, is_list_int, isn_list_int, is_list_str, isn_list_str, is_list_tuple, isn_list_tuple, is_list_list, isn_list_list, is_list_bool, isn_list_bool, is_bool_int, isn_bool_int, is_bool_str, isn_bool_str, is_bool_tuple, isn_bool_tuple, is_bool_list, isn_bool_list, is_bool_bool, isn_bool_bool, is_NoneType_int, isn_NoneType_int, is_NoneType_str, isn_NoneType_str, is_NoneType_tuple, isn_NoneType_tuple, is_NoneType_list, isn_NoneType_list, is_NoneType_bool, isn_NoneType_bool, isN_non, isnN_non, isB_non, isnB_non, isN_bl, isnN_bl, isB_bl, isnB_bl, isN_int, isnN_int, isB_int, isnB_int, isN_str, isnN_str, isB_str, isnB_str, isN_tup, isnN_tup, isB_tup, isnB_tup, eq_non_non, eq_non_bl, ne_non_bl, eq_non_int, ne_non_int, eq_non_str, ne_non_str, eq_bl_non, ne_bl_non, eq_bl_bl, ne_bl_bl, eq_bl_str, ne_bl_str, eq_int_non, ne_int_non, eq_int_int, ne_int_int, eq_int_str, ne_int_str, eq_str_non, ne_str_non, eq_str_bl, ne_str_bl, eq_str_int, ne_str_int, eq_str_str, ne_str_str, isN_ref, isB_ref, tru_bl, tru_int, tupD]; exact r1 _ _ (h _ (Kx.refl _ _))
  | one h1 => cases h1 <;> (simp only [sat_ok, sat_ex, sat_err, sat_bind_eq, ofP_some, ofP_none, sat_of_eq, st_nx, st_rt, st_bk, st_ct, st_ex, st_err, st_then, seqP_nx, seqP_rt, seqP_bk, seqP_ct, seqP_ex, st_xSeq, endP_nx, endP_rt, endP_ex, endP_bk, endP_ct, varP_some, varP_none, varP_non, sat_xVar, sat_xC, sat_xOp, sat_xUn, blP_bl, sat_xTB, trP_some, trP_none, sat_xT, sat_xAndT, sat_xOrT, sat_xNotT, sat_xAnd, sat_xOr, sat_xNot, sat_xIf, sat_xNil, sat_xCons, sat_xTup, sat_xLst, sat_xChain, sat_xCall, sat_xCB, sat_xM0, sat_xM, intP_int, sat_xNoP, sat_xPart, sat_xSl, st_xSkip, st_xBrk, st_xCnt, st_xDrop, st_xRet, st_xRetN, st_xIfS, tgP_some, tgP_none, st_xAsg, g_gVar, g_gNil, g_gCons, g_gTup, augP_some, augP_none, st_xAug, parP_two, st_xPar, loopP_nx, loopP_ct, loopP_bk, loopP_rt, loopP_ex, st_xFor, itP_some, itP_none, sat_xIt, sat_xLc, sat_xItA, sat_xYes, sat_xLenSet, oAdd_ii, oSub_ii, oMul_ii, oFdiv_ii, oMod_ii, oNeg_i, oLt_ii, oLe_ii, oGt_ii, oGe_ii, oInt_i, oIx_ti, oIx_qi, oLen_t, oLen_q, oLen_s, atI_0, atI_1, atI_2, atI_3, atI_4, atI_5, atI_6, atI_7, atI_8, atI_9, atI_10, atI_11, atI_12, atI_13, atI_14, List.getElem?_cons_zero, List.getElem?_cons_succ, List.map_cons, List.map_nil, List.cons_append, List.nil_append, List.length_cons, List.length_nil, List.set_cons_zero, List.set_cons_succ, List.replicate, Option.map_some, Option.map_none, Option.bind_some, Option.bind_none, if_true, if_false, Nat.reduceAdd, Nat.reduceSub, Nat.reduceLT, Nat.reduceLeDiff, Nat.reduceEqDiff, Int.reduceLT, Int.reduceLE, Int.reduceNeg, Int.reduceEq, Bool.false_eq_true, Bool.true_eq_false, reduceIte, reduceCtorEq, Bool.not_true, Bool.not_false, decide_eq_true_eq, Nat.zero_lt_succ, and_true, true_and, and_self, and_false, false_and, isi_non_tuple, isi_non_int, isi_non_str, isi_non_bool, isi_non_list, type_non, isi_bl_tuple, isi_bl_int, isi_bl_str, isi_bl_bool, isi_bl_list, type_bl, isi_int_tuple, isi_int_int, isi_int_str, isi_int_bool, isi_int_list, type_int, isi_str_tuple, isi_str_int, isi_str_str, isi_str_bool, isi_str_list, type_str, isi_tup_tuple, isi_tup_int, isi_tup_str, isi_tup_bool, isi_tup_list, type_tup, is_int_int, isn_int_int, is_int_str, isn_int_str, is_int_tuple, isn_int_tuple, is_int_list, isn_int_list, is_int_bool, isn_int_bool, is_str_int, isn_str_int, is_str_str, isn_str_str, is_str_tuple, isn_str_tuple, is_str_list, isn_str_list, is_str_bool, isn_str_bool, is_tuple_int, isn_tuple_int, is_tuple_str, isn_tuple_str, is_tuple_tuple, isn_tuple_tuple, is_tuple_list, isn_tuple_list, is_tuple_bool, isn_tuple_bool, is_list_int, isn_list_int, is_list_str, isn_list_str, is_list_tuple, isn_list_tuple, is_list_list, isn_list_list, is_list_bool, isn_list_bool, is_bool_int, isn_bool_int, is_bool_str, isn_bool_str, is_bool_tuple, isn_bool_tuple, is_bool_list, isn_bool_list, is_bool_bool, isn_bool_bool, is_NoneType_int, isn_NoneType_int, is_NoneType_str, isn_NoneType_str, is_NoneType_tuple, isn_NoneType_tuple, is_NoneType_list, isn_NoneType_list, is_NoneType_bool, isn_NoneType_bool, isN_non, isnN_non, isB_non, isnB_non, isN_bl, isnN_bl, isB_bl, isnB_bl, isN_int, isnN_int, isB_int, isnB_int, isN_str, isnN_str, isB_str, isnB_str, isN_tup, isnN_tup, isB_tup, isnB_tup, eq_non_non, eq_non_bl, ne_non_bl, eq_non_int, ne_non_int, eq_non_str, ne_non_str, eq_bl_non, ne_bl_non, eq_bl_bl, ne_bl_bl, eq_bl_str, ne_bl_str, eq_int_non, ne_int_non, eq_int_int, ne_int_int, eq_int_str, ne_int_str, eq_str_non, ne_str_non, eq_str_bl, ne_str_bl, eq_str_int, ne_str_int, eq_str_str, ne_str_str, isN_ref, isB_ref, tru_bl, tru_int, tupD]; exact r1 _ _ (h _ (Kx.refl _ _)))
  | @tup ds hz hp =>
    rw [ordersD] at h
    simp only [sat_ok, sat_ex, sat_err, sat_bind_eq, ofP_some, ofP_none, sat_of_eq, st_nx, st_rt, st_bk, st_ct, st_ex, st_err, st_then, seqP_nx, seqP_rt, seqP_bk, seqP_ct, seqP_ex, st_xSeq, endP_nx, endP_rt, endP_ex, endP_bk, endP_ct, varP_some, varP_none, varP_non, sat_xVar, sat_xC, sat_xOp, sat_xUn, blP_bl, sat_xTB, trP_some, trP_none, sat_xT, sat_xAndT, sat_xOrT, sat_xNotT, sat_xAnd, sat_xOr, sat_xNot, sat_xIf, sat_xNil, sat_xCons, sat_xTup, sat_xLst, sat_xChain, sat_xCall, sat_xCB, sat_xM0, sat_xM, intP_int, sat_xNoP, sat_xPart, sat_xSl, st_xSkip, st_xBrk, st_xCnt, st_xDrop, st_xRet, st_xRetN, st_xIfS, tgP_some, tgP_none, st_xAsg, g_gVar, g_gNil, g_gCons, g_gTup, augP_some, augP_none, st_xAug, parP_two, st_xPar, loopP_nx, loopP_ct, loopP_bk, loopP_rt, loopP_ex, st_xFor, itP_some, itP_none, sat_xIt, sat_xLc, sat_xItA, sat_xYes, sat_xLenSet, oAdd_ii, oSub_ii, oMul_ii, oFdiv_ii, oMod_ii, oNeg_i, oLt_ii, oLe_ii, oGt_ii, oGe_ii, oInt_i, oIx_ti, oIx_qi, oLen_t, oLen_q, oLen_s, atI_0, atI_1, atI_2, atI_3, atI_4, atI_5, atI_6, atI_7, atI_8, atI_9, atI_10, atI_11, atI_12, atI_13, atI_14, List.getElem?_cons_zero, List.getElem?_cons_succ, List.map_cons, List.map_nil, List.cons_append, List.nil_append, List.length_cons, List.length_nil, List.set_cons_zero, List.set_cons_succ, List.replicate, Option.map_some, Option.map_none, Option.bind_some, Option.bind_none, if_true, if_false, Nat.reduceAdd, Nat.reduceSub, Nat.reduceLT, Nat.reduceLeDiff, Nat.reduceEqDiff, Int.reduceLT, Int.reduceLE, Int.reduceNeg, Int.reduceEq, Bool.false_eq_true, Bool.true_eq_false, reduceIte, reduceCtorEq, Bool.not_true, Bool.not_false, decide_eq_true_eq, Nat.zero_lt_succ, and_true, true_and, and_self, and_false, false_and, isi_non_tuple, isi_non_int, isi_non_str, isi_non_bool, isi_non_list, type_non, isi_bl_tuple, isi_bl_int, isi_bl_str, isi_bl_bool, isi_bl_list, type_bl, isi_int_tuple, isi_int_int, isi_int_str, isi_int_bool, isi_int_list, type_int, isi_str_tuple, isi_str_int, isi_str_str, isi_str_bool, isi_str_list, type_str, isi_tup_tuple, isi_tup_int, isi_tup_str, isi_tup_bool, isi_tup_list, type_tup, is_int_int, isn_int_int, is_int_str, isn_int_str, is_int_tuple, isn_int_tuple, is_int_list, isn_int_list, is_int_bool, isn_int_bool, is_str_int, isn_str_int, is_str_str, isn_str_str, is_str_tuple, isn_str_tuple, is_str_list, isn_str_list, is_str_bool, isn_str_bool, is_tuple_int, isn_tuple_int, is_tuple_str, isn_tuple_str, is_tuple_tuple, isn_tuple_tuple, is_tuple_list, isn_tuple_list, is_tuple_bool, isn_tuple_bool, is_list_int, isn_list_int, is_list_str, isn_list_str, is_list_tuple, isn_list_tuple, is_list_list, isn_list_list, is_list_bool, isn_list_bool, is_bool_int, isn_bool_int, is_bool_str, isn_bool_str, is_bool_tuple, isn_bool_tuple, is_bool_list, isn_bool_list, is_bool_bool, isn_bool_bool, is_NoneType_int, isn_NoneType_int, is_NoneType_str, isn_NoneType_str, is_NoneType_tuple, isn_NoneType_tuple, is_NoneType_list, isn_NoneType_list, is_NoneType_bool, isn_NoneType_bool, isN_non, isnN_non, isB_non, isnB_non, isN_bl, isnN_bl, isB_bl, isnB_bl, isN_int, isnN_int, isB_int, isnB_int, isN_str, isnN_str, isB_str, isnB_str, isN_tup, isnN_tup, isB_tup, isnB_tup, eq_non_non, eq_non_bl, ne_non_bl, eq_non_int, ne_non_int, eq_non_str, ne_non_str, eq_bl_non, ne_bl_non, eq_bl_bl, ne_bl_bl, eq_bl_str, ne_bl_str, eq_int_non, ne_int_non, eq_int_int, ne_int_int, eq_int_str, ne_int_str, eq_str_non, ne_str_non, eq_str_bl, ne_str_bl, eq_str_int, ne_str_int, eq_str_str, ne_str_str, isN_ref, isB_ref, tru_bl, tru_int, tupD]
    refine gate (fun q => by simp only [q, Bool.false_and, Bool.and_false] at h; exact r1 _ _ (h _ (Kx.refl _ _))) fun q => ?_
    simp only [q, Bool.true_and, Bool.and_true] at h
    have hl : ds.length ≤ 12 := by have := of_decide_eq_true q; omega
    simp only [sat_ok, sat_ex, sat_err, sat_bind_eq, ofP_some, ofP_none, sat_of_eq, st_nx, st_rt, st_bk, st_ct, st_ex, st_err, st_then, seqP_nx, seqP_rt, seqP_bk, seqP_ct, seqP_ex, st_xSeq, endP_nx, endP_rt, endP_ex, endP_bk, endP_ct, varP_some, varP_none, varP_non, sat_xVar, sat_xC, sat_xOp, sat_xUn, blP_bl, sat_xTB, trP_some, trP_none, sat_xT, sat_xAndT, sat_xOrT, sat_xNotT, sat_xAnd, sat_xOr, sat_xNot, sat_xIf, sat_xNil, sat_xCons, sat_xTup, sat_xLst, sat_xChain, sat_xCall, sat_xCB, sat_xM0, sat_xM, intP_int, sat_xNoP, sat_xPart, sat_xSl, st_xSkip, st_xBrk, st_xCnt, st_xDrop, st_xRet, st_xRetN, st_xIfS, tgP_some, tgP_none, st_xAsg, g_gVar, g_gNil, g_gCons, g_gTup, augP_some, augP_none, st_xAug, parP_two, st_xPar, loopP_nx, loopP_ct, loopP_bk, loopP_rt, loopP_ex, st_xFor, itP_some, itP_none, sat_xIt, sat_xLc, sat_xItA, sat_xYes, sat_xLenSet, oAdd_ii, oSub_ii, oMul_ii, oFdiv_ii, oMod_ii, oNeg_i, oLt_ii, oLe_ii, oGt_ii, oGe_ii, oInt_i, oIx_ti, oIx_qi, oLen_t, oLen_q, oLen_s, atI_0, atI_1, atI_2, atI_3, atI_4, atI_5, atI_6, atI_7, atI_8, atI_9, atI_10, atI_11, atI_12, atI_13, atI_14, List.getElem?_cons_zero, List.getElem?_cons_succ, List.map_cons, List.map_nil, List.cons_append, List.nil_append, List.length_cons, List.length_nil, List.set_cons_zero, List.set_cons_succ, List.replicate, Option.map_some, Option.map_none, Option.bind_some, Option.bind_none, if_true, if_false, Nat.reduceAdd, Nat.reduceSub, Nat.reduceLT, Nat.reduceLeDiff, Nat.reduceEqDiff, Int.reduceLT, Int.reduceLE, Int.reduceNeg, Int.reduceEq, Bool.false_eq_true, Bool.true_eq_false, reduceIte, reduceCtorEq, Bool.not_true, Bool.not_false, decide_eq_true_eq, Nat.zero_lt_succ, and_true, true_and, and_self, and_false, false_and, isi_non_tuple, isi_non_int, isi_non_str, isi_non_bool, isi_non_list, type_non, isi_bl_tuple, isi_bl_int, isi_bl_str, isi_bl_bool, isi_bl_list, type_bl, isi_int_tuple, isi_int_int, isi_int_str, isi_int_bool, isi_int_list, type_int, isi_str_tuple, isi_str_int, isi_str_str, isi_str_bool, isi_str_list, type_str, isi_tup_tuple, isi_tup_int, isi_tup_str, isi_tup_bool, isi_tup_list, type_tup, is_int_int, isn_int_int, is_int_str, isn_int_str, is_int_tuple, isn_int_tuple, is_int_list, isn_int_list, is_int_bool, isn_int_bool, is_str_int, isn_str_int, is_str_str, isn_str_str, is_str_tuple, isn_str_tuple, is_str_list, isn_str_list, is_str_bool, isn_str_bool, is_tuple_int, isn_tuple_int, is_tuple_str, isn_tuple_str, is_tuple_tuple, isn_tuple_tuple, is_tuple_list, isn_tuple_list, is_tuple_bool, isn_tuple_bool, is_list_int, isn_list_int, is_list_str, isn_list_str, is_list_tuple, isn_list_tuple, is_list_list, isn_list_list, is_list_bool, isn_list_bool, is_bool_int, isn_bool_int, is_bool_str, isn_bool_str, is_bool_tuple, isn_bool_tuple, is_bool_list, isn_bool_list, is_bool_bool, isn_bool_bool, is_NoneType_int, isn_NoneType_int, is_NoneType_str, isn_NoneType_str, is_NoneType_tuple, isn_NoneType_tuple, is_NoneType_list, isn_NoneType_list, is_NoneType_bool, isn_NoneType_bool, isN_non, isnN_non, isB_non, isnB_non, isN_bl, isnN_bl, isB_bl, isnB_bl, isN_int, isnN_int, isB_int, isnB_int, isN_str, isnN_str, isB_str, isnB_str, isN_tup, isnN_tup, isB_tup, isnB_tup, eq_non_non, eq_non_bl, ne_non_bl, eq_non_int, ne_non_int, eq_non_str, ne_non_str, eq_bl_non, ne_bl_non, eq_bl_bl, ne_bl_bl, eq_bl_str, ne_bl_str, eq_int_non, ne_int_non, eq_int_int, ne_int_int, eq_int_str, ne_int_str, eq_str_non, ne_str_non, eq_str_bl, ne_str_bl, eq_str_int, ne_str_int, eq_str_str, ne_str_str, isN_ref, isB_ref, tru_bl, tru_int, itOf, wipeG]
    refine lc_pure (fun _ => true) (fun d => .bl (orderD d)) (by rw [z]; omega) (fun _ _ => trivial) (fun d hd => ?_) fun S1 k1 e1 => ?_
    · refine ⟨_, rfl, fun S1 k1 => ?_⟩
      simp only [sat_ok, sat_ex, sat_err, sat_bind_eq, ofP_some, ofP_none, sat_of_eq, st_nx, st_rt, st_bk, st_ct, st_ex, st_err, st_then, seqP_nx, seqP_rt, seqP_bk, seqP_ct, seqP_ex, st_xSeq, endP_nx, endP_rt, endP_ex, endP_bk, endP_ct, varP_some, varP_none, varP_non, sat_xVar, sat_xC, sat_xOp, sat_xUn, blP_bl, sat_xTB, trP_some, trP_none, sat_xT, sat_xAndT, sat_xOrT, sat_xNotT, sat_xAnd, sat_xOr, sat_xNot, sat_xIf, sat_xNil, sat_xCons, sat_xTup, sat_xLst, sat_xChain, sat_xCall, sat_xCB, sat_xM0, sat_xM, intP_int, sat_xNoP, sat_xPart, sat_xSl, st_xSkip, st_xBrk, st_xCnt, st_xDrop, st_xRet, st_xRetN, st_xIfS, tgP_some, tgP_none, st_xAsg, g_gVar, g_gNil, g_gCons, g_gTup, augP_some, augP_none, st_xAug, parP_two, st_xPar, loopP_nx, loopP_ct, loopP_bk, loopP_rt, loopP_ex, st_xFor, itP_some, itP_none, sat_xIt, sat_xLc, sat_xItA, sat_xYes, sat_xLenSet, oAdd_ii, oSub_ii, oMul_ii, oFdiv_ii, oMod_ii, oNeg_i, oLt_ii, oLe_ii, oGt_ii, oGe_ii, oInt_i, oIx_ti, oIx_qi, oLen_t, oLen_q, oLen_s, atI_0, atI_1, atI_2, atI_3, atI_4, atI_5, atI_6, atI_7, atI_8, atI_9, atI_10, atI_11, atI_12, atI_13, atI_14, List.getElem?_cons_zero, List.getElem?_cons_succ, List.map_cons, List.map_nil, List.cons_append, List.nil_append, List.length_cons, List.length_nil, List.set_cons_zero, List.set_cons_succ, List.replicate, Option.map_some, Option.map_none, Option.bind_some, Option.bind_none, if_true, if_false, Nat.reduceAdd, Nat.reduceSub, Nat.reduceLT, Nat.reduceLeDiff, Nat.reduceEqDiff, Int.reduceLT, Int.reduceLE, Int.reduceNeg, Int.reduceEq, Bool.false_eq_true, Bool.true_eq_false, reduceIte, reduceCtorEq, Bool.not_true, Bool.not_false, decide_eq_true_eq, Nat.zero_lt_succ, and_true, true_and, and_self, and_false, false_and, isi_non_tuple, isi_non_int, isi_non_str, isi_non_bool, isi_non_list, type_non, isi_bl_tuple, isi_bl_int, isi_bl_str, isi_bl_bool, isi_bl_list, type_bl, isi_int_tuple, isi_int_int, isi_int_str, isi_int_bool, isi_int_list, type_int, isi_str_tuple, isi_str_int, isi_str_str, isi_str_bool, isi_str_list, type_str, isi_tup_tuple, isi_tup_int, isi_tup_str, isi_tup_bool, isi_tup_list, type_tup, is_int_int, isn_int_int, is_int_str, isn_int_str, is_int_tuple, isn_int_tuple, is_int_list, isn_int_list, is_int_bool, isn_int_bool, is_str_int, isn_str_int, is_str_str, isn_str_str, is_str_tuple, isn_str_tuple, is_str_list, isn_str_list, is_str_bool, isn_str_bool, is_tuple_int, isn_tuple_int, is_tuple_str, isn_tuple_str, is_tuple_tuple, isn_tuple_tuple, is_tuple_list, isn_tuple_list, is_tuple_bool, isn_tuple_bool, is_list_int, isn_list_int, is_list_str, isn_list_str, is_list_tuple, isn_list_tuple, is_list_list, isn_list_list, is_list_bool, isn_list_bool, is_bool_int, isn_bool_int, is_bool_str, isn_bool_str, is_bool_tuple, isn_bool_tuple, is_bool_list, isn_bool_list, is_bool_bool, isn_bool_bool, is_NoneType_int, isn_NoneType_int, is_NoneType_str, isn_NoneType_str, is_NoneType_tuple, isn_NoneType_tuple, is_NoneType_list, isn_NoneType_list, is_NoneType_bool, isn_NoneType_bool, isN_non, isnN_non, isB_non, isnB_non, isN_bl, isnN_bl, isB_bl, isnB_bl, isN_int, isnN_int, isB_int, isnB_int, isN_str, isnN_str, isB_str, isnB_str, isN_tup, isnN_tup, isB_tup, isnB_tup, eq_non_non, eq_non_bl, ne_non_bl, eq_non_int, ne_non_int, eq_non_str, ne_non_str, eq_bl_non, ne_bl_non, eq_bl_bl, ne_bl_bl, eq_bl_str, ne_bl_str, eq_int_non, ne_int_non, eq_int_int, ne_int_int, eq_int_str, ne_int_str, eq_str_non, ne_str_non, eq_str_bl, ne_str_bl, eq_str_int, ne_str_int, eq_str_str, ne_str_str, isN_ref, isB_ref, tru_bl, tru_int]
      refine ⟨Kx.refl _ _, fun _ => is_order_spec ((hp d hd).keep k1) fun S2 k2 => ⟨rfl, k2⟩⟩
    · replace h : ∀ S', Kp S1 S' → _ := fun S' k => h S' (k1.trans k)
      simp only [sat_ok, sat_ex, sat_err, sat_bind_eq, ofP_some, ofP_none, sat_of_eq, st_nx, st_rt, st_bk, st_ct, st_ex, st_err, st_then, seqP_nx, seqP_rt, seqP_bk, seqP_ct, seqP_ex, st_xSeq, endP_nx, endP_rt, endP_ex, endP_bk, endP_ct, varP_some, varP_none, varP_non, sat_xVar, sat_xC, sat_xOp, sat_xUn, blP_bl, sat_xTB, trP_some, trP_none, sat_xT, sat_xAndT, sat_xOrT, sat_xNotT, sat_xAnd, sat_xOr, sat_xNot, sat_xIf, sat_xNil, sat_xCons, sat_xTup, sat_xLst, sat_xChain, sat_xCall, sat_xCB, sat_xM0, sat_xM, intP_int, sat_xNoP, sat_xPart, sat_xSl, st_xSkip, st_xBrk, st_xCnt, st_xDrop, st_xRet, st_xRetN, st_xIfS, tgP_some, tgP_none, st_xAsg, g_gVar, g_gNil, g_gCons, g_gTup, augP_some, augP_none, st_xAug, parP_two, st_xPar, loopP_nx, loopP_ct, loopP_bk, loopP_rt, loopP_ex, st_xFor, itP_some, itP_none, sat_xIt, sat_xLc, sat_xItA, sat_xYes, sat_xLenSet, oAdd_ii, oSub_ii, oMul_ii, oFdiv_ii, oMod_ii, oNeg_i, oLt_ii, oLe_ii, oGt_ii, oGe_ii, oInt_i, oIx_ti, oIx_qi, oLen_t, oLen_q, oLen_s, atI_0, atI_1, atI_2, atI_3, atI_4, atI_5, atI_6, atI_7, atI_8, atI_9, atI_10, atI_11, atI_12, atI_13, atI_14, List.getElem?_cons_zero, List.getElem?_cons_succ, List.map_cons, List.map_nil, List.cons_append, List.nil_append, List.length_cons, List.length_nil, List.set_cons_zero, List.set_cons_succ, List.replicate, Option.map_some, Option.map_none, Option.bind_some, Option.bind_none, if_true, if_false, Nat.reduceAdd, Nat.reduceSub, Nat.reduceLT, Nat.reduceLeDiff, Nat.reduceEqDiff, Int.reduceLT, Int.reduceLE, Int.reduceNeg, Int.reduceEq, Bool.false_eq_true, Bool.true_eq_false, reduceIte, reduceCtorEq, Bool.not_true, Bool.not_false, decide_eq_true_eq, Nat.zero_lt_succ, and_true, true_and, and_self, and_false, false_and, isi_non_tuple, isi_non_int, isi_non_str, isi_non_bool, isi_non_list, type_non, isi_bl_tuple, isi_bl_int, isi_bl_str, isi_bl_bool, isi_bl_list, type_bl, isi_int_tuple, isi_int_int, isi_int_str, isi_int_bool, isi_int_list, type_int, isi_str_tuple, isi_str_int, isi_str_str, isi_str_bool, isi_str_list, type_str, isi_tup_tuple, isi_tup_int, isi_tup_str, isi_tup_bool, isi_tup_list, type_tup, is_int_int, isn_int_int, is_int_str, isn_int_str, is_int_tuple, isn_int_tuple, is_int_list, isn_int_list, is_int_bool, isn_int_bool, is_str_int, isn_str_int, is_str_str, isn_str_str, is_str_tuple, isn_str_tuple, is_str_list, isn_str_list, is_str_bool, isn_str_bool, is_tuple_int, isn_tuple_int, is_tuple_str, isn_tuple_str, is_tuple_tuple, isn_tuple_tuple, is_tuple_list, isn_tuple_list, is_tuple_bool, isn_tuple_bool, is_list_int, isn_list_int, is_list_str, isn_list_str, is_list_tuple, isn_list_tuple, is_list_list, isn_list_list, is_list_bool, isn_list_bool, is_bool_int, isn_bool_int, is_bool_str, isn_bool_str, is_bool_tuple, isn_bool_tuple, is_bool_list, isn_bool_list, is_bool_bool, isn_bool_bool, is_NoneType_int, isn_NoneType_int, is_NoneType_str, isn_NoneType_str, is_NoneType_tuple, isn_NoneType_tuple, is_NoneType_list, isn_NoneType_list, is_NoneType_bool, isn_NoneType_bool, isN_non, isnN_non, isB_non, isnB_non, isN_bl, isnN_bl, isB_bl, isnB_bl, isN_int, isnN_int, isB_int, isnB_int, isN_str, isnN_str, isB_str, isnB_str, isN_tup, isnN_tup, isB_tup, isnB_tup, eq_non_non, eq_non_bl, ne_non_bl, eq_non_int, ne_non_int, eq_non_str, ne_non_str, eq_bl_non, ne_bl_non, eq_bl_bl, ne_bl_bl, eq_bl_str, ne_bl_str, eq_int_non, ne_int_non, eq_int_int, ne_int_int, eq_int_str, ne_int_str, eq_str_non, ne_str_non, eq_str_bl, ne_str_bl, eq_str_int, ne_str_int, eq_str_str, ne_str_str, isN_ref, isB_ref, tru_bl, tru_int, all_of e1]
      refine gate (fun q => by simp only [q, Bool.false_and, Bool.and_false] at h; exact r1 _ _ (h _ (Kx.refl _ _))) fun qa => n1 _ _ ?_
      simp only [qa, Bool.true_and, Bool.and_true] at h
      simp only [sat_ok, sat_ex, sat_err, sat_bind_eq, ofP_some, ofP_none, sat_of_eq, st_nx, st_rt, st_bk, st_ct, st_ex, st_err, st_then, seqP_nx, seqP_rt, seqP_bk, seqP_ct, seqP_ex, st_xSeq, endP_nx, endP_rt, endP_ex, endP_bk, endP_ct, varP_some, varP_none, varP_non, sat_xVar, sat_xC, sat_xOp, sat_xUn, blP_bl, sat_xTB, trP_some, trP_none, sat_xT, sat_xAndT, sat_xOrT, sat_xNotT, sat_xAnd, sat_xOr, sat_xNot, sat_xIf, sat_xNil, sat_xCons, sat_xTup, sat_xLst, sat_xChain, sat_xCall, sat_xCB, sat_xM0, sat_xM, intP_int, sat_xNoP, sat_xPart, sat_xSl, st_xSkip, st_xBrk, st_xCnt, st_xDrop, st_xRet, st_xRetN, st_xIfS, tgP_some, tgP_none, st_xAsg, g_gVar, g_gNil, g_gCons, g_gTup, augP_some, augP_none, st_xAug, parP_two, st_xPar, loopP_nx, loopP_ct, loopP_bk, loopP_rt, loopP_ex, st_xFor, itP_some, itP_none, sat_xIt, sat_xLc, sat_xItA, sat_xYes, sat_xLenSet, oAdd_ii, oSub_ii, oMul_ii, oFdiv_ii, oMod_ii, oNeg_i, oLt_ii, oLe_ii, oGt_ii, oGe_ii, oInt_i, oIx_ti, oIx_qi, oLen_t, oLen_q, oLen_s, atI_0, atI_1, atI_2, atI_3, atI_4, atI_5, atI_6, atI_7, atI_8, atI_9, atI_10, atI_11, atI_12, atI_13, atI_14, List.getElem?_cons_zero, List.getElem?_cons_succ, List.map_cons, List.map_nil, List.cons_append, List.nil_append, List.length_cons, List.length_nil, List.set_cons_zero, List.set_cons_succ, List.replicate, Option.map_some, Option.map_none, Option.bind_some, Option.bind_none, if_true, if_false, Nat.reduceAdd, Nat.reduceSub, Nat.reduceLT, Nat.reduceLeDiff, Nat.reduceEqDiff, Int.reduceLT, Int.reduceLE, Int.reduceNeg, Int.reduceEq, Bool.false_eq_true, Bool.true_eq_false, reduceIte, reduceCtorEq, Bool.not_true, Bool.not_false, decide_eq_true_eq, Nat.zero_lt_succ, and_true, true_and, and_self, and_false, false_and, isi_non_tuple, isi_non_int, isi_non_str, isi_non_bool, isi_non_list, type_non, isi_bl_tuple, isi_bl_int, isi_bl_str, isi_bl_bool, isi_bl_list, type_bl, isi_int_tuple, isi_int_int, isi_int_str, isi_int_bool, isi_int_list, type_int, isi_str_tuple, isi_str_int, isi_str_str, isi_str_bool, isi_str_list, type_str, isi_tup_tuple, isi_tup_int, isi_tup_str, isi_tup_bool, isi_tup_list, type_tup, is_int_int, isn_int_int, is_int_str, isn_int_str, is_int_tuple, isn_int_tuple, is_int_list, isn_int_list, is_int_bool, isn_int_bool, is_str_int, isn_str_int, is_str_str, isn_str_str, is_str_tuple, isn_str_tuple, is_str_list, isn_str_list, is_str_bool, isn_str_bool, is_tuple_int, isn_tuple_int, is_tuple_str, isn_tuple_str, is_tuple_tuple, isn_tuple_tuple, is_tuple_list, isn_tuple_list, is_tuple_bool, isn_tuple_bool, is_list_int, isn_list_int, is_list_str, isn_list_str, is_list_tuple, isn_list_tuple, is_list_list, isn_list_list, is_list_bool, isn_list_bool, is_bool_int, isn_bool_int, is_bool_str, isn_bool_str, is_bool_tuple, isn_bool_tuple, is_bool_list, isn_bool_list, is_bool_bool, isn_bool_bool, is_NoneType_int, isn_NoneType_int, is_NoneType_str, isn_NoneType_str, is_NoneType_tuple, isn_NoneType_tuple, is_NoneType_list, isn_NoneType_list, is_NoneType_bool, isn_NoneType_bool, isN_non, isnN_non, isB_non, isnB_non, isN_bl, isnN_bl, isB_bl, isnB_bl, isN_int, isnN_int, isB_int, isnB_int, isN_str, isnN_str, isB_str, isnB_str, isN_tup, isnN_tup, isB_tup, isnB_tup, eq_non_non, eq_non_bl, ne_non_bl, eq_non_int, ne_non_int, eq_non_str, ne_non_str, eq_bl_non, ne_bl_non, eq_bl_bl, ne_bl_bl, eq_bl_str, ne_bl_str, eq_int_non, ne_int_non, eq_int_int, ne_int_int, eq_int_str, ne_int_str, eq_str_non, ne_str_non, eq_str_bl, ne_str_bl, eq_str_int, ne_str_int, eq_str_str, ne_str_str, isN_ref, isB_ref, tru_bl, tru_int, itOf, wipeG]
      refine lc_pure (fun _ => true) secD (by rw [z]; omega) (fun _ _ => trivial) (fun d hd => ?_) fun S2 k2 e2 => ?_
      · refine ⟨_, rfl, fun S2 k2 => ?_⟩
        simp only [sat_ok, sat_ex, sat_err, sat_bind_eq, ofP_some, ofP_none, sat_of_eq, st_nx, st_rt, st_bk, st_ct, st_ex, st_err, st_then, seqP_nx, seqP_rt, seqP_bk, seqP_ct, seqP_ex, st_xSeq, endP_nx, endP_rt, endP_ex, endP_bk, endP_ct, varP_some, varP_none, varP_non, sat_xVar, sat_xC, sat_xOp, sat_xUn, blP_bl, sat_xTB, trP_some, trP_none, sat_xT, sat_xAndT, sat_xOrT, sat_xNotT, sat_xAnd, sat_xOr, sat_xNot, sat_xIf, sat_xNil, sat_xCons, sat_xTup, sat_xLst, sat_xChain, sat_xCall, sat_xCB, sat_xM0, sat_xM, intP_int, sat_xNoP, sat_xPart, sat_xSl, st_xSkip, st_xBrk, st_xCnt, st_xDrop, st_xRet, st_xRetN, st_xIfS, tgP_some, tgP_none, st_xAsg, g_gVar, g_gNil, g_gCons, g_gTup, augP_some, augP_none, st_xAug, parP_two, st_xPar, loopP_nx, loopP_ct, loopP_bk, loopP_rt, loopP_ex, st_xFor, itP_some, itP_none, sat_xIt, sat_xLc, sat_xItA, sat_xYes, sat_xLenSet, oAdd_ii, oSub_ii, oMul_ii, oFdiv_ii, oMod_ii, oNeg_i, oLt_ii, oLe_ii, oGt_ii, oGe_ii, oInt_i, oIx_ti, oIx_qi, oLen_t, oLen_q, oLen_s, atI_0, atI_1, atI_2, atI_3, atI_4, atI_5, atI_6, atI_7, atI_8, atI_9, atI_10, atI_11, atI_12, atI_13, atI_14, List.getElem?_cons_zero, List.getElem?_cons_succ, List.map_cons, List.map_nil, List.cons_append, List.nil_append, List.length_cons, List.length_nil, List.set_cons_zero, List.set_cons_succ, List.replicate, Option.map_some, Option.map_none, Option.bind_some, Option.bind_none, if_true, if_false, Nat.reduceAdd, Nat.reduceSub, Nat.reduceLT, Nat.reduceLeDiff, Nat.reduceEqDiff, Int.reduceLT, Int.reduceLE, Int.reduceNeg, Int.reduceEq, Bool.false_eq_true, Bool.true_eq_false, reduceIte, reduceCtorEq, Bool.not_true, Bool.not_false, decide_eq_true_eq, Nat.zero_lt_succ, and_true, true_and, and_self, and_false, false_and, isi_non_tuple, isi_non_int, isi_non_str, isi_non_bool, isi_non_list, type_non, isi_bl_tuple, isi_bl_int, isi_bl_str, isi_bl_bool, isi_bl_list, type_bl, isi_int_tuple, isi_int_int, isi_int_str, isi_int_bool, isi_int_list, type_int, isi_str_tuple, isi_str_int, isi_str_str, isi_str_bool, isi_str_list, type_str, isi_tup_tuple, isi_tup_int, isi_tup_str, isi_tup_bool, isi_tup_list, type_tup, is_int_int, isn_int_int, is_int_str, isn_int_str, is_int_tuple, isn_int_tuple, is_int_list, isn_int_list, is_int_bool, isn_int_bool, is_str_int, isn_str_int, is_str_str, isn_str_str, is_str_tuple, isn_str_tuple, is_str_list, isn_str_list, is_str_bool, isn_str_bool, is_tuple_int, isn_tuple_int, is_tuple_str, isn_tuple_str, is_tuple_tuple, isn_tuple_tuple, is_tuple_list, isn_tuple_list, is_tuple_bool, isn_tuple_bool, is_list_int, isn_list_int, is_list_str, isn_list_str, is_list_tuple, isn_list_tuple, is_list_list, isn_list_list, is_list_bool, isn_list_bool, is_bool_int, isn_bool_int, is_bool_str, isn_bool_str, is_bool_tuple, isn_bool_tuple, is_bool_list, isn_bool_list, is_bool_bool, isn_bool_bool, is_NoneType_int, isn_NoneType_int, is_NoneType_str, isn_NoneType_str, is_NoneType_tuple, isn_NoneType_tuple, is_NoneType_list, isn_NoneType_list, is_NoneType_bool, isn_NoneType_bool, isN_non, isnN_non, isB_non, isnB_non, isN_bl, isnN_bl, isB_bl, isnB_bl, isN_int, isnN_int, isB_int, isnB_int, isN_str, isnN_str, isB_str, isnB_str, isN_tup, isnN_tup, isB_tup, isnB_tup, eq_non_non, eq_non_bl, ne_non_bl, eq_non_int, ne_non_int, eq_non_str, ne_non_str, eq_bl_non, ne_bl_non, eq_bl_bl, ne_bl_bl, eq_bl_str, ne_bl_str, eq_int_non, ne_int_non, eq_int_int, ne_int_int, eq_int_str, ne_int_str, eq_str_non, ne_str_non, eq_str_bl, ne_str_bl, eq_str_int, ne_str_int, eq_str_str, ne_str_str, isN_ref, isB_ref, tru_bl, tru_int, (sec_ix (List.all_eq_true.mp qa d hd)).1]
        exact ⟨Kx.refl _ _, fun _ => Kx.refl _ _⟩
      · simp only [sat_ok, sat_ex, sat_err, sat_bind_eq, ofP_some, ofP_none, sat_of_eq, st_nx, st_rt, st_bk, st_ct, st_ex, st_err, st_then, seqP_nx, seqP_rt, seqP_bk, seqP_ct, seqP_ex, st_xSeq, endP_nx, endP_rt, endP_ex, endP_bk, endP_ct, varP_some, varP_none, varP_non, sat_xVar, sat_xC, sat_xOp, sat_xUn, blP_bl, sat_xTB, trP_some, trP_none, sat_xT, sat_xAndT, sat_xOrT, sat_xNotT, sat_xAnd, sat_xOr, sat_xNot, sat_xIf, sat_xNil, sat_xCons, sat_xTup, sat_xLst, sat_xChain, sat_xCall, sat_xCB, sat_xM0, sat_xM, intP_int, sat_xNoP, sat_xPart, sat_xSl, st_xSkip, st_xBrk, st_xCnt, st_xDrop, st_xRet, st_xRetN, st_xIfS, tgP_some, tgP_none, st_xAsg, g_gVar, g_gNil, g_gCons, g_gTup, augP_some, augP_none, st_xAug, parP_two, st_xPar, loopP_nx, loopP_ct, loopP_bk, loopP_rt, loopP_ex, st_xFor, itP_some, itP_none, sat_xIt, sat_xLc, sat_xItA, sat_xYes, sat_xLenSet, oAdd_ii, oSub_ii, oMul_ii, oFdiv_ii, oMod_ii, oNeg_i, oLt_ii, oLe_ii, oGt_ii, oGe_ii, oInt_i, oIx_ti, oIx_qi, oLen_t, oLen_q, oLen_s, atI_0, atI_1, atI_2, atI_3, atI_4, atI_5, atI_6, atI_7, atI_8, atI_9, atI_10, atI_11, atI_12, atI_13, atI_14, List.getElem?_cons_zero, List.getElem?_cons_succ, List.map_cons, List.map_nil, List.cons_append, List.nil_append, List.length_cons, List.length_nil, List.set_cons_zero, List.set_cons_succ, List.replicate, Option.map_some, Option.map_none, Option.bind_some, Option.bind_none, if_true, if_false, Nat.reduceAdd, Nat.reduceSub, Nat.reduceLT, Nat.reduceLeDiff, Nat.reduceEqDiff, Int.reduceLT, Int.reduceLE, Int.reduceNeg, Int.reduceEq, Bool.false_eq_true, Bool.true_eq_false, reduceIte, reduceCtorEq, Bool.not_true, Bool.not_false, decide_eq_true_eq, Nat.zero_lt_succ, and_true, true_and, and_self, and_false, false_and, isi_non_tuple, isi_non_int, isi_non_str, isi_non_bool, isi_non_list, type_non, isi_bl_tuple, isi_bl_int, isi_bl_str, isi_bl_bool, isi_bl_list, type_bl, isi_int_tuple, isi_int_int, isi_int_str, isi_int_bool, isi_int_list, type_int, isi_str_tuple, isi_str_int, isi_str_str, isi_str_bool, isi_str_list, type_str, isi_tup_tuple, isi_tup_int, isi_tup_str, isi_tup_bool, isi_tup_list, type_tup, is_int_int, isn_int_int, is_int_str, isn_int_str, is_int_tuple, isn_int_tuple, is_int_list, isn_int_list, is_int_bool, isn_int_bool, is_str_int, isn_str_int, is_str_str, isn_str_str, is_str_tuple, isn_str_tuple, is_str_list, isn_str_list, is_str_bool, isn_str_bool, is_tuple_int, isn_tuple_int, is_tuple_str, isn_tuple_str, is_tuple_tuple, isn_tuple_tuple, is_tuple_list, isn_tuple_list, is_tuple_bool, isn_tuple_bool, is_list_int, isn_list_int, is_list_str, isn_list_str, is_list_tuple, isn_list_tuple, is_list_list, isn_list_list, is_list_bool, isn_list_bool, is_bool_int, isn_bool_int, is_bool_str, isn_bool_str, is_bool_tuple, isn_bool_tuple, is_bool_list, isn_bool_list, is_bool_bool, isn_bool_bool, is_NoneType_int, isn_NoneType_int, is_NoneType_str, isn_NoneType_str, is_NoneType_tuple, isn_NoneType_tuple, is_NoneType_list, isn_NoneType_list, is_NoneType_bool, isn_NoneType_bool, isN_non, isnN_non, isB_non, isnB_non, isN_bl, isnN_bl, isB_bl, isnB_bl, isN_int, isnN_int, isB_int, isnB_int, isN_str, isnN_str, isB_str, isnB_str, isN_tup, isnN_tup, isB_tup, isnB_tup, eq_non_non, eq_non_bl, ne_non_bl, eq_non_int, ne_non_int, eq_non_str, ne_non_str, eq_bl_non, ne_bl_non, eq_bl_bl, ne_bl_bl, eq_bl_str, ne_bl_str, eq_int_non, ne_int_non, eq_int_int, ne_int_int, eq_int_str, ne_int_str, eq_str_non, ne_str_non, eq_str_bl, ne_str_bl, eq_str_int, ne_str_int, eq_str_str, ne_str_str, isN_ref, isB_ref, tru_bl, tru_int, sat_bodyF, B_unlike, lenset_sec qa hl e2, oLen_r e2]
        have e3 : ds.filter (fun _ => true) = ds := List.filter_eq_self.mpr fun _ _ => rfl
        rw [e3, List.length_map]
        exact h _ k2
noncomputable abbrev fDueOrders (j : Nat) : Fn := bodyF 2 (B__law_due_orders (fDueOrder j))
theorem due_orders_spec {j : Nat} {S : Sto} {d : D} {Pd : D → Sto → Prop} {E : Exn → Sto → Prop} (hv : Os S d) (h : ∀ S', Kp S S' → Pd (.bl (ordersD d)) S') : (fDueOrders j [d] S).wp Pd E := by
  have z : sizeLine = 16777216 := rfl
  rw [sat_bodyF]
  unfold B__law_due_orders
  refine seq_cut fun K1 n1 r1 => ?_
  cases hv with
  | ref hr => simp only [sat_ok, sat_ex, sat_err, sat_bind_eq, ofP_some, ofP_none, sat_of_eq, st_nx, st_rt, st_bk, st_ct, st_ex, st_err, st_then, seqP_nx, seqP_rt, seqP_bk, seqP_ct, seqP_ex, st_xSeq, endP_nx, endP_rt, endP_ex, endP_bk, endP_ct, varP_some, varP_none, varP_non, sat_xVar, sat_xC, sat_xOp, sat_xUn, blP_bl, sat_xTB, trP_some, trP_none, sat_xT, sat_xAndT, sat_xOrT, sat_xNotT, sat_xAnd, sat_xOr, sat_xNot, sat_xIf, sat_xNil, sat_xCons, sat_xTup, sat_xLst, sat_xChain, sat_xCall, sat_xCB, sat_xM0, sat_xM, intP_int, sat_xNoP, sat_xPart, sat_xSl, st_xSkip, st_xBrk, st_xCnt, st_xDrop, st_xRet, st_xRetN, st_xIfS, tgP_some, tgP_none, st_xAsg, g_gVar, g_gNil, g_gCons, g_gTup, augP_some, augP_none, st_xAug, parP_two, st_xPar, loopP_nx, loopP_ct, loopP_bk, loopP_rt, loopP_ex, st_xFor, itP_some, itP_none, sat_xIt, sat_xLc, sat_xItA, sat_xYes, sat_xLenSet, oAdd_ii, oSub_ii, oMul_ii, oFdiv_ii, oMod_ii, oNeg_i, oLt_ii, oLe_ii, oGt_ii, oGe_ii, oInt_i, oIx_ti, oIx_qi, oLen_t, oLen_q, oLen_s, atI_0, atI_1, atI_2, atI_3, atI_4, atI_5, atI_6, atI_7, atI_8, atI_9, atI_10, atI_11, atI_12, atI_13, atI_14, List.getElem?_cons_zero, List.getElem?_cons_succ, List.map_cons, List.map_nil, List.cons_append, List.nil_append, List.length_cons, List.length_nil, List.set_cons_zero, List.set_cons_succ, List.replicate, Option.map_some, Option.map_none, Option.bind_some, Option.bind_none, if_true, if_false, Nat.reduceAdd, Nat.reduceSub, Nat.reduceLT, Nat.reduceLeDiff, Nat.reduceEqDiff, Int.reduceLT, Int.reduceLE, Int.reduceNeg, Int.reduceEq, Bool.false_eq_true, Bool.true_eq_false, reduceIte, reduceCtorEq, Bool.not_true, Bool.not_false, decide_eq_true_eq, Nat.zero_lt_succ, and_true, true_and, and_self, and_false, false_and, isi_non_tuple, isi_non_int, isi_non_str, isi_non_bool, isi_non_list, type_non, isi_bl_tuple, isi_bl_int, isi_bl_str, isi_bl_bool, isi_bl_list, type_bl, isi_int_tuple, isi_int_int, isi_int_str, isi_int_bool, isi_int_list, type_int, isi_str_tuple, isi_str_int, isi_str_str, isi_str_bool, isi_str_list, type_str, isi_tup_tuple, isi_tup_int, isi_tup_str, isi_tup_bool, isi_tup_list, type_tup, is_int_int, isn_int_int, is_int_str, isn_int_str, is_int_tuple, isn_int_tuple, is_int_list, isn_int_list, is_int_bool, isn_int_bool, is_str_int, isn_str_int, is_str_str, isn_str_str, is_str_tuple, isn_str_tuple, is_str_list, isn_str_list, is_str_bool, isn_str_bool, is_tuple_int, isn_tuple_int, is_tuple_str, isn_tuple_str, is_tuple_tuple, isn_tuple_tuple, is_tuple_list, isn_tuple_list, is_tuple_bool, isn_tuple_bool, is_list_int, isn_list_int, is_list_str, isn_list_str, is_list_tuple, isn_list_tuple, is_list_list, isn_list_list, is_list_bool, isn_list_bool, is_bool_int, isn_bool_int, is_bool_str, isn_bool_str, is_bool_tuple, isn_bool_tuple, is_bool_list, isn_bool_list, is_bool_bool, isn_bool_bool, is_NoneType_int, isn_NoneType_int, is_NoneType_str, isn_NoneType_str, is_NoneType_tuple, isn_NoneType_tuple, is_NoneType_list, isn_NoneType_list, is_NoneType_bool, isn_NoneType_bool, isN_non, isnN_non, isB_non, isnB_non, isN_bl, isnN_bl, isB_bl, isnB_bl, isN_int, isnN_int, isB_int, isnB_int, isN_str, isnN_str, isB_str, isnB_str, isN_tup, isnN_tup, isB_tup, isnB_tup, eq_non_non, eq_non_bl, ne_non_bl, eq_non_int, ne_non_int, eq_non_str, ne_non_str, eq_bl_non, ne_bl_non, eq_bl_bl, ne_bl_bl, eq_bl_str, ne_bl_str, eq_int_non, ne_int_non, eq_int_int, ne_int_int, eq_int_str, ne_int_str, eq_str_non, ne_str_non, eq_str_bl, ne_str_bl, eq_str_int, ne_str_int, eq_str_str, ne_str_str, isN_ref, isB_ref, tru_bl, tru_int, isi_r_tuple hr]; exact r1 _ _ (h _ (Kx.refl _ _))
  | one h1 => cases h1 <;> (simp only [sat_ok, sat_ex, sat_err, sat_bind_eq, ofP_some, ofP_none, sat_of_eq, st_nx, st_rt, st_bk, st_ct, st_ex, st_err, st_then, seqP_nx, seqP_rt, seqP_bk, seqP_ct, seqP_ex, st_xSeq, endP_nx, endP_rt, endP_ex, endP_bk, endP_ct, varP_some, varP_none, varP_non, sat_xVar, sat_xC, sat_xOp, sat_xUn, blP_bl, sat_xTB, trP_some, trP_none, sat_xT, sat_xAndT, sat_xOrT, sat_xNotT, sat_xAnd, sat_xOr, sat_xNot, sat_xIf, sat_xNil, sat_xCons, sat_xTup, sat_xLst, sat_xChain, sat_xCall, sat_xCB, sat_xM0, sat_xM, intP_int, sat_xNoP, sat_xPart, sat_xSl, st_xSkip, st_xBrk, st_xCnt, st_xDrop, st_xRet, st_xRetN, st_xIfS, tgP_some, tgP_none, st_xAsg, g_gVar, g_gNil, g_gCons, g_gTup, augP_some, augP_none, st_xAug, parP_two, st_xPar, loopP_nx, loopP_ct, loopP_bk, loopP_rt, loopP_ex, st_xFor, itP_some, itP_none, sat_xIt, sat_xLc, sat_xItA, sat_xYes, sat_xLenSet, oAdd_ii, oSub_ii, oMul_ii, oFdiv_ii, oMod_ii, oNeg_i, oLt_ii, oLe_ii, oGt_ii, oGe_ii, oInt_i, oIx_ti, oIx_qi, oLen_t, oLen_q, oLen_s, atI_0, atI_1, atI_2, atI_3, atI_4, atI_5, atI_6, atI_7, atI_8, atI_9, atI_10, atI_11, atI_12, atI_13, atI_14, List.getElem?_cons_zero, List.getElem?_cons_succ, List.map_cons, List.map_nil, List.cons_append, List.nil_append, List.length_cons, List.length_nil, List.set_cons_zero, List.set_cons_succ, List.replicate, Option.map_some, Option.map_none, Option.bind_some, Option.bind_none, if_true, if_false, Nat.reduceAdd, Nat.reduceSub, Nat.reduceLT, Nat.reduceLeDiff, Nat.reduceEqDiff, Int.reduceLT, Int.reduceLE, Int.reduceNeg, Int.reduceEq, Bool.false_eq_true, Bool.true_eq_false, reduceIte, reduceCtorEq, Bool.not_true, Bool.not_false, decide_eq_true_eq, Nat.zero_lt_succ, and_true, true_and, and_self, and_false, false_and, isi_non_tuple, isi_non_int, isi_non_str, isi_non_bool, isi_non_list, type_non, isi_bl_tuple, isi_bl_int, isi_bl_str, isi_bl_bool, isi_bl_list, type_bl, isi_int_tuple, isi_int_int, isi_int_str, isi_int_bool, isi_int_list, type_int, isi_str_tuple, isi_str_int, isi_str_str, isi_str_bool, isi_str_list, type_str, isi_tup_tuple, isi_tup_int, isi_tup_str, isi_tup_bool, isi_tup_list, type_tup, is_int_int, isn_int_int, is_int_str, isn_int_str, is_int_tuple, isn_int_tuple, is_int_list, isn_int_list, is_int_bool, isn_int_bool, is_str_int, isn_str_int, is_str_str, isn_str_str, is_str_tuple, isn_str_tuple, is_str_list, isn_str_list, is_str_bool, isn_str_bool, is_tuple_int, isn_tuple_int, is_tuple_str, isn_tuple_str, is_tuple_tuple, isn_tuple_tuple, is_tuple_list, isn_tuple_list, is_tuple_bool, isn_tuple_bool, is_list_int, isn_list_int, is_list_str, isn_list_str, is_list_tuple, isn_list_tuple, is_list_list, isn_list_list, is_list_bool, isn_list_bool, is_bool_int, isn_bool_int, is_bool_str, isn_bool_str, is_bool_tuple, isn_bool_tuple, is_bool_list, isn_bool_list, is_bool_bool, isn_bool_bool, is_NoneType_int, isn_NoneType_int, is_NoneType_str, isn_NoneType_str, is_NoneType_tuple, isn_NoneType_tuple, is_NoneType_list, isn_NoneType_list, is_NoneType_bool, isn_NoneType_bool, isN_non, isnN_non, isB_non, isnB_non, isN_bl, isnN_bl, isB_bl, isnB_bl, isN_int, isnN_int, isB_int, isnB_int, isN_str, isnN_str, isB_str, isnB_str, isN_tup, isnN_tup, isB_tup, isnB_tup, eq_non_non, eq_non_bl, ne_non_bl, eq_non_int, ne_non_int, eq_non_str, ne_non_str, eq_bl_non, ne_bl_non, eq_bl_bl, ne_bl_bl, eq_bl_str, ne_bl_str, eq_int_non, ne_int_non, eq_int_int, ne_int_int, eq_int_str, ne_int_str, eq_str_non, ne_str_non, eq_str_bl, ne_str_bl, eq_str_int, ne_str_int, eq_str_str, ne_str_str, isN_ref, isB_ref, tru_bl, tru_int]; exact r1 _ _ (h _ (Kx.refl _ _)))
  | @tup ds hz hp =>
    rw [ordersD] at h
    simp only [sat_ok, sat_ex, sat_err, sat_bind_eq, ofP_some, ofP_none, sat_of_eq, st_nx, st_rt, st_bk, st_ct, st_ex, st_err, st_then, seqP_nx, seqP_rt, seqP_bk, seqP_ct, seqP_ex, st_xSeq, endP_nx, endP_rt, endP_ex, endP_bk, endP_ct, varP_some, varP_none, varP_non, sat_xVar, sat_xC, sat_xOp, sat_xUn, blP_bl, sat_xTB, trP_some, trP_none, sat_xT, sat_xAndT, sat_xOrT, sat_xNotT, sat_xAnd, sat_xOr, sat_xNot, sat_xIf, sat_xNil, sat_xCons, sat_xTup, sat_xLst, sat_xChain, sat_xCall, sat_xCB, sat_xM0, sat_xM, intP_int, sat_xNoP, sat_xPart, sat_xSl, st_xSkip, st_xBrk, st_xCnt, st_xDrop, st_xRet, st_xRetN, st_xIfS, tgP_some, tgP_none, st_xAsg, g_gVar, g_gNil, g_gCons, g_gTup, augP_some, augP_none, st_xAug, parP_two, st_xPar, loopP_nx, loopP_ct, loopP_bk, loopP_rt, loopP_ex, st_xFor, itP_some, itP_none, sat_xIt, sat_xLc, sat_xItA, sat_xYes, sat_xLenSet, oAdd_ii, oSub_ii, oMul_ii, oFdiv_ii, oMod_ii, oNeg_i, oLt_ii, oLe_ii, oGt_ii, oGe_ii, oInt_i, oIx_ti, oIx_qi, oLen_t, oLen_q, oLen_s, atI_0, atI_1, atI_2, atI_3, atI_4, atI_5, atI_6, atI_7, atI_8, atI_9, atI_10, atI_11, atI_12, atI_13, atI_14, List.getElem?_cons_zero, List.getElem?_cons_succ, List.map_cons, List.map_nil, List.cons_append, List.nil_append, List.length_cons, List.length_nil, List.set_cons_zero, List.set_cons_succ, List.replicate, Option.map_some, Option.map_none, Option.bind_some, Option.bind_none, if_true, if_false, Nat.reduceAdd, Nat.reduceSub, Nat.reduceLT, Nat.reduceLeDiff, Nat.reduceEqDiff, Int.reduceLT, Int.reduceLE, Int.reduceNeg, Int.reduceEq, Bool.false_eq_true, Bool.true_eq_false, reduceIte, reduceCtorEq, Bool.not_true, Bool.not_false, decide_eq_true_eq, Nat.zero_lt_succ, and_true, true_and, and_self, and_false, false_and, isi_non_tuple, isi_non_int, isi_non_str, isi_non_bool, isi_non_list, type_non, isi_bl_tuple, isi_bl_int, isi_bl_str, isi_bl_bool, isi_bl_list, type_bl, isi_int_tuple, isi_int_int, isi_int_str, isi_int_bool, isi_int_list, type_int, isi_str_tuple, isi_str_int, isi_str_str, isi_str_bool, isi_str_list, type_str, isi_tup_tuple, isi_tup_int, isi_tup_str, isi_tup_bool, isi_tup_list, type_tup, is_int_int, isn_int_int, is_int_str, isn_int_str, is_int_tuple, isn_int_tuple, is_int_list, isn_int_list, is_int_bool, isn_int_bool, is_str_int, isn_str_int, is_str_str, isn_str_str, is_str_tuple, isn_str_tuple, is_str_list, isn_str_list, is_str_bool, isn_str_bool, is_tuple_int, isn_tuple_int, is_tuple_str, isn_tuple_str, is_tuple_tuple, isn_tuple_tuple, is_tuple_list, isn_tuple_list, is_tuple_bool, isn_tuple_bool, is_list_int, isn_list_int, is_list_str, isn_list_str, is_list_tuple, isn_list_tuple, is_list_list, isn_list_list, is_list_bool, isn_list_bool, is_bool_int, isn_bool_int, is_bool_str, isn_bool_str, is_bool_tuple, isn_bool_tuple, is_bool_list, isn_bool_list, is_bool_bool, isn_bool_bool, is_NoneType_int, isn_NoneType_int, is_NoneType_str, isn_NoneType_str, is_NoneType_tuple, isn_NoneType_tuple, is_NoneType_list, isn_NoneType_list, is_NoneType_bool, isn_NoneType_bool, isN_non, isnN_non, isB_non, isnB_non, isN_bl, isnN_bl, isB_bl, isnB_bl, isN_int, isnN_int, isB_int, isnB_int, isN_str, isnN_str, isB_str, isnB_str, isN_tup, isnN_tup, isB_tup, isnB_tup, eq_non_non, eq_non_bl, ne_non_bl, eq_non_int, ne_non_int, eq_non_str, ne_non_str, eq_bl_non, ne_bl_non, eq_bl_bl, ne_bl_bl, eq_bl_str, ne_bl_str, eq_int_non, ne_int_non, eq_int_int, ne_int_int, eq_int_str, ne_int_str, eq_str_non, ne_str_non, eq_str_bl, ne_str_bl, eq_str_int, ne_str_int, eq_str_str, ne_str_str, isN_ref, isB_ref, tru_bl, tru_int]
    by_cases hl : (ds.length : Int) ≤ 12
    · rw [if_neg (by omega)]
      simp only [hl, decide_true, Bool.true_and] at h
      simp only [sat_ok, sat_ex, sat_err, sat_bind_eq, ofP_some, ofP_none, sat_of_eq, st_nx, st_rt, st_bk, st_ct, st_ex, st_err, st_then, seqP_nx, seqP_rt, seqP_bk, seqP_ct, seqP_ex, st_xSeq, endP_nx, endP_rt, endP_ex, endP_bk, endP_ct, varP_some, varP_none, varP_non, sat_xVar, sat_xC, sat_xOp, sat_xUn, blP_bl, sat_xTB, trP_some, trP_none, sat_xT, sat_xAndT, sat_xOrT, sat_xNotT, sat_xAnd, sat_xOr, sat_xNot, sat_xIf, sat_xNil, sat_xCons, sat_xTup, sat_xLst, sat_xChain, sat_xCall, sat_xCB, sat_xM0, sat_xM, intP_int, sat_xNoP, sat_xPart, sat_xSl, st_xSkip, st_xBrk, st_xCnt, st_xDrop, st_xRet, st_xRetN, st_xIfS, tgP_some, tgP_none, st_xAsg, g_gVar, g_gNil, g_gCons, g_gTup, augP_some, augP_none, st_xAug, parP_two, st_xPar, loopP_nx, loopP_ct, loopP_bk, loopP_rt, loopP_ex, st_xFor, itP_some, itP_none, sat_xIt, sat_xLc, sat_xItA, sat_xYes, sat_xLenSet, oAdd_ii, oSub_ii, oMul_ii, oFdiv_ii, oMod_ii, oNeg_i, oLt_ii, oLe_ii, oGt_ii, oGe_ii, oInt_i, oIx_ti, oIx_qi, oLen_t, oLen_q, oLen_s, atI_0, atI_1, atI_2, atI_3, atI_4, atI_5, atI_6, atI_7, atI_8, atI_9, atI_10, atI_11, atI_12, atI_13, atI_14, List.getElem?_cons_zero, List.getElem?_cons_succ, List.map_cons, List.map_nil, List.cons_append, List.nil_append, List.length_cons, List.length_nil, List.set_cons_zero, List.set_cons_succ, List.replicate, Option.map_some, Option.map_none, Option.bind_some, Option.bind_none, if_true, if_false, Nat.reduceAdd, Nat.reduceSub, Nat.reduceLT, Nat.reduceLeDiff, Nat.reduceEqDiff, Int.reduceLT, Int.reduceLE, Int.reduceNeg, Int.reduceEq, Bool.false_eq_true, Bool.true_eq_false, reduceIte, reduceCtorEq, Bool.not_true, Bool.not_false, decide_eq_true_eq, Nat.zero_lt_succ, and_true, true_and, and_self, and_false, false_and, isi_non_tuple, isi_non_int, isi_non_str, isi_non_bool, isi_non_list, type_non, isi_bl_tuple, isi_bl_int, isi_bl_str, isi_bl_bool, isi_bl_list, type_bl, isi_int_tuple, isi_int_int, isi_int_str, isi_int_bool, isi_int_list, type_int, isi_str_tuple, isi_str_int, isi_str_str, isi_str_bool, isi_str_list, type_str, isi_tup_tuple, isi_tup_int, isi_tup_str, isi_tup_bool, isi_tup_list, type_tup, is_int_int, isn_int_int, is_int_str, isn_int_str, is_int_tuple, isn_int_tuple, is_int_list, isn_int_list, is_int_bool, isn_int_bool, is_str_int, isn_str_int, is_str_str, isn_str_str, is_str_tuple, isn_str_tuple, is_str_list, isn_str_list, is_str_bool, isn_str_bool, is_tuple_int, isn_tuple_int, is_tuple_str, isn_tuple_str, is_tuple_tuple, isn_tuple_tuple, is_tuple_list, isn_tuple_list, is_tuple_bool, isn_tuple_bool, is_list_int, isn_list_int, is_list_str, isn_list_str, is_list_tuple, isn_list_tuple, is_list_list, isn_list_list, is_list_bool, isn_list_bool, is_bool_int, isn_bool_int, is_bool_str, isn_bool_str, is_bool_tuple, isn_bool_tuple, is_bool_list, isn_bool_list, is_bool_bool, isn_bool_bool, is_NoneType_int, isn_NoneType_int, is_NoneType_str, isn_NoneType_str, is_NoneType_tuple, isn_NoneType_tuple, is_NoneType_list, isn_NoneType_list, is_NoneType_bool, isn_NoneType_bool, isN_non, isnN_non, isB_non, isnB_non, isN_bl, isnN_bl, isB_bl, isnB_bl, isN_int, isnN_int, isB_int, isnB_int, isN_str, isnN_str, isB_str, isnB_str, isN_tup, isnN_tup, isB_tup, isnB_tup, eq_non_non, eq_non_bl, ne_non_bl, eq_non_int, ne_non_int, eq_non_str, ne_non_str, eq_bl_non, ne_bl_non, eq_bl_bl, ne_bl_bl, eq_bl_str, ne_bl_str, eq_int_non, ne_int_non, eq_int_int, ne_int_int, eq_int_str, ne_int_str, eq_str_non, ne_str_non, eq_str_bl, ne_str_bl, eq_str_int, ne_str_int, eq_str_str, ne_str_str, isN_ref, isB_ref, tru_bl, tru_int, itOf, wipeG]
      refine lc_pure (fun d => !orderD d) (fun _ => .int 1) (by rw [z]; omega) (fun _ _ => trivial) (fun d hd => ?_) fun S1 k1 e1 => ?_
      · refine ⟨_, rfl, fun S1 k1 => ?_⟩
        simp only [sat_ok, sat_ex, sat_err, sat_bind_eq, ofP_some, ofP_none, sat_of_eq, st_nx, st_rt, st_bk, st_ct, st_ex, st_err, st_then, seqP_nx, seqP_rt, seqP_bk, seqP_ct, seqP_ex, st_xSeq, endP_nx, endP_rt, endP_ex, endP_bk, endP_ct, varP_some, varP_none, varP_non, sat_xVar, sat_xC, sat_xOp, sat_xUn, blP_bl, sat_xTB, trP_some, trP_none, sat_xT, sat_xAndT, sat_xOrT, sat_xNotT, sat_xAnd, sat_xOr, sat_xNot, sat_xIf, sat_xNil, sat_xCons, sat_xTup, sat_xLst, sat_xChain, sat_xCall, sat_xCB, sat_xM0, sat_xM, intP_int, sat_xNoP, sat_xPart, sat_xSl, st_xSkip, st_xBrk, st_xCnt, st_xDrop, st_xRet, st_xRetN, st_xIfS, tgP_some, tgP_none, st_xAsg, g_gVar, g_gNil, g_gCons, g_gTup, augP_some, augP_none, st_xAug, parP_two, st_xPar, loopP_nx, loopP_ct, loopP_bk, loopP_rt, loopP_ex, st_xFor, itP_some, itP_none, sat_xIt, sat_xLc, sat_xItA, sat_xYes, sat_xLenSet, oAdd_ii, oSub_ii, oMul_ii, oFdiv_ii, oMod_ii, oNeg_i, oLt_ii, oLe_ii, oGt_ii, oGe_ii, oInt_i, oIx_ti, oIx_qi, oLen_t, oLen_q, oLen_s, atI_0, atI_1, atI_2, atI_3, atI_4, atI_5, atI_6, atI_7, atI_8, atI_9, atI_10, atI_11, atI_12, atI_13, atI_14, List.getElem?_cons_zero, List.getElem?_cons_succ, List.map_cons, List.map_nil, List.cons_append, List.nil_append, List.length_cons, List.length_nil, List.set_cons_zero, List.set_cons_succ, List.replicate, Option.map_some, Option.map_none, Option.bind_some, Option.bind_none, if_true, if_false, Nat.reduceAdd, Nat.reduceSub, Nat.reduceLT, Nat.reduceLeDiff, Nat.reduceEqDiff, Int.reduceLT, Int.reduceLE, Int.reduceNeg, Int.reduceEq, Bool.false_eq_true, Bool.true_eq_false, reduceIte, reduceCtorEq, Bool.not_true, Bool.not_false, decide_eq_true_eq, Nat.zero_lt_succ, and_true, true_and, and_self, and_false, false_and, isi_non_tuple, isi_non_int, isi_non_str, isi_non_bool, isi_non_list, type_non, isi_bl_tuple, isi_bl_int, isi_bl_str, isi_bl_bool, isi_bl_list, type_bl, isi_int_tuple, isi_int_int, isi_int_str, isi_int_bool, isi_int_list, type_int, isi_str_tuple, isi_str_int, isi_str_str, isi_str_bool, isi_str_list, type_str, isi_tup_tuple, isi_tup_int, isi_tup_str, isi_tup_bool, isi_tup_list, type_tup, is_int_int, isn_int_int, is_int_str, isn_int_str, is_int_tuple, isn_int_tuple, is_int_list, isn_int_list, is_int_bool, isn_int_bool, is_str_int, isn_str_int, is_str_str, isn_str_str, is_str_tuple, isn_str_tuple, is_str_list, isn_str_list, is_str_bool, isn_str_bool, is_tuple_int, isn_tuple_int, is_tuple_str, isn_tuple_str, is_tuple_tuple, isn_tuple_tuple, is_tuple_list, isn_tuple_list, is_tuple_bool, isn_tuple_bool, is_list_int, isn_list_int, is_list_str, isn_list_str, is_list_tuple, isn_list_tuple, is_list_list, isn_list_list, is_list_bool, isn_list_bool, is_bool_int, isn_bool_int, is_bool_str, isn_bool_str, is_bool_tuple, isn_bool_tuple, is_bool_list, isn_bool_list, is_bool_bool, isn_bool_bool, is_NoneType_int, isn_NoneType_int, is_NoneType_str, isn_NoneType_str, is_NoneType_tuple, isn_NoneType_tuple, is_NoneType_list, isn_NoneType_list, is_NoneType_bool, isn_NoneType_bool, isN_non, isnN_non, isB_non, isnB_non, isN_bl, isnN_bl, isB_bl, isnB_bl, isN_int, isnN_int, isB_int, isnB_int, isN_str, isnN_str, isB_str, isnB_str, isN_tup, isnN_tup, isB_tup, isnB_tup, eq_non_non, eq_non_bl, ne_non_bl, eq_non_int, ne_non_int, eq_non_str, ne_non_str, eq_bl_non, ne_bl_non, eq_bl_bl, ne_bl_bl, eq_bl_str, ne_bl_str, eq_int_non, ne_int_non, eq_int_int, ne_int_int, eq_int_str, ne_int_str, eq_str_non, ne_str_non, eq_str_bl, ne_str_bl, eq_str_int, ne_str_int, eq_str_str, ne_str_str, isN_ref, isB_ref, tru_bl, tru_int]
        refine due_order_spec ((hp d hd).keep k1) fun S2 k2 => ?_
        simp only [sat_ok, sat_ex, sat_err, sat_bind_eq, ofP_some, ofP_none, sat_of_eq, st_nx, st_rt, st_bk, st_ct, st_ex, st_err, st_then, seqP_nx, seqP_rt, seqP_bk, seqP_ct, seqP_ex, st_xSeq, endP_nx, endP_rt, endP_ex, endP_bk, endP_ct, varP_some, varP_none, varP_non, sat_xVar, sat_xC, sat_xOp, sat_xUn, blP_bl, sat_xTB, trP_some, trP_none, sat_xT, sat_xAndT, sat_xOrT, sat_xNotT, sat_xAnd, sat_xOr, sat_xNot, sat_xIf, sat_xNil, sat_xCons, sat_xTup, sat_xLst, sat_xChain, sat_xCall, sat_xCB, sat_xM0, sat_xM, intP_int, sat_xNoP, sat_xPart, sat_xSl, st_xSkip, st_xBrk, st_xCnt, st_xDrop, st_xRet, st_xRetN, st_xIfS, tgP_some, tgP_none, st_xAsg, g_gVar, g_gNil, g_gCons, g_gTup, augP_some, augP_none, st_xAug, parP_two, st_xPar, loopP_nx, loopP_ct, loopP_bk, loopP_rt, loopP_ex, st_xFor, itP_some, itP_none, sat_xIt, sat_xLc, sat_xItA, sat_xYes, sat_xLenSet, oAdd_ii, oSub_ii, oMul_ii, oFdiv_ii, oMod_ii, oNeg_i, oLt_ii, oLe_ii, oGt_ii, oGe_ii, oInt_i, oIx_ti, oIx_qi, oLen_t, oLen_q, oLen_s, atI_0, atI_1, atI_2, atI_3, atI_4, atI_5, atI_6, atI_7, atI_8, atI_9, atI_10, atI_11, atI_12, atI_13, atI_14, List.getElem?_cons_zero, List.getElem?_cons_succ, List.map_cons, List.map_nil, List.cons_append, List.nil_append, List.length_cons, List.length_nil, List.set_cons_zero, List.set_cons_succ, List.replicate, Option.map_some, Option.map_none, Option.bind_some, Option.bind_none, if_true, if_false, Nat.reduceAdd, Nat.reduceSub, Nat.reduceLT, Nat.reduceLeDiff, Nat.reduceEqDiff, Int.reduceLT, Int.reduceLE, Int.reduceNeg, Int.reduceEq, Bool.false_eq_true, Bool.true_eq_false, reduceIte, reduceCtorEq, Bool.not_true, Bool.not_false, decide_eq_true_eq, Nat.zero_lt_succ, and_true, true_and, and_self, and_false, false_and, isi_non_tuple, isi_non_int, isi_non_str, isi_non_bool, isi_non_list, type_non, isi_bl_tuple, isi_bl_int, isi_bl_str, isi_bl_bool, isi_bl_list, type_bl, isi_int_tuple, isi_int_int, isi_int_str, isi_int_bool, isi_int_list, type_int, isi_str_tuple, isi_str_int, isi_str_str, isi_str_bool, isi_str_list, type_str, isi_tup_tuple, isi_tup_int, isi_tup_str, isi_tup_bool, isi_tup_list, type_tup, is_int_int, isn_int_int, is_int_str, isn_int_str, is_int_tuple, isn_int_tuple, is_int_list, isn_int_list, is_int_bool, isn_int_bool, is_str_int, isn_str_int, is_str_str, isn_str_str, is_str_tuple, isn_str_tuple, is_str_list, isn_str_list, is_str_bool, isn_str_bool, is_tuple_int, isn_tuple_int, is_tuple_str, isn_tuple_str, is_tuple_tuple, isn_tuple_tuple, is_tuple_list, isn_tuple_list, is_tuple_bool, isn_tuple_bool, is_list_int, isn_list_int, is_list_str, isn_list_str, is_list_tuple, isn_list_tuple, is_list_list, isn_list_list, is_list_bool, isn_list_bool, is_bool_int, isn_bool_int, is_bool_str, isn_bool_str, is_bool_tuple, isn_bool_tuple, is_bool_list, isn_bool_list, is_bool_bool, isn_bool_bool, is_NoneType_int, isn_NoneType_int, is_NoneType_str, isn_NoneType_str, is_NoneType_tuple, isn_NoneType_tuple, is_NoneType_list, isn_NoneType_list, is_NoneType_bool, isn_NoneType_bool, isN_non, isnN_non, isB_non, isnB_non, isN_bl, isnN_bl, isB_bl, isnB_bl, isN_int, isnN_int, isB_int, isnB_int, isN_str, isnN_str, isB_str, isnB_str, isN_tup, isnN_tup, isB_tup, isnB_tup, eq_non_non, eq_non_bl, ne_non_bl, eq_non_int, ne_non_int, eq_non_str, ne_non_str, eq_bl_non, ne_bl_non, eq_bl_bl, ne_bl_bl, eq_bl_str, ne_bl_str, eq_int_non, ne_int_non, eq_int_int, ne_int_int, eq_int_str, ne_int_str, eq_str_non, ne_str_non, eq_str_bl, ne_str_bl, eq_str_int, ne_str_int, eq_str_str, ne_str_str, isN_ref, isB_ref, tru_bl, tru_int]
        exact ⟨k2, fun _ => Kx.refl _ _⟩
      · replace h : ∀ S', Kp S1 S' → _ := fun S' k => h S' (k1.trans k)
        simp only [sat_ok, sat_ex, sat_err, sat_bind_eq, ofP_some, ofP_none, sat_of_eq, st_nx, st_rt, st_bk, st_ct, st_ex, st_err, st_then, seqP_nx, seqP_rt, seqP_bk, seqP_ct, seqP_ex, st_xSeq, endP_nx, endP_rt, endP_ex, endP_bk, endP_ct, varP_some, varP_none, varP_non, sat_xVar, sat_xC, sat_xOp, sat_xUn, blP_bl, sat_xTB, trP_some, trP_none, sat_xT, sat_xAndT, sat_xOrT, sat_xNotT, sat_xAnd, sat_xOr, sat_xNot, sat_xIf, sat_xNil, sat_xCons, sat_xTup, sat_xLst, sat_xChain, sat_xCall, sat_xCB, sat_xM0, sat_xM, intP_int, sat_xNoP, sat_xPart, sat_xSl, st_xSkip, st_xBrk, st_xCnt, st_xDrop, st_xRet, st_xRetN, st_xIfS, tgP_some, tgP_none, st_xAsg, g_gVar, g_gNil, g_gCons, g_gTup, augP_some, augP_none, st_xAug, parP_two, st_xPar, loopP_nx, loopP_ct, loopP_bk, loopP_rt, loopP_ex, st_xFor, itP_some, itP_none, sat_xIt, sat_xLc, sat_xItA, sat_xYes, sat_xLenSet, oAdd_ii, oSub_ii, oMul_ii, oFdiv_ii, oMod_ii, oNeg_i, oLt_ii, oLe_ii, oGt_ii, oGe_ii, oInt_i, oIx_ti, oIx_qi, oLen_t, oLen_q, oLen_s, atI_0, atI_1, atI_2, atI_3, atI_4, atI_5, atI_6, atI_7, atI_8, atI_9, atI_10, atI_11, atI_12, atI_13, atI_14, List.getElem?_cons_zero, List.getElem?_cons_succ, List.map_cons, List.map_nil, List.cons_append, List.nil_append, List.length_cons, List.length_nil, List.set_cons_zero, List.set_cons_succ, List.replicate, Option.map_some, Option.map_none, Option.bind_some, Option.bind_none, if_true, if_false, Nat.reduceAdd, Nat.reduceSub, Nat.reduceLT, Nat.reduceLeDiff, Nat.reduceEqDiff, Int.reduceLT, Int.reduceLE, Int.reduceNeg, Int.reduceEq, Bool.false_eq_true, Bool.true_eq_false, reduceIte, reduceCtorEq, Bool.not_true, Bool.not_false, decide_eq_true_eq, Nat.zero_lt_succ, and_true, true_and, and_self, and_false, false_and, isi_non_tuple, isi_non_int, isi_non_str, isi_non_bool, isi_non_list, type_non, isi_bl_tuple, isi_bl_int, isi_bl_str, isi_bl_bool, isi_bl_list, type_bl, isi_int_tuple, isi_int_int, isi_int_str, isi_int_bool, isi_int_list, type_int, isi_str_tuple, isi_str_int, isi_str_str, isi_str_bool, isi_str_list, type_str, isi_tup_tuple, isi_tup_int, isi_tup_str, isi_tup_bool, isi_tup_list, type_tup, is_int_int, isn_int_int, is_int_str, isn_int_str, is_int_tuple, isn_int_tuple, is_int_list, isn_int_list, is_int_bool, isn_int_bool, is_str_int, isn_str_int, is_str_str, isn_str_str, is_str_tuple, isn_str_tuple, is_str_list, isn_str_list, is_str_bool, isn_str_bool, is_tuple_int, isn_tuple_int, is_tuple_str, isn_tuple_str, is_tuple_tuple, isn_tuple_tuple, is_tuple_list, isn_tuple_list, is_tuple_bool, isn_tuple_bool, is_list_int, isn_list_int, is_list_str, isn_list_str, is_list_tuple, isn_list_tuple, is_list_list, isn_list_list, is_list_bool, isn_list_bool, is_bool_int, isn_bool_int, is_bool_str, isn_bool_str, is_bool_tuple, isn_bool_tuple, is_bool_list, isn_bool_list, is_bool_bool, isn_bool_bool, is_NoneType_int, isn_NoneType_int, is_NoneType_str, isn_NoneType_str, is_NoneType_tuple, isn_NoneType_tuple, is_NoneType_list, isn_NoneType_list, is_NoneType_bool, isn_NoneType_bool, isN_non, isnN_non, isB_non, isnB_non, isN_bl, isnN_bl, isB_bl, isnB_bl, isN_int, isnN_int, isB_int, isnB_int, isN_str, isnN_str, isB_str, isnB_str, isN_tup, isnN_tup, isB_tup, isnB_tup, eq_non_non, eq_non_bl, ne_non_bl, eq_non_int, ne_non_int, eq_non_str, ne_non_str, eq_bl_non, ne_bl_non, eq_bl_bl, ne_bl_bl, eq_bl_str, ne_bl_str, eq_int_non, ne_int_non, eq_int_int, ne_int_int, eq_int_str, ne_int_str, eq_str_non, ne_str_non, eq_str_bl, ne_str_bl, eq_str_int, ne_str_int, eq_str_str, ne_str_str, isN_ref, isB_ref, tru_bl, tru_int, ne_nil e1 (ones_shN _ _), ones_empty, Bool.not_not]
        refine ⟨Nat.zero_le _, gate (fun q => ?_) fun qa => n1 _ _ ?_⟩
        · simp only [q, Bool.false_and, Bool.and_false] at h
          exact r1 _ _ (h _ (Kx.app _ _ _))
        · replace h : ∀ S', Kp (S1 ++ [.lst []]) S' → _ := fun S' k => h S' ((Kx.app _ _ _).trans k)
          simp only [qa, Bool.true_and, Bool.and_true] at h
          simp only [sat_ok, sat_ex, sat_err, sat_bind_eq, ofP_some, ofP_none, sat_of_eq, st_nx, st_rt, st_bk, st_ct, st_ex, st_err, st_then, seqP_nx, seqP_rt, seqP_bk, seqP_ct, seqP_ex, st_xSeq, endP_nx, endP_rt, endP_ex, endP_bk, endP_ct, varP_some, varP_none, varP_non, sat_xVar, sat_xC, sat_xOp, sat_xUn, blP_bl, sat_xTB, trP_some, trP_none, sat_xT, sat_xAndT, sat_xOrT, sat_xNotT, sat_xAnd, sat_xOr, sat_xNot, sat_xIf, sat_xNil, sat_xCons, sat_xTup, sat_xLst, sat_xChain, sat_xCall, sat_xCB, sat_xM0, sat_xM, intP_int, sat_xNoP, sat_xPart, sat_xSl, st_xSkip, st_xBrk, st_xCnt, st_xDrop, st_xRet, st_xRetN, st_xIfS, tgP_some, tgP_none, st_xAsg, g_gVar, g_gNil, g_gCons, g_gTup, augP_some, augP_none, st_xAug, parP_two, st_xPar, loopP_nx, loopP_ct, loopP_bk, loopP_rt, loopP_ex, st_xFor, itP_some, itP_none, sat_xIt, sat_xLc, sat_xItA, sat_xYes, sat_xLenSet, oAdd_ii, oSub_ii, oMul_ii, oFdiv_ii, oMod_ii, oNeg_i, oLt_ii, oLe_ii, oGt_ii, oGe_ii, oInt_i, oIx_ti, oIx_qi, oLen_t, oLen_q, oLen_s, atI_0, atI_1, atI_2, atI_3, atI_4, atI_5, atI_6, atI_7, atI_8, atI_9, atI_10, atI_11, atI_12, atI_13, atI_14, List.getElem?_cons_zero, List.getElem?_cons_succ, List.map_cons, List.map_nil, List.cons_append, List.nil_append, List.length_cons, List.length_nil, List.set_cons_zero, List.set_cons_succ, List.replicate, Option.map_some, Option.map_none, Option.bind_some, Option.bind_none, if_true, if_false, Nat.reduceAdd, Nat.reduceSub, Nat.reduceLT, Nat.reduceLeDiff, Nat.reduceEqDiff, Int.reduceLT, Int.reduceLE, Int.reduceNeg, Int.reduceEq, Bool.false_eq_true, Bool.true_eq_false, reduceIte, reduceCtorEq, Bool.not_true, Bool.not_false, decide_eq_true_eq, Nat.zero_lt_succ, and_true, true_and, and_self, and_false, false_and, isi_non_tuple, isi_non_int, isi_non_str, isi_non_bool, isi_non_list, type_non, isi_bl_tuple, isi_bl_int, isi_bl_str, isi_bl_bool, isi_bl_list, type_bl, isi_int_tuple, isi_int_int, isi_int_str, isi_int_bool, isi_int_list, type_int, isi_str_tuple, isi_str_int, isi_str_str, isi_str_bool, isi_str_list, type_str, isi_tup_tuple, isi_tup_int, isi_tup_str, isi_tup_bool, isi_tup_list, type_tup, is_int_int, isn_int_int, is_int_str, isn_int_str, is_int_tuple, isn_int_tuple, is_int_list, isn_int_list, is_int_bool, isn_int_bool, is_str_int, isn_str_int, is_str_str, isn_str_str, is_str_tuple, isn_str_tuple, is_str_list, isn_str_list, is_str_bool, isn_str_bool, is_tuple_int, isn_tuple_int, is_tuple_str, isn_tuple_str, is_tuple_tuple, isn_tuple_tuple, is_tuple_list, isn_tuple_list, is_tuple_bool, isn_tuple_bool, is_list_int, isn_list_int, is_list_str, isn_list_str, is_list_tuple, isn_list_tuple, is_list_list, isn_list_list, is_list_bool, isn_list_bool, is_bool_int, isn_bool_int, is_bool_str, isn_bool_str, is_bool_tuple, isn_bool_tuple, is_bool_list, isn_bool_list, is_bool_bool, isn_bool_bool, is_NoneType_int, isn_NoneType_int, is_NoneType_str, isn_NoneType_str, is_NoneType_tuple, isn_NoneType_tuple, is_NoneType_list, isn_NoneType_list, is_NoneType_bool, isn_NoneType_bool, isN_non, isnN_non, isB_non, isnB_non, isN_bl, isnN_bl, isB_bl, isnB_bl, isN_int, isnN_int, isB_int, isnB_int, isN_str, isnN_str, isB_str, isnB_str, isN_tup, isnN_tup, isB_tup, isnB_tup, eq_non_non, eq_non_bl, ne_non_bl, eq_non_int, ne_non_int, eq_non_str, ne_non_str, eq_bl_non, ne_bl_non, eq_bl_bl, ne_bl_bl, eq_bl_str, ne_bl_str, eq_int_non, ne_int_non, eq_int_int, ne_int_int, eq_int_str, ne_int_str, eq_str_non, ne_str_non, eq_str_bl, ne_str_bl, eq_str_int, ne_str_int, eq_str_str, ne_str_str, isN_ref, isB_ref, tru_bl, tru_int, itOf, wipeG]
          refine lc_pure (fun _ => true) secD (by rw [z]; omega) (fun _ _ => trivial) (fun d hd => ?_) fun S2 k2 e2 => ?_
          · refine ⟨_, rfl, fun S2 k2 => ?_⟩
            simp only [sat_ok, sat_ex, sat_err, sat_bind_eq, ofP_some, ofP_none, sat_of_eq, st_nx, st_rt, st_bk, st_ct, st_ex, st_err, st_then, seqP_nx, seqP_rt, seqP_bk, seqP_ct, seqP_ex, st_xSeq, endP_nx, endP_rt, endP_ex, endP_bk, endP_ct, varP_some, varP_none, varP_non, sat_xVar, sat_xC, sat_xOp, sat_xUn, blP_bl, sat_xTB, trP_some, trP_none, sat_xT, sat_xAndT, sat_xOrT, sat_xNotT, sat_xAnd, sat_xOr, sat_xNot, sat_xIf, sat_xNil, sat_xCons, sat_xTup, sat_xLst, sat_xChain, sat_xCall, sat_xCB, sat_xM0, sat_xM, intP_int, sat_xNoP, sat_xPart, sat_xSl, st_xSkip, st_xBrk, st_xCnt, st_xDrop, st_xRet, st_xRetN, st_xIfS, tgP_some, tgP_none, st_xAsg, g_gVar, g_gNil, g_gCons, g_gTup, augP_some, augP_none, st_xAug, parP_two, st_xPar, loopP_nx, loopP_ct, loopP_bk, loopP_rt, loopP_ex, st_xFor, itP_some, itP_none, sat_xIt, sat_xLc, sat_xItA, sat_xYes, sat_xLenSet, oAdd_ii, oSub_ii, oMul_ii, oFdiv_ii, oMod_ii, oNeg_i, oLt_ii, oLe_ii, oGt_ii, oGe_ii, oInt_i, oIx_ti, oIx_qi, oLen_t, oLen_q, oLen_s, atI_0, atI_1, atI_2, atI_3, atI_4, atI_5, atI_6, atI_7, atI_8, atI_9, atI_10, atI_11, atI_12, atI_13, atI_14, List.getElem?_cons_zero, List.getElem?_cons_succ, List.map_cons, List.map_nil, List.cons_append, List.nil_append, List.length_cons, List.length_nil, List.set_cons_zero, List.set_cons_succ, List.replicate, Option.map_some, Option.map_none, Option.bind_some, Option.bind_none, if_true, if_false, Nat.reduceAdd, Nat.reduceSub, Nat.reduceLT, Nat.reduceLeDiff, Nat.reduceEqDiff, Int.reduceLT, Int.reduceLE, Int.reduceNeg, Int.reduceEq, Bool.false_eq_true, Bool.true_eq_false, reduceIte, reduceCtorEq, Bool.not_true, Bool.not_false, decide_eq_true_eq, Nat.zero_lt_succ, and_true, true_and, and_self, and_false, false_and, isi_non_tuple, isi_non_int, isi_non_str, isi_non_bool, isi_non_list, type_non, isi_bl_tuple, isi_bl_int, isi_bl_str, isi_bl_bool, isi_bl_list, type_bl, isi_int_tuple, isi_int_int, isi_int_str, isi_int_bool, isi_int_list, type_int, isi_str_tuple, isi_str_int, isi_str_str, isi_str_bool, isi_str_list, type_str, isi_tup_tuple, isi_tup_int, isi_tup_str, isi_tup_bool, isi_tup_list, type_tup, is_int_int, isn_int_int, is_int_str, isn_int_str, is_int_tuple, isn_int_tuple, is_int_list, isn_int_list, is_int_bool, isn_int_bool, is_str_int, isn_str_int, is_str_str, isn_str_str, is_str_tuple, isn_str_tuple, is_str_list, isn_str_list, is_str_bool, isn_str_bool, is_tuple_int, isn_tuple_int, is_tuple_str, isn_tuple_str, is_tuple_tuple, isn_tuple_tuple, is_tuple_list, isn_tuple_list, is_tuple_bool, isn_tuple_bool, is_list_int, isn_list_int, is_list_str, isn_list_str, is_list_tuple, isn_list_tuple, is_list_list, isn_list_list, is_list_bool, isn_list_bool, is_bool_int, isn_bool_int, is_bool_str, isn_bool_str, is_bool_tuple, isn_bool_tuple, is_bool_list, isn_bool_list, is_bool_bool, isn_bool_bool, is_NoneType_int, isn_NoneType_int, is_NoneType_str, isn_NoneType_str, is_NoneType_tuple, isn_NoneType_tuple, is_NoneType_list, isn_NoneType_list, is_NoneType_bool, isn_NoneType_bool, isN_non, isnN_non, isB_non, isnB_non, isN_bl, isnN_bl, isB_bl, isnB_bl, isN_int, isnN_int, isB_int, isnB_int, isN_str, isnN_str, isB_str, isnB_str, isN_tup, isnN_tup, isB_tup, isnB_tup, eq_non_non, eq_non_bl, ne_non_bl, eq_non_int, ne_non_int, eq_non_str, ne_non_str, eq_bl_non, ne_bl_non, eq_bl_bl, ne_bl_bl, eq_bl_str, ne_bl_str, eq_int_non, ne_int_non, eq_int_int, ne_int_int, eq_int_str, ne_int_str, eq_str_non, ne_str_non, eq_str_bl, ne_str_bl, eq_str_int, ne_str_int, eq_str_str, ne_str_str, isN_ref, isB_ref, tru_bl, tru_int, (sec_ix (List.all_eq_true.mp qa d hd)).1]
            exact ⟨Kx.refl _ _, fun _ => Kx.refl _ _⟩
          · simp only [sat_ok, sat_ex, sat_err, sat_bind_eq, ofP_some, ofP_none, sat_of_eq, st_nx, st_rt, st_bk, st_ct, st_ex, st_err, st_then, seqP_nx, seqP_rt, seqP_bk, seqP_ct, seqP_ex, st_xSeq, endP_nx, endP_rt, endP_ex, endP_bk, endP_ct, varP_some, varP_none, varP_non, sat_xVar, sat_xC, sat_xOp, sat_xUn, blP_bl, sat_xTB, trP_some, trP_none, sat_xT, sat_xAndT, sat_xOrT, sat_xNotT, sat_xAnd, sat_xOr, sat_xNot, sat_xIf, sat_xNil, sat_xCons, sat_xTup, sat_xLst, sat_xChain, sat_xCall, sat_xCB, sat_xM0, sat_xM, intP_int, sat_xNoP, sat_xPart, sat_xSl, st_xSkip, st_xBrk, st_xCnt, st_xDrop, st_xRet, st_xRetN, st_xIfS, tgP_some, tgP_none, st_xAsg, g_gVar, g_gNil, g_gCons, g_gTup, augP_some, augP_none, st_xAug, parP_two, st_xPar, loopP_nx, loopP_ct, loopP_bk, loopP_rt, loopP_ex, st_xFor, itP_some, itP_none, sat_xIt, sat_xLc, sat_xItA, sat_xYes, sat_xLenSet, oAdd_ii, oSub_ii, oMul_ii, oFdiv_ii, oMod_ii, oNeg_i, oLt_ii, oLe_ii, oGt_ii, oGe_ii, oInt_i, oIx_ti, oIx_qi, oLen_t, oLen_q, oLen_s, atI_0, atI_1, atI_2, atI_3, atI_4, atI_5, atI_6, atI_7, atI_8, atI_9, atI_10, atI_11, atI_12, atI_13, atI_14, List.getElem?_cons_zero, List.getElem?_cons_succ, List.map_cons, List.map_nil, List.cons_append, List.nil_append, List.length_cons, List.length_nil, List.set_cons_zero, List.set_cons_succ, List.replicate, Option.map_some, Option.map_none, Option.bind_some, Option.bind_none, if_true, if_false, Nat.reduceAdd, Nat.reduceSub, Nat.reduceLT, Nat.reduceLeDiff, Nat.reduceEqDiff, Int.reduceLT, Int.reduceLE, Int.reduceNeg, Int.reduceEq, Bool.false_eq_true, Bool.true_eq_false, reduceIte, reduceCtorEq, Bool.not_true, Bool.not_false, decide_eq_true_eq, Nat.zero_lt_succ, and_true, true_and, and_self, and_false, false_and, isi_non_tuple, isi_non_int, isi_non_str, isi_non_bool, isi_non_list, type_non, isi_bl_tuple, isi_bl_int, isi_bl_str, isi_bl_bool, isi_bl_list, type_bl, isi_int_tuple, isi_int_int, isi_int_str, isi_int_bool, isi_int_list, type_int, isi_str_tuple, isi_str_int, isi_str_str, isi_str_bool, isi_str_list, type_str, isi_tup_tuple, isi_tup_int, isi_tup_str, isi_tup_bool, isi_tup_list, type_tup, is_int_int, isn_int_int, is_int_str, isn_int_str, is_int_tuple, isn_int_tuple, is_int_list, isn_int_list, is_int_bool, isn_int_bool, is_str_int, isn_str_int, is_str_str, isn_str_str, is_str_tuple, isn_str_tuple, is_str_list, isn_str_list, is_str_bool, isn_str_bool, is_tuple_int, isn_tuple_int, is_tuple_str, isn_tuple_str, is_tuple_tuple, isn_tuple_tuple, is_tuple_list, isn_tuple_list, is_tuple_bool, isn_tuple_bool, is_list_int, isn_list_int, is_list_str, isn_list_str, is_list_tuple, isn_list_tuple, is_list_list, isn_list_list, is_list_bool, isn_list_bool, is_bool_int, isn_bool_int, is_bool_str, isn_bool_str, is_bool_tuple, isn_bool_tuple, is_bool_list, isn_bool_list, is_bool_bool, isn_bool_bool, is_NoneType_int, isn_NoneType_int, is_NoneType_str, isn_NoneType_str, is_NoneType_tuple, isn_NoneType_tuple, is_NoneType_list, isn_NoneType_list, is_NoneType_bool, isn_NoneType_bool, isN_non, isnN_non, isB_non, isnB_non, isN_bl, isnN_bl, isB_bl, isnB_bl, isN_int, isnN_int, isB_int, isnB_int, isN_str, isnN_str, isB_str, isnB_str, isN_tup, isnN_tup, isB_tup, isnB_tup, eq_non_non, eq_non_bl, ne_non_bl, eq_non_int, ne_non_int, eq_non_str, ne_non_str, eq_bl_non, ne_bl_non, eq_bl_bl, ne_bl_bl, eq_bl_str, ne_bl_str, eq_int_non, ne_int_non, eq_int_int, ne_int_int, eq_int_str, ne_int_str, eq_str_non, ne_str_non, eq_str_bl, ne_str_bl, eq_str_int, ne_str_int, eq_str_str, ne_str_str, isN_ref, isB_ref, tru_bl, tru_int, lenset_sec qa (by omega) e2]
            exact h _ k2
    · rw [if_pos (by omega)]
      simp only [hl, decide_false, Bool.false_and] at h
      exact r1 _ _ (h _ (Kx.refl _ _))
end
end K43
namespace K43
open PySem PySem.Spec PyProof.Rows Dx
section
variable {S : Sto} {b : Nat} {Pd : D → Sto → Prop} {E : Exn → Sto → Prop} {m : Int}
theorem pl_nil {p : D → Prop} : ∀ d ∈ ([] : List D), p d := fun _ h => by simp at h
theorem pl_cons {p : D → Prop} {d : D} {ds : List D} (h : p d) (hs : ∀ d ∈ ds, p d) : ∀ e ∈ d :: ds, p e := fun e he => by
  rcases List.mem_cons.mp he with rfl | he
  · exact h
  · exact hs e he
/-- a part of an order as it is drawn -/
inductive Or0 : D → Prop
  | int {i : Int} (h1 : -1000000000 ≤ i) (h2 : i ≤ 1000000000) : Or0 (.int i)
  | str {z : Str} (h : z.length ≤ 1000) : Or0 (.str z)
theorem Or0.pl {n : Nat} {d : D} (h : Or0 d) : Pl n d := by
  cases h with
  | int => exact .int
  | str h => exact .str (by omega)
theorem pick_pl {p : D → Prop} {ds : List D} (hb : Box b S) (hn : m = ds.length) (h0 : 0 < ds.length) (hp : ∀ d ∈ ds, p d) (h : ∀ d, p d → ∀ S', Kx [b] S S' → Box b S' → Pd d S') : (fDraw [.ref b, .int m] (S ++ [.lst ds])).wp (fun y S2 => ofP Pd (oIx (.ref S.length) y S2)) E :=
  pick_draw hb hn h0 fun d hd S' k b' => h d (hp d hd) S' k b'
noncomputable abbrev fLawOrder : Fn := bodyF 8 (B__law_order fDraw fWide)
theorem law_order_spec {nm : Str} (b0 : Box b S) (hn : nm.length ≤ 1000)
    (h : ∀ ds S', ds.length = 9 → (∀ d ∈ ds, Or0 d) → Kx [b] S S' → Box b S' → Pd (.tup ds) S') : (fLawOrder [.ref b, .str nm, .bl true] S).wp Pd E := by
  have z : sizeLine = 16777216 := rfl
  rw [sat_bodyF]
  unfold B__law_order
  refine seq_cut fun K1 n1 r1 => ?_
  simp only [sat_ok, sat_ex, sat_err, sat_bind_eq, ofP_some, ofP_none, sat_of_eq, st_nx, st_rt, st_bk, st_ct, st_ex, st_err, st_then, seqP_nx, seqP_rt, seqP_bk, seqP_ct, seqP_ex, st_xSeq, endP_nx, endP_rt, endP_ex, endP_bk, endP_ct, varP_some, varP_none, varP_non, sat_xVar, sat_xC, sat_xOp, sat_xUn, blP_bl, sat_xTB, trP_some, trP_none, sat_xT, sat_xAndT, sat_xOrT, sat_xNotT, sat_xAnd, sat_xOr, sat_xNot, sat_xIf, sat_xNil, sat_xCons, sat_xTup, sat_xLst, sat_xChain, sat_xCall, sat_xCB, sat_xM0, sat_xM, intP_int, sat_xNoP, sat_xPart, sat_xSl, st_xSkip, st_xBrk, st_xCnt, st_xDrop, st_xRet, st_xRetN, st_xIfS, tgP_some, tgP_none, st_xAsg, g_gVar, g_gNil, g_gCons, g_gTup, augP_some, augP_none, st_xAug, parP_two, st_xPar, loopP_nx, loopP_ct, loopP_bk, loopP_rt, loopP_ex, st_xFor, itP_some, itP_none, sat_xIt, sat_xLc, sat_xItA, sat_xYes, sat_xLenSet, oAdd_ii, oSub_ii, oMul_ii, oFdiv_ii, oMod_ii, oNeg_i, oLt_ii, oLe_ii, oGt_ii, oGe_ii, oInt_i, oIx_ti, oIx_qi, oLen_t, oLen_q, oLen_s, atI_0, atI_1, atI_2, atI_3, atI_4, atI_5, atI_6, atI_7, atI_8, atI_9, atI_10, atI_11, atI_12, atI_13, atI_14, List.getElem?_cons_zero, List.getElem?_cons_succ, List.map_cons, List.map_nil, List.cons_append, List.nil_append, List.length_cons, List.length_nil, List.set_cons_zero, List.set_cons_succ, List.replicate, Option.map_some, Option.map_none, Option.bind_some, Option.bind_none, if_true, if_false, Nat.reduceAdd, Nat.reduceSub, Nat.reduceLT, Nat.reduceLeDiff, Nat.reduceEqDiff, Int.reduceLT, Int.reduceLE, Int.reduceNeg, Int.reduceEq, Bool.false_eq_true, Bool.true_eq_false, reduceIte, reduceCtorEq, Bool.not_true, Bool.not_false, decide_eq_true_eq, Nat.zero_lt_succ, and_true, true_and, and_self, and_false, false_and, isi_non_tuple, isi_non_int, isi_non_str, isi_non_bool, isi_non_list, type_non, isi_bl_tuple, isi_bl_int, isi_bl_str, isi_bl_bool, isi_bl_list, type_bl, isi_int_tuple, isi_int_int, isi_int_str, isi_int_bool, isi_int_list, type_int, isi_str_tuple, isi_str_int, isi_str_str, isi_str_bool, isi_str_list, type_str, isi_tup_tuple, isi_tup_int, isi_tup_str, isi_tup_bool, isi_tup_list, type_tup, is_int_int, isn_int_int, is_int_str, isn_int_str, is_int_tuple, isn_int_tuple, is_int_list, isn_int_list, is_int_bool, isn_int_bool, is_str_int, isn_str_int, is_str_str, isn_str_str, is_str_tuple, isn_str_tuple, is_str_list, isn_str_list, is_str_bool, isn_str_bool, is_tuple_int, isn_tuple_int, is_tuple_str, isn_tuple_str, is_tuple_tuple, isn_tuple_tuple, is_tuple_list, isn_tuple_list, is_tuple_bool, isn_tuple_bool, is_list_int, isn_list_int, is_list_str, isn_list_str, is_list_tuple, isn_list_tuple, is_list_list, isn_list_list, is_list_bool, isn_list_bool, is_bool_int, isn_bool_int, is_bool_str, isn_bool_str, is_bool_tuple, isn_bool_tuple, is_bool_list, isn_bool_list, is_bool_bool, isn_bool_bool, is_NoneType_int, isn_NoneType_int, is_NoneType_str, isn_NoneType_str, is_NoneType_tuple, isn_NoneType_tuple, is_NoneType_list, isn_NoneType_list, is_NoneType_bool, isn_NoneType_bool, isN_non, isnN_non, isB_non, isnB_non, isN_bl, isnN_bl, isB_bl, isnB_bl, isN_int, isnN_int, isB_int, isnB_int, isN_str, isnN_str, isB_str, isnB_str, isN_tup, isnN_tup, isB_tup, isnB_tup, eq_non_non, eq_non_bl, ne_non_bl, eq_non_int, ne_non_int, eq_non_str, ne_non_str, eq_bl_non, ne_bl_non, eq_bl_bl, ne_bl_bl, eq_bl_str, ne_bl_str, eq_int_non, ne_int_non, eq_int_int, ne_int_int, eq_int_str, ne_int_str, eq_str_non, ne_str_non, eq_str_bl, ne_str_bl, eq_str_int, ne_str_int, eq_str_str, ne_str_str, isN_ref, isB_ref, tru_bl, tru_int]
  refine wide_spec b0 (by decide) fun v1 S1 w1 x1 k1 b1 => ?_
  try simp only [sat_ok, sat_ex, sat_err, sat_bind_eq, ofP_some, ofP_none, sat_of_eq, st_nx, st_rt, st_bk, st_ct, st_ex, st_err, st_then, seqP_nx, seqP_rt, seqP_bk, seqP_ct, seqP_ex, st_xSeq, endP_nx, endP_rt, endP_ex, endP_bk, endP_ct, varP_some, varP_none, varP_non, sat_xVar, sat_xC, sat_xOp, sat_xUn, blP_bl, sat_xTB, trP_some, trP_none, sat_xT, sat_xAndT, sat_xOrT, sat_xNotT, sat_xAnd, sat_xOr, sat_xNot, sat_xIf, sat_xNil, sat_xCons, sat_xTup, sat_xLst, sat_xChain, sat_xCall, sat_xCB, sat_xM0, sat_xM, intP_int, sat_xNoP, sat_xPart, sat_xSl, st_xSkip, st_xBrk, st_xCnt, st_xDrop, st_xRet, st_xRetN, st_xIfS, tgP_some, tgP_none, st_xAsg, g_gVar, g_gNil, g_gCons, g_gTup, augP_some, augP_none, st_xAug, parP_two, st_xPar, loopP_nx, loopP_ct, loopP_bk, loopP_rt, loopP_ex, st_xFor, itP_some, itP_none, sat_xIt, sat_xLc, sat_xItA, sat_xYes, sat_xLenSet, oAdd_ii, oSub_ii, oMul_ii, oFdiv_ii, oMod_ii, oNeg_i, oLt_ii, oLe_ii, oGt_ii, oGe_ii, oInt_i, oIx_ti, oIx_qi, oLen_t, oLen_q, oLen_s, atI_0, atI_1, atI_2, atI_3, atI_4, atI_5, atI_6, atI_7, atI_8, atI_9, atI_10, atI_11, atI_12, atI_13, atI_14, List.getElem?_cons_zero, List.getElem?_cons_succ, List.map_cons, List.map_nil, List.cons_append, List.nil_append, List.length_cons, List.length_nil, List.set_cons_zero, List.set_cons_succ, List.replicate, Option.map_some, Option.map_none, Option.bind_some, Option.bind_none, if_true, if_false, Nat.reduceAdd, Nat.reduceSub, Nat.reduceLT, Nat.reduceLeDiff, Nat.reduceEqDiff, Int.reduceLT, Int.reduceLE, Int.reduceNeg, Int.reduceEq, Bool.false_eq_true, Bool.true_eq_false, reduceIte, reduceCtorEq, Bool.not_true, Bool.not_false, decide_eq_true_eq, Nat.zero_lt_succ, and_true, true_and, and_self, and_false, false_and, isi_non_tuple, isi_non_int, isi_non_str, isi_non_bool, isi_non_list, type_non, isi_bl_tuple, isi_bl_int, isi_bl_str, isi_bl_bool, isi_bl_list, type_bl, isi_int_tuple, isi_int_int, isi_int_str, isi_int_bool, isi_int_list, type_int, isi_str_tuple, isi_str_int, isi_str_str, isi_str_bool, isi_str_list, type_str, isi_tup_tuple, isi_tup_int, isi_tup_str, isi_tup_bool, isi_tup_list, type_tup, is_int_int, isn_int_int, is_int_str, isn_int_str, is_int_tuple, isn_int_tuple, is_int_list, isn_int_list, is_int_bool, isn_int_bool, is_str_int, isn_str_int, is_str_str, isn_str_str, is_str_tuple, isn_str_tuple, is_str_list, isn_str_list, is_str_bool, isn_str_bool, is_tuple_int, isn_tuple_int, is_tuple_str, isn_tuple_str, is_tuple_tuple, isn_tuple_tuple, is_tuple_list, isn_tuple_list, is_tuple_bool, isn_tuple_bool, is_list_int, isn_list_int, is_list_str, isn_list_str, is_list_tuple, isn_list_tuple, is_list_list, isn_list_list, is_list_bool, isn_list_bool, is_bool_int, isn_bool_int, is_bool_str, isn_bool_str, is_bool_tuple, isn_bool_tuple, is_bool_list, isn_bool_list, is_bool_bool, isn_bool_bool, is_NoneType_int, isn_NoneType_int, is_NoneType_str, isn_NoneType_str, is_NoneType_tuple, isn_NoneType_tuple, is_NoneType_list, isn_NoneType_list, is_NoneType_bool, isn_NoneType_bool, isN_non, isnN_non, isB_non, isnB_non, isN_bl, isnN_bl, isB_bl, isnB_bl, isN_int, isnN_int, isB_int, isnB_int, isN_str, isnN_str, isB_str, isnB_str, isN_tup, isnN_tup, isB_tup, isnB_tup, eq_non_non, eq_non_bl, ne_non_bl, eq_non_int, ne_non_int, eq_non_str, ne_non_str, eq_bl_non, ne_bl_non, eq_bl_bl, ne_bl_bl, eq_bl_str, ne_bl_str, eq_int_non, ne_int_non, eq_int_int, ne_int_int, eq_int_str, ne_int_str, eq_str_non, ne_str_non, eq_str_bl, ne_str_bl, eq_str_int, ne_str_int, eq_str_str, ne_str_str, isN_ref, isB_ref, tru_bl, tru_int]
  refine ⟨by rw [z]; decide, pick_pl (p := Or0) b1 rfl (Nat.zero_lt_succ _) (by repeat (first | exact pl_nil | refine pl_cons (by first | exact Or0.int (by omega) (by omega) | exact Or0.str (by decide) | assumption) ?_)) fun u2 p2 S2 k2 b2 => ?_⟩
  try simp only [sat_ok, sat_ex, sat_err, sat_bind_eq, ofP_some, ofP_none, sat_of_eq, st_nx, st_rt, st_bk, st_ct, st_ex, st_err, st_then, seqP_nx, seqP_rt, seqP_bk, seqP_ct, seqP_ex, st_xSeq, endP_nx, endP_rt, endP_ex, endP_bk, endP_ct, varP_some, varP_none, varP_non, sat_xVar, sat_xC, sat_xOp, sat_xUn, blP_bl, sat_xTB, trP_some, trP_none, sat_xT, sat_xAndT, sat_xOrT, sat_xNotT, sat_xAnd, sat_xOr, sat_xNot, sat_xIf, sat_xNil, sat_xCons, sat_xTup, sat_xLst, sat_xChain, sat_xCall, sat_xCB, sat_xM0, sat_xM, intP_int, sat_xNoP, sat_xPart, sat_xSl, st_xSkip, st_xBrk, st_xCnt, st_xDrop, st_xRet, st_xRetN, st_xIfS, tgP_some, tgP_none, st_xAsg, g_gVar, g_gNil, g_gCons, g_gTup, augP_some, augP_none, st_xAug, parP_two, st_xPar, loopP_nx, loopP_ct, loopP_bk, loopP_rt, loopP_ex, st_xFor, itP_some, itP_none, sat_xIt, sat_xLc, sat_xItA, sat_xYes, sat_xLenSet, oAdd_ii, oSub_ii, oMul_ii, oFdiv_ii, oMod_ii, oNeg_i, oLt_ii, oLe_ii, oGt_ii, oGe_ii, oInt_i, oIx_ti, oIx_qi, oLen_t, oLen_q, oLen_s, atI_0, atI_1, atI_2, atI_3, atI_4, atI_5, atI_6, atI_7, atI_8, atI_9, atI_10, atI_11, atI_12, atI_13, atI_14, List.getElem?_cons_zero, List.getElem?_cons_succ, List.map_cons, List.map_nil, List.cons_append, List.nil_append, List.length_cons, List.length_nil, List.set_cons_zero, List.set_cons_succ, List.replicate, Option.map_some, Option.map_none, Option.bind_some, Option.bind_none, if_true, if_false, Nat.reduceAdd, Nat.reduceSub, Nat.reduceLT, Nat.reduceLeDiff, Nat.reduceEqDiff, Int.reduceLT, Int.reduceLE, Int.reduceNeg, Int.reduceEq, Bool.false_eq_true, Bool.true_eq_false, reduceIte, reduceCtorEq, Bool.not_true, Bool.not_false, decide_eq_true_eq, Nat.zero_lt_succ, and_true, true_and, and_self, and_false, false_and, isi_non_tuple, isi_non_int, isi_non_str, isi_non_bool, isi_non_list, type_non, isi_bl_tuple, isi_bl_int, isi_bl_str, isi_bl_bool, isi_bl_list, type_bl, isi_int_tuple, isi_int_int, isi_int_str, isi_int_bool, isi_int_list, type_int, isi_str_tuple, isi_str_int, isi_str_str, isi_str_bool, isi_str_list, type_str, isi_tup_tuple, isi_tup_int, isi_tup_str, isi_tup_bool, isi_tup_list, type_tup, is_int_int, isn_int_int, is_int_str, isn_int_str, is_int_tuple, isn_int_tuple, is_int_list, isn_int_list, is_int_bool, isn_int_bool, is_str_int, isn_str_int, is_str_str, isn_str_str, is_str_tuple, isn_str_tuple, is_str_list, isn_str_list, is_str_bool, isn_str_bool, is_tuple_int, isn_tuple_int, is_tuple_str, isn_tuple_str, is_tuple_tuple, isn_tuple_tuple, is_tuple_list, isn_tuple_list, is_tuple_bool, isn_tuple_bool, is_list_int, isn_list_int, is_list_str, isn_list_str, is_list_tuple, isn_list_tuple, is_list_list, isn_list_list, is_list_bool, isn_list_bool, is_bool_int, isn_bool_int, is_bool_str, isn_bool_str, is_bool_tuple, isn_bool_tuple, is_bool_list, isn_bool_list, is_bool_bool, isn_bool_bool, is_NoneType_int, isn_NoneType_int, is_NoneType_str, isn_NoneType_str, is_NoneType_tuple, isn_NoneType_tuple, is_NoneType_list, isn_NoneType_list, is_NoneType_bool, isn_NoneType_bool, isN_non, isnN_non, isB_non, isnB_non, isN_bl, isnN_bl, isB_bl, isnB_bl, isN_int, isnN_int, isB_int, isnB_int, isN_str, isnN_str, isB_str, isnB_str, isN_tup, isnN_tup, isB_tup, isnB_tup, eq_non_non, eq_non_bl, ne_non_bl, eq_non_int, ne_non_int, eq_non_str, ne_non_str, eq_bl_non, ne_bl_non, eq_bl_bl, ne_bl_bl, eq_bl_str, ne_bl_str, eq_int_non, ne_int_non, eq_int_int, ne_int_int, eq_int_str, ne_int_str, eq_str_non, ne_str_non, eq_str_bl, ne_str_bl, eq_str_int, ne_str_int, eq_str_str, ne_str_str, isN_ref, isB_ref, tru_bl, tru_int]
  refine draw_spec b2 (by decide) fun v3 S3 w3 x3 k3 b3 => ?_
  try simp only [sat_ok, sat_ex, sat_err, sat_bind_eq, ofP_some, ofP_none, sat_of_eq, st_nx, st_rt, st_bk, st_ct, st_ex, st_err, st_then, seqP_nx, seqP_rt, seqP_bk, seqP_ct, seqP_ex, st_xSeq, endP_nx, endP_rt, endP_ex, endP_bk, endP_ct, varP_some, varP_none, varP_non, sat_xVar, sat_xC, sat_xOp, sat_xUn, blP_bl, sat_xTB, trP_some, trP_none, sat_xT, sat_xAndT, sat_xOrT, sat_xNotT, sat_xAnd, sat_xOr, sat_xNot, sat_xIf, sat_xNil, sat_xCons, sat_xTup, sat_xLst, sat_xChain, sat_xCall, sat_xCB, sat_xM0, sat_xM, intP_int, sat_xNoP, sat_xPart, sat_xSl, st_xSkip, st_xBrk, st_xCnt, st_xDrop, st_xRet, st_xRetN, st_xIfS, tgP_some, tgP_none, st_xAsg, g_gVar, g_gNil, g_gCons, g_gTup, augP_some, augP_none, st_xAug, parP_two, st_xPar, loopP_nx, loopP_ct, loopP_bk, loopP_rt, loopP_ex, st_xFor, itP_some, itP_none, sat_xIt, sat_xLc, sat_xItA, sat_xYes, sat_xLenSet, oAdd_ii, oSub_ii, oMul_ii, oFdiv_ii, oMod_ii, oNeg_i, oLt_ii, oLe_ii, oGt_ii, oGe_ii, oInt_i, oIx_ti, oIx_qi, oLen_t, oLen_q, oLen_s, atI_0, atI_1, atI_2, atI_3, atI_4, atI_5, atI_6, atI_7, atI_8, atI_9, atI_10, atI_11, atI_12, atI_13, atI_14, List.getElem?_cons_zero, List.getElem?_cons_succ, List.map_cons, List.map_nil, List.cons_append, List.nil_append, List.length_cons, List.length_nil, List.set_cons_zero, List.set_cons_succ, List.replicate, Option.map_some, Option.map_none, Option.bind_some, Option.bind_none, if_true, if_false, Nat.reduceAdd, Nat.reduceSub, Nat.reduceLT, Nat.reduceLeDiff, Nat.reduceEqDiff, Int.reduceLT, Int.reduceLE, Int.reduceNeg, Int.reduceEq, Bool.false_eq_true, Bool.true_eq_false, reduceIte, reduceCtorEq, Bool.not_true, Bool.not_false, decide_eq_true_eq, Nat.zero_lt_succ, and_true, true_and, and_self, and_false, false_and, isi_non_tuple, isi_non_int, isi_non_str, isi_non_bool, isi_non_list, type_non, isi_bl_tuple, isi_bl_int, isi_bl_str, isi_bl_bool, isi_bl_list, type_bl, isi_int_tuple, isi_int_int, isi_int_str, isi_int_bool, isi_int_list, type_int, isi_str_tuple, isi_str_int, isi_str_str, isi_str_bool, isi_str_list, type_str, isi_tup_tuple, isi_tup_int, isi_tup_str, isi_tup_bool, isi_tup_list, type_tup, is_int_int, isn_int_int, is_int_str, isn_int_str, is_int_tuple, isn_int_tuple, is_int_list, isn_int_list, is_int_bool, isn_int_bool, is_str_int, isn_str_int, is_str_str, isn_str_str, is_str_tuple, isn_str_tuple, is_str_list, isn_str_list, is_str_bool, isn_str_bool, is_tuple_int, isn_tuple_int, is_tuple_str, isn_tuple_str, is_tuple_tuple, isn_tuple_tuple, is_tuple_list, isn_tuple_list, is_tuple_bool, isn_tuple_bool, is_list_int, isn_list_int, is_list_str, isn_list_str, is_list_tuple, isn_list_tuple, is_list_list, isn_list_list, is_list_bool, isn_list_bool, is_bool_int, isn_bool_int, is_bool_str, isn_bool_str, is_bool_tuple, isn_bool_tuple, is_bool_list, isn_bool_list, is_bool_bool, isn_bool_bool, is_NoneType_int, isn_NoneType_int, is_NoneType_str, isn_NoneType_str, is_NoneType_tuple, isn_NoneType_tuple, is_NoneType_list, isn_NoneType_list, is_NoneType_bool, isn_NoneType_bool, isN_non, isnN_non, isB_non, isnB_non, isN_bl, isnN_bl, isB_bl, isnB_bl, isN_int, isnN_int, isB_int, isnB_int, isN_str, isnN_str, isB_str, isnB_str, isN_tup, isnN_tup, isB_tup, isnB_tup, eq_non_non, eq_non_bl, ne_non_bl, eq_non_int, ne_non_int, eq_non_str, ne_non_str, eq_bl_non, ne_bl_non, eq_bl_bl, ne_bl_bl, eq_bl_str, ne_bl_str, eq_int_non, ne_int_non, eq_int_int, ne_int_int, eq_int_str, ne_int_str, eq_str_non, ne_str_non, eq_str_bl, ne_str_bl, eq_str_int, ne_str_int, eq_str_str, ne_str_str, isN_ref, isB_ref, tru_bl, tru_int]
  refine ⟨by rw [z]; decide, pick_pl (p := Or0) b3 rfl (Nat.zero_lt_succ _) (by repeat (first | exact pl_nil | refine pl_cons (by first | exact Or0.int (by omega) (by omega) | exact Or0.str (by decide) | assumption) ?_)) fun u4 p4 S4 k4 b4 => ?_⟩
  try simp only [sat_ok, sat_ex, sat_err, sat_bind_eq, ofP_some, ofP_none, sat_of_eq, st_nx, st_rt, st_bk, st_ct, st_ex, st_err, st_then, seqP_nx, seqP_rt, seqP_bk, seqP_ct, seqP_ex, st_xSeq, endP_nx, endP_rt, endP_ex, endP_bk, endP_ct, varP_some, varP_none, varP_non, sat_xVar, sat_xC, sat_xOp, sat_xUn, blP_bl, sat_xTB, trP_some, trP_none, sat_xT, sat_xAndT, sat_xOrT, sat_xNotT, sat_xAnd, sat_xOr, sat_xNot, sat_xIf, sat_xNil, sat_xCons, sat_xTup, sat_xLst, sat_xChain, sat_xCall, sat_xCB, sat_xM0, sat_xM, intP_int, sat_xNoP, sat_xPart, sat_xSl, st_xSkip, st_xBrk, st_xCnt, st_xDrop, st_xRet, st_xRetN, st_xIfS, tgP_some, tgP_none, st_xAsg, g_gVar, g_gNil, g_gCons, g_gTup, augP_some, augP_none, st_xAug, parP_two, st_xPar, loopP_nx, loopP_ct, loopP_bk, loopP_rt, loopP_ex, st_xFor, itP_some, itP_none, sat_xIt, sat_xLc, sat_xItA, sat_xYes, sat_xLenSet, oAdd_ii, oSub_ii, oMul_ii, oFdiv_ii, oMod_ii, oNeg_i, oLt_ii, oLe_ii, oGt_ii, oGe_ii, oInt_i, oIx_ti, oIx_qi, oLen_t, oLen_q, oLen_s, atI_0, atI_1, atI_2, atI_3, atI_4, atI_5, atI_6, atI_7, atI_8, atI_9, atI_10, atI_11, atI_12, atI_13, atI_14, List.getElem?_cons_zero, List.getElem?_cons_succ, List.map_cons, List.map_nil, List.cons_append, List.nil_append, List.length_cons, List.length_nil, List.set_cons_zero, List.set_cons_succ, List.replicate, Option.map_some, Option.map_none, Option.bind_some, Option.bind_none, if_true, if_false, Nat.reduceAdd, Nat.reduceSub, Nat.reduceLT, Nat.reduceLeDiff, Nat.reduceEqDiff, Int.reduceLT, Int.reduceLE, Int.reduceNeg, Int.reduceEq, Bool.false_eq_true, Bool.true_eq_false, reduceIte, reduceCtorEq, Bool.not_true, Bool.not_false, decide_eq_true_eq, Nat.zero_lt_succ, and_true, true_and, and_self, and_false, false_and, isi_non_tuple, isi_non_int, isi_non_str, isi_non_bool, isi_non_list, type_non, isi_bl_tuple, isi_bl_int, isi_bl_str, isi_bl_bool, isi_bl_list, type_bl, isi_int_tuple, isi_int_int, isi_int_str, isi_int_bool, isi_int_list, type_int, isi_str_tuple, isi_str_int, isi_str_str, isi_str_bool, isi_str_list, type_str, isi_tup_tuple, isi_tup_int, isi_tup_str, isi_tup_bool, isi_tup_list, type_tup, is_int_int, isn_int_int, is_int_str, isn_int_str, is_int_tuple, isn_int_tuple, is_int_list, isn_int_list, is_int_bool, isn_int_bool, is_str_int, isn_str_int, is_str_str, isn_str_str, is_str_tuple, isn_str_tuple, is_str_list, isn_str_list, is_str_bool, isn_str_bool, is_tuple_int, isn_tuple_int, is_tuple_str, isn_tuple_str, is_tuple_tuple, isn_tuple_tuple, is_tuple_list, isn_tuple_list, is_tuple_bool, isn_tuple_bool, is_list_int, isn_list_int, is_list_str, isn_list_str, is_list_tuple, isn_list_tuple, is_list_list, isn_list_list, is_list_bool, isn_list_bool, is_bool_int, isn_bool_int, is_bool_str, isn_bool_str, is_bool_tuple, isn_bool_tuple, is_bool_list, isn_bool_list, is_bool_bool, isn_bool_bool, is_NoneType_int, isn_NoneType_int, is_NoneType_str, isn_NoneType_str, is_NoneType_tuple, isn_NoneType_tuple, is_NoneType_list, isn_NoneType_list, is_NoneType_bool, isn_NoneType_bool, isN_non, isnN_non, isB_non, isnB_non, isN_bl, isnN_bl, isB_bl, isnB_bl, isN_int, isnN_int, isB_int, isnB_int, isN_str, isnN_str, isB_str, isnB_str, isN_tup, isnN_tup, isB_tup, isnB_tup, eq_non_non, eq_non_bl, ne_non_bl, eq_non_int, ne_non_int, eq_non_str, ne_non_str, eq_bl_non, ne_bl_non, eq_bl_bl, ne_bl_bl, eq_bl_str, ne_bl_str, eq_int_non, ne_int_non, eq_int_int, ne_int_int, eq_int_str, ne_int_str, eq_str_non, ne_str_non, eq_str_bl, ne_str_bl, eq_str_int, ne_str_int, eq_str_str, ne_str_str, isN_ref, isB_ref, tru_bl, tru_int]
  refine draw_spec b4 (by decide) fun v5 S5 w5 x5 k5 b5 => ?_
  try simp only [sat_ok, sat_ex, sat_err, sat_bind_eq, ofP_some, ofP_none, sat_of_eq, st_nx, st_rt, st_bk, st_ct, st_ex, st_err, st_then, seqP_nx, seqP_rt, seqP_bk, seqP_ct, seqP_ex, st_xSeq, endP_nx, endP_rt, endP_ex, endP_bk, endP_ct, varP_some, varP_none, varP_non, sat_xVar, sat_xC, sat_xOp, sat_xUn, blP_bl, sat_xTB, trP_some, trP_none, sat_xT, sat_xAndT, sat_xOrT, sat_xNotT, sat_xAnd, sat_xOr, sat_xNot, sat_xIf, sat_xNil, sat_xCons, sat_xTup, sat_xLst, sat_xChain, sat_xCall, sat_xCB, sat_xM0, sat_xM, intP_int, sat_xNoP, sat_xPart, sat_xSl, st_xSkip, st_xBrk, st_xCnt, st_xDrop, st_xRet, st_xRetN, st_xIfS, tgP_some, tgP_none, st_xAsg, g_gVar, g_gNil, g_gCons, g_gTup, augP_some, augP_none, st_xAug, parP_two, st_xPar, loopP_nx, loopP_ct, loopP_bk, loopP_rt, loopP_ex, st_xFor, itP_some, itP_none, sat_xIt, sat_xLc, sat_xItA, sat_xYes, sat_xLenSet, oAdd_ii, oSub_ii, oMul_ii, oFdiv_ii, oMod_ii, oNeg_i, oLt_ii, oLe_ii, oGt_ii, oGe_ii, oInt_i, oIx_ti, oIx_qi, oLen_t, oLen_q, oLen_s, atI_0, atI_1, atI_2, atI_3, atI_4, atI_5, atI_6, atI_7, atI_8, atI_9, atI_10, atI_11, atI_12, atI_13, atI_14, List.getElem?_cons_zero, List.getElem?_cons_succ, List.map_cons, List.map_nil, List.cons_append, List.nil_append, List.length_cons, List.length_nil, List.set_cons_zero, List.set_cons_succ, List.replicate, Option.map_some, Option.map_none, Option.bind_some, Option.bind_none, if_true, if_false, Nat.reduceAdd, Nat.reduceSub, Nat.reduceLT, Nat.reduceLeDiff, Nat.reduceEqDiff, Int.reduceLT, Int.reduceLE, Int.reduceNeg, Int.reduceEq, Bool.false_eq_true, Bool.true_eq_false, reduceIte, reduceCtorEq, Bool.not_true, Bool.not_false, decide_eq_true_eq, Nat.zero_lt_succ, and_true, true_and, and_self, and_false, false_and, isi_non_tuple, isi_non_int, isi_non_str, isi_non_bool, isi_non_list, type_non, isi_bl_tuple, isi_bl_int, isi_bl_str, isi_bl_bool, isi_bl_list, type_bl, isi_int_tuple, isi_int_int, isi_int_str, isi_int_bool, isi_int_list, type_int, isi_str_tuple, isi_str_int, isi_str_str, isi_str_bool, isi_str_list, type_str, isi_tup_tuple, isi_tup_int, isi_tup_str, isi_tup_bool, isi_tup_list, type_tup, is_int_int, isn_int_int, is_int_str, isn_int_str, is_int_tuple, isn_int_tuple, is_int_list, isn_int_list, is_int_bool, isn_int_bool, is_str_int, isn_str_int, is_str_str, isn_str_str, is_str_tuple, isn_str_tuple, is_str_list, isn_str_list, is_str_bool, isn_str_bool, is_tuple_int, isn_tuple_int, is_tuple_str, isn_tuple_str, is_tuple_tuple, isn_tuple_tuple, is_tuple_list, isn_tuple_list, is_tuple_bool, isn_tuple_bool, is_list_int, isn_list_int, is_list_str, isn_list_str, is_list_tuple, isn_list_tuple, is_list_list, isn_list_list, is_list_bool, isn_list_bool, is_bool_int, isn_bool_int, is_bool_str, isn_bool_str, is_bool_tuple, isn_bool_tuple, is_bool_list, isn_bool_list, is_bool_bool, isn_bool_bool, is_NoneType_int, isn_NoneType_int, is_NoneType_str, isn_NoneType_str, is_NoneType_tuple, isn_NoneType_tuple, is_NoneType_list, isn_NoneType_list, is_NoneType_bool, isn_NoneType_bool, isN_non, isnN_non, isB_non, isnB_non, isN_bl, isnN_bl, isB_bl, isnB_bl, isN_int, isnN_int, isB_int, isnB_int, isN_str, isnN_str, isB_str, isnB_str, isN_tup, isnN_tup, isB_tup, isnB_tup, eq_non_non, eq_non_bl, ne_non_bl, eq_non_int, ne_non_int, eq_non_str, ne_non_str, eq_bl_non, ne_bl_non, eq_bl_bl, ne_bl_bl, eq_bl_str, ne_bl_str, eq_int_non, ne_int_non, eq_int_int, ne_int_int, eq_int_str, ne_int_str, eq_str_non, ne_str_non, eq_str_bl, ne_str_bl, eq_str_int, ne_str_int, eq_str_str, ne_str_str, isN_ref, isB_ref, tru_bl, tru_int]
  refine ⟨by rw [z]; decide, pick_pl (p := Or0) b5 rfl (Nat.zero_lt_succ _) (by repeat (first | exact pl_nil | refine pl_cons (by first | exact Or0.int (by omega) (by omega) | exact Or0.str (by decide) | assumption) ?_)) fun u6 p6 S6 k6 b6 => ?_⟩
  try simp only [sat_ok, sat_ex, sat_err, sat_bind_eq, ofP_some, ofP_none, sat_of_eq, st_nx, st_rt, st_bk, st_ct, st_ex, st_err, st_then, seqP_nx, seqP_rt, seqP_bk, seqP_ct, seqP_ex, st_xSeq, endP_nx, endP_rt, endP_ex, endP_bk, endP_ct, varP_some, varP_none, varP_non, sat_xVar, sat_xC, sat_xOp, sat_xUn, blP_bl, sat_xTB, trP_some, trP_none, sat_xT, sat_xAndT, sat_xOrT, sat_xNotT, sat_xAnd, sat_xOr, sat_xNot, sat_xIf, sat_xNil, sat_xCons, sat_xTup, sat_xLst, sat_xChain, sat_xCall, sat_xCB, sat_xM0, sat_xM, intP_int, sat_xNoP, sat_xPart, sat_xSl, st_xSkip, st_xBrk, st_xCnt, st_xDrop, st_xRet, st_xRetN, st_xIfS, tgP_some, tgP_none, st_xAsg, g_gVar, g_gNil, g_gCons, g_gTup, augP_some, augP_none, st_xAug, parP_two, st_xPar, loopP_nx, loopP_ct, loopP_bk, loopP_rt, loopP_ex, st_xFor, itP_some, itP_none, sat_xIt, sat_xLc, sat_xItA, sat_xYes, sat_xLenSet, oAdd_ii, oSub_ii, oMul_ii, oFdiv_ii, oMod_ii, oNeg_i, oLt_ii, oLe_ii, oGt_ii, oGe_ii, oInt_i, oIx_ti, oIx_qi, oLen_t, oLen_q, oLen_s, atI_0, atI_1, atI_2, atI_3, atI_4, atI_5, atI_6, atI_7, atI_8, atI_9, atI_10, atI_11, atI_12, atI_13, atI_14, List.getElem?_cons_zero, List.getElem?_cons_succ, List.map_cons, List.map_nil, List.cons_append, List.nil_append, List.length_cons, List.length_nil, List.set_cons_zero, List.set_cons_succ, List.replicate, Option.map_some, Option.map_none, Option.bind_some, Option.bind_none, if_true, if_false, Nat.reduceAdd, Nat.reduceSub, Nat.reduceLT, Nat.reduceLeDiff, Nat.reduceEqDiff, Int.reduceLT, Int.reduceLE, Int.reduceNeg, Int.reduceEq, Bool.false_eq_true, Bool.true_eq_false, reduceIte, reduceCtorEq, Bool.not_true, Bool.not_false, decide_eq_true_eq, Nat.zero_lt_succ, and_true, true_and, and_self, and_false, false_and, isi_non_tuple, isi_non_int, isi_non_str, isi_non_bool, isi_non_list, type_non, isi_bl_tuple, isi_bl_int, isi_bl_str, isi_bl_bool, isi_bl_list, type_bl, isi_int_tuple, isi_int_int, isi_int_str, isi_int_bool, isi_int_list, type_int, isi_str_tuple, isi_str_int, isi_str_str, isi_str_bool, isi_str_list, type_str, isi_tup_tuple, isi_tup_int, isi_tup_str, isi_tup_bool, isi_tup_list, type_tup, is_int_int, isn_int_int, is_int_str, isn_int_str, is_int_tuple, isn_int_tuple, is_int_list, isn_int_list, is_int_bool, isn_int_bool, is_str_int, isn_str_int, is_str_str, isn_str_str, is_str_tuple, isn_str_tuple, is_str_list, isn_str_list, is_str_bool, isn_str_bool, is_tuple_int, isn_tuple_int, is_tuple_str, isn_tuple_str, is_tuple_tuple, isn_tuple_tuple, is_tuple_list, isn_tuple_list, is_tuple_bool, isn_tuple_bool, is_list_int, isn_list_int, is_list_str, isn_list_str, is_list_tuple, isn_list_tuple, is_list_list, isn_list_list, is_list_bool, isn_list_bool, is_bool_int, isn_bool_int, is_bool_str, isn_bool_str, is_bool_tuple, isn_bool_tuple, is_bool_list, isn_bool_list, is_bool_bool, isn_bool_bool, is_NoneType_int, isn_NoneType_int, is_NoneType_str, isn_NoneType_str, is_NoneType_tuple, isn_NoneType_tuple, is_NoneType_list, isn_NoneType_list, is_NoneType_bool, isn_NoneType_bool, isN_non, isnN_non, isB_non, isnB_non, isN_bl, isnN_bl, isB_bl, isnB_bl, isN_int, isnN_int, isB_int, isnB_int, isN_str, isnN_str, isB_str, isnB_str, isN_tup, isnN_tup, isB_tup, isnB_tup, eq_non_non, eq_non_bl, ne_non_bl, eq_non_int, ne_non_int, eq_non_str, ne_non_str, eq_bl_non, ne_bl_non, eq_bl_bl, ne_bl_bl, eq_bl_str, ne_bl_str, eq_int_non, ne_int_non, eq_int_int, ne_int_int, eq_int_str, ne_int_str, eq_str_non, ne_str_non, eq_str_bl, ne_str_bl, eq_str_int, ne_str_int, eq_str_str, ne_str_str, isN_ref, isB_ref, tru_bl, tru_int]
  refine draw_spec b6 (by decide) fun v7 S7 w7 x7 k7 b7 => ?_
  try simp only [sat_ok, sat_ex, sat_err, sat_bind_eq, ofP_some, ofP_none, sat_of_eq, st_nx, st_rt, st_bk, st_ct, st_ex, st_err, st_then, seqP_nx, seqP_rt, seqP_bk, seqP_ct, seqP_ex, st_xSeq, endP_nx, endP_rt, endP_ex, endP_bk, endP_ct, varP_some, varP_none, varP_non, sat_xVar, sat_xC, sat_xOp, sat_xUn, blP_bl, sat_xTB, trP_some, trP_none, sat_xT, sat_xAndT, sat_xOrT, sat_xNotT, sat_xAnd, sat_xOr, sat_xNot, sat_xIf, sat_xNil, sat_xCons, sat_xTup, sat_xLst, sat_xChain, sat_xCall, sat_xCB, sat_xM0, sat_xM, intP_int, sat_xNoP, sat_xPart, sat_xSl, st_xSkip, st_xBrk, st_xCnt, st_xDrop, st_xRet, st_xRetN, st_xIfS, tgP_some, tgP_none, st_xAsg, g_gVar, g_gNil, g_gCons, g_gTup, augP_some, augP_none, st_xAug, parP_two, st_xPar, loopP_nx, loopP_ct, loopP_bk, loopP_rt, loopP_ex, st_xFor, itP_some, itP_none, sat_xIt, sat_xLc, sat_xItA, sat_xYes, sat_xLenSet, oAdd_ii, oSub_ii, oMul_ii, oFdiv_ii, oMod_ii, oNeg_i, oLt_ii, oLe_ii, oGt_ii, oGe_ii, oInt_i, oIx_ti, oIx_qi, oLen_t, oLen_q, oLen_s, atI_0, atI_1, atI_2, atI_3, atI_4, atI_5, atI_6, atI_7, atI_8, atI_9, atI_10, atI_11, atI_12, atI_13, atI_14, List.getElem?_cons_zero, List.getElem?_cons_succ, List.map_cons, List.map_nil, List.cons_append, List.nil_append, List.length_cons, List.length_nil, List.set_cons_zero, List.set_cons_succ, List.replicate, Option.map_some, Option.map_none, Option.bind_some, Option.bind_none, if_true, if_false, Nat.reduceAdd, Nat.reduceSub, Nat.reduceLT, Nat.reduceLeDiff, Nat.reduceEqDiff, Int.reduceLT, Int.reduceLE, Int.reduceNeg, Int.reduceEq, Bool.false_eq_true, Bool.true_eq_false, reduceIte, reduceCtorEq, Bool.not_true, Bool.not_false, decide_eq_true_eq, Nat.zero_lt_succ, and_true, true_and, and_self, and_false, false_and, isi_non_tuple, isi_non_int, isi_non_str, isi_non_bool, isi_non_list, type_non, isi_bl_tuple, isi_bl_int, isi_bl_str, isi_bl_bool, isi_bl_list, type_bl, isi_int_tuple, isi_int_int, isi_int_str, isi_int_bool, isi_int_list, type_int, isi_str_tuple, isi_str_int, isi_str_str, isi_str_bool, isi_str_list, type_str, isi_tup_tuple, isi_tup_int, isi_tup_str, isi_tup_bool, isi_tup_list, type_tup, is_int_int, isn_int_int, is_int_str, isn_int_str, is_int_tuple, isn_int_tuple, is_int_list, isn_int_list, is_int_bool, isn_int_bool, is_str_int, isn_str_int, is_str_str, isn_str_str, is_str_tuple, isn_str_tuple, is_str_list, isn_str_list, is_str_bool, isn_str_bool, is_tuple_int, isn_tuple_int, is_tuple_str, isn_tuple_str, is_tuple_tuple, isn_tuple_tuple, is_tuple_list, isn_tuple_list, is_tuple_bool, isn_tuple_bool, is_list_int, isn_list_int, is_list_str, isn_list_str, is_list_tuple, isn_list_tuple, is_list_list, isn_list_list, is_list_bool, isn_list_bool, is_bool_int, isn_bool_int, is_bool_str, isn_bool_str, is_bool_tuple, isn_bool_tuple, is_bool_list, isn_bool_list, is_bool_bool, isn_bool_bool, is_NoneType_int, isn_NoneType_int, is_NoneType_str, isn_NoneType_str, is_NoneType_tuple, isn_NoneType_tuple, is_NoneType_list, isn_NoneType_list, is_NoneType_bool, isn_NoneType_bool, isN_non, isnN_non, isB_non, isnB_non, isN_bl, isnN_bl, isB_bl, isnB_bl, isN_int, isnN_int, isB_int, isnB_int, isN_str, isnN_str, isB_str, isnB_str, isN_tup, isnN_tup, isB_tup, isnB_tup, eq_non_non, eq_non_bl, ne_non_bl, eq_non_int, ne_non_int, eq_non_str, ne_non_str, eq_bl_non, ne_bl_non, eq_bl_bl, ne_bl_bl, eq_bl_str, ne_bl_str, eq_int_non, ne_int_non, eq_int_int, ne_int_int, eq_int_str, ne_int_str, eq_str_non, ne_str_non, eq_str_bl, ne_str_bl, eq_str_int, ne_str_int, eq_str_str, ne_str_str, isN_ref, isB_ref, tru_bl, tru_int]
  refine ⟨by rw [z]; decide, pick_pl (p := Or0) b7 rfl (Nat.zero_lt_succ _) (by repeat (first | exact pl_nil | refine pl_cons (by first | exact Or0.int (by omega) (by omega) | exact Or0.str (by decide) | assumption) ?_)) fun u8 p8 S8 k8 b8 => ?_⟩
  try simp only [sat_ok, sat_ex, sat_err, sat_bind_eq, ofP_some, ofP_none, sat_of_eq, st_nx, st_rt, st_bk, st_ct, st_ex, st_err, st_then, seqP_nx, seqP_rt, seqP_bk, seqP_ct, seqP_ex, st_xSeq, endP_nx, endP_rt, endP_ex, endP_bk, endP_ct, varP_some, varP_none, varP_non, sat_xVar, sat_xC, sat_xOp, sat_xUn, blP_bl, sat_xTB, trP_some, trP_none, sat_xT, sat_xAndT, sat_xOrT, sat_xNotT, sat_xAnd, sat_xOr, sat_xNot, sat_xIf, sat_xNil, sat_xCons, sat_xTup, sat_xLst, sat_xChain, sat_xCall, sat_xCB, sat_xM0, sat_xM, intP_int, sat_xNoP, sat_xPart, sat_xSl, st_xSkip, st_xBrk, st_xCnt, st_xDrop, st_xRet, st_xRetN, st_xIfS, tgP_some, tgP_none, st_xAsg, g_gVar, g_gNil, g_gCons, g_gTup, augP_some, augP_none, st_xAug, parP_two, st_xPar, loopP_nx, loopP_ct, loopP_bk, loopP_rt, loopP_ex, st_xFor, itP_some, itP_none, sat_xIt, sat_xLc, sat_xItA, sat_xYes, sat_xLenSet, oAdd_ii, oSub_ii, oMul_ii, oFdiv_ii, oMod_ii, oNeg_i, oLt_ii, oLe_ii, oGt_ii, oGe_ii, oInt_i, oIx_ti, oIx_qi, oLen_t, oLen_q, oLen_s, atI_0, atI_1, atI_2, atI_3, atI_4, atI_5, atI_6, atI_7, atI_8, atI_9, atI_10, atI_11, atI_12, atI_13, atI_14, List.getElem?_cons_zero, List.getElem?_cons_succ, List.map_cons, List.map_nil, List.cons_append, List.nil_append, List.length_cons, List.length_nil, List.set_cons_zero, List.set_cons_succ, List.replicate, Option.map_some, Option.map_none, Option.bind_some, Option.bind_none, if_true, if_false, Nat.reduceAdd, Nat.reduceSub, Nat.reduceLT, Nat.reduceLeDiff, Nat.reduceEqDiff, Int.reduceLT, Int.reduceLE, Int.reduceNeg, Int.reduceEq, Bool.false_eq_true, Bool.true_eq_false, reduceIte, reduceCtorEq, Bool.not_true, Bool.not_false, decide_eq_true_eq, Nat.zero_lt_succ, and_true, true_and, and_self, and_false, false_and, isi_non_tuple, isi_non_int, isi_non_str, isi_non_bool, isi_non_list, type_non, isi_bl_tuple, isi_bl_int, isi_bl_str, isi_bl_bool, isi_bl_list, type_bl, isi_int_tuple, isi_int_int, isi_int_str, isi_int_bool, isi_int_list, type_int, isi_str_tuple, isi_str_int, isi_str_str, isi_str_bool, isi_str_list, type_str, isi_tup_tuple, isi_tup_int, isi_tup_str, isi_tup_bool, isi_tup_list, type_tup, is_int_int, isn_int_int, is_int_str, isn_int_str, is_int_tuple, isn_int_tuple, is_int_list, isn_int_list, is_int_bool, isn_int_bool, is_str_int, isn_str_int, is_str_str, isn_str_str, is_str_tuple, isn_str_tuple, is_str_list, isn_str_list, is_str_bool, isn_str_bool, is_tuple_int, isn_tuple_int, is_tuple_str, isn_tuple_str, is_tuple_tuple, isn_tuple_tuple, is_tuple_list, isn_tuple_list, is_tuple_bool, isn_tuple_bool, is_list_int, isn_list_int, is_list_str, isn_list_str, is_list_tuple, isn_list_tuple, is_list_list, isn_list_list, is_list_bool, isn_list_bool, is_bool_int, isn_bool_int, is_bool_str, isn_bool_str, is_bool_tuple, isn_bool_tuple, is_bool_list, isn_bool_list, is_bool_bool, isn_bool_bool, is_NoneType_int, isn_NoneType_int, is_NoneType_str, isn_NoneType_str, is_NoneType_tuple, isn_NoneType_tuple, is_NoneType_list, isn_NoneType_list, is_NoneType_bool, isn_NoneType_bool, isN_non, isnN_non, isB_non, isnB_non, isN_bl, isnN_bl, isB_bl, isnB_bl, isN_int, isnN_int, isB_int, isnB_int, isN_str, isnN_str, isB_str, isnB_str, isN_tup, isnN_tup, isB_tup, isnB_tup, eq_non_non, eq_non_bl, ne_non_bl, eq_non_int, ne_non_int, eq_non_str, ne_non_str, eq_bl_non, ne_bl_non, eq_bl_bl, ne_bl_bl, eq_bl_str, ne_bl_str, eq_int_non, ne_int_non, eq_int_int, ne_int_int, eq_int_str, ne_int_str, eq_str_non, ne_str_non, eq_str_bl, ne_str_bl, eq_str_int, ne_str_int, eq_str_str, ne_str_str, isN_ref, isB_ref, tru_bl, tru_int]
  refine wide_spec b8 (by decide) fun v9 S9 w9 x9 k9 b9 => ?_
  try simp only [sat_ok, sat_ex, sat_err, sat_bind_eq, ofP_some, ofP_none, sat_of_eq, st_nx, st_rt, st_bk, st_ct, st_ex, st_err, st_then, seqP_nx, seqP_rt, seqP_bk, seqP_ct, seqP_ex, st_xSeq, endP_nx, endP_rt, endP_ex, endP_bk, endP_ct, varP_some, varP_none, varP_non, sat_xVar, sat_xC, sat_xOp, sat_xUn, blP_bl, sat_xTB, trP_some, trP_none, sat_xT, sat_xAndT, sat_xOrT, sat_xNotT, sat_xAnd, sat_xOr, sat_xNot, sat_xIf, sat_xNil, sat_xCons, sat_xTup, sat_xLst, sat_xChain, sat_xCall, sat_xCB, sat_xM0, sat_xM, intP_int, sat_xNoP, sat_xPart, sat_xSl, st_xSkip, st_xBrk, st_xCnt, st_xDrop, st_xRet, st_xRetN, st_xIfS, tgP_some, tgP_none, st_xAsg, g_gVar, g_gNil, g_gCons, g_gTup, augP_some, augP_none, st_xAug, parP_two, st_xPar, loopP_nx, loopP_ct, loopP_bk, loopP_rt, loopP_ex, st_xFor, itP_some, itP_none, sat_xIt, sat_xLc, sat_xItA, sat_xYes, sat_xLenSet, oAdd_ii, oSub_ii, oMul_ii, oFdiv_ii, oMod_ii, oNeg_i, oLt_ii, oLe_ii, oGt_ii, oGe_ii, oInt_i, oIx_ti, oIx_qi, oLen_t, oLen_q, oLen_s, atI_0, atI_1, atI_2, atI_3, atI_4, atI_5, atI_6, atI_7, atI_8, atI_9, atI_10, atI_11, atI_12, atI_13, atI_14, List.getElem?_cons_zero, List.getElem?_cons_succ, List.map_cons, List.map_nil, List.cons_append, List.nil_append, List.length_cons, List.length_nil, List.set_cons_zero, List.set_cons_succ, List.replicate, Option.map_some, Option.map_none, Option.bind_some, Option.bind_none, if_true, if_false, Nat.reduceAdd, Nat.reduceSub, Nat.reduceLT, Nat.reduceLeDiff, Nat.reduceEqDiff, Int.reduceLT, Int.reduceLE, Int.reduceNeg, Int.reduceEq, Bool.false_eq_true, Bool.true_eq_false, reduceIte, reduceCtorEq, Bool.not_true, Bool.not_false, decide_eq_true_eq, Nat.zero_lt_succ, and_true, true_and, and_self, and_false, false_and, isi_non_tuple, isi_non_int, isi_non_str, isi_non_bool, isi_non_list, type_non, isi_bl_tuple, isi_bl_int, isi_bl_str, isi_bl_bool, isi_bl_list, type_bl, isi_int_tuple, isi_int_int, isi_int_str, isi_int_bool, isi_int_list, type_int, isi_str_tuple, isi_str_int, isi_str_str, isi_str_bool, isi_str_list, type_str, isi_tup_tuple, isi_tup_int, isi_tup_str, isi_tup_bool, isi_tup_list, type_tup, is_int_int, isn_int_int, is_int_str, isn_int_str, is_int_tuple, isn_int_tuple, is_int_list, isn_int_list, is_int_bool, isn_int_bool, is_str_int, isn_str_int, is_str_str, isn_str_str, is_str_tuple, isn_str_tuple, is_str_list, isn_str_list, is_str_bool, isn_str_bool, is_tuple_int, isn_tuple_int, is_tuple_str, isn_tuple_str, is_tuple_tuple, isn_tuple_tuple, is_tuple_list, isn_tuple_list, is_tuple_bool, isn_tuple_bool, is_list_int, isn_list_int, is_list_str, isn_list_str, is_list_tuple, isn_list_tuple, is_list_list, isn_list_list, is_list_bool, isn_list_bool, is_bool_int, isn_bool_int, is_bool_str, isn_bool_str, is_bool_tuple, isn_bool_tuple, is_bool_list, isn_bool_list, is_bool_bool, isn_bool_bool, is_NoneType_int, isn_NoneType_int, is_NoneType_str, isn_NoneType_str, is_NoneType_tuple, isn_NoneType_tuple, is_NoneType_list, isn_NoneType_list, is_NoneType_bool, isn_NoneType_bool, isN_non, isnN_non, isB_non, isnB_non, isN_bl, isnN_bl, isB_bl, isnB_bl, isN_int, isnN_int, isB_int, isnB_int, isN_str, isnN_str, isB_str, isnB_str, isN_tup, isnN_tup, isB_tup, isnB_tup, eq_non_non, eq_non_bl, ne_non_bl, eq_non_int, ne_non_int, eq_non_str, ne_non_str, eq_bl_non, ne_bl_non, eq_bl_bl, ne_bl_bl, eq_bl_str, ne_bl_str, eq_int_non, ne_int_non, eq_int_int, ne_int_int, eq_int_str, ne_int_str, eq_str_non, ne_str_non, eq_str_bl, ne_str_bl, eq_str_int, ne_str_int, eq_str_str, ne_str_str, isN_ref, isB_ref, tru_bl, tru_int]
  refine ⟨by rw [z]; decide, pick_pl (p := Or0) b9 rfl (Nat.zero_lt_succ _) (by repeat (first | exact pl_nil | refine pl_cons (by first | exact Or0.int (by omega) (by omega) | exact Or0.str (by decide) | assumption) ?_)) fun u10 p10 S10 k10 b10 => ?_⟩
  try simp only [sat_ok, sat_ex, sat_err, sat_bind_eq, ofP_some, ofP_none, sat_of_eq, st_nx, st_rt, st_bk, st_ct, st_ex, st_err, st_then, seqP_nx, seqP_rt, seqP_bk, seqP_ct, seqP_ex, st_xSeq, endP_nx, endP_rt, endP_ex, endP_bk, endP_ct, varP_some, varP_none, varP_non, sat_xVar, sat_xC, sat_xOp, sat_xUn, blP_bl, sat_xTB, trP_some, trP_none, sat_xT, sat_xAndT, sat_xOrT, sat_xNotT, sat_xAnd, sat_xOr, sat_xNot, sat_xIf, sat_xNil, sat_xCons, sat_xTup, sat_xLst, sat_xChain, sat_xCall, sat_xCB, sat_xM0, sat_xM, intP_int, sat_xNoP, sat_xPart, sat_xSl, st_xSkip, st_xBrk, st_xCnt, st_xDrop, st_xRet, st_xRetN, st_xIfS, tgP_some, tgP_none, st_xAsg, g_gVar, g_gNil, g_gCons, g_gTup, augP_some, augP_none, st_xAug, parP_two, st_xPar, loopP_nx, loopP_ct, loopP_bk, loopP_rt, loopP_ex, st_xFor, itP_some, itP_none, sat_xIt, sat_xLc, sat_xItA, sat_xYes, sat_xLenSet, oAdd_ii, oSub_ii, oMul_ii, oFdiv_ii, oMod_ii, oNeg_i, oLt_ii, oLe_ii, oGt_ii, oGe_ii, oInt_i, oIx_ti, oIx_qi, oLen_t, oLen_q, oLen_s, atI_0, atI_1, atI_2, atI_3, atI_4, atI_5, atI_6, atI_7, atI_8, atI_9, atI_10, atI_11, atI_12, atI_13, atI_14, List.getElem?_cons_zero, List.getElem?_cons_succ, List.map_cons, List.map_nil, List.cons_append, List.nil_append, List.length_cons, List.length_nil, List.set_cons_zero, List.set_cons_succ, List.replicate, Option.map_some, Option.map_none, Option.bind_some, Option.bind_none, if_true, if_false, Nat.reduceAdd, Nat.reduceSub, Nat.reduceLT, Nat.reduceLeDiff, Nat.reduceEqDiff, Int.reduceLT, Int.reduceLE, Int.reduceNeg, Int.reduceEq, Bool.false_eq_true, Bool.true_eq_false, reduceIte, reduceCtorEq, Bool.not_true, Bool.not_false, decide_eq_true_eq, Nat.zero_lt_succ, and_true, true_and, and_self, and_false, false_and, isi_non_tuple, isi_non_int, isi_non_str, isi_non_bool, isi_non_list, type_non, isi_bl_tuple, isi_bl_int, isi_bl_str, isi_bl_bool, isi_bl_list, type_bl, isi_int_tuple, isi_int_int, isi_int_str, isi_int_bool, isi_int_list, type_int, isi_str_tuple, isi_str_int, isi_str_str, isi_str_bool, isi_str_list, type_str, isi_tup_tuple, isi_tup_int, isi_tup_str, isi_tup_bool, isi_tup_list, type_tup, is_int_int, isn_int_int, is_int_str, isn_int_str, is_int_tuple, isn_int_tuple, is_int_list, isn_int_list, is_int_bool, isn_int_bool, is_str_int, isn_str_int, is_str_str, isn_str_str, is_str_tuple, isn_str_tuple, is_str_list, isn_str_list, is_str_bool, isn_str_bool, is_tuple_int, isn_tuple_int, is_tuple_str, isn_tuple_str, is_tuple_tuple, isn_tuple_tuple, is_tuple_list, isn_tuple_list, is_tuple_bool, isn_tuple_bool, is_list_int, isn_list_int, is_list_str, isn_list_str, is_list_tuple, isn_list_tuple, is_list_list, isn_list_list, is_list_bool, isn_list_bool, is_bool_int, isn_bool_int, is_bool_str, isn_bool_str, is_bool_tuple, isn_bool_tuple, is_bool_list, isn_bool_list, is_bool_bool, isn_bool_bool, is_NoneType_int, isn_NoneType_int, is_NoneType_str, isn_NoneType_str, is_NoneType_tuple, isn_NoneType_tuple, is_NoneType_list, isn_NoneType_list, is_NoneType_bool, isn_NoneType_bool, isN_non, isnN_non, isB_non, isnB_non, isN_bl, isnN_bl, isB_bl, isnB_bl, isN_int, isnN_int, isB_int, isnB_int, isN_str, isnN_str, isB_str, isnB_str, isN_tup, isnN_tup, isB_tup, isnB_tup, eq_non_non, eq_non_bl, ne_non_bl, eq_non_int, ne_non_int, eq_non_str, ne_non_str, eq_bl_non, ne_bl_non, eq_bl_bl, ne_bl_bl, eq_bl_str, ne_bl_str, eq_int_non, ne_int_non, eq_int_int, ne_int_int, eq_int_str, ne_int_str, eq_str_non, ne_str_non, eq_str_bl, ne_str_bl, eq_str_int, ne_str_int, eq_str_str, ne_str_str, isN_ref, isB_ref, tru_bl, tru_int]
  refine ⟨by rw [z]; decide, pick_pl (p := Or0) b10 rfl (Nat.zero_lt_succ _) (by repeat (first | exact pl_nil | refine pl_cons (by first | exact Or0.int (by omega) (by omega) | exact Or0.str (by decide) | assumption) ?_)) fun u11 p11 S11 k11 b11 => ?_⟩
  try simp only [sat_ok, sat_ex, sat_err, sat_bind_eq, ofP_some, ofP_none, sat_of_eq, st_nx, st_rt, st_bk, st_ct, st_ex, st_err, st_then, seqP_nx, seqP_rt, seqP_bk, seqP_ct, seqP_ex, st_xSeq, endP_nx, endP_rt, endP_ex, endP_bk, endP_ct, varP_some, varP_none, varP_non, sat_xVar, sat_xC, sat_xOp, sat_xUn, blP_bl, sat_xTB, trP_some, trP_none, sat_xT, sat_xAndT, sat_xOrT, sat_xNotT, sat_xAnd, sat_xOr, sat_xNot, sat_xIf, sat_xNil, sat_xCons, sat_xTup, sat_xLst, sat_xChain, sat_xCall, sat_xCB, sat_xM0, sat_xM, intP_int, sat_xNoP, sat_xPart, sat_xSl, st_xSkip, st_xBrk, st_xCnt, st_xDrop, st_xRet, st_xRetN, st_xIfS, tgP_some, tgP_none, st_xAsg, g_gVar, g_gNil, g_gCons, g_gTup, augP_some, augP_none, st_xAug, parP_two, st_xPar, loopP_nx, loopP_ct, loopP_bk, loopP_rt, loopP_ex, st_xFor, itP_some, itP_none, sat_xIt, sat_xLc, sat_xItA, sat_xYes, sat_xLenSet, oAdd_ii, oSub_ii, oMul_ii, oFdiv_ii, oMod_ii, oNeg_i, oLt_ii, oLe_ii, oGt_ii, oGe_ii, oInt_i, oIx_ti, oIx_qi, oLen_t, oLen_q, oLen_s, atI_0, atI_1, atI_2, atI_3, atI_4, atI_5, atI_6, atI_7, atI_8, atI_9, atI_10, atI_11, atI_12, atI_13, atI_14, List.getElem?_cons_zero, List.getElem?_cons_succ, List.map_cons, List.map_nil, List.cons_append, List.nil_append, List.length_cons, List.length_nil, List.set_cons_zero, List.set_cons_succ, List.replicate, Option.map_some, Option.map_none, Option.bind_some, Option.bind_none, if_true, if_false, Nat.reduceAdd, Nat.reduceSub, Nat.reduceLT, Nat.reduceLeDiff, Nat.reduceEqDiff, Int.reduceLT, Int.reduceLE, Int.reduceNeg, Int.reduceEq, Bool.false_eq_true, Bool.true_eq_false, reduceIte, reduceCtorEq, Bool.not_true, Bool.not_false, decide_eq_true_eq, Nat.zero_lt_succ, and_true, true_and, and_self, and_false, false_and, isi_non_tuple, isi_non_int, isi_non_str, isi_non_bool, isi_non_list, type_non, isi_bl_tuple, isi_bl_int, isi_bl_str, isi_bl_bool, isi_bl_list, type_bl, isi_int_tuple, isi_int_int, isi_int_str, isi_int_bool, isi_int_list, type_int, isi_str_tuple, isi_str_int, isi_str_str, isi_str_bool, isi_str_list, type_str, isi_tup_tuple, isi_tup_int, isi_tup_str, isi_tup_bool, isi_tup_list, type_tup, is_int_int, isn_int_int, is_int_str, isn_int_str, is_int_tuple, isn_int_tuple, is_int_list, isn_int_list, is_int_bool, isn_int_bool, is_str_int, isn_str_int, is_str_str, isn_str_str, is_str_tuple, isn_str_tuple, is_str_list, isn_str_list, is_str_bool, isn_str_bool, is_tuple_int, isn_tuple_int, is_tuple_str, isn_tuple_str, is_tuple_tuple, isn_tuple_tuple, is_tuple_list, isn_tuple_list, is_tuple_bool, isn_tuple_bool, is_list_int, isn_list_int, is_list_str, isn_list_str, is_list_tuple, isn_list_tuple, is_list_list, isn_list_list, is_list_bool, isn_list_bool, is_bool_int, isn_bool_int, is_bool_str, isn_bool_str, is_bool_tuple, isn_bool_tuple, is_bool_list, isn_bool_list, is_bool_bool, isn_bool_bool, is_NoneType_int, isn_NoneType_int, is_NoneType_str, isn_NoneType_str, is_NoneType_tuple, isn_NoneType_tuple, is_NoneType_list, isn_NoneType_list, is_NoneType_bool, isn_NoneType_bool, isN_non, isnN_non, isB_non, isnB_non, isN_bl, isnN_bl, isB_bl, isnB_bl, isN_int, isnN_int, isB_int, isnB_int, isN_str, isnN_str, isB_str, isnB_str, isN_tup, isnN_tup, isB_tup, isnB_tup, eq_non_non, eq_non_bl, ne_non_bl, eq_non_int, ne_non_int, eq_non_str, ne_non_str, eq_bl_non, ne_bl_non, eq_bl_bl, ne_bl_bl, eq_bl_str, ne_bl_str, eq_int_non, ne_int_non, eq_int_int, ne_int_int, eq_int_str, ne_int_str, eq_str_non, ne_str_non, eq_str_bl, ne_str_bl, eq_str_int, ne_str_int, eq_str_str, ne_str_str, isN_ref, isB_ref, tru_bl, tru_int]
  refine ⟨by rw [z]; decide, pick_pl (p := Or0) b11 rfl (Nat.zero_lt_succ _) (by repeat (first | exact pl_nil | refine pl_cons (by first | exact Or0.int (by omega) (by omega) | exact Or0.str (by decide) | assumption) ?_)) fun u12 p12 S12 k12 b12 => ?_⟩
  try simp only [sat_ok, sat_ex, sat_err, sat_bind_eq, ofP_some, ofP_none, sat_of_eq, st_nx, st_rt, st_bk, st_ct, st_ex, st_err, st_then, seqP_nx, seqP_rt, seqP_bk, seqP_ct, seqP_ex, st_xSeq, endP_nx, endP_rt, endP_ex, endP_bk, endP_ct, varP_some, varP_none, varP_non, sat_xVar, sat_xC, sat_xOp, sat_xUn, blP_bl, sat_xTB, trP_some, trP_none, sat_xT, sat_xAndT, sat_xOrT, sat_xNotT, sat_xAnd, sat_xOr, sat_xNot, sat_xIf, sat_xNil, sat_xCons, sat_xTup, sat_xLst, sat_xChain, sat_xCall, sat_xCB, sat_xM0, sat_xM, intP_int, sat_xNoP, sat_xPart, sat_xSl, st_xSkip, st_xBrk, st_xCnt, st_xDrop, st_xRet, st_xRetN, st_xIfS, tgP_some, tgP_none, st_xAsg, g_gVar, g_gNil, g_gCons, g_gTup, augP_some, augP_none, st_xAug, parP_two, st_xPar, loopP_nx, loopP_ct, loopP_bk, loopP_rt, loopP_ex, st_xFor, itP_some, itP_none, sat_xIt, sat_xLc, sat_xItA, sat_xYes, sat_xLenSet, oAdd_ii, oSub_ii, oMul_ii, oFdiv_ii, oMod_ii, oNeg_i, oLt_ii, oLe_ii, oGt_ii, oGe_ii, oInt_i, oIx_ti, oIx_qi, oLen_t, oLen_q, oLen_s, atI_0, atI_1, atI_2, atI_3, atI_4, atI_5, atI_6, atI_7, atI_8, atI_9, atI_10, atI_11, atI_12, atI_13, atI_14, List.getElem?_cons_zero, List.getElem?_cons_succ, List.map_cons, List.map_nil, List.cons_append, List.nil_append, List.length_cons, List.length_nil, List.set_cons_zero, List.set_cons_succ, List.replicate, Option.map_some, Option.map_none, Option.bind_some, Option.bind_none, if_true, if_false, Nat.reduceAdd, Nat.reduceSub, Nat.reduceLT, Nat.reduceLeDiff, Nat.reduceEqDiff, Int.reduceLT, Int.reduceLE, Int.reduceNeg, Int.reduceEq, Bool.false_eq_true, Bool.true_eq_false, reduceIte, reduceCtorEq, Bool.not_true, Bool.not_false, decide_eq_true_eq, Nat.zero_lt_succ, and_true, true_and, and_self, and_false, false_and, isi_non_tuple, isi_non_int, isi_non_str, isi_non_bool, isi_non_list, type_non, isi_bl_tuple, isi_bl_int, isi_bl_str, isi_bl_bool, isi_bl_list, type_bl, isi_int_tuple, isi_int_int, isi_int_str, isi_int_bool, isi_int_list, type_int, isi_str_tuple, isi_str_int, isi_str_str, isi_str_bool, isi_str_list, type_str, isi_tup_tuple, isi_tup_int, isi_tup_str, isi_tup_bool, isi_tup_list, type_tup, is_int_int, isn_int_int, is_int_str, isn_int_str, is_int_tuple, isn_int_tuple, is_int_list, isn_int_list, is_int_bool, isn_int_bool, is_str_int, isn_str_int, is_str_str, isn_str_str, is_str_tuple, isn_str_tuple, is_str_list, isn_str_list, is_str_bool, isn_str_bool, is_tuple_int, isn_tuple_int, is_tuple_str, isn_tuple_str, is_tuple_tuple, isn_tuple_tuple, is_tuple_list, isn_tuple_list, is_tuple_bool, isn_tuple_bool, is_list_int, isn_list_int, is_list_str, isn_list_str, is_list_tuple, isn_list_tuple, is_list_list, isn_list_list, is_list_bool, isn_list_bool, is_bool_int, isn_bool_int, is_bool_str, isn_bool_str, is_bool_tuple, isn_bool_tuple, is_bool_list, isn_bool_list, is_bool_bool, isn_bool_bool, is_NoneType_int, isn_NoneType_int, is_NoneType_str, isn_NoneType_str, is_NoneType_tuple, isn_NoneType_tuple, is_NoneType_list, isn_NoneType_list, is_NoneType_bool, isn_NoneType_bool, isN_non, isnN_non, isB_non, isnB_non, isN_bl, isnN_bl, isB_bl, isnB_bl, isN_int, isnN_int, isB_int, isnB_int, isN_str, isnN_str, isB_str, isnB_str, isN_tup, isnN_tup, isB_tup, isnB_tup, eq_non_non, eq_non_bl, ne_non_bl, eq_non_int, ne_non_int, eq_non_str, ne_non_str, eq_bl_non, ne_bl_non, eq_bl_bl, ne_bl_bl, eq_bl_str, ne_bl_str, eq_int_non, ne_int_non, eq_int_int, ne_int_int, eq_int_str, ne_int_str, eq_str_non, ne_str_non, eq_str_bl, ne_str_bl, eq_str_int, ne_str_int, eq_str_str, ne_str_str, isN_ref, isB_ref, tru_bl, tru_int]
  refine ⟨by rw [z]; decide, r1 _ _ (h _ S12 rfl ?_ ((((((((((((k1).trans k2).trans k3).trans k4).trans k5).trans k6).trans k7).trans k8).trans k9).trans k10).trans k11).trans k12) b12)⟩
  exact (by repeat (first | exact pl_nil | refine pl_cons (by first | exact Or0.str hn | exact Or0.str (by decide) | assumption) ?_))
theorem log_small {i : Int} (h1 : -1000000000 ≤ i) (h2 : i ≤ 1000000000) : i.natAbs.log2 < 1920 := by
  by_cases h0 : i.natAbs = 0
  · rw [h0]; decide
  · have h3 : i.natAbs < 2 ^ 30 := by
      have : (2 : Nat) ^ 30 = 1073741824 := by decide
      rw [this]; omega
    have := (Nat.log2_lt h0).mpr h3
    omega
noncomputable abbrev fOther : Fn := bodyF 4 (B__law_other fDraw)
theorem other_str {y : Str} (b0 : Box b S) (hy : y.length ≤ 1000) (h : ∀ d S', Pl 0 d → Kx [b] S S' → Box b S' → Pd d S') : (fOther [.ref b, .str y] S).wp Pd E := by
  have z : sizeLine = 16777216 := rfl
  have hx : ("x" : Str).length = 1 := rfl
  rw [sat_bodyF]
  unfold B__law_other
  refine seq_cut fun K1 n1 r1 => ?_
  simp only [sat_ok, sat_ex, sat_err, sat_bind_eq, ofP_some, ofP_none, sat_of_eq, st_nx, st_rt, st_bk, st_ct, st_ex, st_err, st_then, seqP_nx, seqP_rt, seqP_bk, seqP_ct, seqP_ex, st_xSeq, endP_nx, endP_rt, endP_ex, endP_bk, endP_ct, varP_some, varP_none, varP_non, sat_xVar, sat_xC, sat_xOp, sat_xUn, blP_bl, sat_xTB, trP_some, trP_none, sat_xT, sat_xAndT, sat_xOrT, sat_xNotT, sat_xAnd, sat_xOr, sat_xNot, sat_xIf, sat_xNil, sat_xCons, sat_xTup, sat_xLst, sat_xChain, sat_xCall, sat_xCB, sat_xM0, sat_xM, intP_int, sat_xNoP, sat_xPart, sat_xSl, st_xSkip, st_xBrk, st_xCnt, st_xDrop, st_xRet, st_xRetN, st_xIfS, tgP_some, tgP_none, st_xAsg, g_gVar, g_gNil, g_gCons, g_gTup, augP_some, augP_none, st_xAug, parP_two, st_xPar, loopP_nx, loopP_ct, loopP_bk, loopP_rt, loopP_ex, st_xFor, itP_some, itP_none, sat_xIt, sat_xLc, sat_xItA, sat_xYes, sat_xLenSet, oAdd_ii, oSub_ii, oMul_ii, oFdiv_ii, oMod_ii, oNeg_i, oLt_ii, oLe_ii, oGt_ii, oGe_ii, oInt_i, oIx_ti, oIx_qi, oLen_t, oLen_q, oLen_s, atI_0, atI_1, atI_2, atI_3, atI_4, atI_5, atI_6, atI_7, atI_8, atI_9, atI_10, atI_11, atI_12, atI_13, atI_14, List.getElem?_cons_zero, List.getElem?_cons_succ, List.map_cons, List.map_nil, List.cons_append, List.nil_append, List.length_cons, List.length_nil, List.set_cons_zero, List.set_cons_succ, List.replicate, Option.map_some, Option.map_none, Option.bind_some, Option.bind_none, if_true, if_false, Nat.reduceAdd, Nat.reduceSub, Nat.reduceLT, Nat.reduceLeDiff, Nat.reduceEqDiff, Int.reduceLT, Int.reduceLE, Int.reduceNeg, Int.reduceEq, Bool.false_eq_true, Bool.true_eq_false, reduceIte, reduceCtorEq, Bool.not_true, Bool.not_false, decide_eq_true_eq, Nat.zero_lt_succ, and_true, true_and, and_self, and_false, false_and, isi_non_tuple, isi_non_int, isi_non_str, isi_non_bool, isi_non_list, type_non, isi_bl_tuple, isi_bl_int, isi_bl_str, isi_bl_bool, isi_bl_list, type_bl, isi_int_tuple, isi_int_int, isi_int_str, isi_int_bool, isi_int_list, type_int, isi_str_tuple, isi_str_int, isi_str_str, isi_str_bool, isi_str_list, type_str, isi_tup_tuple, isi_tup_int, isi_tup_str, isi_tup_bool, isi_tup_list, type_tup, is_int_int, isn_int_int, is_int_str, isn_int_str, is_int_tuple, isn_int_tuple, is_int_list, isn_int_list, is_int_bool, isn_int_bool, is_str_int, isn_str_int, is_str_str, isn_str_str, is_str_tuple, isn_str_tuple, is_str_list, isn_str_list, is_str_bool, isn_str_bool, is_tuple_int, isn_tuple_int, is_tuple_str, isn_tuple_str, is_tuple_tuple, isn_tuple_tuple, is_tuple_list, isn_tuple_list, is_tuple_bool, isn_tuple_bool, is_list_int, isn_list_int, is_list_str, isn_list_str, is_list_tuple, isn_list_tuple, is_list_list, isn_list_list, is_list_bool, isn_list_bool, is_bool_int, isn_bool_int, is_bool_str, isn_bool_str, is_bool_tuple, isn_bool_tuple, is_bool_list, isn_bool_list, is_bool_bool, isn_bool_bool, is_NoneType_int, isn_NoneType_int, is_NoneType_str, isn_NoneType_str, is_NoneType_tuple, isn_NoneType_tuple, is_NoneType_list, isn_NoneType_list, is_NoneType_bool, isn_NoneType_bool, isN_non, isnN_non, isB_non, isnB_non, isN_bl, isnN_bl, isB_bl, isnB_bl, isN_int, isnN_int, isB_int, isnB_int, isN_str, isnN_str, isB_str, isnB_str, isN_tup, isnN_tup, isB_tup, isnB_tup, eq_non_non, eq_non_bl, ne_non_bl, eq_non_int, ne_non_int, eq_non_str, ne_non_str, eq_bl_non, ne_bl_non, eq_bl_bl, ne_bl_bl, eq_bl_str, ne_bl_str, eq_int_non, ne_int_non, eq_int_int, ne_int_int, eq_int_str, ne_int_str, eq_str_non, ne_str_non, eq_str_bl, ne_str_bl, eq_str_int, ne_str_int, eq_str_str, ne_str_str, isN_ref, isB_ref, tru_bl, tru_int]
  refine n1 _ _ ?_
  refine seq_cut fun K2 n2 r2 => ?_
  have ha : oAdd (.str y) (.str "x") S = some (.str (y ++ "x"), S) := by
    simp only [oAdd]
    rw [if_pos (by rw [z, hx]; omega)]
  have hl : (y ++ "x" : Str).length ≤ 1000000 := by
    have := TL.len_tl (y ++ "x"); rw [TL.tl_append, List.length_append, ← TL.len_tl, ← TL.len_tl, hx] at this; omega
  simp only [sat_ok, sat_ex, sat_err, sat_bind_eq, ofP_some, ofP_none, sat_of_eq, st_nx, st_rt, st_bk, st_ct, st_ex, st_err, st_then, seqP_nx, seqP_rt, seqP_bk, seqP_ct, seqP_ex, st_xSeq, endP_nx, endP_rt, endP_ex, endP_bk, endP_ct, varP_some, varP_none, varP_non, sat_xVar, sat_xC, sat_xOp, sat_xUn, blP_bl, sat_xTB, trP_some, trP_none, sat_xT, sat_xAndT, sat_xOrT, sat_xNotT, sat_xAnd, sat_xOr, sat_xNot, sat_xIf, sat_xNil, sat_xCons, sat_xTup, sat_xLst, sat_xChain, sat_xCall, sat_xCB, sat_xM0, sat_xM, intP_int, sat_xNoP, sat_xPart, sat_xSl, st_xSkip, st_xBrk, st_xCnt, st_xDrop, st_xRet, st_xRetN, st_xIfS, tgP_some, tgP_none, st_xAsg, g_gVar, g_gNil, g_gCons, g_gTup, augP_some, augP_none, st_xAug, parP_two, st_xPar, loopP_nx, loopP_ct, loopP_bk, loopP_rt, loopP_ex, st_xFor, itP_some, itP_none, sat_xIt, sat_xLc, sat_xItA, sat_xYes, sat_xLenSet, oAdd_ii, oSub_ii, oMul_ii, oFdiv_ii, oMod_ii, oNeg_i, oLt_ii, oLe_ii, oGt_ii, oGe_ii, oInt_i, oIx_ti, oIx_qi, oLen_t, oLen_q, oLen_s, atI_0, atI_1, atI_2, atI_3, atI_4, atI_5, atI_6, atI_7, atI_8, atI_9, atI_10, atI_11, atI_12, atI_13, atI_14, List.getElem?_cons_zero, List.getElem?_cons_succ, List.map_cons, List.map_nil, List.cons_append, List.nil_append, List.length_cons, List.length_nil, List.set_cons_zero, List.set_cons_succ, List.replicate, Option.map_some, Option.map_none, Option.bind_some, Option.bind_none, if_true, if_false, Nat.reduceAdd, Nat.reduceSub, Nat.reduceLT, Nat.reduceLeDiff, Nat.reduceEqDiff, Int.reduceLT, Int.reduceLE, Int.reduceNeg, Int.reduceEq, Bool.false_eq_true, Bool.true_eq_false, reduceIte, reduceCtorEq, Bool.not_true, Bool.not_false, decide_eq_true_eq, Nat.zero_lt_succ, and_true, true_and, and_self, and_false, false_and, isi_non_tuple, isi_non_int, isi_non_str, isi_non_bool, isi_non_list, type_non, isi_bl_tuple, isi_bl_int, isi_bl_str, isi_bl_bool, isi_bl_list, type_bl, isi_int_tuple, isi_int_int, isi_int_str, isi_int_bool, isi_int_list, type_int, isi_str_tuple, isi_str_int, isi_str_str, isi_str_bool, isi_str_list, type_str, isi_tup_tuple, isi_tup_int, isi_tup_str, isi_tup_bool, isi_tup_list, type_tup, is_int_int, isn_int_int, is_int_str, isn_int_str, is_int_tuple, isn_int_tuple, is_int_list, isn_int_list, is_int_bool, isn_int_bool, is_str_int, isn_str_int, is_str_str, isn_str_str, is_str_tuple, isn_str_tuple, is_str_list, isn_str_list, is_str_bool, isn_str_bool, is_tuple_int, isn_tuple_int, is_tuple_str, isn_tuple_str, is_tuple_tuple, isn_tuple_tuple, is_tuple_list, isn_tuple_list, is_tuple_bool, isn_tuple_bool, is_list_int, isn_list_int, is_list_str, isn_list_str, is_list_tuple, isn_list_tuple, is_list_list, isn_list_list, is_list_bool, isn_list_bool, is_bool_int, isn_bool_int, is_bool_str, isn_bool_str, is_bool_tuple, isn_bool_tuple, is_bool_list, isn_bool_list, is_bool_bool, isn_bool_bool, is_NoneType_int, isn_NoneType_int, is_NoneType_str, isn_NoneType_str, is_NoneType_tuple, isn_NoneType_tuple, is_NoneType_list, isn_NoneType_list, is_NoneType_bool, isn_NoneType_bool, isN_non, isnN_non, isB_non, isnB_non, isN_bl, isnN_bl, isB_bl, isnB_bl, isN_int, isnN_int, isB_int, isnB_int, isN_str, isnN_str, isB_str, isnB_str, isN_tup, isnN_tup, isB_tup, isnB_tup, eq_non_non, eq_non_bl, ne_non_bl, eq_non_int, ne_non_int, eq_non_str, ne_non_str, eq_bl_non, ne_bl_non, eq_bl_bl, ne_bl_bl, eq_bl_str, ne_bl_str, eq_int_non, ne_int_non, eq_int_int, ne_int_int, eq_int_str, ne_int_str, eq_str_non, ne_str_non, eq_str_bl, ne_str_bl, eq_str_int, ne_str_int, eq_str_str, ne_str_str, isN_ref, isB_ref, tru_bl, tru_int, ha]
  refine ⟨by rw [z]; decide, pick_pl (p := Pl 0) b0 rfl (Nat.zero_lt_succ _) (by repeat (first | exact pl_nil | refine pl_cons (by first | exact Pl.non | exact Pl.str (by decide) | exact Pl.str hl) ?_)) fun u1 p1 S1 k1 b1 => r2 _ _ (h _ _ p1 k1 b1)⟩
theorem other_int {i : Int} (b0 : Box b S) (h1 : -1000000000 ≤ i) (h2 : i ≤ 1000000000) (h : ∀ d S', Pl 0 d → Kx [b] S S' → Box b S' → Pd d S') : (fOther [.ref b, .int i] S).wp Pd E := by
  have z : sizeLine = 16777216 := rfl
  rw [sat_bodyF]
  unfold B__law_other
  refine seq_cut fun K1 n1 r1 => ?_
  simp only [sat_ok, sat_ex, sat_err, sat_bind_eq, ofP_some, ofP_none, sat_of_eq, st_nx, st_rt, st_bk, st_ct, st_ex, st_err, st_then, seqP_nx, seqP_rt, seqP_bk, seqP_ct, seqP_ex, st_xSeq, endP_nx, endP_rt, endP_ex, endP_bk, endP_ct, varP_some, varP_none, varP_non, sat_xVar, sat_xC, sat_xOp, sat_xUn, blP_bl, sat_xTB, trP_some, trP_none, sat_xT, sat_xAndT, sat_xOrT, sat_xNotT, sat_xAnd, sat_xOr, sat_xNot, sat_xIf, sat_xNil, sat_xCons, sat_xTup, sat_xLst, sat_xChain, sat_xCall, sat_xCB, sat_xM0, sat_xM, intP_int, sat_xNoP, sat_xPart, sat_xSl, st_xSkip, st_xBrk, st_xCnt, st_xDrop, st_xRet, st_xRetN, st_xIfS, tgP_some, tgP_none, st_xAsg, g_gVar, g_gNil, g_gCons, g_gTup, augP_some, augP_none, st_xAug, parP_two, st_xPar, loopP_nx, loopP_ct, loopP_bk, loopP_rt, loopP_ex, st_xFor, itP_some, itP_none, sat_xIt, sat_xLc, sat_xItA, sat_xYes, sat_xLenSet, oAdd_ii, oSub_ii, oMul_ii, oFdiv_ii, oMod_ii, oNeg_i, oLt_ii, oLe_ii, oGt_ii, oGe_ii, oInt_i, oIx_ti, oIx_qi, oLen_t, oLen_q, oLen_s, atI_0, atI_1, atI_2, atI_3, atI_4, atI_5, atI_6, atI_7, atI_8, atI_9, atI_10, atI_11, atI_12, atI_13, atI_14, List.getElem?_cons_zero, List.getElem?_cons_succ, List.map_cons, List.map_nil, List.cons_append, List.nil_append, List.length_cons, List.length_nil, List.set_cons_zero, List.set_cons_succ, List.replicate, Option.map_some, Option.map_none, Option.bind_some, Option.bind_none, if_true, if_false, Nat.reduceAdd, Nat.reduceSub, Nat.reduceLT, Nat.reduceLeDiff, Nat.reduceEqDiff, Int.reduceLT, Int.reduceLE, Int.reduceNeg, Int.reduceEq, Bool.false_eq_true, Bool.true_eq_false, reduceIte, reduceCtorEq, Bool.not_true, Bool.not_false, decide_eq_true_eq, Nat.zero_lt_succ, and_true, true_and, and_self, and_false, false_and, isi_non_tuple, isi_non_int, isi_non_str, isi_non_bool, isi_non_list, type_non, isi_bl_tuple, isi_bl_int, isi_bl_str, isi_bl_bool, isi_bl_list, type_bl, isi_int_tuple, isi_int_int, isi_int_str, isi_int_bool, isi_int_list, type_int, isi_str_tuple, isi_str_int, isi_str_str, isi_str_bool, isi_str_list, type_str, isi_tup_tuple, isi_tup_int, isi_tup_str, isi_tup_bool, isi_tup_list, type_tup, is_int_int, isn_int_int, is_int_str, isn_int_str, is_int_tuple, isn_int_tuple, is_int_list, isn_int_list, is_int_bool, isn_int_bool, is_str_int, isn_str_int, is_str_str, isn_str_str, is_str_tuple, isn_str_tuple, is_str_list, isn_str_list, is_str_bool, isn_str_bool, is_tuple_int, isn_tuple_int, is_tuple_str, isn_tuple_str, is_tuple_tuple, isn_tuple_tuple, is_tuple_list, isn_tuple_list, is_tuple_bool, isn_tuple_bool, is_list_int, isn_list_int, is_list_str, isn_list_str, is_list_tuple, isn_list_tuple, is_list_list, isn_list_list, is_list_bool, isn_list_bool, is_bool_int, isn_bool_int, is_bool_str, isn_bool_str, is_bool_tuple, isn_bool_tuple, is_bool_list, isn_bool_list, is_bool_bool, isn_bool_bool, is_NoneType_int, isn_NoneType_int, is_NoneType_str, isn_NoneType_str, is_NoneType_tuple, isn_NoneType_tuple, is_NoneType_list, isn_NoneType_list, is_NoneType_bool, isn_NoneType_bool, isN_non, isnN_non, isB_non, isnB_non, isN_bl, isnN_bl, isB_bl, isnB_bl, isN_int, isnN_int, isB_int, isnB_int, isN_str, isnN_str, isB_str, isnB_str, isN_tup, isnN_tup, isB_tup, isnB_tup, eq_non_non, eq_non_bl, ne_non_bl, eq_non_int, ne_non_int, eq_non_str, ne_non_str, eq_bl_non, ne_bl_non, eq_bl_bl, ne_bl_bl, eq_bl_str, ne_bl_str, eq_int_non, ne_int_non, eq_int_int, ne_int_int, eq_int_str, ne_int_str, eq_str_non, ne_str_non, eq_str_bl, ne_str_bl, eq_str_int, ne_str_int, eq_str_str, ne_str_str, isN_ref, isB_ref, tru_bl, tru_int]
  refine n1 _ _ ?_
  refine seq_cut fun K2 n2 r2 => ?_
  simp only [sat_ok, sat_ex, sat_err, sat_bind_eq, ofP_some, ofP_none, sat_of_eq, st_nx, st_rt, st_bk, st_ct, st_ex, st_err, st_then, seqP_nx, seqP_rt, seqP_bk, seqP_ct, seqP_ex, st_xSeq, endP_nx, endP_rt, endP_ex, endP_bk, endP_ct, varP_some, varP_none, varP_non, sat_xVar, sat_xC, sat_xOp, sat_xUn, blP_bl, sat_xTB, trP_some, trP_none, sat_xT, sat_xAndT, sat_xOrT, sat_xNotT, sat_xAnd, sat_xOr, sat_xNot, sat_xIf, sat_xNil, sat_xCons, sat_xTup, sat_xLst, sat_xChain, sat_xCall, sat_xCB, sat_xM0, sat_xM, intP_int, sat_xNoP, sat_xPart, sat_xSl, st_xSkip, st_xBrk, st_xCnt, st_xDrop, st_xRet, st_xRetN, st_xIfS, tgP_some, tgP_none, st_xAsg, g_gVar, g_gNil, g_gCons, g_gTup, augP_some, augP_none, st_xAug, parP_two, st_xPar, loopP_nx, loopP_ct, loopP_bk, loopP_rt, loopP_ex, st_xFor, itP_some, itP_none, sat_xIt, sat_xLc, sat_xItA, sat_xYes, sat_xLenSet, oAdd_ii, oSub_ii, oMul_ii, oFdiv_ii, oMod_ii, oNeg_i, oLt_ii, oLe_ii, oGt_ii, oGe_ii, oInt_i, oIx_ti, oIx_qi, oLen_t, oLen_q, oLen_s, atI_0, atI_1, atI_2, atI_3, atI_4, atI_5, atI_6, atI_7, atI_8, atI_9, atI_10, atI_11, atI_12, atI_13, atI_14, List.getElem?_cons_zero, List.getElem?_cons_succ, List.map_cons, List.map_nil, List.cons_append, List.nil_append, List.length_cons, List.length_nil, List.set_cons_zero, List.set_cons_succ, List.replicate, Option.map_some, Option.map_none, Option.bind_some, Option.bind_none, if_true, if_false, Nat.reduceAdd, Nat.reduceSub, Nat.reduceLT, Nat.reduceLeDiff, Nat.reduceEqDiff, Int.reduceLT, Int.reduceLE, Int.reduceNeg, Int.reduceEq, Bool.false_eq_true, Bool.true_eq_false, reduceIte, reduceCtorEq, Bool.not_true, Bool.not_false, decide_eq_true_eq, Nat.zero_lt_succ, and_true, true_and, and_self, and_false, false_and, isi_non_tuple, isi_non_int, isi_non_str, isi_non_bool, isi_non_list, type_non, isi_bl_tuple, isi_bl_int, isi_bl_str, isi_bl_bool, isi_bl_list, type_bl, isi_int_tuple, isi_int_int, isi_int_str, isi_int_bool, isi_int_list, type_int, isi_str_tuple, isi_str_int, isi_str_str, isi_str_bool, isi_str_list, type_str, isi_tup_tuple, isi_tup_int, isi_tup_str, isi_tup_bool, isi_tup_list, type_tup, is_int_int, isn_int_int, is_int_str, isn_int_str, is_int_tuple, isn_int_tuple, is_int_list, isn_int_list, is_int_bool, isn_int_bool, is_str_int, isn_str_int, is_str_str, isn_str_str, is_str_tuple, isn_str_tuple, is_str_list, isn_str_list, is_str_bool, isn_str_bool, is_tuple_int, isn_tuple_int, is_tuple_str, isn_tuple_str, is_tuple_tuple, isn_tuple_tuple, is_tuple_list, isn_tuple_list, is_tuple_bool, isn_tuple_bool, is_list_int, isn_list_int, is_list_str, isn_list_str, is_list_tuple, isn_list_tuple, is_list_list, isn_list_list, is_list_bool, isn_list_bool, is_bool_int, isn_bool_int, is_bool_str, isn_bool_str, is_bool_tuple, isn_bool_tuple, is_bool_list, isn_bool_list, is_bool_bool, isn_bool_bool, is_NoneType_int, isn_NoneType_int, is_NoneType_str, isn_NoneType_str, is_NoneType_tuple, isn_NoneType_tuple, is_NoneType_list, isn_NoneType_list, is_NoneType_bool, isn_NoneType_bool, isN_non, isnN_non, isB_non, isnB_non, isN_bl, isnN_bl, isB_bl, isnB_bl, isN_int, isnN_int, isB_int, isnB_int, isN_str, isnN_str, isB_str, isnB_str, isN_tup, isnN_tup, isB_tup, isnB_tup, eq_non_non, eq_non_bl, ne_non_bl, eq_non_int, ne_non_int, eq_non_str, ne_non_str, eq_bl_non, ne_bl_non, eq_bl_bl, ne_bl_bl, eq_bl_str, ne_bl_str, eq_int_non, ne_int_non, eq_int_int, ne_int_int, eq_int_str, ne_int_str, eq_str_non, ne_str_non, eq_str_bl, ne_str_bl, eq_str_int, ne_str_int, eq_str_str, ne_str_str, isN_ref, isB_ref, tru_bl, tru_int]
  refine n2 _ _ ?_
  have hs : oStr [.int i] S = some (.str (toString i), S) := by
    simp only [oStr]
    rw [if_pos (log_small h1 h2)]
  have hl : (Str.ofString (toString i)).length ≤ 1000000 := by have := PyProof.Rows.int_text_len_1921 (log_small h1 h2); omega
  simp only [sat_ok, sat_ex, sat_err, sat_bind_eq, ofP_some, ofP_none, sat_of_eq, st_nx, st_rt, st_bk, st_ct, st_ex, st_err, st_then, seqP_nx, seqP_rt, seqP_bk, seqP_ct, seqP_ex, st_xSeq, endP_nx, endP_rt, endP_ex, endP_bk, endP_ct, varP_some, varP_none, varP_non, sat_xVar, sat_xC, sat_xOp, sat_xUn, blP_bl, sat_xTB, trP_some, trP_none, sat_xT, sat_xAndT, sat_xOrT, sat_xNotT, sat_xAnd, sat_xOr, sat_xNot, sat_xIf, sat_xNil, sat_xCons, sat_xTup, sat_xLst, sat_xChain, sat_xCall, sat_xCB, sat_xM0, sat_xM, intP_int, sat_xNoP, sat_xPart, sat_xSl, st_xSkip, st_xBrk, st_xCnt, st_xDrop, st_xRet, st_xRetN, st_xIfS, tgP_some, tgP_none, st_xAsg, g_gVar, g_gNil, g_gCons, g_gTup, augP_some, augP_none, st_xAug, parP_two, st_xPar, loopP_nx, loopP_ct, loopP_bk, loopP_rt, loopP_ex, st_xFor, itP_some, itP_none, sat_xIt, sat_xLc, sat_xItA, sat_xYes, sat_xLenSet, oAdd_ii, oSub_ii, oMul_ii, oFdiv_ii, oMod_ii, oNeg_i, oLt_ii, oLe_ii, oGt_ii, oGe_ii, oInt_i, oIx_ti, oIx_qi, oLen_t, oLen_q, oLen_s, atI_0, atI_1, atI_2, atI_3, atI_4, atI_5, atI_6, atI_7, atI_8, atI_9, atI_10, atI_11, atI_12, atI_13, atI_14, List.getElem?_cons_zero, List.getElem?_cons_succ, List.map_cons, List.map_nil, List.cons_append, List.nil_append, List.length_cons, List.length_nil, List.set_cons_zero, List.set_cons_succ, List.replicate, Option.map_some, Option.map_none, Option.bind_some, Option.bind_none, if_true, if_false, Nat.reduceAdd, Nat.reduceSub, Nat.reduceLT, Nat.reduceLeDiff, Nat.reduceEqDiff, Int.reduceLT, Int.reduceLE, Int.reduceNeg, Int.reduceEq, Bool.false_eq_true, Bool.true_eq_false, reduceIte, reduceCtorEq, Bool.not_true, Bool.not_false, decide_eq_true_eq, Nat.zero_lt_succ, and_true, true_and, and_self, and_false, false_and, isi_non_tuple, isi_non_int, isi_non_str, isi_non_bool, isi_non_list, type_non, isi_bl_tuple, isi_bl_int, isi_bl_str, isi_bl_bool, isi_bl_list, type_bl, isi_int_tuple, isi_int_int, isi_int_str, isi_int_bool, isi_int_list, type_int, isi_str_tuple, isi_str_int, isi_str_str, isi_str_bool, isi_str_list, type_str, isi_tup_tuple, isi_tup_int, isi_tup_str, isi_tup_bool, isi_tup_list, type_tup, is_int_int, isn_int_int, is_int_str, isn_int_str, is_int_tuple, isn_int_tuple, is_int_list, isn_int_list, is_int_bool, isn_int_bool, is_str_int, isn_str_int, is_str_str, isn_str_str, is_str_tuple, isn_str_tuple, is_str_list, isn_str_list, is_str_bool, isn_str_bool, is_tuple_int, isn_tuple_int, is_tuple_str, isn_tuple_str, is_tuple_tuple, isn_tuple_tuple, is_tuple_list, isn_tuple_list, is_tuple_bool, isn_tuple_bool, is_list_int, isn_list_int, is_list_str, isn_list_str, is_list_tuple, isn_list_tuple, is_list_list, isn_list_list, is_list_bool, isn_list_bool, is_bool_int, isn_bool_int, is_bool_str, isn_bool_str, is_bool_tuple, isn_bool_tuple, is_bool_list, isn_bool_list, is_bool_bool, isn_bool_bool, is_NoneType_int, isn_NoneType_int, is_NoneType_str, isn_NoneType_str, is_NoneType_tuple, isn_NoneType_tuple, is_NoneType_list, isn_NoneType_list, is_NoneType_bool, isn_NoneType_bool, isN_non, isnN_non, isB_non, isnB_non, isN_bl, isnN_bl, isB_bl, isnB_bl, isN_int, isnN_int, isB_int, isnB_int, isN_str, isnN_str, isB_str, isnB_str, isN_tup, isnN_tup, isB_tup, isnB_tup, eq_non_non, eq_non_bl, ne_non_bl, eq_non_int, ne_non_int, eq_non_str, ne_non_str, eq_bl_non, ne_bl_non, eq_bl_bl, ne_bl_bl, eq_bl_str, ne_bl_str, eq_int_non, ne_int_non, eq_int_int, ne_int_int, eq_int_str, ne_int_str, eq_str_non, ne_str_non, eq_str_bl, ne_str_bl, eq_str_int, ne_str_int, eq_str_str, ne_str_str, isN_ref, isB_ref, tru_bl, tru_int, hs]
  refine ⟨by rw [z]; decide, pick_pl (p := Pl 0) b0 rfl (Nat.zero_lt_succ _) (by repeat (first | exact pl_nil | refine pl_cons (by first | exact Pl.non | exact Pl.bl | exact Pl.int | exact Pl.str (by decide) | exact Pl.str hl) ?_)) fun u1 p1 S1 k1 b1 => (h _ _ p1 k1 b1)⟩
theorem cut_mem {ds : List D} {lo hi : Option Int} {d : D} (h : d ∈ Dx.cutD ds lo hi) : d ∈ ds := List.mem_of_mem_drop (List.mem_of_mem_take h)
theorem cut_len (ds : List D) (lo hi : Option Int) : (Dx.cutD ds lo hi).length ≤ ds.length := by
  unfold Dx.cutD
  rw [List.length_take, List.length_drop]
  omega
theorem oSl_t {ds : List D} {lo hi : Option Int} : oSl (.tup ds) lo hi S = some (.tup (Dx.cutD ds lo hi), S) := rfl
theorem oAdd_tt {ds es : List D} (h : ds.length + es.length ≤ sizeLine) : oAdd (.tup ds) (.tup es) S = some (.tup (ds ++ es), S) := by
  simp only [oAdd, if_pos h]
theorem oTuple_r {n : Nat} {ds : List D} (h : S[n]? = some (.lst ds)) : oTuple [.ref n] S = some (.tup ds, S) := by
  simp only [oTuple, lstOf, h, Option.map_some]
theorem oList_t {ds : List D} : oList [.tup ds] S = some (.ref S.length, S ++ [.lst ds]) := rfl
theorem other_tup {ds : List D} (b0 : Box b S) (hz : ds.length ≤ 1000)
    (h1 : ∀ es S', es.length ≤ 2000 → (∀ e ∈ es, e ∈ ds) → Kx [b] S S' → Box b S' → Pd (.tup es) S')
    (h2 : ∀ m S', S'[m]? = some (.lst ds) → Kx [b] S S' → Box b S' → Pd (.ref m) S') (h3 : ∀ S', Kx [b] S S' → Box b S' → Pd .non S') : (fOther [.ref b, .tup ds] S).wp Pd E := by
  have z : sizeLine = 16777216 := rfl
  have r1 := rng1_ok (j := (ds.length : Int)) (by omega) (by omega)
  rw [sat_bodyF]
  unfold B__law_other
  rw [seq_cutR]
  intro K1 n1 r1' _ _ _
  simp only [st_xIfS, sat_xT, sat_xCB, sat_xCons, sat_xVar, sat_xC, sat_xNil, List.getElem?_cons_zero, List.getElem?_cons_succ, varP_some, isi_tup_tuple, ofP_some, tru_bl, trP_some, if_true, List.map_cons, List.map_nil, List.cons_append]
  rw [seq_cutR]
  intro K2 n2 r2 _ _ _
  simp only [sat_ok, sat_ex, sat_err, sat_bind_eq, ofP_some, ofP_none, sat_of_eq, st_nx, st_rt, st_bk, st_ct, st_ex, st_err, st_then, seqP_nx, seqP_rt, seqP_bk, seqP_ct, seqP_ex, st_xSeq, endP_nx, endP_rt, endP_ex, endP_bk, endP_ct, varP_some, varP_none, varP_non, sat_xVar, sat_xC, sat_xOp, sat_xUn, blP_bl, sat_xTB, trP_some, trP_none, sat_xT, sat_xAndT, sat_xOrT, sat_xNotT, sat_xAnd, sat_xOr, sat_xNot, sat_xIf, sat_xNil, sat_xCons, sat_xTup, sat_xLst, sat_xChain, sat_xCall, sat_xCB, sat_xM0, sat_xM, intP_int, sat_xNoP, sat_xPart, sat_xSl, st_xSkip, st_xBrk, st_xCnt, st_xDrop, st_xRet, st_xRetN, st_xIfS, tgP_some, tgP_none, st_xAsg, g_gVar, g_gNil, g_gCons, g_gTup, augP_some, augP_none, st_xAug, parP_two, st_xPar, loopP_nx, loopP_ct, loopP_bk, loopP_rt, loopP_ex, st_xFor, itP_some, itP_none, sat_xIt, sat_xLc, sat_xItA, sat_xYes, sat_xLenSet, oAdd_ii, oSub_ii, oMul_ii, oFdiv_ii, oMod_ii, oNeg_i, oLt_ii, oLe_ii, oGt_ii, oGe_ii, oInt_i, oIx_ti, oIx_qi, oLen_t, oLen_q, oLen_s, atI_0, atI_1, atI_2, atI_3, atI_4, atI_5, atI_6, atI_7, atI_8, atI_9, atI_10, atI_11, atI_12, atI_13, atI_14, List.getElem?_cons_zero, List.getElem?_cons_succ, List.map_cons, List.map_nil, List.cons_append, List.nil_append, List.length_cons, List.length_nil, List.set_cons_zero, List.set_cons_succ, List.replicate, Option.map_some, Option.map_none, Option.bind_some, Option.bind_none, if_true, if_false, Nat.reduceAdd, Nat.reduceSub, Nat.reduceLT, Nat.reduceLeDiff, Nat.reduceEqDiff, Int.reduceLT, Int.reduceLE, Int.reduceNeg, Int.reduceEq, Bool.false_eq_true, Bool.true_eq_false, reduceIte, reduceCtorEq, Bool.not_true, Bool.not_false, decide_eq_true_eq, Nat.zero_lt_succ, and_true, true_and, and_self, and_false, false_and, isi_non_tuple, isi_non_int, isi_non_str, isi_non_bool, isi_non_list, type_non, isi_bl_tuple, isi_bl_int, isi_bl_str, isi_bl_bool, isi_bl_list, type_bl, isi_int_tuple, isi_int_int, isi_int_str, isi_int_bool, isi_int_list, type_int, isi_str_tuple, isi_str_int, isi_str_str, isi_str_bool, isi_str_list, type_str, isi_tup_tuple, isi_tup_int, isi_tup_str, isi_tup_bool, isi_tup_list, type_tup, is_int_int, isn_int_int, is_int_str, isn_int_str, is_int_tuple, isn_int_tuple, is_int_list, isn_int_list, is_int_bool, isn_int_bool, is_str_int, isn_str_int, is_str_str, isn_str_str, is_str_tuple, isn_str_tuple, is_str_list, isn_str_list, is_str_bool, isn_str_bool, is_tuple_int, isn_tuple_int, is_tuple_str, isn_tuple_str, is_tuple_tuple, isn_tuple_tuple, is_tuple_list, isn_tuple_list, is_tuple_bool, isn_tuple_bool, is_list_int, isn_list_int, is_list_str, isn_list_str, is_list_tuple, isn_list_tuple, is_list_list, isn_list_list, is_list_bool, isn_list_bool, is_bool_int, isn_bool_int, is_bool_str, isn_bool_str, is_bool_tuple, isn_bool_tuple, is_bool_list, isn_bool_list, is_bool_bool, isn_bool_bool, is_NoneType_int, isn_NoneType_int, is_NoneType_str, isn_NoneType_str, is_NoneType_tuple, isn_NoneType_tuple, is_NoneType_list, isn_NoneType_list, is_NoneType_bool, isn_NoneType_bool, isN_non, isnN_non, isB_non, isnB_non, isN_bl, isnN_bl, isB_bl, isnB_bl, isN_int, isnN_int, isB_int, isnB_int, isN_str, isnN_str, isB_str, isnB_str, isN_tup, isnN_tup, isB_tup, isnB_tup, eq_non_non, eq_non_bl, ne_non_bl, eq_non_int, ne_non_int, eq_non_str, ne_non_str, eq_bl_non, ne_bl_non, eq_bl_bl, ne_bl_bl, eq_bl_str, ne_bl_str, eq_int_non, ne_int_non, eq_int_int, ne_int_int, eq_int_str, ne_int_str, eq_str_non, ne_str_non, eq_str_bl, ne_str_bl, eq_str_int, ne_str_int, eq_str_str, ne_str_str, isN_ref, isB_ref, tru_bl, tru_int, r1, wipeG]
  refine lc_pure (fun _ => true) (fun d => match d with | .int i => ds.getD (ds.length - 1 - i.toNat) .non | _ => .non) (by rw [rngD_len, Int.toNat_natCast]; omega) (fun _ _ => trivial) (fun d hd => ?_) fun S1 k1 e1 => ?_
  · obtain ⟨i, hi, rfl⟩ := rngD_mem hd
    rw [Int.toNat_natCast] at hi
    rw [Int.zero_add]
    refine ⟨_, rfl, fun S1 k1 => ?_⟩
    have g1 : L2.atI ds ((ds.length : Int) - 1 - (i : Int)) = some (ds.getD (ds.length - 1 - i) .non) := by
      have e : (ds.length : Int) - 1 - (i : Int) = ((ds.length - 1 - i : Nat) : Int) := by omega
      have hlt : ds.length - 1 - i < ds.length := by omega
      rw [e, List.getD_eq_getElem?_getD, List.getElem?_eq_getElem hlt]
      exact atI_nat (List.getElem?_eq_getElem hlt)
    simp only [sat_ok, sat_ex, sat_err, sat_bind_eq, ofP_some, ofP_none, sat_of_eq, st_nx, st_rt, st_bk, st_ct, st_ex, st_err, st_then, seqP_nx, seqP_rt, seqP_bk, seqP_ct, seqP_ex, st_xSeq, endP_nx, endP_rt, endP_ex, endP_bk, endP_ct, varP_some, varP_none, varP_non, sat_xVar, sat_xC, sat_xOp, sat_xUn, blP_bl, sat_xTB, trP_some, trP_none, sat_xT, sat_xAndT, sat_xOrT, sat_xNotT, sat_xAnd, sat_xOr, sat_xNot, sat_xIf, sat_xNil, sat_xCons, sat_xTup, sat_xLst, sat_xChain, sat_xCall, sat_xCB, sat_xM0, sat_xM, intP_int, sat_xNoP, sat_xPart, sat_xSl, st_xSkip, st_xBrk, st_xCnt, st_xDrop, st_xRet, st_xRetN, st_xIfS, tgP_some, tgP_none, st_xAsg, g_gVar, g_gNil, g_gCons, g_gTup, augP_some, augP_none, st_xAug, parP_two, st_xPar, loopP_nx, loopP_ct, loopP_bk, loopP_rt, loopP_ex, st_xFor, itP_some, itP_none, sat_xIt, sat_xLc, sat_xItA, sat_xYes, sat_xLenSet, oAdd_ii, oSub_ii, oMul_ii, oFdiv_ii, oMod_ii, oNeg_i, oLt_ii, oLe_ii, oGt_ii, oGe_ii, oInt_i, oIx_ti, oIx_qi, oLen_t, oLen_q, oLen_s, atI_0, atI_1, atI_2, atI_3, atI_4, atI_5, atI_6, atI_7, atI_8, atI_9, atI_10, atI_11, atI_12, atI_13, atI_14, List.getElem?_cons_zero, List.getElem?_cons_succ, List.map_cons, List.map_nil, List.cons_append, List.nil_append, List.length_cons, List.length_nil, List.set_cons_zero, List.set_cons_succ, List.replicate, Option.map_some, Option.map_none, Option.bind_some, Option.bind_none, if_true, if_false, Nat.reduceAdd, Nat.reduceSub, Nat.reduceLT, Nat.reduceLeDiff, Nat.reduceEqDiff, Int.reduceLT, Int.reduceLE, Int.reduceNeg, Int.reduceEq, Bool.false_eq_true, Bool.true_eq_false, reduceIte, reduceCtorEq, Bool.not_true, Bool.not_false, decide_eq_true_eq, Nat.zero_lt_succ, and_true, true_and, and_self, and_false, false_and, isi_non_tuple, isi_non_int, isi_non_str, isi_non_bool, isi_non_list, type_non, isi_bl_tuple, isi_bl_int, isi_bl_str, isi_bl_bool, isi_bl_list, type_bl, isi_int_tuple, isi_int_int, isi_int_str, isi_int_bool, isi_int_list, type_int, isi_str_tuple, isi_str_int, isi_str_str, isi_str_bool, isi_str_list, type_str, isi_tup_tuple, isi_tup_int, isi_tup_str, isi_tup_bool, isi_tup_list, type_tup, is_int_int, isn_int_int, is_int_str, isn_int_str, is_int_tuple, isn_int_tuple, is_int_list, isn_int_list, is_int_bool, isn_int_bool, is_str_int, isn_str_int, is_str_str, isn_str_str, is_str_tuple, isn_str_tuple, is_str_list, isn_str_list, is_str_bool, isn_str_bool, is_tuple_int, isn_tuple_int, is_tuple_str, isn_tuple_str, is_tuple_tuple, isn_tuple_tuple, is_tuple_list, isn_tuple_list, is_tuple_bool, isn_tuple_bool, is_list_int, isn_list_int, is_list_str, isn_list_str, is_list_tuple, isn_list_tuple, is_list_list, isn_list_list, is_list_bool, isn_list_bool, is_bool_int, isn_bool_int, is_bool_str, isn_bool_str, is_bool_tuple, isn_bool_tuple, is_bool_list, isn_bool_list, is_bool_bool, isn_bool_bool, is_NoneType_int, isn_NoneType_int, is_NoneType_str, isn_NoneType_str, is_NoneType_tuple, isn_NoneType_tuple, is_NoneType_list, isn_NoneType_list, is_NoneType_bool, isn_NoneType_bool, isN_non, isnN_non, isB_non, isnB_non, isN_bl, isnN_bl, isB_bl, isnB_bl, isN_int, isnN_int, isB_int, isnB_int, isN_str, isnN_str, isB_str, isnB_str, isN_tup, isnN_tup, isB_tup, isnB_tup, eq_non_non, eq_non_bl, ne_non_bl, eq_non_int, ne_non_int, eq_non_str, ne_non_str, eq_bl_non, ne_bl_non, eq_bl_bl, ne_bl_bl, eq_bl_str, ne_bl_str, eq_int_non, ne_int_non, eq_int_int, ne_int_int, eq_int_str, ne_int_str, eq_str_non, ne_str_non, eq_str_bl, ne_str_bl, eq_str_int, ne_str_int, eq_str_str, ne_str_str, isN_ref, isB_ref, tru_bl, tru_int, g1]
    exact ⟨Kx.refl _ _, fun _ => ⟨by rw [Int.toNat_natCast], Kx.refl _ _⟩⟩
  · have ef : ∀ xs : List D, xs.filter (fun _ => true) = xs := fun xs => List.filter_eq_self.mpr fun _ _ => rfl
    rw [ef] at e1
    simp only [sat_ok, sat_ex, sat_err, sat_bind_eq, ofP_some, ofP_none, sat_of_eq, st_nx, st_rt, st_bk, st_ct, st_ex, st_err, st_then, seqP_nx, seqP_rt, seqP_bk, seqP_ct, seqP_ex, st_xSeq, endP_nx, endP_rt, endP_ex, endP_bk, endP_ct, varP_some, varP_none, varP_non, sat_xVar, sat_xC, sat_xOp, sat_xUn, blP_bl, sat_xTB, trP_some, trP_none, sat_xT, sat_xAndT, sat_xOrT, sat_xNotT, sat_xAnd, sat_xOr, sat_xNot, sat_xIf, sat_xNil, sat_xCons, sat_xTup, sat_xLst, sat_xChain, sat_xCall, sat_xCB, sat_xM0, sat_xM, intP_int, sat_xNoP, sat_xPart, sat_xSl, st_xSkip, st_xBrk, st_xCnt, st_xDrop, st_xRet, st_xRetN, st_xIfS, tgP_some, tgP_none, st_xAsg, g_gVar, g_gNil, g_gCons, g_gTup, augP_some, augP_none, st_xAug, parP_two, st_xPar, loopP_nx, loopP_ct, loopP_bk, loopP_rt, loopP_ex, st_xFor, itP_some, itP_none, sat_xIt, sat_xLc, sat_xItA, sat_xYes, sat_xLenSet, oAdd_ii, oSub_ii, oMul_ii, oFdiv_ii, oMod_ii, oNeg_i, oLt_ii, oLe_ii, oGt_ii, oGe_ii, oInt_i, oIx_ti, oIx_qi, oLen_t, oLen_q, oLen_s, atI_0, atI_1, atI_2, atI_3, atI_4, atI_5, atI_6, atI_7, atI_8, atI_9, atI_10, atI_11, atI_12, atI_13, atI_14, List.getElem?_cons_zero, List.getElem?_cons_succ, List.map_cons, List.map_nil, List.cons_append, List.nil_append, List.length_cons, List.length_nil, List.set_cons_zero, List.set_cons_succ, List.replicate, Option.map_some, Option.map_none, Option.bind_some, Option.bind_none, if_true, if_false, Nat.reduceAdd, Nat.reduceSub, Nat.reduceLT, Nat.reduceLeDiff, Nat.reduceEqDiff, Int.reduceLT, Int.reduceLE, Int.reduceNeg, Int.reduceEq, Bool.false_eq_true, Bool.true_eq_false, reduceIte, reduceCtorEq, Bool.not_true, Bool.not_false, decide_eq_true_eq, Nat.zero_lt_succ, and_true, true_and, and_self, and_false, false_and, isi_non_tuple, isi_non_int, isi_non_str, isi_non_bool, isi_non_list, type_non, isi_bl_tuple, isi_bl_int, isi_bl_str, isi_bl_bool, isi_bl_list, type_bl, isi_int_tuple, isi_int_int, isi_int_str, isi_int_bool, isi_int_list, type_int, isi_str_tuple, isi_str_int, isi_str_str, isi_str_bool, isi_str_list, type_str, isi_tup_tuple, isi_tup_int, isi_tup_str, isi_tup_bool, isi_tup_list, type_tup, is_int_int, isn_int_int, is_int_str, isn_int_str, is_int_tuple, isn_int_tuple, is_int_list, isn_int_list, is_int_bool, isn_int_bool, is_str_int, isn_str_int, is_str_str, isn_str_str, is_str_tuple, isn_str_tuple, is_str_list, isn_str_list, is_str_bool, isn_str_bool, is_tuple_int, isn_tuple_int, is_tuple_str, isn_tuple_str, is_tuple_tuple, isn_tuple_tuple, is_tuple_list, isn_tuple_list, is_tuple_bool, isn_tuple_bool, is_list_int, isn_list_int, is_list_str, isn_list_str, is_list_tuple, isn_list_tuple, is_list_list, isn_list_list, is_list_bool, isn_list_bool, is_bool_int, isn_bool_int, is_bool_str, isn_bool_str, is_bool_tuple, isn_bool_tuple, is_bool_list, isn_bool_list, is_bool_bool, isn_bool_bool, is_NoneType_int, isn_NoneType_int, is_NoneType_str, isn_NoneType_str, is_NoneType_tuple, isn_NoneType_tuple, is_NoneType_list, isn_NoneType_list, is_NoneType_bool, isn_NoneType_bool, isN_non, isnN_non, isB_non, isnB_non, isN_bl, isnN_bl, isB_bl, isnB_bl, isN_int, isnN_int, isB_int, isnB_int, isN_str, isnN_str, isB_str, isnB_str, isN_tup, isnN_tup, isB_tup, isnB_tup, eq_non_non, eq_non_bl, ne_non_bl, eq_non_int, ne_non_int, eq_non_str, ne_non_str, eq_bl_non, ne_bl_non, eq_bl_bl, ne_bl_bl, eq_bl_str, ne_bl_str, eq_int_non, ne_int_non, eq_int_int, ne_int_int, eq_int_str, ne_int_str, eq_str_non, ne_str_non, eq_str_bl, ne_str_bl, eq_str_int, ne_str_int, eq_str_str, ne_str_str, isN_ref, isB_ref, tru_bl, tru_int, oTuple_r e1]
    refine n2 _ _ ?_
    have c1 := cut_len ds none (some 1)
    have c2 := cut_len ds (some 1) none
    simp only [sat_ok, sat_ex, sat_err, sat_bind_eq, ofP_some, ofP_none, sat_of_eq, st_nx, st_rt, st_bk, st_ct, st_ex, st_err, st_then, seqP_nx, seqP_rt, seqP_bk, seqP_ct, seqP_ex, st_xSeq, endP_nx, endP_rt, endP_ex, endP_bk, endP_ct, varP_some, varP_none, varP_non, sat_xVar, sat_xC, sat_xOp, sat_xUn, blP_bl, sat_xTB, trP_some, trP_none, sat_xT, sat_xAndT, sat_xOrT, sat_xNotT, sat_xAnd, sat_xOr, sat_xNot, sat_xIf, sat_xNil, sat_xCons, sat_xTup, sat_xLst, sat_xChain, sat_xCall, sat_xCB, sat_xM0, sat_xM, intP_int, sat_xNoP, sat_xPart, sat_xSl, st_xSkip, st_xBrk, st_xCnt, st_xDrop, st_xRet, st_xRetN, st_xIfS, tgP_some, tgP_none, st_xAsg, g_gVar, g_gNil, g_gCons, g_gTup, augP_some, augP_none, st_xAug, parP_two, st_xPar, loopP_nx, loopP_ct, loopP_bk, loopP_rt, loopP_ex, st_xFor, itP_some, itP_none, sat_xIt, sat_xLc, sat_xItA, sat_xYes, sat_xLenSet, oAdd_ii, oSub_ii, oMul_ii, oFdiv_ii, oMod_ii, oNeg_i, oLt_ii, oLe_ii, oGt_ii, oGe_ii, oInt_i, oIx_ti, oIx_qi, oLen_t, oLen_q, oLen_s, atI_0, atI_1, atI_2, atI_3, atI_4, atI_5, atI_6, atI_7, atI_8, atI_9, atI_10, atI_11, atI_12, atI_13, atI_14, List.getElem?_cons_zero, List.getElem?_cons_succ, List.map_cons, List.map_nil, List.cons_append, List.nil_append, List.length_cons, List.length_nil, List.set_cons_zero, List.set_cons_succ, List.replicate, Option.map_some, Option.map_none, Option.bind_some, Option.bind_none, if_true, if_false, Nat.reduceAdd, Nat.reduceSub, Nat.reduceLT, Nat.reduceLeDiff, Nat.reduceEqDiff, Int.reduceLT, Int.reduceLE, Int.reduceNeg, Int.reduceEq, Bool.false_eq_true, Bool.true_eq_false, reduceIte, reduceCtorEq, Bool.not_true, Bool.not_false, decide_eq_true_eq, Nat.zero_lt_succ, and_true, true_and, and_self, and_false, false_and, isi_non_tuple, isi_non_int, isi_non_str, isi_non_bool, isi_non_list, type_non, isi_bl_tuple, isi_bl_int, isi_bl_str, isi_bl_bool, isi_bl_list, type_bl, isi_int_tuple, isi_int_int, isi_int_str, isi_int_bool, isi_int_list, type_int, isi_str_tuple, isi_str_int, isi_str_str, isi_str_bool, isi_str_list, type_str, isi_tup_tuple, isi_tup_int, isi_tup_str, isi_tup_bool, isi_tup_list, type_tup, is_int_int, isn_int_int, is_int_str, isn_int_str, is_int_tuple, isn_int_tuple, is_int_list, isn_int_list, is_int_bool, isn_int_bool, is_str_int, isn_str_int, is_str_str, isn_str_str, is_str_tuple, isn_str_tuple, is_str_list, isn_str_list, is_str_bool, isn_str_bool, is_tuple_int, isn_tuple_int, is_tuple_str, isn_tuple_str, is_tuple_tuple, isn_tuple_tuple, is_tuple_list, isn_tuple_list, is_tuple_bool, isn_tuple_bool, is_list_int, isn_list_int, is_list_str, isn_list_str, is_list_tuple, isn_list_tuple, is_list_list, isn_list_list, is_list_bool, isn_list_bool, is_bool_int, isn_bool_int, is_bool_str, isn_bool_str, is_bool_tuple, isn_bool_tuple, is_bool_list, isn_bool_list, is_bool_bool, isn_bool_bool, is_NoneType_int, isn_NoneType_int, is_NoneType_str, isn_NoneType_str, is_NoneType_tuple, isn_NoneType_tuple, is_NoneType_list, isn_NoneType_list, is_NoneType_bool, isn_NoneType_bool, isN_non, isnN_non, isB_non, isnB_non, isN_bl, isnN_bl, isB_bl, isnB_bl, isN_int, isnN_int, isB_int, isnB_int, isN_str, isnN_str, isB_str, isnB_str, isN_tup, isnN_tup, isB_tup, isnB_tup, eq_non_non, eq_non_bl, ne_non_bl, eq_non_int, ne_non_int, eq_non_str, ne_non_str, eq_bl_non, ne_bl_non, eq_bl_bl, ne_bl_bl, eq_bl_str, ne_bl_str, eq_int_non, ne_int_non, eq_int_int, ne_int_int, eq_int_str, ne_int_str, eq_str_non, ne_str_non, eq_str_bl, ne_str_bl, eq_str_int, ne_str_int, eq_str_str, ne_str_str, isN_ref, isB_ref, tru_bl, tru_int, oList_t, oSl_t, oAdd_tt (show ds.length + (Dx.cutD ds none (some 1)).length ≤ sizeLine by rw [z]; omega)]
    have b1 : Box b (S1 ++ [.lst ds]) := (b0.keep k1).keep (Kx.app _ _ _)
    have kk : Kx [b] S (S1 ++ [.lst ds]) := (k1.of0).trans (Kx.app _ _ _)
    refine ⟨by rw [z]; decide, by rw [z]; decide, pick_draw b1 rfl (Nat.zero_lt_succ _) fun d hd S2 k2 b2 => r1' _ _ ?_⟩
    have k3 := kk.trans k2
    simp only [List.mem_cons, List.not_mem_nil, or_false] at hd
    rcases hd with rfl | rfl | rfl | rfl | rfl | rfl
    · refine h2 _ _ (k2.at' _ _ ?_ (by simp)) k3 b2
      have := b0.lt
      have := k1.len
      simp only [List.mem_singleton]
      omega
    · refine h1 _ _ (by rw [List.length_append]; omega) (fun e he => ?_) k3 b2
      rcases List.mem_append.mp he with he | he
      · exact he
      · exact cut_mem he
    · exact h1 _ _ (by omega) (fun e he => cut_mem he) k3 b2
    · exact h3 _ k3 b2
    · exact h1 _ _ (Nat.zero_le _) (fun e he => by simp at he) k3 b2
    · refine h1 _ _ (by rw [List.length_map, rngD_len, Int.toNat_natCast]; omega) (fun e he => ?_) k3 b2
      obtain ⟨d, hd, rfl⟩ := List.mem_map.mp he
      obtain ⟨i, hi, rfl⟩ := rngD_mem hd
      rw [Int.toNat_natCast] at hi
      have hlt : ds.length - 1 - (0 + (i : Int)).toNat < ds.length := by omega
      show ds.getD _ _ ∈ ds
      rw [List.getD_eq_getElem?_getD, List.getElem?_eq_getElem hlt]
      exact List.getElem_mem hlt
end
end K43
namespace K43
open PySem PySem.Spec PyProof.Rows Dx
section
variable {S : Sto} {b : Nat} {Pd : D → Sto → Prop} {E : Exn → Sto → Prop} {m : Int}
noncomputable def fChanged : Nat → Fn
  | 0 => fun _ _ => .err
  | n + 1 => bodyF 3 (B__law_changed fDraw fOther (fChanged n))
theorem changed_int {n : Nat} {i : Int} (b0 : Box b S) (h1 : -1000000000 ≤ i) (h2 : i ≤ 1000000000) (h : ∀ d S', Pl 0 d → Kx [b] S S' → Box b S' → Pd d S') : (fChanged (n + 1) [.ref b, .int i] S).wp Pd E := by
  rw [fChanged, sat_bodyF]
  unfold B__law_changed
  rw [seq_cutR]
  intro K1 n1 r1 _ _ _
  simp only [sat_ok, sat_ex, sat_err, sat_bind_eq, ofP_some, ofP_none, sat_of_eq, st_nx, st_rt, st_bk, st_ct, st_ex, st_err, st_then, seqP_nx, seqP_rt, seqP_bk, seqP_ct, seqP_ex, st_xSeq, endP_nx, endP_rt, endP_ex, endP_bk, endP_ct, varP_some, varP_none, varP_non, sat_xVar, sat_xC, sat_xOp, sat_xUn, blP_bl, sat_xTB, trP_some, trP_none, sat_xT, sat_xAndT, sat_xOrT, sat_xNotT, sat_xAnd, sat_xOr, sat_xNot, sat_xIf, sat_xNil, sat_xCons, sat_xTup, sat_xLst, sat_xChain, sat_xCall, sat_xCB, sat_xM0, sat_xM, intP_int, sat_xNoP, sat_xPart, sat_xSl, st_xSkip, st_xBrk, st_xCnt, st_xDrop, st_xRet, st_xRetN, st_xIfS, tgP_some, tgP_none, st_xAsg, g_gVar, g_gNil, g_gCons, g_gTup, augP_some, augP_none, st_xAug, parP_two, st_xPar, loopP_nx, loopP_ct, loopP_bk, loopP_rt, loopP_ex, st_xFor, itP_some, itP_none, sat_xIt, sat_xLc, sat_xItA, sat_xYes, sat_xLenSet, oAdd_ii, oSub_ii, oMul_ii, oFdiv_ii, oMod_ii, oNeg_i, oLt_ii, oLe_ii, oGt_ii, oGe_ii, oInt_i, oIx_ti, oIx_qi, oLen_t, oLen_q, oLen_s, atI_0, atI_1, atI_2, atI_3, atI_4, atI_5, atI_6, atI_7, atI_8, atI_9, atI_10, atI_11, atI_12, atI_13, atI_14, List.getElem?_cons_zero, List.getElem?_cons_succ, List.map_cons, List.map_nil, List.cons_append, List.nil_append, List.length_cons, List.length_nil, List.set_cons_zero, List.set_cons_succ, List.replicate, Option.map_some, Option.map_none, Option.bind_some, Option.bind_none, if_true, if_false, Nat.reduceAdd, Nat.reduceSub, Nat.reduceLT, Nat.reduceLeDiff, Nat.reduceEqDiff, Int.reduceLT, Int.reduceLE, Int.reduceNeg, Int.reduceEq, Bool.false_eq_true, Bool.true_eq_false, reduceIte, reduceCtorEq, Bool.not_true, Bool.not_false, decide_eq_true_eq, Nat.zero_lt_succ, and_true, true_and, and_self, and_false, false_and, isi_non_tuple, isi_non_int, isi_non_str, isi_non_bool, isi_non_list, type_non, isi_bl_tuple, isi_bl_int, isi_bl_str, isi_bl_bool, isi_bl_list, type_bl, isi_int_tuple, isi_int_int, isi_int_str, isi_int_bool, isi_int_list, type_int, isi_str_tuple, isi_str_int, isi_str_str, isi_str_bool, isi_str_list, type_str, isi_tup_tuple, isi_tup_int, isi_tup_str, isi_tup_bool, isi_tup_list, type_tup, is_int_int, isn_int_int, is_int_str, isn_int_str, is_int_tuple, isn_int_tuple, is_int_list, isn_int_list, is_int_bool, isn_int_bool, is_str_int, isn_str_int, is_str_str, isn_str_str, is_str_tuple, isn_str_tuple, is_str_list, isn_str_list, is_str_bool, isn_str_bool, is_tuple_int, isn_tuple_int, is_tuple_str, isn_tuple_str, is_tuple_tuple, isn_tuple_tuple, is_tuple_list, isn_tuple_list, is_tuple_bool, isn_tuple_bool, is_list_int, isn_list_int, is_list_str, isn_list_str, is_list_tuple, isn_list_tuple, is_list_list, isn_list_list, is_list_bool, isn_list_bool, is_bool_int, isn_bool_int, is_bool_str, isn_bool_str, is_bool_tuple, isn_bool_tuple, is_bool_list, isn_bool_list, is_bool_bool, isn_bool_bool, is_NoneType_int, isn_NoneType_int, is_NoneType_str, isn_NoneType_str, is_NoneType_tuple, isn_NoneType_tuple, is_NoneType_list, isn_NoneType_list, is_NoneType_bool, isn_NoneType_bool, isN_non, isnN_non, isB_non, isnB_non, isN_bl, isnN_bl, isB_bl, isnB_bl, isN_int, isnN_int, isB_int, isnB_int, isN_str, isnN_str, isB_str, isnB_str, isN_tup, isnN_tup, isB_tup, isnB_tup, eq_non_non, eq_non_bl, ne_non_bl, eq_non_int, ne_non_int, eq_non_str, ne_non_str, eq_bl_non, ne_bl_non, eq_bl_bl, ne_bl_bl, eq_bl_str, ne_bl_str, eq_int_non, ne_int_non, eq_int_int, ne_int_int, eq_int_str, ne_int_str, eq_str_non, ne_str_non, eq_str_bl, ne_str_bl, eq_str_int, ne_str_int, eq_str_str, ne_str_str, isN_ref, isB_ref, tru_bl, tru_int]
  exact other_int b0 h1 h2 fun d S' p k b' => r1 _ _ (h _ _ p k b')
theorem changed_str {n : Nat} {y : Str} (b0 : Box b S) (hy : y.length ≤ 1000) (h : ∀ d S', Pl 0 d → Kx [b] S S' → Box b S' → Pd d S') : (fChanged (n + 1) [.ref b, .str y] S).wp Pd E := by
  rw [fChanged, sat_bodyF]
  unfold B__law_changed
  rw [seq_cutR]
  intro K1 n1 r1 _ _ _
  simp only [sat_ok, sat_ex, sat_err, sat_bind_eq, ofP_some, ofP_none, sat_of_eq, st_nx, st_rt, st_bk, st_ct, st_ex, st_err, st_then, seqP_nx, seqP_rt, seqP_bk, seqP_ct, seqP_ex, st_xSeq, endP_nx, endP_rt, endP_ex, endP_bk, endP_ct, varP_some, varP_none, varP_non, sat_xVar, sat_xC, sat_xOp, sat_xUn, blP_bl, sat_xTB, trP_some, trP_none, sat_xT, sat_xAndT, sat_xOrT, sat_xNotT, sat_xAnd, sat_xOr, sat_xNot, sat_xIf, sat_xNil, sat_xCons, sat_xTup, sat_xLst, sat_xChain, sat_xCall, sat_xCB, sat_xM0, sat_xM, intP_int, sat_xNoP, sat_xPart, sat_xSl, st_xSkip, st_xBrk, st_xCnt, st_xDrop, st_xRet, st_xRetN, st_xIfS, tgP_some, tgP_none, st_xAsg, g_gVar, g_gNil, g_gCons, g_gTup, augP_some, augP_none, st_xAug, parP_two, st_xPar, loopP_nx, loopP_ct, loopP_bk, loopP_rt, loopP_ex, st_xFor, itP_some, itP_none, sat_xIt, sat_xLc, sat_xItA, sat_xYes, sat_xLenSet, oAdd_ii, oSub_ii, oMul_ii, oFdiv_ii, oMod_ii, oNeg_i, oLt_ii, oLe_ii, oGt_ii, oGe_ii, oInt_i, oIx_ti, oIx_qi, oLen_t, oLen_q, oLen_s, atI_0, atI_1, atI_2, atI_3, atI_4, atI_5, atI_6, atI_7, atI_8, atI_9, atI_10, atI_11, atI_12, atI_13, atI_14, List.getElem?_cons_zero, List.getElem?_cons_succ, List.map_cons, List.map_nil, List.cons_append, List.nil_append, List.length_cons, List.length_nil, List.set_cons_zero, List.set_cons_succ, List.replicate, Option.map_some, Option.map_none, Option.bind_some, Option.bind_none, if_true, if_false, Nat.reduceAdd, Nat.reduceSub, Nat.reduceLT, Nat.reduceLeDiff, Nat.reduceEqDiff, Int.reduceLT, Int.reduceLE, Int.reduceNeg, Int.reduceEq, Bool.false_eq_true, Bool.true_eq_false, reduceIte, reduceCtorEq, Bool.not_true, Bool.not_false, decide_eq_true_eq, Nat.zero_lt_succ, and_true, true_and, and_self, and_false, false_and, isi_non_tuple, isi_non_int, isi_non_str, isi_non_bool, isi_non_list, type_non, isi_bl_tuple, isi_bl_int, isi_bl_str, isi_bl_bool, isi_bl_list, type_bl, isi_int_tuple, isi_int_int, isi_int_str, isi_int_bool, isi_int_list, type_int, isi_str_tuple, isi_str_int, isi_str_str, isi_str_bool, isi_str_list, type_str, isi_tup_tuple, isi_tup_int, isi_tup_str, isi_tup_bool, isi_tup_list, type_tup, is_int_int, isn_int_int, is_int_str, isn_int_str, is_int_tuple, isn_int_tuple, is_int_list, isn_int_list, is_int_bool, isn_int_bool, is_str_int, isn_str_int, is_str_str, isn_str_str, is_str_tuple, isn_str_tuple, is_str_list, isn_str_list, is_str_bool, isn_str_bool, is_tuple_int, isn_tuple_int, is_tuple_str, isn_tuple_str, is_tuple_tuple, isn_tuple_tuple, is_tuple_list, isn_tuple_list, is_tuple_bool, isn_tuple_bool, is_list_int, isn_list_int, is_list_str, isn_list_str, is_list_tuple, isn_list_tuple, is_list_list, isn_list_list, is_list_bool, isn_list_bool, is_bool_int, isn_bool_int, is_bool_str, isn_bool_str, is_bool_tuple, isn_bool_tuple, is_bool_list, isn_bool_list, is_bool_bool, isn_bool_bool, is_NoneType_int, isn_NoneType_int, is_NoneType_str, isn_NoneType_str, is_NoneType_tuple, isn_NoneType_tuple, is_NoneType_list, isn_NoneType_list, is_NoneType_bool, isn_NoneType_bool, isN_non, isnN_non, isB_non, isnB_non, isN_bl, isnN_bl, isB_bl, isnB_bl, isN_int, isnN_int, isB_int, isnB_int, isN_str, isnN_str, isB_str, isnB_str, isN_tup, isnN_tup, isB_tup, isnB_tup, eq_non_non, eq_non_bl, ne_non_bl, eq_non_int, ne_non_int, eq_non_str, ne_non_str, eq_bl_non, ne_bl_non, eq_bl_bl, ne_bl_bl, eq_bl_str, ne_bl_str, eq_int_non, ne_int_non, eq_int_int, ne_int_int, eq_int_str, ne_int_str, eq_str_non, ne_str_non, eq_str_bl, ne_str_bl, eq_str_int, ne_str_int, eq_str_str, ne_str_str, isN_ref, isB_ref, tru_bl, tru_int]
  exact other_str b0 hy fun d S' p k b' => r1 _ _ (h _ _ p k b')
theorem changed_tup {n : Nat} {p : D → Prop} {q : Sto → D → Prop} {ds : List D} (b0 : Box b S) (hz : ds.length ≤ 1000) (hp : ∀ d ∈ ds, p d) (hsh : ∀ d, p d → shD 39 d = true)
    (hG : ∀ (d : D) (S : Sto) (Pd : D → Sto → Prop), p d → Box b S → (∀ d' S', q S' d' → Kx [b] S S' → Box b S' → Pd d' S') → (fChanged n [.ref b, d] S).wp Pd E)
    (h1 : ∀ es S', es.length ≤ 3000 → (∀ e ∈ es, p e ∨ q S' e) → Kx [b] S S' → Box b S' → Pd (.tup es) S')
    (h2 : ∀ m S', S'[m]? = some (.lst ds) → Kx [b] S S' → Box b S' → Pd (.ref m) S') (h3 : ∀ S', Kx [b] S S' → Box b S' → Pd .non S') : (fChanged (n + 1) [.ref b, .tup ds] S).wp Pd E := by
  have z : sizeLine = 16777216 := rfl
  rw [fChanged, sat_bodyF]
  unfold B__law_changed
  rw [seq_cutR]
  intro K1 n1 r1 _ _ _
  have other : ∀ S1, Kx [b] S S1 → Box b S1 → (fOther [.ref b, .tup ds] S1).wp (fun d S => K1 (.rt d S)) (fun x S => K1 (.ex x [some (.ref b), some (.tup ds), none] S)) := by
    intro S1 k1 b1
    apply other_tup b1 hz
    · exact fun es S' hl he k b' => r1 _ _ (h1 es S' (by omega) (fun e h => .inl (hp e (he e h))) (k1.trans k) b')
    · exact fun m S' hm k b' => r1 _ _ (h2 m S' hm (k1.trans k) b')
    · exact fun S' k b' => r1 _ _ (h3 S' (k1.trans k) b')
  have he : oEq (.tup ds) (.tup []) S = some (.bl ds.isEmpty, S) := by
    have hs : shD 40 (.tup ds) = true := by
      rw [shD, List.all_eq_true]
      exact fun d hd => hsh d (hp d hd)
    have hs2 : shD 40 (.tup []) = true := rfl
    simp only [oEq, oEqB, hs, hs2, eqD, eqDs_nil, Bool.and_self, if_true, Option.map_some]
  simp only [sat_ok, sat_ex, sat_err, sat_bind_eq, ofP_some, ofP_none, sat_of_eq, st_nx, st_rt, st_bk, st_ct, st_ex, st_err, st_then, seqP_nx, seqP_rt, seqP_bk, seqP_ct, seqP_ex, st_xSeq, endP_nx, endP_rt, endP_ex, endP_bk, endP_ct, varP_some, varP_none, varP_non, sat_xVar, sat_xC, sat_xOp, sat_xUn, blP_bl, sat_xTB, trP_some, trP_none, sat_xT, sat_xAndT, sat_xOrT, sat_xNotT, sat_xAnd, sat_xOr, sat_xNot, sat_xIf, sat_xNil, sat_xCons, sat_xTup, sat_xLst, sat_xChain, sat_xCall, sat_xCB, sat_xM0, sat_xM, intP_int, sat_xNoP, sat_xPart, sat_xSl, st_xSkip, st_xBrk, st_xCnt, st_xDrop, st_xRet, st_xRetN, st_xIfS, tgP_some, tgP_none, st_xAsg, g_gVar, g_gNil, g_gCons, g_gTup, augP_some, augP_none, st_xAug, parP_two, st_xPar, loopP_nx, loopP_ct, loopP_bk, loopP_rt, loopP_ex, st_xFor, itP_some, itP_none, sat_xIt, sat_xLc, sat_xItA, sat_xYes, sat_xLenSet, oAdd_ii, oSub_ii, oMul_ii, oFdiv_ii, oMod_ii, oNeg_i, oLt_ii, oLe_ii, oGt_ii, oGe_ii, oInt_i, oIx_ti, oIx_qi, oLen_t, oLen_q, oLen_s, atI_0, atI_1, atI_2, atI_3, atI_4, atI_5, atI_6, atI_7, atI_8, atI_9, atI_10, atI_11, atI_12, atI_13, atI_14, List.getElem?_cons_zero, List.getElem?_cons_succ, List.map_cons, List.map_nil, List.cons_append, List.nil_append, List.length_cons, List.length_nil, List.set_cons_zero, List.set_cons_succ, List.replicate, Option.map_some, Option.map_none, Option.bind_some, Option.bind_none, if_true, if_false, Nat.reduceAdd, Nat.reduceSub, Nat.reduceLT, Nat.reduceLeDiff, Nat.reduceEqDiff, Int.reduceLT, Int.reduceLE, Int.reduceNeg, Int.reduceEq, Bool.false_eq_true, Bool.true_eq_false, reduceIte, reduceCtorEq, Bool.not_true, Bool.not_false, decide_eq_true_eq, Nat.zero_lt_succ, and_true, true_and, and_self, and_false, false_and, isi_non_tuple, isi_non_int, isi_non_str, isi_non_bool, isi_non_list, type_non, isi_bl_tuple, isi_bl_int, isi_bl_str, isi_bl_bool, isi_bl_list, type_bl, isi_int_tuple, isi_int_int, isi_int_str, isi_int_bool, isi_int_list, type_int, isi_str_tuple, isi_str_int, isi_str_str, isi_str_bool, isi_str_list, type_str, isi_tup_tuple, isi_tup_int, isi_tup_str, isi_tup_bool, isi_tup_list, type_tup, is_int_int, isn_int_int, is_int_str, isn_int_str, is_int_tuple, isn_int_tuple, is_int_list, isn_int_list, is_int_bool, isn_int_bool, is_str_int, isn_str_int, is_str_str, isn_str_str, is_str_tuple, isn_str_tuple, is_str_list, isn_str_list, is_str_bool, isn_str_bool, is_tuple_int, isn_tuple_int, is_tuple_str, isn_tuple_str, is_tuple_tuple, isn_tuple_tuple, is_tuple_list, isn_tuple_list, is_tuple_bool, isn_tuple_bool, is_list_int, isn_list_int, is_list_str, isn_list_str, is_list_tuple, isn_list_tuple, is_list_list, isn_list_list, is_list_bool, isn_list_bool, is_bool_int, isn_bool_int, is_bool_str, isn_bool_str, is_bool_tuple, isn_bool_tuple, is_bool_list, isn_bool_list, is_bool_bool, isn_bool_bool, is_NoneType_int, isn_NoneType_int, is_NoneType_str, isn_NoneType_str, is_NoneType_tuple, isn_NoneType_tuple, is_NoneType_list, isn_NoneType_list, is_NoneType_bool, isn_NoneType_bool, isN_non, isnN_non, isB_non, isnB_non, isN_bl, isnN_bl, isB_bl, isnB_bl, isN_int, isnN_int, isB_int, isnB_int, isN_str, isnN_str, isB_str, isnB_str, isN_tup, isnN_tup, isB_tup, isnB_tup, eq_non_non, eq_non_bl, ne_non_bl, eq_non_int, ne_non_int, eq_non_str, ne_non_str, eq_bl_non, ne_bl_non, eq_bl_bl, ne_bl_bl, eq_bl_str, ne_bl_str, eq_int_non, ne_int_non, eq_int_int, ne_int_int, eq_int_str, ne_int_str, eq_str_non, ne_str_non, eq_str_bl, ne_str_bl, eq_str_int, ne_str_int, eq_str_str, ne_str_str, isN_ref, isB_ref, tru_bl, tru_int, he]
  refine ⟨Nat.zero_le _, gateT (fun _ => other S (Kx.refl _ _) b0) fun hne => ?_⟩
  have hpos : 0 < ds.length := by
    cases ds with
    | nil => cases hne
    | cons => exact Nat.zero_lt_succ _
  refine draw_spec b0 (by decide) fun v1 S1 w1 x1 k1 b1 => ?_
  simp only [sat_ok, sat_ex, sat_err, sat_bind_eq, ofP_some, ofP_none, sat_of_eq, st_nx, st_rt, st_bk, st_ct, st_ex, st_err, st_then, seqP_nx, seqP_rt, seqP_bk, seqP_ct, seqP_ex, st_xSeq, endP_nx, endP_rt, endP_ex, endP_bk, endP_ct, varP_some, varP_none, varP_non, sat_xVar, sat_xC, sat_xOp, sat_xUn, blP_bl, sat_xTB, trP_some, trP_none, sat_xT, sat_xAndT, sat_xOrT, sat_xNotT, sat_xAnd, sat_xOr, sat_xNot, sat_xIf, sat_xNil, sat_xCons, sat_xTup, sat_xLst, sat_xChain, sat_xCall, sat_xCB, sat_xM0, sat_xM, intP_int, sat_xNoP, sat_xPart, sat_xSl, st_xSkip, st_xBrk, st_xCnt, st_xDrop, st_xRet, st_xRetN, st_xIfS, tgP_some, tgP_none, st_xAsg, g_gVar, g_gNil, g_gCons, g_gTup, augP_some, augP_none, st_xAug, parP_two, st_xPar, loopP_nx, loopP_ct, loopP_bk, loopP_rt, loopP_ex, st_xFor, itP_some, itP_none, sat_xIt, sat_xLc, sat_xItA, sat_xYes, sat_xLenSet, oAdd_ii, oSub_ii, oMul_ii, oFdiv_ii, oMod_ii, oNeg_i, oLt_ii, oLe_ii, oGt_ii, oGe_ii, oInt_i, oIx_ti, oIx_qi, oLen_t, oLen_q, oLen_s, atI_0, atI_1, atI_2, atI_3, atI_4, atI_5, atI_6, atI_7, atI_8, atI_9, atI_10, atI_11, atI_12, atI_13, atI_14, List.getElem?_cons_zero, List.getElem?_cons_succ, List.map_cons, List.map_nil, List.cons_append, List.nil_append, List.length_cons, List.length_nil, List.set_cons_zero, List.set_cons_succ, List.replicate, Option.map_some, Option.map_none, Option.bind_some, Option.bind_none, if_true, if_false, Nat.reduceAdd, Nat.reduceSub, Nat.reduceLT, Nat.reduceLeDiff, Nat.reduceEqDiff, Int.reduceLT, Int.reduceLE, Int.reduceNeg, Int.reduceEq, Bool.false_eq_true, Bool.true_eq_false, reduceIte, reduceCtorEq, Bool.not_true, Bool.not_false, decide_eq_true_eq, Nat.zero_lt_succ, and_true, true_and, and_self, and_false, false_and, isi_non_tuple, isi_non_int, isi_non_str, isi_non_bool, isi_non_list, type_non, isi_bl_tuple, isi_bl_int, isi_bl_str, isi_bl_bool, isi_bl_list, type_bl, isi_int_tuple, isi_int_int, isi_int_str, isi_int_bool, isi_int_list, type_int, isi_str_tuple, isi_str_int, isi_str_str, isi_str_bool, isi_str_list, type_str, isi_tup_tuple, isi_tup_int, isi_tup_str, isi_tup_bool, isi_tup_list, type_tup, is_int_int, isn_int_int, is_int_str, isn_int_str, is_int_tuple, isn_int_tuple, is_int_list, isn_int_list, is_int_bool, isn_int_bool, is_str_int, isn_str_int, is_str_str, isn_str_str, is_str_tuple, isn_str_tuple, is_str_list, isn_str_list, is_str_bool, isn_str_bool, is_tuple_int, isn_tuple_int, is_tuple_str, isn_tuple_str, is_tuple_tuple, isn_tuple_tuple, is_tuple_list, isn_tuple_list, is_tuple_bool, isn_tuple_bool, is_list_int, isn_list_int, is_list_str, isn_list_str, is_list_tuple, isn_list_tuple, is_list_list, isn_list_list, is_list_bool, isn_list_bool, is_bool_int, isn_bool_int, is_bool_str, isn_bool_str, is_bool_tuple, isn_bool_tuple, is_bool_list, isn_bool_list, is_bool_bool, isn_bool_bool, is_NoneType_int, isn_NoneType_int, is_NoneType_str, isn_NoneType_str, is_NoneType_tuple, isn_NoneType_tuple, is_NoneType_list, isn_NoneType_list, is_NoneType_bool, isn_NoneType_bool, isN_non, isnN_non, isB_non, isnB_non, isN_bl, isnN_bl, isB_bl, isnB_bl, isN_int, isnN_int, isB_int, isnB_int, isN_str, isnN_str, isB_str, isnB_str, isN_tup, isnN_tup, isB_tup, isnB_tup, eq_non_non, eq_non_bl, ne_non_bl, eq_non_int, ne_non_int, eq_non_str, ne_non_str, eq_bl_non, ne_bl_non, eq_bl_bl, ne_bl_bl, eq_bl_str, ne_bl_str, eq_int_non, ne_int_non, eq_int_int, ne_int_int, eq_int_str, ne_int_str, eq_str_non, ne_str_non, eq_str_bl, ne_str_bl, eq_str_int, ne_str_int, eq_str_str, ne_str_str, isN_ref, isB_ref, tru_bl, tru_int]
  split
  · exact other S1 k1 b1
  · refine n1 _ _ ?_
    rw [seq_cutR]
    intro K2 n2 r2 _ _ _
    simp only [sat_ok, sat_ex, sat_err, sat_bind_eq, ofP_some, ofP_none, sat_of_eq, st_nx, st_rt, st_bk, st_ct, st_ex, st_err, st_then, seqP_nx, seqP_rt, seqP_bk, seqP_ct, seqP_ex, st_xSeq, endP_nx, endP_rt, endP_ex, endP_bk, endP_ct, varP_some, varP_none, varP_non, sat_xVar, sat_xC, sat_xOp, sat_xUn, blP_bl, sat_xTB, trP_some, trP_none, sat_xT, sat_xAndT, sat_xOrT, sat_xNotT, sat_xAnd, sat_xOr, sat_xNot, sat_xIf, sat_xNil, sat_xCons, sat_xTup, sat_xLst, sat_xChain, sat_xCall, sat_xCB, sat_xM0, sat_xM, intP_int, sat_xNoP, sat_xPart, sat_xSl, st_xSkip, st_xBrk, st_xCnt, st_xDrop, st_xRet, st_xRetN, st_xIfS, tgP_some, tgP_none, st_xAsg, g_gVar, g_gNil, g_gCons, g_gTup, augP_some, augP_none, st_xAug, parP_two, st_xPar, loopP_nx, loopP_ct, loopP_bk, loopP_rt, loopP_ex, st_xFor, itP_some, itP_none, sat_xIt, sat_xLc, sat_xItA, sat_xYes, sat_xLenSet, oAdd_ii, oSub_ii, oMul_ii, oFdiv_ii, oMod_ii, oNeg_i, oLt_ii, oLe_ii, oGt_ii, oGe_ii, oInt_i, oIx_ti, oIx_qi, oLen_t, oLen_q, oLen_s, atI_0, atI_1, atI_2, atI_3, atI_4, atI_5, atI_6, atI_7, atI_8, atI_9, atI_10, atI_11, atI_12, atI_13, atI_14, List.getElem?_cons_zero, List.getElem?_cons_succ, List.map_cons, List.map_nil, List.cons_append, List.nil_append, List.length_cons, List.length_nil, List.set_cons_zero, List.set_cons_succ, List.replicate, Option.map_some, Option.map_none, Option.bind_some, Option.bind_none, if_true, if_false, Nat.reduceAdd, Nat.reduceSub, Nat.reduceLT, Nat.reduceLeDiff, Nat.reduceEqDiff, Int.reduceLT, Int.reduceLE, Int.reduceNeg, Int.reduceEq, Bool.false_eq_true, Bool.true_eq_false, reduceIte, reduceCtorEq, Bool.not_true, Bool.not_false, decide_eq_true_eq, Nat.zero_lt_succ, and_true, true_and, and_self, and_false, false_and, isi_non_tuple, isi_non_int, isi_non_str, isi_non_bool, isi_non_list, type_non, isi_bl_tuple, isi_bl_int, isi_bl_str, isi_bl_bool, isi_bl_list, type_bl, isi_int_tuple, isi_int_int, isi_int_str, isi_int_bool, isi_int_list, type_int, isi_str_tuple, isi_str_int, isi_str_str, isi_str_bool, isi_str_list, type_str, isi_tup_tuple, isi_tup_int, isi_tup_str, isi_tup_bool, isi_tup_list, type_tup, is_int_int, isn_int_int, is_int_str, isn_int_str, is_int_tuple, isn_int_tuple, is_int_list, isn_int_list, is_int_bool, isn_int_bool, is_str_int, isn_str_int, is_str_str, isn_str_str, is_str_tuple, isn_str_tuple, is_str_list, isn_str_list, is_str_bool, isn_str_bool, is_tuple_int, isn_tuple_int, is_tuple_str, isn_tuple_str, is_tuple_tuple, isn_tuple_tuple, is_tuple_list, isn_tuple_list, is_tuple_bool, isn_tuple_bool, is_list_int, isn_list_int, is_list_str, isn_list_str, is_list_tuple, isn_list_tuple, is_list_list, isn_list_list, is_list_bool, isn_list_bool, is_bool_int, isn_bool_int, is_bool_str, isn_bool_str, is_bool_tuple, isn_bool_tuple, is_bool_list, isn_bool_list, is_bool_bool, isn_bool_bool, is_NoneType_int, isn_NoneType_int, is_NoneType_str, isn_NoneType_str, is_NoneType_tuple, isn_NoneType_tuple, is_NoneType_list, isn_NoneType_list, is_NoneType_bool, isn_NoneType_bool, isN_non, isnN_non, isB_non, isnB_non, isN_bl, isnN_bl, isB_bl, isnB_bl, isN_int, isnN_int, isB_int, isnB_int, isN_str, isnN_str, isB_str, isnB_str, isN_tup, isnN_tup, isB_tup, isnB_tup, eq_non_non, eq_non_bl, ne_non_bl, eq_non_int, ne_non_int, eq_non_str, ne_non_str, eq_bl_non, ne_bl_non, eq_bl_bl, ne_bl_bl, eq_bl_str, ne_bl_str, eq_int_non, ne_int_non, eq_int_int, ne_int_int, eq_int_str, ne_int_str, eq_str_non, ne_str_non, eq_str_bl, ne_str_bl, eq_str_int, ne_str_int, eq_str_str, ne_str_str, isN_ref, isB_ref, tru_bl, tru_int]
    refine draw_spec b1 (by decide) fun v2 S2 w2 x2 k2 b2 => ?_
    simp only [sat_ok, sat_ex, sat_err, sat_bind_eq, ofP_some, ofP_none, sat_of_eq, st_nx, st_rt, st_bk, st_ct, st_ex, st_err, st_then, seqP_nx, seqP_rt, seqP_bk, seqP_ct, seqP_ex, st_xSeq, endP_nx, endP_rt, endP_ex, endP_bk, endP_ct, varP_some, varP_none, varP_non, sat_xVar, sat_xC, sat_xOp, sat_xUn, blP_bl, sat_xTB, trP_some, trP_none, sat_xT, sat_xAndT, sat_xOrT, sat_xNotT, sat_xAnd, sat_xOr, sat_xNot, sat_xIf, sat_xNil, sat_xCons, sat_xTup, sat_xLst, sat_xChain, sat_xCall, sat_xCB, sat_xM0, sat_xM, intP_int, sat_xNoP, sat_xPart, sat_xSl, st_xSkip, st_xBrk, st_xCnt, st_xDrop, st_xRet, st_xRetN, st_xIfS, tgP_some, tgP_none, st_xAsg, g_gVar, g_gNil, g_gCons, g_gTup, augP_some, augP_none, st_xAug, parP_two, st_xPar, loopP_nx, loopP_ct, loopP_bk, loopP_rt, loopP_ex, st_xFor, itP_some, itP_none, sat_xIt, sat_xLc, sat_xItA, sat_xYes, sat_xLenSet, oAdd_ii, oSub_ii, oMul_ii, oFdiv_ii, oMod_ii, oNeg_i, oLt_ii, oLe_ii, oGt_ii, oGe_ii, oInt_i, oIx_ti, oIx_qi, oLen_t, oLen_q, oLen_s, atI_0, atI_1, atI_2, atI_3, atI_4, atI_5, atI_6, atI_7, atI_8, atI_9, atI_10, atI_11, atI_12, atI_13, atI_14, List.getElem?_cons_zero, List.getElem?_cons_succ, List.map_cons, List.map_nil, List.cons_append, List.nil_append, List.length_cons, List.length_nil, List.set_cons_zero, List.set_cons_succ, List.replicate, Option.map_some, Option.map_none, Option.bind_some, Option.bind_none, if_true, if_false, Nat.reduceAdd, Nat.reduceSub, Nat.reduceLT, Nat.reduceLeDiff, Nat.reduceEqDiff, Int.reduceLT, Int.reduceLE, Int.reduceNeg, Int.reduceEq, Bool.false_eq_true, Bool.true_eq_false, reduceIte, reduceCtorEq, Bool.not_true, Bool.not_false, decide_eq_true_eq, Nat.zero_lt_succ, and_true, true_and, and_self, and_false, false_and, isi_non_tuple, isi_non_int, isi_non_str, isi_non_bool, isi_non_list, type_non, isi_bl_tuple, isi_bl_int, isi_bl_str, isi_bl_bool, isi_bl_list, type_bl, isi_int_tuple, isi_int_int, isi_int_str, isi_int_bool, isi_int_list, type_int, isi_str_tuple, isi_str_int, isi_str_str, isi_str_bool, isi_str_list, type_str, isi_tup_tuple, isi_tup_int, isi_tup_str, isi_tup_bool, isi_tup_list, type_tup, is_int_int, isn_int_int, is_int_str, isn_int_str, is_int_tuple, isn_int_tuple, is_int_list, isn_int_list, is_int_bool, isn_int_bool, is_str_int, isn_str_int, is_str_str, isn_str_str, is_str_tuple, isn_str_tuple, is_str_list, isn_str_list, is_str_bool, isn_str_bool, is_tuple_int, isn_tuple_int, is_tuple_str, isn_tuple_str, is_tuple_tuple, isn_tuple_tuple, is_tuple_list, isn_tuple_list, is_tuple_bool, isn_tuple_bool, is_list_int, isn_list_int, is_list_str, isn_list_str, is_list_tuple, isn_list_tuple, is_list_list, isn_list_list, is_list_bool, isn_list_bool, is_bool_int, isn_bool_int, is_bool_str, isn_bool_str, is_bool_tuple, isn_bool_tuple, is_bool_list, isn_bool_list, is_bool_bool, isn_bool_bool, is_NoneType_int, isn_NoneType_int, is_NoneType_str, isn_NoneType_str, is_NoneType_tuple, isn_NoneType_tuple, is_NoneType_list, isn_NoneType_list, is_NoneType_bool, isn_NoneType_bool, isN_non, isnN_non, isB_non, isnB_non, isN_bl, isnN_bl, isB_bl, isnB_bl, isN_int, isnN_int, isB_int, isnB_int, isN_str, isnN_str, isB_str, isnB_str, isN_tup, isnN_tup, isB_tup, isnB_tup, eq_non_non, eq_non_bl, ne_non_bl, eq_non_int, ne_non_int, eq_non_str, ne_non_str, eq_bl_non, ne_bl_non, eq_bl_bl, ne_bl_bl, eq_bl_str, ne_bl_str, eq_int_non, ne_int_non, eq_int_int, ne_int_int, eq_int_str, ne_int_str, eq_str_non, ne_str_non, eq_str_bl, ne_str_bl, eq_str_int, ne_str_int, eq_str_str, ne_str_str, isN_ref, isB_ref, tru_bl, tru_int]
    rw [if_pos (by omega)]
    simp only [sat_ok, sat_ex, sat_err, sat_bind_eq, ofP_some, ofP_none, sat_of_eq, st_nx, st_rt, st_bk, st_ct, st_ex, st_err, st_then, seqP_nx, seqP_rt, seqP_bk, seqP_ct, seqP_ex, st_xSeq, endP_nx, endP_rt, endP_ex, endP_bk, endP_ct, varP_some, varP_none, varP_non, sat_xVar, sat_xC, sat_xOp, sat_xUn, blP_bl, sat_xTB, trP_some, trP_none, sat_xT, sat_xAndT, sat_xOrT, sat_xNotT, sat_xAnd, sat_xOr, sat_xNot, sat_xIf, sat_xNil, sat_xCons, sat_xTup, sat_xLst, sat_xChain, sat_xCall, sat_xCB, sat_xM0, sat_xM, intP_int, sat_xNoP, sat_xPart, sat_xSl, st_xSkip, st_xBrk, st_xCnt, st_xDrop, st_xRet, st_xRetN, st_xIfS, tgP_some, tgP_none, st_xAsg, g_gVar, g_gNil, g_gCons, g_gTup, augP_some, augP_none, st_xAug, parP_two, st_xPar, loopP_nx, loopP_ct, loopP_bk, loopP_rt, loopP_ex, st_xFor, itP_some, itP_none, sat_xIt, sat_xLc, sat_xItA, sat_xYes, sat_xLenSet, oAdd_ii, oSub_ii, oMul_ii, oFdiv_ii, oMod_ii, oNeg_i, oLt_ii, oLe_ii, oGt_ii, oGe_ii, oInt_i, oIx_ti, oIx_qi, oLen_t, oLen_q, oLen_s, atI_0, atI_1, atI_2, atI_3, atI_4, atI_5, atI_6, atI_7, atI_8, atI_9, atI_10, atI_11, atI_12, atI_13, atI_14, List.getElem?_cons_zero, List.getElem?_cons_succ, List.map_cons, List.map_nil, List.cons_append, List.nil_append, List.length_cons, List.length_nil, List.set_cons_zero, List.set_cons_succ, List.replicate, Option.map_some, Option.map_none, Option.bind_some, Option.bind_none, if_true, if_false, Nat.reduceAdd, Nat.reduceSub, Nat.reduceLT, Nat.reduceLeDiff, Nat.reduceEqDiff, Int.reduceLT, Int.reduceLE, Int.reduceNeg, Int.reduceEq, Bool.false_eq_true, Bool.true_eq_false, reduceIte, reduceCtorEq, Bool.not_true, Bool.not_false, decide_eq_true_eq, Nat.zero_lt_succ, and_true, true_and, and_self, and_false, false_and, isi_non_tuple, isi_non_int, isi_non_str, isi_non_bool, isi_non_list, type_non, isi_bl_tuple, isi_bl_int, isi_bl_str, isi_bl_bool, isi_bl_list, type_bl, isi_int_tuple, isi_int_int, isi_int_str, isi_int_bool, isi_int_list, type_int, isi_str_tuple, isi_str_int, isi_str_str, isi_str_bool, isi_str_list, type_str, isi_tup_tuple, isi_tup_int, isi_tup_str, isi_tup_bool, isi_tup_list, type_tup, is_int_int, isn_int_int, is_int_str, isn_int_str, is_int_tuple, isn_int_tuple, is_int_list, isn_int_list, is_int_bool, isn_int_bool, is_str_int, isn_str_int, is_str_str, isn_str_str, is_str_tuple, isn_str_tuple, is_str_list, isn_str_list, is_str_bool, isn_str_bool, is_tuple_int, isn_tuple_int, is_tuple_str, isn_tuple_str, is_tuple_tuple, isn_tuple_tuple, is_tuple_list, isn_tuple_list, is_tuple_bool, isn_tuple_bool, is_list_int, isn_list_int, is_list_str, isn_list_str, is_list_tuple, isn_list_tuple, is_list_list, isn_list_list, is_list_bool, isn_list_bool, is_bool_int, isn_bool_int, is_bool_str, isn_bool_str, is_bool_tuple, isn_bool_tuple, is_bool_list, isn_bool_list, is_bool_bool, isn_bool_bool, is_NoneType_int, isn_NoneType_int, is_NoneType_str, isn_NoneType_str, is_NoneType_tuple, isn_NoneType_tuple, is_NoneType_list, isn_NoneType_list, is_NoneType_bool, isn_NoneType_bool, isN_non, isnN_non, isB_non, isnB_non, isN_bl, isnN_bl, isB_bl, isnB_bl, isN_int, isnN_int, isB_int, isnB_int, isN_str, isnN_str, isB_str, isnB_str, isN_tup, isnN_tup, isB_tup, isnB_tup, eq_non_non, eq_non_bl, ne_non_bl, eq_non_int, ne_non_int, eq_non_str, ne_non_str, eq_bl_non, ne_bl_non, eq_bl_bl, ne_bl_bl, eq_bl_str, ne_bl_str, eq_int_non, ne_int_non, eq_int_int, ne_int_int, eq_int_str, ne_int_str, eq_str_non, ne_str_non, eq_str_bl, ne_str_bl, eq_str_int, ne_str_int, eq_str_str, ne_str_str, isN_ref, isB_ref, tru_bl, tru_int]
    refine n2 _ _ ?_
    have hv0 : 0 ≤ v2 % (ds.length : Int) := Int.emod_nonneg _ (by omega)
    have hv1 : v2 % (ds.length : Int) < ds.length := Int.emod_lt_of_pos _ (by omega)
    generalize v2 % (ds.length : Int) = at' at hv0 hv1
    obtain ⟨d, hd, e1⟩ := atI_mem (l := ds) hv0 hv1
    simp only [sat_ok, sat_ex, sat_err, sat_bind_eq, ofP_some, ofP_none, sat_of_eq, st_nx, st_rt, st_bk, st_ct, st_ex, st_err, st_then, seqP_nx, seqP_rt, seqP_bk, seqP_ct, seqP_ex, st_xSeq, endP_nx, endP_rt, endP_ex, endP_bk, endP_ct, varP_some, varP_none, varP_non, sat_xVar, sat_xC, sat_xOp, sat_xUn, blP_bl, sat_xTB, trP_some, trP_none, sat_xT, sat_xAndT, sat_xOrT, sat_xNotT, sat_xAnd, sat_xOr, sat_xNot, sat_xIf, sat_xNil, sat_xCons, sat_xTup, sat_xLst, sat_xChain, sat_xCall, sat_xCB, sat_xM0, sat_xM, intP_int, sat_xNoP, sat_xPart, sat_xSl, st_xSkip, st_xBrk, st_xCnt, st_xDrop, st_xRet, st_xRetN, st_xIfS, tgP_some, tgP_none, st_xAsg, g_gVar, g_gNil, g_gCons, g_gTup, augP_some, augP_none, st_xAug, parP_two, st_xPar, loopP_nx, loopP_ct, loopP_bk, loopP_rt, loopP_ex, st_xFor, itP_some, itP_none, sat_xIt, sat_xLc, sat_xItA, sat_xYes, sat_xLenSet, oAdd_ii, oSub_ii, oMul_ii, oFdiv_ii, oMod_ii, oNeg_i, oLt_ii, oLe_ii, oGt_ii, oGe_ii, oInt_i, oIx_ti, oIx_qi, oLen_t, oLen_q, oLen_s, atI_0, atI_1, atI_2, atI_3, atI_4, atI_5, atI_6, atI_7, atI_8, atI_9, atI_10, atI_11, atI_12, atI_13, atI_14, List.getElem?_cons_zero, List.getElem?_cons_succ, List.map_cons, List.map_nil, List.cons_append, List.nil_append, List.length_cons, List.length_nil, List.set_cons_zero, List.set_cons_succ, List.replicate, Option.map_some, Option.map_none, Option.bind_some, Option.bind_none, if_true, if_false, Nat.reduceAdd, Nat.reduceSub, Nat.reduceLT, Nat.reduceLeDiff, Nat.reduceEqDiff, Int.reduceLT, Int.reduceLE, Int.reduceNeg, Int.reduceEq, Bool.false_eq_true, Bool.true_eq_false, reduceIte, reduceCtorEq, Bool.not_true, Bool.not_false, decide_eq_true_eq, Nat.zero_lt_succ, and_true, true_and, and_self, and_false, false_and, isi_non_tuple, isi_non_int, isi_non_str, isi_non_bool, isi_non_list, type_non, isi_bl_tuple, isi_bl_int, isi_bl_str, isi_bl_bool, isi_bl_list, type_bl, isi_int_tuple, isi_int_int, isi_int_str, isi_int_bool, isi_int_list, type_int, isi_str_tuple, isi_str_int, isi_str_str, isi_str_bool, isi_str_list, type_str, isi_tup_tuple, isi_tup_int, isi_tup_str, isi_tup_bool, isi_tup_list, type_tup, is_int_int, isn_int_int, is_int_str, isn_int_str, is_int_tuple, isn_int_tuple, is_int_list, isn_int_list, is_int_bool, isn_int_bool, is_str_int, isn_str_int, is_str_str, isn_str_str, is_str_tuple, isn_str_tuple, is_str_list, isn_str_list, is_str_bool, isn_str_bool, is_tuple_int, isn_tuple_int, is_tuple_str, isn_tuple_str, is_tuple_tuple, isn_tuple_tuple, is_tuple_list, isn_tuple_list, is_tuple_bool, isn_tuple_bool, is_list_int, isn_list_int, is_list_str, isn_list_str, is_list_tuple, isn_list_tuple, is_list_list, isn_list_list, is_list_bool, isn_list_bool, is_bool_int, isn_bool_int, is_bool_str, isn_bool_str, is_bool_tuple, isn_bool_tuple, is_bool_list, isn_bool_list, is_bool_bool, isn_bool_bool, is_NoneType_int, isn_NoneType_int, is_NoneType_str, isn_NoneType_str, is_NoneType_tuple, isn_NoneType_tuple, is_NoneType_list, isn_NoneType_list, is_NoneType_bool, isn_NoneType_bool, isN_non, isnN_non, isB_non, isnB_non, isN_bl, isnN_bl, isB_bl, isnB_bl, isN_int, isnN_int, isB_int, isnB_int, isN_str, isnN_str, isB_str, isnB_str, isN_tup, isnN_tup, isB_tup, isnB_tup, eq_non_non, eq_non_bl, ne_non_bl, eq_non_int, ne_non_int, eq_non_str, ne_non_str, eq_bl_non, ne_bl_non, eq_bl_bl, ne_bl_bl, eq_bl_str, ne_bl_str, eq_int_non, ne_int_non, eq_int_int, ne_int_int, eq_int_str, ne_int_str, eq_str_non, ne_str_non, eq_str_bl, ne_str_bl, eq_str_int, ne_str_int, eq_str_str, ne_str_str, isN_ref, isB_ref, tru_bl, tru_int, oSl_t, e1]
    have c1 := cut_len ds none (some at')
    have c2 := cut_len ds (some (at' + 1)) none
    refine hG d S2 _ (hp d hd) b2 fun d' S3 q3 k3 b3 => ⟨by rw [z]; decide, ?_⟩
    simp only [sat_ok, sat_ex, sat_err, sat_bind_eq, ofP_some, ofP_none, sat_of_eq, st_nx, st_rt, st_bk, st_ct, st_ex, st_err, st_then, seqP_nx, seqP_rt, seqP_bk, seqP_ct, seqP_ex, st_xSeq, endP_nx, endP_rt, endP_ex, endP_bk, endP_ct, varP_some, varP_none, varP_non, sat_xVar, sat_xC, sat_xOp, sat_xUn, blP_bl, sat_xTB, trP_some, trP_none, sat_xT, sat_xAndT, sat_xOrT, sat_xNotT, sat_xAnd, sat_xOr, sat_xNot, sat_xIf, sat_xNil, sat_xCons, sat_xTup, sat_xLst, sat_xChain, sat_xCall, sat_xCB, sat_xM0, sat_xM, intP_int, sat_xNoP, sat_xPart, sat_xSl, st_xSkip, st_xBrk, st_xCnt, st_xDrop, st_xRet, st_xRetN, st_xIfS, tgP_some, tgP_none, st_xAsg, g_gVar, g_gNil, g_gCons, g_gTup, augP_some, augP_none, st_xAug, parP_two, st_xPar, loopP_nx, loopP_ct, loopP_bk, loopP_rt, loopP_ex, st_xFor, itP_some, itP_none, sat_xIt, sat_xLc, sat_xItA, sat_xYes, sat_xLenSet, oAdd_ii, oSub_ii, oMul_ii, oFdiv_ii, oMod_ii, oNeg_i, oLt_ii, oLe_ii, oGt_ii, oGe_ii, oInt_i, oIx_ti, oIx_qi, oLen_t, oLen_q, oLen_s, atI_0, atI_1, atI_2, atI_3, atI_4, atI_5, atI_6, atI_7, atI_8, atI_9, atI_10, atI_11, atI_12, atI_13, atI_14, List.getElem?_cons_zero, List.getElem?_cons_succ, List.map_cons, List.map_nil, List.cons_append, List.nil_append, List.length_cons, List.length_nil, List.set_cons_zero, List.set_cons_succ, List.replicate, Option.map_some, Option.map_none, Option.bind_some, Option.bind_none, if_true, if_false, Nat.reduceAdd, Nat.reduceSub, Nat.reduceLT, Nat.reduceLeDiff, Nat.reduceEqDiff, Int.reduceLT, Int.reduceLE, Int.reduceNeg, Int.reduceEq, Bool.false_eq_true, Bool.true_eq_false, reduceIte, reduceCtorEq, Bool.not_true, Bool.not_false, decide_eq_true_eq, Nat.zero_lt_succ, and_true, true_and, and_self, and_false, false_and, isi_non_tuple, isi_non_int, isi_non_str, isi_non_bool, isi_non_list, type_non, isi_bl_tuple, isi_bl_int, isi_bl_str, isi_bl_bool, isi_bl_list, type_bl, isi_int_tuple, isi_int_int, isi_int_str, isi_int_bool, isi_int_list, type_int, isi_str_tuple, isi_str_int, isi_str_str, isi_str_bool, isi_str_list, type_str, isi_tup_tuple, isi_tup_int, isi_tup_str, isi_tup_bool, isi_tup_list, type_tup, is_int_int, isn_int_int, is_int_str, isn_int_str, is_int_tuple, isn_int_tuple, is_int_list, isn_int_list, is_int_bool, isn_int_bool, is_str_int, isn_str_int, is_str_str, isn_str_str, is_str_tuple, isn_str_tuple, is_str_list, isn_str_list, is_str_bool, isn_str_bool, is_tuple_int, isn_tuple_int, is_tuple_str, isn_tuple_str, is_tuple_tuple, isn_tuple_tuple, is_tuple_list, isn_tuple_list, is_tuple_bool, isn_tuple_bool, is_list_int, isn_list_int, is_list_str, isn_list_str, is_list_tuple, isn_list_tuple, is_list_list, isn_list_list, is_list_bool, isn_list_bool, is_bool_int, isn_bool_int, is_bool_str, isn_bool_str, is_bool_tuple, isn_bool_tuple, is_bool_list, isn_bool_list, is_bool_bool, isn_bool_bool, is_NoneType_int, isn_NoneType_int, is_NoneType_str, isn_NoneType_str, is_NoneType_tuple, isn_NoneType_tuple, is_NoneType_list, isn_NoneType_list, is_NoneType_bool, isn_NoneType_bool, isN_non, isnN_non, isB_non, isnB_non, isN_bl, isnN_bl, isB_bl, isnB_bl, isN_int, isnN_int, isB_int, isnB_int, isN_str, isnN_str, isB_str, isnB_str, isN_tup, isnN_tup, isB_tup, isnB_tup, eq_non_non, eq_non_bl, ne_non_bl, eq_non_int, ne_non_int, eq_non_str, ne_non_str, eq_bl_non, ne_bl_non, eq_bl_bl, ne_bl_bl, eq_bl_str, ne_bl_str, eq_int_non, ne_int_non, eq_int_int, ne_int_int, eq_int_str, ne_int_str, eq_str_non, ne_str_non, eq_str_bl, ne_str_bl, eq_str_int, ne_str_int, eq_str_str, ne_str_str, isN_ref, isB_ref, tru_bl, tru_int, oSl_t, oAdd_tt (show (Dx.cutD ds none (some at')).length + [d'].length ≤ sizeLine by rw [z]; show _ + 1 ≤ _; omega), oAdd_tt (show (Dx.cutD ds none (some at') ++ [d']).length + (Dx.cutD ds (some (at' + 1)) none).length ≤ sizeLine by rw [z, List.length_append]; show _ + 1 + _ ≤ _; omega)]
    refine h1 _ S3 (by rw [List.length_append, List.length_append]; show _ + 1 + _ ≤ _; omega) (fun e he => ?_) ((k1.trans k2).trans k3) b3
    rcases List.mem_append.mp he with he | he
    · rcases List.mem_append.mp he with he | he
      · exact .inl (hp e (cut_mem he))
      · rw [List.mem_singleton.mp he]; exact .inr q3
    · exact .inl (hp e (cut_mem he))
theorem or0_sh {k : Nat} {d : D} (h : Or0 d) : shD k d = true := by
  cases h <;> cases k <;> rfl
theorem Od.keepB {S' : Sto} {d : D} (h : Od S d) (k : Kx [b] S S') (hb : Box b S') : Od S' d := by
  cases h with
  | one h => exact .one h
  | @ref m ds h =>
    by_cases e : m = b
    · subst e
      obtain ⟨x, ns, k, _, h1, _⟩ := hb
      exact .ref h1
    · exact .ref (k.at' _ _ (by simpa using e) h)
  | tup hz h => exact .tup hz h
theorem Os.keepB {S' : Sto} {d : D} (h : Os S d) (k : Kx [b] S S') (hb : Box b S') : Os S' d := by
  cases h with
  | one h => exact .one h
  | @ref m ds h =>
    by_cases e : m = b
    · subst e
      obtain ⟨x, ns, k, _, h1, _⟩ := hb
      exact .ref h1
    · exact .ref (k.at' _ _ (by simpa using e) h)
  | tup hz h => exact .tup hz fun d hd => (h d hd).keepB k hb
theorem Os.keep {S' : Sto} {d : D} (h : Os S d) (k : Kp S S') : Os S' d := by
  cases h with
  | one h => exact .one h
  | ref h => exact .ref (k.get h)
  | tup hz h => exact .tup hz fun d hd => (h d hd).keep k
theorem chg0 (n : Nat) (d : D) (S : Sto) (Pd : D → Sto → Prop) (E : Exn → Sto → Prop) (h0 : Or0 d) (b0 : Box b S) (h : ∀ d' S', Pl 0 d' → Kx [b] S S' → Box b S' → Pd d' S') : (fChanged (n + 1) [.ref b, d] S).wp Pd E := by
  cases h0 with
  | int h1 h2 => exact changed_int b0 h1 h2 h
  | str hy => exact changed_str b0 hy h
/-- an order as drawn -/
inductive Or1 : D → Prop
  | mk {ds : List D} (hz : ds.length ≤ 1000) (h : ∀ d ∈ ds, Or0 d) : Or1 (.tup ds)
theorem Or1.od {d : D} (h : Or1 d) : Od S d := by
  cases h with
  | mk hz h => exact .tup (by omega) fun d hd => (h d hd).pl
theorem chg1 (n : Nat) (d : D) (S : Sto) (Pd : D → Sto → Prop) (E : Exn → Sto → Prop) (h0 : Or1 d) (b0 : Box b S) (h : ∀ d' S', Od S' d' → Kx [b] S S' → Box b S' → Pd d' S') : (fChanged (n + 2) [.ref b, d] S).wp Pd E := by
  cases h0 with
  | mk hz hp =>
    refine changed_tup (n := n + 1) (p := Or0) (q := fun _ d => Pl 0 d) b0 hz hp (fun d h => or0_sh h) (fun d S Pd p b0 h => chg0 n d S Pd _ p b0 h) ?_ ?_ ?_
    · exact fun es S' hl he k b' => h _ _ (.tup (by omega) fun e h => (he e h).elim Or0.pl id) k b'
    · exact fun m S' e k b' => h _ _ (.ref e) k b'
    · exact fun S' k b' => h _ _ (.one .non) k b'
theorem chg2 (n : Nat) (ds : List D) (S : Sto) (Pd : D → Sto → Prop) (E : Exn → Sto → Prop) (hz : ds.length ≤ 1000) (h0 : ∀ d ∈ ds, Or1 d) (b0 : Box b S) (h : ∀ d' S', Os S' d' → Kx [b] S S' → Box b S' → Pd d' S') : (fChanged (n + 3) [.ref b, .tup ds] S).wp Pd E := by
  refine changed_tup (n := n + 2) (p := Or1) (q := fun S d => Od S d) b0 hz h0 (fun d h => ?_) (fun d S Pd p b0 h => chg1 n d S Pd _ p b0 h) ?_ ?_ ?_
  · cases h with
    | mk hz h =>
      rw [shD, List.all_eq_true]
      exact fun d hd => or0_sh (h d hd)
  · exact fun es S' hl he k b' => h _ _ (.tup (by omega) fun e h => (he e h).elim Or1.od id) k b'
  · exact fun m S' e k b' => h _ _ (.ref e) k b'
  · exact fun S' k b' => h _ _ (.one .non) k b'
end
end K43
namespace K43
open PySem PySem.Spec PyProof.Rows Dx
section
variable {S : Sto} {b : Nat} {Pd : D → Sto → Prop} {E : Exn → Sto → Prop} {m : Int}
theorem num_len {k : Nat} (h : k < 100) : (("n" : Str) ++ Str.ofString (toString (k : Int)) : Str).length ≤ 1000 := by
  have e := TL.len_tl (("n" : Str) ++ Str.ofString (toString (k : Int)))
  have hn : (TL.tl ("n" : Str)).length = 1 := rfl
  rw [TL.tl_append, List.length_append, hn, TL.tl_num] at e
  have := TL.numL_len (n := k) (k := 2) (by decide) (by omega)
  omega
/-- what stands of a list while a comprehension fills it from draws -/
structure FillI (b n : Nat) (p : D → Prop) (m : Nat) (acc : List D) (S : Sto) : Prop where
  ne : b < n
  box : Box b S
  at' : S[n]? = some (.lst acc)
  all : ∀ d ∈ acc, p d
  len : acc.length + m ≤ 1000
theorem FillI.step {n m : Nat} {p : D → Prop} {acc : List D} {y : D} {S' : Sto} (h : FillI b n p (m + 1) acc S) (k : Kx [b] S S') (hb : Box b S') (hy : p y) : S'[n]? = some (.lst acc) ∧ acc.length < sizeLine ∧ FillI b n p m (acc ++ [y]) (S'.set n (.lst (acc ++ [y]))) := by
  have z : sizeLine = 16777216 := rfl
  have e := k.at' n _ (by have := h.ne; simp; omega) h.at'
  have hl := h.len
  have hlt := (List.getElem?_eq_some_iff.mp e).1
  refine ⟨e, by omega, h.ne, ?_, by rw [List.getElem?_set_self hlt], fun d hd => ?_, by rw [List.length_append, List.length_singleton]; omega⟩
  · obtain ⟨x, ns, at', h0, h1, h2⟩ := hb
    have hn := h.ne
    exact ⟨x, ns, at', h0, by rw [List.getElem?_set_ne (by omega)]; exact h1, by rw [List.getElem?_set_ne (by omega)]; exact h2⟩
  · rcases List.mem_append.mp hd with hd | hd
    · exact h.all d hd
    · rw [List.mem_singleton.mp hd]; exact hy
noncomputable abbrev fLaw : Fn := bodyF 7 (B_law fDigits fDraw fLawOrder (fChanged 3) (fLike 3) (fDueOrders 2) fIsOrders (fDueOrder 2) fIsOrder)
theorem law_true {ns : List Int} (h : ∀ S', Pd (.bl true) S') : (fLaw [.sq (ns.map D.int)] S).wp Pd E := by
  have z : sizeLine = 16777216 := rfl
  have r6 := rng1_ok (j := 6) (by decide) (by decide)
  rw [sat_bodyF]
  unfold B_law
  rw [seq_cutR]
  intro K1 n1 _ _ _ _
  simp only [sat_ok, sat_ex, sat_err, sat_bind_eq, ofP_some, ofP_none, sat_of_eq, st_nx, st_rt, st_bk, st_ct, st_ex, st_err, st_then, seqP_nx, seqP_rt, seqP_bk, seqP_ct, seqP_ex, st_xSeq, endP_nx, endP_rt, endP_ex, endP_bk, endP_ct, varP_some, varP_none, varP_non, sat_xVar, sat_xC, sat_xOp, sat_xUn, blP_bl, sat_xTB, trP_some, trP_none, sat_xT, sat_xAndT, sat_xOrT, sat_xNotT, sat_xAnd, sat_xOr, sat_xNot, sat_xIf, sat_xNil, sat_xCons, sat_xTup, sat_xLst, sat_xChain, sat_xCall, sat_xCB, sat_xM0, sat_xM, intP_int, sat_xNoP, sat_xPart, sat_xSl, st_xSkip, st_xBrk, st_xCnt, st_xDrop, st_xRet, st_xRetN, st_xIfS, tgP_some, tgP_none, st_xAsg, g_gVar, g_gNil, g_gCons, g_gTup, augP_some, augP_none, st_xAug, parP_two, st_xPar, loopP_nx, loopP_ct, loopP_bk, loopP_rt, loopP_ex, st_xFor, itP_some, itP_none, sat_xIt, sat_xLc, sat_xItA, sat_xYes, sat_xLenSet, oAdd_ii, oSub_ii, oMul_ii, oFdiv_ii, oMod_ii, oNeg_i, oLt_ii, oLe_ii, oGt_ii, oGe_ii, oInt_i, oIx_ti, oIx_qi, oLen_t, oLen_q, oLen_s, atI_0, atI_1, atI_2, atI_3, atI_4, atI_5, atI_6, atI_7, atI_8, atI_9, atI_10, atI_11, atI_12, atI_13, atI_14, List.getElem?_cons_zero, List.getElem?_cons_succ, List.map_cons, List.map_nil, List.cons_append, List.nil_append, List.length_cons, List.length_nil, List.set_cons_zero, List.set_cons_succ, List.replicate, Option.map_some, Option.map_none, Option.bind_some, Option.bind_none, if_true, if_false, Nat.reduceAdd, Nat.reduceSub, Nat.reduceLT, Nat.reduceLeDiff, Nat.reduceEqDiff, Int.reduceLT, Int.reduceLE, Int.reduceNeg, Int.reduceEq, Bool.false_eq_true, Bool.true_eq_false, reduceIte, reduceCtorEq, Bool.not_true, Bool.not_false, decide_eq_true_eq, Nat.zero_lt_succ, and_true, true_and, and_self, and_false, false_and, isi_non_tuple, isi_non_int, isi_non_str, isi_non_bool, isi_non_list, type_non, isi_bl_tuple, isi_bl_int, isi_bl_str, isi_bl_bool, isi_bl_list, type_bl, isi_int_tuple, isi_int_int, isi_int_str, isi_int_bool, isi_int_list, type_int, isi_str_tuple, isi_str_int, isi_str_str, isi_str_bool, isi_str_list, type_str, isi_tup_tuple, isi_tup_int, isi_tup_str, isi_tup_bool, isi_tup_list, type_tup, is_int_int, isn_int_int, is_int_str, isn_int_str, is_int_tuple, isn_int_tuple, is_int_list, isn_int_list, is_int_bool, isn_int_bool, is_str_int, isn_str_int, is_str_str, isn_str_str, is_str_tuple, isn_str_tuple, is_str_list, isn_str_list, is_str_bool, isn_str_bool, is_tuple_int, isn_tuple_int, is_tuple_str, isn_tuple_str, is_tuple_tuple, isn_tuple_tuple, is_tuple_list, isn_tuple_list, is_tuple_bool, isn_tuple_bool, is_list_int, isn_list_int, is_list_str, isn_list_str, is_list_tuple, isn_list_tuple, is_list_list, isn_list_list, is_list_bool, isn_list_bool, is_bool_int, isn_bool_int, is_bool_str, isn_bool_str, is_bool_tuple, isn_bool_tuple, is_bool_list, isn_bool_list, is_bool_bool, isn_bool_bool, is_NoneType_int, isn_NoneType_int, is_NoneType_str, isn_NoneType_str, is_NoneType_tuple, isn_NoneType_tuple, is_NoneType_list, isn_NoneType_list, is_NoneType_bool, isn_NoneType_bool, isN_non, isnN_non, isB_non, isnB_non, isN_bl, isnN_bl, isB_bl, isnB_bl, isN_int, isnN_int, isB_int, isnB_int, isN_str, isnN_str, isB_str, isnB_str, isN_tup, isnN_tup, isB_tup, isnB_tup, eq_non_non, eq_non_bl, ne_non_bl, eq_non_int, ne_non_int, eq_non_str, ne_non_str, eq_bl_non, ne_bl_non, eq_bl_bl, ne_bl_bl, eq_bl_str, ne_bl_str, eq_int_non, ne_int_non, eq_int_int, ne_int_int, eq_int_str, ne_int_str, eq_str_non, ne_str_non, eq_str_bl, ne_str_bl, eq_str_int, ne_str_int, eq_str_str, ne_str_str, isN_ref, isB_ref, tru_bl, tru_int]
  refine digits_spec fun S1 n ds k1 hn e1 => ⟨by rw [z]; decide, n1 _ _ ?_⟩
  have hlt := (List.getElem?_eq_some_iff.mp e1).1
  have b1 : Box S1.length (S1 ++ [.lst [.ref n, .int 0]]) := ⟨n, ds, 0, hlt, by simp, (Kx.app [] _ _).get e1⟩
  generalize S1.length = b at b1
  rw [seq_cutR]
  intro K2 n2 r2 _ _ _
  simp only [sat_ok, sat_ex, sat_err, sat_bind_eq, ofP_some, ofP_none, sat_of_eq, st_nx, st_rt, st_bk, st_ct, st_ex, st_err, st_then, seqP_nx, seqP_rt, seqP_bk, seqP_ct, seqP_ex, st_xSeq, endP_nx, endP_rt, endP_ex, endP_bk, endP_ct, varP_some, varP_none, varP_non, sat_xVar, sat_xC, sat_xOp, sat_xUn, blP_bl, sat_xTB, trP_some, trP_none, sat_xT, sat_xAndT, sat_xOrT, sat_xNotT, sat_xAnd, sat_xOr, sat_xNot, sat_xIf, sat_xNil, sat_xCons, sat_xTup, sat_xLst, sat_xChain, sat_xCall, sat_xCB, sat_xM0, sat_xM, intP_int, sat_xNoP, sat_xPart, sat_xSl, st_xSkip, st_xBrk, st_xCnt, st_xDrop, st_xRet, st_xRetN, st_xIfS, tgP_some, tgP_none, st_xAsg, g_gVar, g_gNil, g_gCons, g_gTup, augP_some, augP_none, st_xAug, parP_two, st_xPar, loopP_nx, loopP_ct, loopP_bk, loopP_rt, loopP_ex, st_xFor, itP_some, itP_none, sat_xIt, sat_xLc, sat_xItA, sat_xYes, sat_xLenSet, oAdd_ii, oSub_ii, oMul_ii, oFdiv_ii, oMod_ii, oNeg_i, oLt_ii, oLe_ii, oGt_ii, oGe_ii, oInt_i, oIx_ti, oIx_qi, oLen_t, oLen_q, oLen_s, atI_0, atI_1, atI_2, atI_3, atI_4, atI_5, atI_6, atI_7, atI_8, atI_9, atI_10, atI_11, atI_12, atI_13, atI_14, List.getElem?_cons_zero, List.getElem?_cons_succ, List.map_cons, List.map_nil, List.cons_append, List.nil_append, List.length_cons, List.length_nil, List.set_cons_zero, List.set_cons_succ, List.replicate, Option.map_some, Option.map_none, Option.bind_some, Option.bind_none, if_true, if_false, Nat.reduceAdd, Nat.reduceSub, Nat.reduceLT, Nat.reduceLeDiff, Nat.reduceEqDiff, Int.reduceLT, Int.reduceLE, Int.reduceNeg, Int.reduceEq, Bool.false_eq_true, Bool.true_eq_false, reduceIte, reduceCtorEq, Bool.not_true, Bool.not_false, decide_eq_true_eq, Nat.zero_lt_succ, and_true, true_and, and_self, and_false, false_and, isi_non_tuple, isi_non_int, isi_non_str, isi_non_bool, isi_non_list, type_non, isi_bl_tuple, isi_bl_int, isi_bl_str, isi_bl_bool, isi_bl_list, type_bl, isi_int_tuple, isi_int_int, isi_int_str, isi_int_bool, isi_int_list, type_int, isi_str_tuple, isi_str_int, isi_str_str, isi_str_bool, isi_str_list, type_str, isi_tup_tuple, isi_tup_int, isi_tup_str, isi_tup_bool, isi_tup_list, type_tup, is_int_int, isn_int_int, is_int_str, isn_int_str, is_int_tuple, isn_int_tuple, is_int_list, isn_int_list, is_int_bool, isn_int_bool, is_str_int, isn_str_int, is_str_str, isn_str_str, is_str_tuple, isn_str_tuple, is_str_list, isn_str_list, is_str_bool, isn_str_bool, is_tuple_int, isn_tuple_int, is_tuple_str, isn_tuple_str, is_tuple_tuple, isn_tuple_tuple, is_tuple_list, isn_tuple_list, is_tuple_bool, isn_tuple_bool, is_list_int, isn_list_int, is_list_str, isn_list_str, is_list_tuple, isn_list_tuple, is_list_list, isn_list_list, is_list_bool, isn_list_bool, is_bool_int, isn_bool_int, is_bool_str, isn_bool_str, is_bool_tuple, isn_bool_tuple, is_bool_list, isn_bool_list, is_bool_bool, isn_bool_bool, is_NoneType_int, isn_NoneType_int, is_NoneType_str, isn_NoneType_str, is_NoneType_tuple, isn_NoneType_tuple, is_NoneType_list, isn_NoneType_list, is_NoneType_bool, isn_NoneType_bool, isN_non, isnN_non, isB_non, isnB_non, isN_bl, isnN_bl, isB_bl, isnB_bl, isN_int, isnN_int, isB_int, isnB_int, isN_str, isnN_str, isB_str, isnB_str, isN_tup, isnN_tup, isB_tup, isnB_tup, eq_non_non, eq_non_bl, ne_non_bl, eq_non_int, ne_non_int, eq_non_str, ne_non_str, eq_bl_non, ne_bl_non, eq_bl_bl, ne_bl_bl, eq_bl_str, ne_bl_str, eq_int_non, ne_int_non, eq_int_int, ne_int_int, eq_int_str, ne_int_str, eq_str_non, ne_str_non, eq_str_bl, ne_str_bl, eq_str_int, ne_str_int, eq_str_str, ne_str_str, isN_ref, isB_ref, tru_bl, tru_int, r6]
  refine forL_inv _ (fun _ Γ S => (∃ x2 x3 x4 x5 x6, Γ = [some (.sq (ns.map D.int)), some (.ref b), x2, x3, x4, x5, x6]) ∧ Box b S) ⟨⟨_, _, _, _, _, rfl⟩, b1⟩ (fun _ _ _ _ => trivial) ?_ ?_
  · rintro d rest Γ S2 ⟨⟨x2, x3, x4, x5, x6, rfl⟩, b2⟩
    refine ⟨_, rfl, ?_⟩
    simp only [List.set_cons_zero, List.set_cons_succ]
    rw [seq_cutR]
    intro K3 n3 r3 _ _ _
    simp only [sat_ok, sat_ex, sat_err, sat_bind_eq, ofP_some, ofP_none, sat_of_eq, st_nx, st_rt, st_bk, st_ct, st_ex, st_err, st_then, seqP_nx, seqP_rt, seqP_bk, seqP_ct, seqP_ex, st_xSeq, endP_nx, endP_rt, endP_ex, endP_bk, endP_ct, varP_some, varP_none, varP_non, sat_xVar, sat_xC, sat_xOp, sat_xUn, blP_bl, sat_xTB, trP_some, trP_none, sat_xT, sat_xAndT, sat_xOrT, sat_xNotT, sat_xAnd, sat_xOr, sat_xNot, sat_xIf, sat_xNil, sat_xCons, sat_xTup, sat_xLst, sat_xChain, sat_xCall, sat_xCB, sat_xM0, sat_xM, intP_int, sat_xNoP, sat_xPart, sat_xSl, st_xSkip, st_xBrk, st_xCnt, st_xDrop, st_xRet, st_xRetN, st_xIfS, tgP_some, tgP_none, st_xAsg, g_gVar, g_gNil, g_gCons, g_gTup, augP_some, augP_none, st_xAug, parP_two, st_xPar, loopP_nx, loopP_ct, loopP_bk, loopP_rt, loopP_ex, st_xFor, itP_some, itP_none, sat_xIt, sat_xLc, sat_xItA, sat_xYes, sat_xLenSet, oAdd_ii, oSub_ii, oMul_ii, oFdiv_ii, oMod_ii, oNeg_i, oLt_ii, oLe_ii, oGt_ii, oGe_ii, oInt_i, oIx_ti, oIx_qi, oLen_t, oLen_q, oLen_s, atI_0, atI_1, atI_2, atI_3, atI_4, atI_5, atI_6, atI_7, atI_8, atI_9, atI_10, atI_11, atI_12, atI_13, atI_14, List.getElem?_cons_zero, List.getElem?_cons_succ, List.map_cons, List.map_nil, List.cons_append, List.nil_append, List.length_cons, List.length_nil, List.set_cons_zero, List.set_cons_succ, List.replicate, Option.map_some, Option.map_none, Option.bind_some, Option.bind_none, if_true, if_false, Nat.reduceAdd, Nat.reduceSub, Nat.reduceLT, Nat.reduceLeDiff, Nat.reduceEqDiff, Int.reduceLT, Int.reduceLE, Int.reduceNeg, Int.reduceEq, Bool.false_eq_true, Bool.true_eq_false, reduceIte, reduceCtorEq, Bool.not_true, Bool.not_false, decide_eq_true_eq, Nat.zero_lt_succ, and_true, true_and, and_self, and_false, false_and, isi_non_tuple, isi_non_int, isi_non_str, isi_non_bool, isi_non_list, type_non, isi_bl_tuple, isi_bl_int, isi_bl_str, isi_bl_bool, isi_bl_list, type_bl, isi_int_tuple, isi_int_int, isi_int_str, isi_int_bool, isi_int_list, type_int, isi_str_tuple, isi_str_int, isi_str_str, isi_str_bool, isi_str_list, type_str, isi_tup_tuple, isi_tup_int, isi_tup_str, isi_tup_bool, isi_tup_list, type_tup, is_int_int, isn_int_int, is_int_str, isn_int_str, is_int_tuple, isn_int_tuple, is_int_list, isn_int_list, is_int_bool, isn_int_bool, is_str_int, isn_str_int, is_str_str, isn_str_str, is_str_tuple, isn_str_tuple, is_str_list, isn_str_list, is_str_bool, isn_str_bool, is_tuple_int, isn_tuple_int, is_tuple_str, isn_tuple_str, is_tuple_tuple, isn_tuple_tuple, is_tuple_list, isn_tuple_list, is_tuple_bool, isn_tuple_bool, is_list_int, isn_list_int, is_list_str, isn_list_str, is_list_tuple, isn_list_tuple, is_list_list, isn_list_list, is_list_bool, isn_list_bool, is_bool_int, isn_bool_int, is_bool_str, isn_bool_str, is_bool_tuple, isn_bool_tuple, is_bool_list, isn_bool_list, is_bool_bool, isn_bool_bool, is_NoneType_int, isn_NoneType_int, is_NoneType_str, isn_NoneType_str, is_NoneType_tuple, isn_NoneType_tuple, is_NoneType_list, isn_NoneType_list, is_NoneType_bool, isn_NoneType_bool, isN_non, isnN_non, isB_non, isnB_non, isN_bl, isnN_bl, isB_bl, isnB_bl, isN_int, isnN_int, isB_int, isnB_int, isN_str, isnN_str, isB_str, isnB_str, isN_tup, isnN_tup, isB_tup, isnB_tup, eq_non_non, eq_non_bl, ne_non_bl, eq_non_int, ne_non_int, eq_non_str, ne_non_str, eq_bl_non, ne_bl_non, eq_bl_bl, ne_bl_bl, eq_bl_str, ne_bl_str, eq_int_non, ne_int_non, eq_int_int, ne_int_int, eq_int_str, ne_int_str, eq_str_non, ne_str_non, eq_str_bl, ne_str_bl, eq_str_int, ne_str_int, eq_str_str, ne_str_str, isN_ref, isB_ref, tru_bl, tru_int]
    refine ⟨by rw [z]; decide, pick_pl (p := fun d => ∃ k : Nat, d = .int k ∧ k ≤ 13) b2 rfl (Nat.zero_lt_succ _) (by repeat (first | exact pl_nil | refine pl_cons (by first | exact ⟨0, rfl, by decide⟩ | exact ⟨1, rfl, by decide⟩ | exact ⟨2, rfl, by decide⟩ | exact ⟨12, rfl, by decide⟩ | exact ⟨13, rfl, by decide⟩) ?_)) fun d0 p0 S3 k3 b3 => ?_⟩
    obtain ⟨k, rfl, hk⟩ := p0
    have rk := rng1_ok (j := (k : Int)) (by omega) (by omega)
    simp only [sat_ok, sat_ex, sat_err, sat_bind_eq, ofP_some, ofP_none, sat_of_eq, st_nx, st_rt, st_bk, st_ct, st_ex, st_err, st_then, seqP_nx, seqP_rt, seqP_bk, seqP_ct, seqP_ex, st_xSeq, endP_nx, endP_rt, endP_ex, endP_bk, endP_ct, varP_some, varP_none, varP_non, sat_xVar, sat_xC, sat_xOp, sat_xUn, blP_bl, sat_xTB, trP_some, trP_none, sat_xT, sat_xAndT, sat_xOrT, sat_xNotT, sat_xAnd, sat_xOr, sat_xNot, sat_xIf, sat_xNil, sat_xCons, sat_xTup, sat_xLst, sat_xChain, sat_xCall, sat_xCB, sat_xM0, sat_xM, intP_int, sat_xNoP, sat_xPart, sat_xSl, st_xSkip, st_xBrk, st_xCnt, st_xDrop, st_xRet, st_xRetN, st_xIfS, tgP_some, tgP_none, st_xAsg, g_gVar, g_gNil, g_gCons, g_gTup, augP_some, augP_none, st_xAug, parP_two, st_xPar, loopP_nx, loopP_ct, loopP_bk, loopP_rt, loopP_ex, st_xFor, itP_some, itP_none, sat_xIt, sat_xLc, sat_xItA, sat_xYes, sat_xLenSet, oAdd_ii, oSub_ii, oMul_ii, oFdiv_ii, oMod_ii, oNeg_i, oLt_ii, oLe_ii, oGt_ii, oGe_ii, oInt_i, oIx_ti, oIx_qi, oLen_t, oLen_q, oLen_s, atI_0, atI_1, atI_2, atI_3, atI_4, atI_5, atI_6, atI_7, atI_8, atI_9, atI_10, atI_11, atI_12, atI_13, atI_14, List.getElem?_cons_zero, List.getElem?_cons_succ, List.map_cons, List.map_nil, List.cons_append, List.nil_append, List.length_cons, List.length_nil, List.set_cons_zero, List.set_cons_succ, List.replicate, Option.map_some, Option.map_none, Option.bind_some, Option.bind_none, if_true, if_false, Nat.reduceAdd, Nat.reduceSub, Nat.reduceLT, Nat.reduceLeDiff, Nat.reduceEqDiff, Int.reduceLT, Int.reduceLE, Int.reduceNeg, Int.reduceEq, Bool.false_eq_true, Bool.true_eq_false, reduceIte, reduceCtorEq, Bool.not_true, Bool.not_false, decide_eq_true_eq, Nat.zero_lt_succ, and_true, true_and, and_self, and_false, false_and, isi_non_tuple, isi_non_int, isi_non_str, isi_non_bool, isi_non_list, type_non, isi_bl_tuple, isi_bl_int, isi_bl_str, isi_bl_bool, isi_bl_list, type_bl, isi_int_tuple, isi_int_int, isi_int_str, isi_int_bool, isi_int_list, type_int, isi_str_tuple, isi_str_int, isi_str_str, isi_str_bool, isi_str_list, type_str, isi_tup_tuple, isi_tup_int, isi_tup_str, isi_tup_bool, isi_tup_list, type_tup, is_int_int, isn_int_int, is_int_str, isn_int_str, is_int_tuple, isn_int_tuple, is_int_list, isn_int_list, is_int_bool, isn_int_bool, is_str_int, isn_str_int, is_str_str, isn_str_str, is_str_tuple, isn_str_tuple, is_str_list, isn_str_list, is_str_bool, isn_str_bool, is_tuple_int, isn_tuple_int, is_tuple_str, isn_tuple_str, is_tuple_tuple, isn_tuple_tuple, is_tuple_list, isn_tuple_list, is_tuple_bool, isn_tuple_bool, is_list_int, isn_list_int, is_list_str, isn_list_str, is_list_tuple, isn_list_tuple, is_list_list, isn_list_list, is_list_bool, isn_list_bool, is_bool_int, isn_bool_int, is_bool_str, isn_bool_str, is_bool_tuple, isn_bool_tuple, is_bool_list, isn_bool_list, is_bool_bool, isn_bool_bool, is_NoneType_int, isn_NoneType_int, is_NoneType_str, isn_NoneType_str, is_NoneType_tuple, isn_NoneType_tuple, is_NoneType_list, isn_NoneType_list, is_NoneType_bool, isn_NoneType_bool, isN_non, isnN_non, isB_non, isnB_non, isN_bl, isnN_bl, isB_bl, isnB_bl, isN_int, isnN_int, isB_int, isnB_int, isN_str, isnN_str, isB_str, isnB_str, isN_tup, isnN_tup, isB_tup, isnB_tup, eq_non_non, eq_non_bl, ne_non_bl, eq_non_int, ne_non_int, eq_non_str, ne_non_str, eq_bl_non, ne_bl_non, eq_bl_bl, ne_bl_bl, eq_bl_str, ne_bl_str, eq_int_non, ne_int_non, eq_int_int, ne_int_int, eq_int_str, ne_int_str, eq_str_non, ne_str_non, eq_str_bl, ne_str_bl, eq_str_int, ne_str_int, eq_str_str, ne_str_str, isN_ref, isB_ref, tru_bl, tru_int, rk, wipeG]
    refine lcF_inv _ (fun rest acc S => (∀ d ∈ rest, ∃ k : Nat, d = .int k ∧ k < 100) ∧ FillI b S3.length Or1 rest.length acc S) (acc := []) ⟨fun d hd => ?_, b3.lt, b3.keep (Kx.app _ _ _), by simp, fun _ h => by simp at h, by rw [rngD_len, Int.toNat_natCast]; simp; omega⟩ (fun _ _ _ _ => trivial) ?_ ?_
    · obtain ⟨j, hj, rfl⟩ := rngD_mem hd
      rw [Int.toNat_natCast] at hj
      exact ⟨j, by simp, by omega⟩
    · rintro d ds1 acc S4 ⟨hds, hF⟩
      obtain ⟨j, rfl, hj⟩ := hds _ List.mem_cons_self
      refine ⟨_, rfl, ?_⟩
      have hs : oStr [.int (j : Int)] S4 = some (.str (Str.ofString (toString (j : Int))), S4) := by
        simp only [oStr]
        rw [if_pos (log_small (by omega) (by omega))]
      have hl := num_len hj
      have ha : oAdd (.str "n") (.str (Str.ofString (toString (j : Int)))) S4 = some (.str (("n" : Str) ++ Str.ofString (toString (j : Int))), S4) := by
        simp only [oAdd]
        rw [if_pos]
        have := TL.len_tl (("n" : Str) ++ Str.ofString (toString (j : Int)))
        rw [TL.tl_append, List.length_append, ← TL.len_tl, ← TL.len_tl] at this
        omega
      simp only [sat_ok, sat_ex, sat_err, sat_bind_eq, ofP_some, ofP_none, sat_of_eq, st_nx, st_rt, st_bk, st_ct, st_ex, st_err, st_then, seqP_nx, seqP_rt, seqP_bk, seqP_ct, seqP_ex, st_xSeq, endP_nx, endP_rt, endP_ex, endP_bk, endP_ct, varP_some, varP_none, varP_non, sat_xVar, sat_xC, sat_xOp, sat_xUn, blP_bl, sat_xTB, trP_some, trP_none, sat_xT, sat_xAndT, sat_xOrT, sat_xNotT, sat_xAnd, sat_xOr, sat_xNot, sat_xIf, sat_xNil, sat_xCons, sat_xTup, sat_xLst, sat_xChain, sat_xCall, sat_xCB, sat_xM0, sat_xM, intP_int, sat_xNoP, sat_xPart, sat_xSl, st_xSkip, st_xBrk, st_xCnt, st_xDrop, st_xRet, st_xRetN, st_xIfS, tgP_some, tgP_none, st_xAsg, g_gVar, g_gNil, g_gCons, g_gTup, augP_some, augP_none, st_xAug, parP_two, st_xPar, loopP_nx, loopP_ct, loopP_bk, loopP_rt, loopP_ex, st_xFor, itP_some, itP_none, sat_xIt, sat_xLc, sat_xItA, sat_xYes, sat_xLenSet, oAdd_ii, oSub_ii, oMul_ii, oFdiv_ii, oMod_ii, oNeg_i, oLt_ii, oLe_ii, oGt_ii, oGe_ii, oInt_i, oIx_ti, oIx_qi, oLen_t, oLen_q, oLen_s, atI_0, atI_1, atI_2, atI_3, atI_4, atI_5, atI_6, atI_7, atI_8, atI_9, atI_10, atI_11, atI_12, atI_13, atI_14, List.getElem?_cons_zero, List.getElem?_cons_succ, List.map_cons, List.map_nil, List.cons_append, List.nil_append, List.length_cons, List.length_nil, List.set_cons_zero, List.set_cons_succ, List.replicate, Option.map_some, Option.map_none, Option.bind_some, Option.bind_none, if_true, if_false, Nat.reduceAdd, Nat.reduceSub, Nat.reduceLT, Nat.reduceLeDiff, Nat.reduceEqDiff, Int.reduceLT, Int.reduceLE, Int.reduceNeg, Int.reduceEq, Bool.false_eq_true, Bool.true_eq_false, reduceIte, reduceCtorEq, Bool.not_true, Bool.not_false, decide_eq_true_eq, Nat.zero_lt_succ, and_true, true_and, and_self, and_false, false_and, isi_non_tuple, isi_non_int, isi_non_str, isi_non_bool, isi_non_list, type_non, isi_bl_tuple, isi_bl_int, isi_bl_str, isi_bl_bool, isi_bl_list, type_bl, isi_int_tuple, isi_int_int, isi_int_str, isi_int_bool, isi_int_list, type_int, isi_str_tuple, isi_str_int, isi_str_str, isi_str_bool, isi_str_list, type_str, isi_tup_tuple, isi_tup_int, isi_tup_str, isi_tup_bool, isi_tup_list, type_tup, is_int_int, isn_int_int, is_int_str, isn_int_str, is_int_tuple, isn_int_tuple, is_int_list, isn_int_list, is_int_bool, isn_int_bool, is_str_int, isn_str_int, is_str_str, isn_str_str, is_str_tuple, isn_str_tuple, is_str_list, isn_str_list, is_str_bool, isn_str_bool, is_tuple_int, isn_tuple_int, is_tuple_str, isn_tuple_str, is_tuple_tuple, isn_tuple_tuple, is_tuple_list, isn_tuple_list, is_tuple_bool, isn_tuple_bool, is_list_int, isn_list_int, is_list_str, isn_list_str, is_list_tuple, isn_list_tuple, is_list_list, isn_list_list, is_list_bool, isn_list_bool, is_bool_int, isn_bool_int, is_bool_str, isn_bool_str, is_bool_tuple, isn_bool_tuple, is_bool_list, isn_bool_list, is_bool_bool, isn_bool_bool, is_NoneType_int, isn_NoneType_int, is_NoneType_str, isn_NoneType_str, is_NoneType_tuple, isn_NoneType_tuple, is_NoneType_list, isn_NoneType_list, is_NoneType_bool, isn_NoneType_bool, isN_non, isnN_non, isB_non, isnB_non, isN_bl, isnN_bl, isB_bl, isnB_bl, isN_int, isnN_int, isB_int, isnB_int, isN_str, isnN_str, isB_str, isnB_str, isN_tup, isnN_tup, isB_tup, isnB_tup, eq_non_non, eq_non_bl, ne_non_bl, eq_non_int, ne_non_int, eq_non_str, ne_non_str, eq_bl_non, ne_bl_non, eq_bl_bl, ne_bl_bl, eq_bl_str, ne_bl_str, eq_int_non, ne_int_non, eq_int_int, ne_int_int, eq_int_str, ne_int_str, eq_str_non, ne_str_non, eq_str_bl, ne_str_bl, eq_str_int, ne_str_int, eq_str_str, ne_str_str, isN_ref, isB_ref, tru_bl, tru_int, hs, ha]
      refine law_order_spec hF.box hl fun es S5 hes hp k5 b5 => ?_
      obtain ⟨f1, f2, f3⟩ := hF.step k5 b5 (.mk (by omega) hp : Or1 (.tup es))
      exact ⟨f1, f2, fun d hd => hds d (List.mem_cons_of_mem _ hd), f3⟩
    · rintro acc S4 ⟨_, hF⟩
      simp only [sat_ok, sat_ex, sat_err, sat_bind_eq, ofP_some, ofP_none, sat_of_eq, st_nx, st_rt, st_bk, st_ct, st_ex, st_err, st_then, seqP_nx, seqP_rt, seqP_bk, seqP_ct, seqP_ex, st_xSeq, endP_nx, endP_rt, endP_ex, endP_bk, endP_ct, varP_some, varP_none, varP_non, sat_xVar, sat_xC, sat_xOp, sat_xUn, blP_bl, sat_xTB, trP_some, trP_none, sat_xT, sat_xAndT, sat_xOrT, sat_xNotT, sat_xAnd, sat_xOr, sat_xNot, sat_xIf, sat_xNil, sat_xCons, sat_xTup, sat_xLst, sat_xChain, sat_xCall, sat_xCB, sat_xM0, sat_xM, intP_int, sat_xNoP, sat_xPart, sat_xSl, st_xSkip, st_xBrk, st_xCnt, st_xDrop, st_xRet, st_xRetN, st_xIfS, tgP_some, tgP_none, st_xAsg, g_gVar, g_gNil, g_gCons, g_gTup, augP_some, augP_none, st_xAug, parP_two, st_xPar, loopP_nx, loopP_ct, loopP_bk, loopP_rt, loopP_ex, st_xFor, itP_some, itP_none, sat_xIt, sat_xLc, sat_xItA, sat_xYes, sat_xLenSet, oAdd_ii, oSub_ii, oMul_ii, oFdiv_ii, oMod_ii, oNeg_i, oLt_ii, oLe_ii, oGt_ii, oGe_ii, oInt_i, oIx_ti, oIx_qi, oLen_t, oLen_q, oLen_s, atI_0, atI_1, atI_2, atI_3, atI_4, atI_5, atI_6, atI_7, atI_8, atI_9, atI_10, atI_11, atI_12, atI_13, atI_14, List.getElem?_cons_zero, List.getElem?_cons_succ, List.map_cons, List.map_nil, List.cons_append, List.nil_append, List.length_cons, List.length_nil, List.set_cons_zero, List.set_cons_succ, List.replicate, Option.map_some, Option.map_none, Option.bind_some, Option.bind_none, if_true, if_false, Nat.reduceAdd, Nat.reduceSub, Nat.reduceLT, Nat.reduceLeDiff, Nat.reduceEqDiff, Int.reduceLT, Int.reduceLE, Int.reduceNeg, Int.reduceEq, Bool.false_eq_true, Bool.true_eq_false, reduceIte, reduceCtorEq, Bool.not_true, Bool.not_false, decide_eq_true_eq, Nat.zero_lt_succ, and_true, true_and, and_self, and_false, false_and, isi_non_tuple, isi_non_int, isi_non_str, isi_non_bool, isi_non_list, type_non, isi_bl_tuple, isi_bl_int, isi_bl_str, isi_bl_bool, isi_bl_list, type_bl, isi_int_tuple, isi_int_int, isi_int_str, isi_int_bool, isi_int_list, type_int, isi_str_tuple, isi_str_int, isi_str_str, isi_str_bool, isi_str_list, type_str, isi_tup_tuple, isi_tup_int, isi_tup_str, isi_tup_bool, isi_tup_list, type_tup, is_int_int, isn_int_int, is_int_str, isn_int_str, is_int_tuple, isn_int_tuple, is_int_list, isn_int_list, is_int_bool, isn_int_bool, is_str_int, isn_str_int, is_str_str, isn_str_str, is_str_tuple, isn_str_tuple, is_str_list, isn_str_list, is_str_bool, isn_str_bool, is_tuple_int, isn_tuple_int, is_tuple_str, isn_tuple_str, is_tuple_tuple, isn_tuple_tuple, is_tuple_list, isn_tuple_list, is_tuple_bool, isn_tuple_bool, is_list_int, isn_list_int, is_list_str, isn_list_str, is_list_tuple, isn_list_tuple, is_list_list, isn_list_list, is_list_bool, isn_list_bool, is_bool_int, isn_bool_int, is_bool_str, isn_bool_str, is_bool_tuple, isn_bool_tuple, is_bool_list, isn_bool_list, is_bool_bool, isn_bool_bool, is_NoneType_int, isn_NoneType_int, is_NoneType_str, isn_NoneType_str, is_NoneType_tuple, isn_NoneType_tuple, is_NoneType_list, isn_NoneType_list, is_NoneType_bool, isn_NoneType_bool, isN_non, isnN_non, isB_non, isnB_non, isN_bl, isnN_bl, isB_bl, isnB_bl, isN_int, isnN_int, isB_int, isnB_int, isN_str, isnN_str, isB_str, isnB_str, isN_tup, isnN_tup, isB_tup, isnB_tup, eq_non_non, eq_non_bl, ne_non_bl, eq_non_int, ne_non_int, eq_non_str, ne_non_str, eq_bl_non, ne_bl_non, eq_bl_bl, ne_bl_bl, eq_bl_str, ne_bl_str, eq_int_non, ne_int_non, eq_int_int, ne_int_int, eq_int_str, ne_int_str, eq_str_non, ne_str_non, eq_str_bl, ne_str_bl, eq_str_int, ne_str_int, eq_str_str, ne_str_str, isN_ref, isB_ref, tru_bl, tru_int, oTuple_r hF.at']
      have b4 := hF.box
      have hO := hF.all
      have hL : acc.length ≤ 1000 := by have := hF.len; omega
      refine n3 _ _ ?_
      clear n3 r3
      rw [seq_cutR]
      intro K4 n4 r4 _ _ _
      simp only [sat_ok, sat_ex, sat_err, sat_bind_eq, ofP_some, ofP_none, sat_of_eq, st_nx, st_rt, st_bk, st_ct, st_ex, st_err, st_then, seqP_nx, seqP_rt, seqP_bk, seqP_ct, seqP_ex, st_xSeq, endP_nx, endP_rt, endP_ex, endP_bk, endP_ct, varP_some, varP_none, varP_non, sat_xVar, sat_xC, sat_xOp, sat_xUn, blP_bl, sat_xTB, trP_some, trP_none, sat_xT, sat_xAndT, sat_xOrT, sat_xNotT, sat_xAnd, sat_xOr, sat_xNot, sat_xIf, sat_xNil, sat_xCons, sat_xTup, sat_xLst, sat_xChain, sat_xCall, sat_xCB, sat_xM0, sat_xM, intP_int, sat_xNoP, sat_xPart, sat_xSl, st_xSkip, st_xBrk, st_xCnt, st_xDrop, st_xRet, st_xRetN, st_xIfS, tgP_some, tgP_none, st_xAsg, g_gVar, g_gNil, g_gCons, g_gTup, augP_some, augP_none, st_xAug, parP_two, st_xPar, loopP_nx, loopP_ct, loopP_bk, loopP_rt, loopP_ex, st_xFor, itP_some, itP_none, sat_xIt, sat_xLc, sat_xItA, sat_xYes, sat_xLenSet, oAdd_ii, oSub_ii, oMul_ii, oFdiv_ii, oMod_ii, oNeg_i, oLt_ii, oLe_ii, oGt_ii, oGe_ii, oInt_i, oIx_ti, oIx_qi, oLen_t, oLen_q, oLen_s, atI_0, atI_1, atI_2, atI_3, atI_4, atI_5, atI_6, atI_7, atI_8, atI_9, atI_10, atI_11, atI_12, atI_13, atI_14, List.getElem?_cons_zero, List.getElem?_cons_succ, List.map_cons, List.map_nil, List.cons_append, List.nil_append, List.length_cons, List.length_nil, List.set_cons_zero, List.set_cons_succ, List.replicate, Option.map_some, Option.map_none, Option.bind_some, Option.bind_none, if_true, if_false, Nat.reduceAdd, Nat.reduceSub, Nat.reduceLT, Nat.reduceLeDiff, Nat.reduceEqDiff, Int.reduceLT, Int.reduceLE, Int.reduceNeg, Int.reduceEq, Bool.false_eq_true, Bool.true_eq_false, reduceIte, reduceCtorEq, Bool.not_true, Bool.not_false, decide_eq_true_eq, Nat.zero_lt_succ, and_true, true_and, and_self, and_false, false_and, isi_non_tuple, isi_non_int, isi_non_str, isi_non_bool, isi_non_list, type_non, isi_bl_tuple, isi_bl_int, isi_bl_str, isi_bl_bool, isi_bl_list, type_bl, isi_int_tuple, isi_int_int, isi_int_str, isi_int_bool, isi_int_list, type_int, isi_str_tuple, isi_str_int, isi_str_str, isi_str_bool, isi_str_list, type_str, isi_tup_tuple, isi_tup_int, isi_tup_str, isi_tup_bool, isi_tup_list, type_tup, is_int_int, isn_int_int, is_int_str, isn_int_str, is_int_tuple, isn_int_tuple, is_int_list, isn_int_list, is_int_bool, isn_int_bool, is_str_int, isn_str_int, is_str_str, isn_str_str, is_str_tuple, isn_str_tuple, is_str_list, isn_str_list, is_str_bool, isn_str_bool, is_tuple_int, isn_tuple_int, is_tuple_str, isn_tuple_str, is_tuple_tuple, isn_tuple_tuple, is_tuple_list, isn_tuple_list, is_tuple_bool, isn_tuple_bool, is_list_int, isn_list_int, is_list_str, isn_list_str, is_list_tuple, isn_list_tuple, is_list_list, isn_list_list, is_list_bool, isn_list_bool, is_bool_int, isn_bool_int, is_bool_str, isn_bool_str, is_bool_tuple, isn_bool_tuple, is_bool_list, isn_bool_list, is_bool_bool, isn_bool_bool, is_NoneType_int, isn_NoneType_int, is_NoneType_str, isn_NoneType_str, is_NoneType_tuple, isn_NoneType_tuple, is_NoneType_list, isn_NoneType_list, is_NoneType_bool, isn_NoneType_bool, isN_non, isnN_non, isB_non, isnB_non, isN_bl, isnN_bl, isB_bl, isnB_bl, isN_int, isnN_int, isB_int, isnB_int, isN_str, isnN_str, isB_str, isnB_str, isN_tup, isnN_tup, isB_tup, isnB_tup, eq_non_non, eq_non_bl, ne_non_bl, eq_non_int, ne_non_int, eq_non_str, ne_non_str, eq_bl_non, ne_bl_non, eq_bl_bl, ne_bl_bl, eq_bl_str, ne_bl_str, eq_int_non, ne_int_non, eq_int_int, ne_int_int, eq_int_str, ne_int_str, eq_str_non, ne_str_non, eq_str_bl, ne_str_bl, eq_str_int, ne_str_int, eq_str_str, ne_str_str, isN_ref, isB_ref, tru_bl, tru_int]
      refine chg2 0 acc S4 _ _ hL hO b4 fun d5 S5 q5 k5 b5 => ⟨by rw [z]; decide, ?_⟩
      simp only [sat_ok, sat_ex, sat_err, sat_bind_eq, ofP_some, ofP_none, sat_of_eq, st_nx, st_rt, st_bk, st_ct, st_ex, st_err, st_then, seqP_nx, seqP_rt, seqP_bk, seqP_ct, seqP_ex, st_xSeq, endP_nx, endP_rt, endP_ex, endP_bk, endP_ct, varP_some, varP_none, varP_non, sat_xVar, sat_xC, sat_xOp, sat_xUn, blP_bl, sat_xTB, trP_some, trP_none, sat_xT, sat_xAndT, sat_xOrT, sat_xNotT, sat_xAnd, sat_xOr, sat_xNot, sat_xIf, sat_xNil, sat_xCons, sat_xTup, sat_xLst, sat_xChain, sat_xCall, sat_xCB, sat_xM0, sat_xM, intP_int, sat_xNoP, sat_xPart, sat_xSl, st_xSkip, st_xBrk, st_xCnt, st_xDrop, st_xRet, st_xRetN, st_xIfS, tgP_some, tgP_none, st_xAsg, g_gVar, g_gNil, g_gCons, g_gTup, augP_some, augP_none, st_xAug, parP_two, st_xPar, loopP_nx, loopP_ct, loopP_bk, loopP_rt, loopP_ex, st_xFor, itP_some, itP_none, sat_xIt, sat_xLc, sat_xItA, sat_xYes, sat_xLenSet, oAdd_ii, oSub_ii, oMul_ii, oFdiv_ii, oMod_ii, oNeg_i, oLt_ii, oLe_ii, oGt_ii, oGe_ii, oInt_i, oIx_ti, oIx_qi, oLen_t, oLen_q, oLen_s, atI_0, atI_1, atI_2, atI_3, atI_4, atI_5, atI_6, atI_7, atI_8, atI_9, atI_10, atI_11, atI_12, atI_13, atI_14, List.getElem?_cons_zero, List.getElem?_cons_succ, List.map_cons, List.map_nil, List.cons_append, List.nil_append, List.length_cons, List.length_nil, List.set_cons_zero, List.set_cons_succ, List.replicate, Option.map_some, Option.map_none, Option.bind_some, Option.bind_none, if_true, if_false, Nat.reduceAdd, Nat.reduceSub, Nat.reduceLT, Nat.reduceLeDiff, Nat.reduceEqDiff, Int.reduceLT, Int.reduceLE, Int.reduceNeg, Int.reduceEq, Bool.false_eq_true, Bool.true_eq_false, reduceIte, reduceCtorEq, Bool.not_true, Bool.not_false, decide_eq_true_eq, Nat.zero_lt_succ, and_true, true_and, and_self, and_false, false_and, isi_non_tuple, isi_non_int, isi_non_str, isi_non_bool, isi_non_list, type_non, isi_bl_tuple, isi_bl_int, isi_bl_str, isi_bl_bool, isi_bl_list, type_bl, isi_int_tuple, isi_int_int, isi_int_str, isi_int_bool, isi_int_list, type_int, isi_str_tuple, isi_str_int, isi_str_str, isi_str_bool, isi_str_list, type_str, isi_tup_tuple, isi_tup_int, isi_tup_str, isi_tup_bool, isi_tup_list, type_tup, is_int_int, isn_int_int, is_int_str, isn_int_str, is_int_tuple, isn_int_tuple, is_int_list, isn_int_list, is_int_bool, isn_int_bool, is_str_int, isn_str_int, is_str_str, isn_str_str, is_str_tuple, isn_str_tuple, is_str_list, isn_str_list, is_str_bool, isn_str_bool, is_tuple_int, isn_tuple_int, is_tuple_str, isn_tuple_str, is_tuple_tuple, isn_tuple_tuple, is_tuple_list, isn_tuple_list, is_tuple_bool, isn_tuple_bool, is_list_int, isn_list_int, is_list_str, isn_list_str, is_list_tuple, isn_list_tuple, is_list_list, isn_list_list, is_list_bool, isn_list_bool, is_bool_int, isn_bool_int, is_bool_str, isn_bool_str, is_bool_tuple, isn_bool_tuple, is_bool_list, isn_bool_list, is_bool_bool, isn_bool_bool, is_NoneType_int, isn_NoneType_int, is_NoneType_str, isn_NoneType_str, is_NoneType_tuple, isn_NoneType_tuple, is_NoneType_list, isn_NoneType_list, is_NoneType_bool, isn_NoneType_bool, isN_non, isnN_non, isB_non, isnB_non, isN_bl, isnN_bl, isB_bl, isnB_bl, isN_int, isnN_int, isB_int, isnB_int, isN_str, isnN_str, isB_str, isnB_str, isN_tup, isnN_tup, isB_tup, isnB_tup, eq_non_non, eq_non_bl, ne_non_bl, eq_non_int, ne_non_int, eq_non_str, ne_non_str, eq_bl_non, ne_bl_non, eq_bl_bl, ne_bl_bl, eq_bl_str, ne_bl_str, eq_int_non, ne_int_non, eq_int_int, ne_int_int, eq_int_str, ne_int_str, eq_str_non, ne_str_non, eq_str_bl, ne_str_bl, eq_str_int, ne_str_int, eq_str_str, ne_str_str, isN_ref, isB_ref, tru_bl, tru_int, itOf]
      have o1 : Os S5 (.tup acc) := .tup (by omega) fun d hd => (hO d hd).od
      refine forL_inv _ (fun rest Γ S => (∃ x4 x5 x6, Γ = [some (.sq (ns.map D.int)), some (.ref b), some d, some (.tup acc), x4, x5, x6]) ∧ Box b S ∧ ∀ d ∈ rest, Os S d) ⟨⟨_, _, _, rfl⟩, b5, pl_cons o1 (pl_cons q5 pl_nil)⟩ (fun _ _ _ _ => trivial) ?_ ?_
      · rintro d6 rest6 Γ S6 ⟨⟨x4, x5, x6, rfl⟩, b6, hr⟩
        refine ⟨_, rfl, ?_⟩
        have o6 := hr _ List.mem_cons_self
        simp only [sat_ok, sat_ex, sat_err, sat_bind_eq, ofP_some, ofP_none, sat_of_eq, st_nx, st_rt, st_bk, st_ct, st_ex, st_err, st_then, seqP_nx, seqP_rt, seqP_bk, seqP_ct, seqP_ex, st_xSeq, endP_nx, endP_rt, endP_ex, endP_bk, endP_ct, varP_some, varP_none, varP_non, sat_xVar, sat_xC, sat_xOp, sat_xUn, blP_bl, sat_xTB, trP_some, trP_none, sat_xT, sat_xAndT, sat_xOrT, sat_xNotT, sat_xAnd, sat_xOr, sat_xNot, sat_xIf, sat_xNil, sat_xCons, sat_xTup, sat_xLst, sat_xChain, sat_xCall, sat_xCB, sat_xM0, sat_xM, intP_int, sat_xNoP, sat_xPart, sat_xSl, st_xSkip, st_xBrk, st_xCnt, st_xDrop, st_xRet, st_xRetN, st_xIfS, tgP_some, tgP_none, st_xAsg, g_gVar, g_gNil, g_gCons, g_gTup, augP_some, augP_none, st_xAug, parP_two, st_xPar, loopP_nx, loopP_ct, loopP_bk, loopP_rt, loopP_ex, st_xFor, itP_some, itP_none, sat_xIt, sat_xLc, sat_xItA, sat_xYes, sat_xLenSet, oAdd_ii, oSub_ii, oMul_ii, oFdiv_ii, oMod_ii, oNeg_i, oLt_ii, oLe_ii, oGt_ii, oGe_ii, oInt_i, oIx_ti, oIx_qi, oLen_t, oLen_q, oLen_s, atI_0, atI_1, atI_2, atI_3, atI_4, atI_5, atI_6, atI_7, atI_8, atI_9, atI_10, atI_11, atI_12, atI_13, atI_14, List.getElem?_cons_zero, List.getElem?_cons_succ, List.map_cons, List.map_nil, List.cons_append, List.nil_append, List.length_cons, List.length_nil, List.set_cons_zero, List.set_cons_succ, List.replicate, Option.map_some, Option.map_none, Option.bind_some, Option.bind_none, if_true, if_false, Nat.reduceAdd, Nat.reduceSub, Nat.reduceLT, Nat.reduceLeDiff, Nat.reduceEqDiff, Int.reduceLT, Int.reduceLE, Int.reduceNeg, Int.reduceEq, Bool.false_eq_true, Bool.true_eq_false, reduceIte, reduceCtorEq, Bool.not_true, Bool.not_false, decide_eq_true_eq, Nat.zero_lt_succ, and_true, true_and, and_self, and_false, false_and, isi_non_tuple, isi_non_int, isi_non_str, isi_non_bool, isi_non_list, type_non, isi_bl_tuple, isi_bl_int, isi_bl_str, isi_bl_bool, isi_bl_list, type_bl, isi_int_tuple, isi_int_int, isi_int_str, isi_int_bool, isi_int_list, type_int, isi_str_tuple, isi_str_int, isi_str_str, isi_str_bool, isi_str_list, type_str, isi_tup_tuple, isi_tup_int, isi_tup_str, isi_tup_bool, isi_tup_list, type_tup, is_int_int, isn_int_int, is_int_str, isn_int_str, is_int_tuple, isn_int_tuple, is_int_list, isn_int_list, is_int_bool, isn_int_bool, is_str_int, isn_str_int, is_str_str, isn_str_str, is_str_tuple, isn_str_tuple, is_str_list, isn_str_list, is_str_bool, isn_str_bool, is_tuple_int, isn_tuple_int, is_tuple_str, isn_tuple_str, is_tuple_tuple, isn_tuple_tuple, is_tuple_list, isn_tuple_list, is_tuple_bool, isn_tuple_bool, is_list_int, isn_list_int, is_list_str, isn_list_str, is_list_tuple, isn_list_tuple, is_list_list, isn_list_list, is_list_bool, isn_list_bool, is_bool_int, isn_bool_int, is_bool_str, isn_bool_str, is_bool_tuple, isn_bool_tuple, is_bool_list, isn_bool_list, is_bool_bool, isn_bool_bool, is_NoneType_int, isn_NoneType_int, is_NoneType_str, isn_NoneType_str, is_NoneType_tuple, isn_NoneType_tuple, is_NoneType_list, isn_NoneType_list, is_NoneType_bool, isn_NoneType_bool, isN_non, isnN_non, isB_non, isnB_non, isN_bl, isnN_bl, isB_bl, isnB_bl, isN_int, isnN_int, isB_int, isnB_int, isN_str, isnN_str, isB_str, isnB_str, isN_tup, isnN_tup, isB_tup, isnB_tup, eq_non_non, eq_non_bl, ne_non_bl, eq_non_int, ne_non_int, eq_non_str, ne_non_str, eq_bl_non, ne_bl_non, eq_bl_bl, ne_bl_bl, eq_bl_str, ne_bl_str, eq_int_non, ne_int_non, eq_int_int, ne_int_int, eq_int_str, ne_int_str, eq_str_non, ne_str_non, eq_str_bl, ne_str_bl, eq_str_int, ne_str_int, eq_str_str, ne_str_str, isN_ref, isB_ref, tru_bl, tru_int]
        refine is_orders_spec o6 fun S7 k7 => ?_
        refine due_orders_spec (o6.keep k7) fun S8 k8 => ?_
        try simp only [sat_ok, sat_ex, sat_err, sat_bind_eq, ofP_some, ofP_none, sat_of_eq, st_nx, st_rt, st_bk, st_ct, st_ex, st_err, st_then, seqP_nx, seqP_rt, seqP_bk, seqP_ct, seqP_ex, st_xSeq, endP_nx, endP_rt, endP_ex, endP_bk, endP_ct, varP_some, varP_none, varP_non, sat_xVar, sat_xC, sat_xOp, sat_xUn, blP_bl, sat_xTB, trP_some, trP_none, sat_xT, sat_xAndT, sat_xOrT, sat_xNotT, sat_xAnd, sat_xOr, sat_xNot, sat_xIf, sat_xNil, sat_xCons, sat_xTup, sat_xLst, sat_xChain, sat_xCall, sat_xCB, sat_xM0, sat_xM, intP_int, sat_xNoP, sat_xPart, sat_xSl, st_xSkip, st_xBrk, st_xCnt, st_xDrop, st_xRet, st_xRetN, st_xIfS, tgP_some, tgP_none, st_xAsg, g_gVar, g_gNil, g_gCons, g_gTup, augP_some, augP_none, st_xAug, parP_two, st_xPar, loopP_nx, loopP_ct, loopP_bk, loopP_rt, loopP_ex, st_xFor, itP_some, itP_none, sat_xIt, sat_xLc, sat_xItA, sat_xYes, sat_xLenSet, oAdd_ii, oSub_ii, oMul_ii, oFdiv_ii, oMod_ii, oNeg_i, oLt_ii, oLe_ii, oGt_ii, oGe_ii, oInt_i, oIx_ti, oIx_qi, oLen_t, oLen_q, oLen_s, atI_0, atI_1, atI_2, atI_3, atI_4, atI_5, atI_6, atI_7, atI_8, atI_9, atI_10, atI_11, atI_12, atI_13, atI_14, List.getElem?_cons_zero, List.getElem?_cons_succ, List.map_cons, List.map_nil, List.cons_append, List.nil_append, List.length_cons, List.length_nil, List.set_cons_zero, List.set_cons_succ, List.replicate, Option.map_some, Option.map_none, Option.bind_some, Option.bind_none, if_true, if_false, Nat.reduceAdd, Nat.reduceSub, Nat.reduceLT, Nat.reduceLeDiff, Nat.reduceEqDiff, Int.reduceLT, Int.reduceLE, Int.reduceNeg, Int.reduceEq, Bool.false_eq_true, Bool.true_eq_false, reduceIte, reduceCtorEq, Bool.not_true, Bool.not_false, decide_eq_true_eq, Nat.zero_lt_succ, and_true, true_and, and_self, and_false, false_and, isi_non_tuple, isi_non_int, isi_non_str, isi_non_bool, isi_non_list, type_non, isi_bl_tuple, isi_bl_int, isi_bl_str, isi_bl_bool, isi_bl_list, type_bl, isi_int_tuple, isi_int_int, isi_int_str, isi_int_bool, isi_int_list, type_int, isi_str_tuple, isi_str_int, isi_str_str, isi_str_bool, isi_str_list, type_str, isi_tup_tuple, isi_tup_int, isi_tup_str, isi_tup_bool, isi_tup_list, type_tup, is_int_int, isn_int_int, is_int_str, isn_int_str, is_int_tuple, isn_int_tuple, is_int_list, isn_int_list, is_int_bool, isn_int_bool, is_str_int, isn_str_int, is_str_str, isn_str_str, is_str_tuple, isn_str_tuple, is_str_list, isn_str_list, is_str_bool, isn_str_bool, is_tuple_int, isn_tuple_int, is_tuple_str, isn_tuple_str, is_tuple_tuple, isn_tuple_tuple, is_tuple_list, isn_tuple_list, is_tuple_bool, isn_tuple_bool, is_list_int, isn_list_int, is_list_str, isn_list_str, is_list_tuple, isn_list_tuple, is_list_list, isn_list_list, is_list_bool, isn_list_bool, is_bool_int, isn_bool_int, is_bool_str, isn_bool_str, is_bool_tuple, isn_bool_tuple, is_bool_list, isn_bool_list, is_bool_bool, isn_bool_bool, is_NoneType_int, isn_NoneType_int, is_NoneType_str, isn_NoneType_str, is_NoneType_tuple, isn_NoneType_tuple, is_NoneType_list, isn_NoneType_list, is_NoneType_bool, isn_NoneType_bool, isN_non, isnN_non, isB_non, isnB_non, isN_bl, isnN_bl, isB_bl, isnB_bl, isN_int, isnN_int, isB_int, isnB_int, isN_str, isnN_str, isB_str, isnB_str, isN_tup, isnN_tup, isB_tup, isnB_tup, eq_non_non, eq_non_bl, ne_non_bl, eq_non_int, ne_non_int, eq_non_str, ne_non_str, eq_bl_non, ne_bl_non, eq_bl_bl, ne_bl_bl, eq_bl_str, ne_bl_str, eq_int_non, ne_int_non, eq_int_int, ne_int_int, eq_int_str, ne_int_str, eq_str_non, ne_str_non, eq_str_bl, ne_str_bl, eq_str_int, ne_str_int, eq_str_str, ne_str_str, isN_ref, isB_ref, tru_bl, tru_int]
        refine like_spec 2 (m := 0) Pl.bl Vd.bl fun S9 k9 => ?_
        simp only [sat_ok, sat_ex, sat_err, sat_bind_eq, ofP_some, ofP_none, sat_of_eq, st_nx, st_rt, st_bk, st_ct, st_ex, st_err, st_then, seqP_nx, seqP_rt, seqP_bk, seqP_ct, seqP_ex, st_xSeq, endP_nx, endP_rt, endP_ex, endP_bk, endP_ct, varP_some, varP_none, varP_non, sat_xVar, sat_xC, sat_xOp, sat_xUn, blP_bl, sat_xTB, trP_some, trP_none, sat_xT, sat_xAndT, sat_xOrT, sat_xNotT, sat_xAnd, sat_xOr, sat_xNot, sat_xIf, sat_xNil, sat_xCons, sat_xTup, sat_xLst, sat_xChain, sat_xCall, sat_xCB, sat_xM0, sat_xM, intP_int, sat_xNoP, sat_xPart, sat_xSl, st_xSkip, st_xBrk, st_xCnt, st_xDrop, st_xRet, st_xRetN, st_xIfS, tgP_some, tgP_none, st_xAsg, g_gVar, g_gNil, g_gCons, g_gTup, augP_some, augP_none, st_xAug, parP_two, st_xPar, loopP_nx, loopP_ct, loopP_bk, loopP_rt, loopP_ex, st_xFor, itP_some, itP_none, sat_xIt, sat_xLc, sat_xItA, sat_xYes, sat_xLenSet, oAdd_ii, oSub_ii, oMul_ii, oFdiv_ii, oMod_ii, oNeg_i, oLt_ii, oLe_ii, oGt_ii, oGe_ii, oInt_i, oIx_ti, oIx_qi, oLen_t, oLen_q, oLen_s, atI_0, atI_1, atI_2, atI_3, atI_4, atI_5, atI_6, atI_7, atI_8, atI_9, atI_10, atI_11, atI_12, atI_13, atI_14, List.getElem?_cons_zero, List.getElem?_cons_succ, List.map_cons, List.map_nil, List.cons_append, List.nil_append, List.length_cons, List.length_nil, List.set_cons_zero, List.set_cons_succ, List.replicate, Option.map_some, Option.map_none, Option.bind_some, Option.bind_none, if_true, if_false, Nat.reduceAdd, Nat.reduceSub, Nat.reduceLT, Nat.reduceLeDiff, Nat.reduceEqDiff, Int.reduceLT, Int.reduceLE, Int.reduceNeg, Int.reduceEq, Bool.false_eq_true, Bool.true_eq_false, reduceIte, reduceCtorEq, Bool.not_true, Bool.not_false, decide_eq_true_eq, Nat.zero_lt_succ, and_true, true_and, and_self, and_false, false_and, isi_non_tuple, isi_non_int, isi_non_str, isi_non_bool, isi_non_list, type_non, isi_bl_tuple, isi_bl_int, isi_bl_str, isi_bl_bool, isi_bl_list, type_bl, isi_int_tuple, isi_int_int, isi_int_str, isi_int_bool, isi_int_list, type_int, isi_str_tuple, isi_str_int, isi_str_str, isi_str_bool, isi_str_list, type_str, isi_tup_tuple, isi_tup_int, isi_tup_str, isi_tup_bool, isi_tup_list, type_tup, is_int_int, isn_int_int, is_int_str, isn_int_str, is_int_tuple, isn_int_tuple, is_int_list, isn_int_list, is_int_bool, isn_int_bool, is_str_int, isn_str_int, is_str_str, isn_str_str, is_str_tuple, isn_str_tuple, is_str_list, isn_str_list, is_str_bool, isn_str_bool, is_tuple_int, isn_tuple_int, is_tuple_str, isn_tuple_str, is_tuple_tuple, isn_tuple_tuple, is_tuple_list, isn_tuple_list, is_tuple_bool, isn_tuple_bool, is_list_int, isn_list_int, is_list_str, isn_list_str, is_list_tuple, isn_list_tuple, is_list_list, isn_list_list, is_list_bool, isn_list_bool, is_bool_int, isn_bool_int, is_bool_str, isn_bool_str, is_bool_tuple, isn_bool_tuple, is_bool_list, isn_bool_list, is_bool_bool, isn_bool_bool, is_NoneType_int, isn_NoneType_int, is_NoneType_str, isn_NoneType_str, is_NoneType_tuple, isn_NoneType_tuple, is_NoneType_list, isn_NoneType_list, is_NoneType_bool, isn_NoneType_bool, isN_non, isnN_non, isB_non, isnB_non, isN_bl, isnN_bl, isB_bl, isnB_bl, isN_int, isnN_int, isB_int, isnB_int, isN_str, isnN_str, isB_str, isnB_str, isN_tup, isnN_tup, isB_tup, isnB_tup, eq_non_non, eq_non_bl, ne_non_bl, eq_non_int, ne_non_int, eq_non_str, ne_non_str, eq_bl_non, ne_bl_non, eq_bl_bl, ne_bl_bl, eq_bl_str, ne_bl_str, eq_int_non, ne_int_non, eq_int_int, ne_int_int, eq_int_str, ne_int_str, eq_str_non, ne_str_non, eq_str_bl, ne_str_bl, eq_str_int, ne_str_int, eq_str_str, ne_str_str, isN_ref, isB_ref, tru_bl, tru_int, likeB, decide_true]
        have kk := (k7.trans k8).trans k9
        exact ⟨⟨_, _, _, rfl⟩, b6.keep kk, fun d hd => (hr d (List.mem_cons_of_mem _ hd)).keep kk⟩
      · rintro Γ S6 ⟨⟨x4, x5, x6, rfl⟩, b6, _⟩
        refine n4 _ _ ?_
        clear n4 r4
        rw [seq_cutR]
        intro K5 n5 r5 _ _ _
        simp only [sat_ok, sat_ex, sat_err, sat_bind_eq, ofP_some, ofP_none, sat_of_eq, st_nx, st_rt, st_bk, st_ct, st_ex, st_err, st_then, seqP_nx, seqP_rt, seqP_bk, seqP_ct, seqP_ex, st_xSeq, endP_nx, endP_rt, endP_ex, endP_bk, endP_ct, varP_some, varP_none, varP_non, sat_xVar, sat_xC, sat_xOp, sat_xUn, blP_bl, sat_xTB, trP_some, trP_none, sat_xT, sat_xAndT, sat_xOrT, sat_xNotT, sat_xAnd, sat_xOr, sat_xNot, sat_xIf, sat_xNil, sat_xCons, sat_xTup, sat_xLst, sat_xChain, sat_xCall, sat_xCB, sat_xM0, sat_xM, intP_int, sat_xNoP, sat_xPart, sat_xSl, st_xSkip, st_xBrk, st_xCnt, st_xDrop, st_xRet, st_xRetN, st_xIfS, tgP_some, tgP_none, st_xAsg, g_gVar, g_gNil, g_gCons, g_gTup, augP_some, augP_none, st_xAug, parP_two, st_xPar, loopP_nx, loopP_ct, loopP_bk, loopP_rt, loopP_ex, st_xFor, itP_some, itP_none, sat_xIt, sat_xLc, sat_xItA, sat_xYes, sat_xLenSet, oAdd_ii, oSub_ii, oMul_ii, oFdiv_ii, oMod_ii, oNeg_i, oLt_ii, oLe_ii, oGt_ii, oGe_ii, oInt_i, oIx_ti, oIx_qi, oLen_t, oLen_q, oLen_s, atI_0, atI_1, atI_2, atI_3, atI_4, atI_5, atI_6, atI_7, atI_8, atI_9, atI_10, atI_11, atI_12, atI_13, atI_14, List.getElem?_cons_zero, List.getElem?_cons_succ, List.map_cons, List.map_nil, List.cons_append, List.nil_append, List.length_cons, List.length_nil, List.set_cons_zero, List.set_cons_succ, List.replicate, Option.map_some, Option.map_none, Option.bind_some, Option.bind_none, if_true, if_false, Nat.reduceAdd, Nat.reduceSub, Nat.reduceLT, Nat.reduceLeDiff, Nat.reduceEqDiff, Int.reduceLT, Int.reduceLE, Int.reduceNeg, Int.reduceEq, Bool.false_eq_true, Bool.true_eq_false, reduceIte, reduceCtorEq, Bool.not_true, Bool.not_false, decide_eq_true_eq, Nat.zero_lt_succ, and_true, true_and, and_self, and_false, false_and, isi_non_tuple, isi_non_int, isi_non_str, isi_non_bool, isi_non_list, type_non, isi_bl_tuple, isi_bl_int, isi_bl_str, isi_bl_bool, isi_bl_list, type_bl, isi_int_tuple, isi_int_int, isi_int_str, isi_int_bool, isi_int_list, type_int, isi_str_tuple, isi_str_int, isi_str_str, isi_str_bool, isi_str_list, type_str, isi_tup_tuple, isi_tup_int, isi_tup_str, isi_tup_bool, isi_tup_list, type_tup, is_int_int, isn_int_int, is_int_str, isn_int_str, is_int_tuple, isn_int_tuple, is_int_list, isn_int_list, is_int_bool, isn_int_bool, is_str_int, isn_str_int, is_str_str, isn_str_str, is_str_tuple, isn_str_tuple, is_str_list, isn_str_list, is_str_bool, isn_str_bool, is_tuple_int, isn_tuple_int, is_tuple_str, isn_tuple_str, is_tuple_tuple, isn_tuple_tuple, is_tuple_list, isn_tuple_list, is_tuple_bool, isn_tuple_bool, is_list_int, isn_list_int, is_list_str, isn_list_str, is_list_tuple, isn_list_tuple, is_list_list, isn_list_list, is_list_bool, isn_list_bool, is_bool_int, isn_bool_int, is_bool_str, isn_bool_str, is_bool_tuple, isn_bool_tuple, is_bool_list, isn_bool_list, is_bool_bool, isn_bool_bool, is_NoneType_int, isn_NoneType_int, is_NoneType_str, isn_NoneType_str, is_NoneType_tuple, isn_NoneType_tuple, is_NoneType_list, isn_NoneType_list, is_NoneType_bool, isn_NoneType_bool, isN_non, isnN_non, isB_non, isnB_non, isN_bl, isnN_bl, isB_bl, isnB_bl, isN_int, isnN_int, isB_int, isnB_int, isN_str, isnN_str, isB_str, isnB_str, isN_tup, isnN_tup, isB_tup, isnB_tup, eq_non_non, eq_non_bl, ne_non_bl, eq_non_int, ne_non_int, eq_non_str, ne_non_str, eq_bl_non, ne_bl_non, eq_bl_bl, ne_bl_bl, eq_bl_str, ne_bl_str, eq_int_non, ne_int_non, eq_int_int, ne_int_int, eq_int_str, ne_int_str, eq_str_non, ne_str_non, eq_str_bl, ne_str_bl, eq_str_int, ne_str_int, eq_str_str, ne_str_str, isN_ref, isB_ref, tru_bl, tru_int]
        refine law_order_spec b6 (by decide) fun es S7 hes hp k7 b7 => ?_
        refine n5 _ _ ?_
        clear n5 r5
        have o7 : Or1 (.tup es) := .mk (by omega) hp
        simp only [sat_ok, sat_ex, sat_err, sat_bind_eq, ofP_some, ofP_none, sat_of_eq, st_nx, st_rt, st_bk, st_ct, st_ex, st_err, st_then, seqP_nx, seqP_rt, seqP_bk, seqP_ct, seqP_ex, st_xSeq, endP_nx, endP_rt, endP_ex, endP_bk, endP_ct, varP_some, varP_none, varP_non, sat_xVar, sat_xC, sat_xOp, sat_xUn, blP_bl, sat_xTB, trP_some, trP_none, sat_xT, sat_xAndT, sat_xOrT, sat_xNotT, sat_xAnd, sat_xOr, sat_xNot, sat_xIf, sat_xNil, sat_xCons, sat_xTup, sat_xLst, sat_xChain, sat_xCall, sat_xCB, sat_xM0, sat_xM, intP_int, sat_xNoP, sat_xPart, sat_xSl, st_xSkip, st_xBrk, st_xCnt, st_xDrop, st_xRet, st_xRetN, st_xIfS, tgP_some, tgP_none, st_xAsg, g_gVar, g_gNil, g_gCons, g_gTup, augP_some, augP_none, st_xAug, parP_two, st_xPar, loopP_nx, loopP_ct, loopP_bk, loopP_rt, loopP_ex, st_xFor, itP_some, itP_none, sat_xIt, sat_xLc, sat_xItA, sat_xYes, sat_xLenSet, oAdd_ii, oSub_ii, oMul_ii, oFdiv_ii, oMod_ii, oNeg_i, oLt_ii, oLe_ii, oGt_ii, oGe_ii, oInt_i, oIx_ti, oIx_qi, oLen_t, oLen_q, oLen_s, atI_0, atI_1, atI_2, atI_3, atI_4, atI_5, atI_6, atI_7, atI_8, atI_9, atI_10, atI_11, atI_12, atI_13, atI_14, List.getElem?_cons_zero, List.getElem?_cons_succ, List.map_cons, List.map_nil, List.cons_append, List.nil_append, List.length_cons, List.length_nil, List.set_cons_zero, List.set_cons_succ, List.replicate, Option.map_some, Option.map_none, Option.bind_some, Option.bind_none, if_true, if_false, Nat.reduceAdd, Nat.reduceSub, Nat.reduceLT, Nat.reduceLeDiff, Nat.reduceEqDiff, Int.reduceLT, Int.reduceLE, Int.reduceNeg, Int.reduceEq, Bool.false_eq_true, Bool.true_eq_false, reduceIte, reduceCtorEq, Bool.not_true, Bool.not_false, decide_eq_true_eq, Nat.zero_lt_succ, and_true, true_and, and_self, and_false, false_and, isi_non_tuple, isi_non_int, isi_non_str, isi_non_bool, isi_non_list, type_non, isi_bl_tuple, isi_bl_int, isi_bl_str, isi_bl_bool, isi_bl_list, type_bl, isi_int_tuple, isi_int_int, isi_int_str, isi_int_bool, isi_int_list, type_int, isi_str_tuple, isi_str_int, isi_str_str, isi_str_bool, isi_str_list, type_str, isi_tup_tuple, isi_tup_int, isi_tup_str, isi_tup_bool, isi_tup_list, type_tup, is_int_int, isn_int_int, is_int_str, isn_int_str, is_int_tuple, isn_int_tuple, is_int_list, isn_int_list, is_int_bool, isn_int_bool, is_str_int, isn_str_int, is_str_str, isn_str_str, is_str_tuple, isn_str_tuple, is_str_list, isn_str_list, is_str_bool, isn_str_bool, is_tuple_int, isn_tuple_int, is_tuple_str, isn_tuple_str, is_tuple_tuple, isn_tuple_tuple, is_tuple_list, isn_tuple_list, is_tuple_bool, isn_tuple_bool, is_list_int, isn_list_int, is_list_str, isn_list_str, is_list_tuple, isn_list_tuple, is_list_list, isn_list_list, is_list_bool, isn_list_bool, is_bool_int, isn_bool_int, is_bool_str, isn_bool_str, is_bool_tuple, isn_bool_tuple, is_bool_list, isn_bool_list, is_bool_bool, isn_bool_bool, is_NoneType_int, isn_NoneType_int, is_NoneType_str, isn_NoneType_str, is_NoneType_tuple, isn_NoneType_tuple, is_NoneType_list, isn_NoneType_list, is_NoneType_bool, isn_NoneType_bool, isN_non, isnN_non, isB_non, isnB_non, isN_bl, isnN_bl, isB_bl, isnB_bl, isN_int, isnN_int, isB_int, isnB_int, isN_str, isnN_str, isB_str, isnB_str, isN_tup, isnN_tup, isB_tup, isnB_tup, eq_non_non, eq_non_bl, ne_non_bl, eq_non_int, ne_non_int, eq_non_str, ne_non_str, eq_bl_non, ne_bl_non, eq_bl_bl, ne_bl_bl, eq_bl_str, ne_bl_str, eq_int_non, ne_int_non, eq_int_int, ne_int_int, eq_int_str, ne_int_str, eq_str_non, ne_str_non, eq_str_bl, ne_str_bl, eq_str_int, ne_str_int, eq_str_str, ne_str_str, isN_ref, isB_ref, tru_bl, tru_int]
        refine chg1 1 (.tup es) S7 _ _ o7 b7 fun d8 S8 q8 k8 b8 => ?_
        try simp only [sat_ok, sat_ex, sat_err, sat_bind_eq, ofP_some, ofP_none, sat_of_eq, st_nx, st_rt, st_bk, st_ct, st_ex, st_err, st_then, seqP_nx, seqP_rt, seqP_bk, seqP_ct, seqP_ex, st_xSeq, endP_nx, endP_rt, endP_ex, endP_bk, endP_ct, varP_some, varP_none, varP_non, sat_xVar, sat_xC, sat_xOp, sat_xUn, blP_bl, sat_xTB, trP_some, trP_none, sat_xT, sat_xAndT, sat_xOrT, sat_xNotT, sat_xAnd, sat_xOr, sat_xNot, sat_xIf, sat_xNil, sat_xCons, sat_xTup, sat_xLst, sat_xChain, sat_xCall, sat_xCB, sat_xM0, sat_xM, intP_int, sat_xNoP, sat_xPart, sat_xSl, st_xSkip, st_xBrk, st_xCnt, st_xDrop, st_xRet, st_xRetN, st_xIfS, tgP_some, tgP_none, st_xAsg, g_gVar, g_gNil, g_gCons, g_gTup, augP_some, augP_none, st_xAug, parP_two, st_xPar, loopP_nx, loopP_ct, loopP_bk, loopP_rt, loopP_ex, st_xFor, itP_some, itP_none, sat_xIt, sat_xLc, sat_xItA, sat_xYes, sat_xLenSet, oAdd_ii, oSub_ii, oMul_ii, oFdiv_ii, oMod_ii, oNeg_i, oLt_ii, oLe_ii, oGt_ii, oGe_ii, oInt_i, oIx_ti, oIx_qi, oLen_t, oLen_q, oLen_s, atI_0, atI_1, atI_2, atI_3, atI_4, atI_5, atI_6, atI_7, atI_8, atI_9, atI_10, atI_11, atI_12, atI_13, atI_14, List.getElem?_cons_zero, List.getElem?_cons_succ, List.map_cons, List.map_nil, List.cons_append, List.nil_append, List.length_cons, List.length_nil, List.set_cons_zero, List.set_cons_succ, List.replicate, Option.map_some, Option.map_none, Option.bind_some, Option.bind_none, if_true, if_false, Nat.reduceAdd, Nat.reduceSub, Nat.reduceLT, Nat.reduceLeDiff, Nat.reduceEqDiff, Int.reduceLT, Int.reduceLE, Int.reduceNeg, Int.reduceEq, Bool.false_eq_true, Bool.true_eq_false, reduceIte, reduceCtorEq, Bool.not_true, Bool.not_false, decide_eq_true_eq, Nat.zero_lt_succ, and_true, true_and, and_self, and_false, false_and, isi_non_tuple, isi_non_int, isi_non_str, isi_non_bool, isi_non_list, type_non, isi_bl_tuple, isi_bl_int, isi_bl_str, isi_bl_bool, isi_bl_list, type_bl, isi_int_tuple, isi_int_int, isi_int_str, isi_int_bool, isi_int_list, type_int, isi_str_tuple, isi_str_int, isi_str_str, isi_str_bool, isi_str_list, type_str, isi_tup_tuple, isi_tup_int, isi_tup_str, isi_tup_bool, isi_tup_list, type_tup, is_int_int, isn_int_int, is_int_str, isn_int_str, is_int_tuple, isn_int_tuple, is_int_list, isn_int_list, is_int_bool, isn_int_bool, is_str_int, isn_str_int, is_str_str, isn_str_str, is_str_tuple, isn_str_tuple, is_str_list, isn_str_list, is_str_bool, isn_str_bool, is_tuple_int, isn_tuple_int, is_tuple_str, isn_tuple_str, is_tuple_tuple, isn_tuple_tuple, is_tuple_list, isn_tuple_list, is_tuple_bool, isn_tuple_bool, is_list_int, isn_list_int, is_list_str, isn_list_str, is_list_tuple, isn_list_tuple, is_list_list, isn_list_list, is_list_bool, isn_list_bool, is_bool_int, isn_bool_int, is_bool_str, isn_bool_str, is_bool_tuple, isn_bool_tuple, is_bool_list, isn_bool_list, is_bool_bool, isn_bool_bool, is_NoneType_int, isn_NoneType_int, is_NoneType_str, isn_NoneType_str, is_NoneType_tuple, isn_NoneType_tuple, is_NoneType_list, isn_NoneType_list, is_NoneType_bool, isn_NoneType_bool, isN_non, isnN_non, isB_non, isnB_non, isN_bl, isnN_bl, isB_bl, isnB_bl, isN_int, isnN_int, isB_int, isnB_int, isN_str, isnN_str, isB_str, isnB_str, isN_tup, isnN_tup, isB_tup, isnB_tup, eq_non_non, eq_non_bl, ne_non_bl, eq_non_int, ne_non_int, eq_non_str, ne_non_str, eq_bl_non, ne_bl_non, eq_bl_bl, ne_bl_bl, eq_bl_str, ne_bl_str, eq_int_non, ne_int_non, eq_int_int, ne_int_int, eq_int_str, ne_int_str, eq_str_non, ne_str_non, eq_str_bl, ne_str_bl, eq_str_int, ne_str_int, eq_str_str, ne_str_str, isN_ref, isB_ref, tru_bl, tru_int]
        refine chg1 1 (.tup es) S8 _ _ o7 b8 fun d9 S9 q9 k9 b9 => ⟨by rw [z]; decide, ?_⟩
        simp only [sat_ok, sat_ex, sat_err, sat_bind_eq, ofP_some, ofP_none, sat_of_eq, st_nx, st_rt, st_bk, st_ct, st_ex, st_err, st_then, seqP_nx, seqP_rt, seqP_bk, seqP_ct, seqP_ex, st_xSeq, endP_nx, endP_rt, endP_ex, endP_bk, endP_ct, varP_some, varP_none, varP_non, sat_xVar, sat_xC, sat_xOp, sat_xUn, blP_bl, sat_xTB, trP_some, trP_none, sat_xT, sat_xAndT, sat_xOrT, sat_xNotT, sat_xAnd, sat_xOr, sat_xNot, sat_xIf, sat_xNil, sat_xCons, sat_xTup, sat_xLst, sat_xChain, sat_xCall, sat_xCB, sat_xM0, sat_xM, intP_int, sat_xNoP, sat_xPart, sat_xSl, st_xSkip, st_xBrk, st_xCnt, st_xDrop, st_xRet, st_xRetN, st_xIfS, tgP_some, tgP_none, st_xAsg, g_gVar, g_gNil, g_gCons, g_gTup, augP_some, augP_none, st_xAug, parP_two, st_xPar, loopP_nx, loopP_ct, loopP_bk, loopP_rt, loopP_ex, st_xFor, itP_some, itP_none, sat_xIt, sat_xLc, sat_xItA, sat_xYes, sat_xLenSet, oAdd_ii, oSub_ii, oMul_ii, oFdiv_ii, oMod_ii, oNeg_i, oLt_ii, oLe_ii, oGt_ii, oGe_ii, oInt_i, oIx_ti, oIx_qi, oLen_t, oLen_q, oLen_s, atI_0, atI_1, atI_2, atI_3, atI_4, atI_5, atI_6, atI_7, atI_8, atI_9, atI_10, atI_11, atI_12, atI_13, atI_14, List.getElem?_cons_zero, List.getElem?_cons_succ, List.map_cons, List.map_nil, List.cons_append, List.nil_append, List.length_cons, List.length_nil, List.set_cons_zero, List.set_cons_succ, List.replicate, Option.map_some, Option.map_none, Option.bind_some, Option.bind_none, if_true, if_false, Nat.reduceAdd, Nat.reduceSub, Nat.reduceLT, Nat.reduceLeDiff, Nat.reduceEqDiff, Int.reduceLT, Int.reduceLE, Int.reduceNeg, Int.reduceEq, Bool.false_eq_true, Bool.true_eq_false, reduceIte, reduceCtorEq, Bool.not_true, Bool.not_false, decide_eq_true_eq, Nat.zero_lt_succ, and_true, true_and, and_self, and_false, false_and, isi_non_tuple, isi_non_int, isi_non_str, isi_non_bool, isi_non_list, type_non, isi_bl_tuple, isi_bl_int, isi_bl_str, isi_bl_bool, isi_bl_list, type_bl, isi_int_tuple, isi_int_int, isi_int_str, isi_int_bool, isi_int_list, type_int, isi_str_tuple, isi_str_int, isi_str_str, isi_str_bool, isi_str_list, type_str, isi_tup_tuple, isi_tup_int, isi_tup_str, isi_tup_bool, isi_tup_list, type_tup, is_int_int, isn_int_int, is_int_str, isn_int_str, is_int_tuple, isn_int_tuple, is_int_list, isn_int_list, is_int_bool, isn_int_bool, is_str_int, isn_str_int, is_str_str, isn_str_str, is_str_tuple, isn_str_tuple, is_str_list, isn_str_list, is_str_bool, isn_str_bool, is_tuple_int, isn_tuple_int, is_tuple_str, isn_tuple_str, is_tuple_tuple, isn_tuple_tuple, is_tuple_list, isn_tuple_list, is_tuple_bool, isn_tuple_bool, is_list_int, isn_list_int, is_list_str, isn_list_str, is_list_tuple, isn_list_tuple, is_list_list, isn_list_list, is_list_bool, isn_list_bool, is_bool_int, isn_bool_int, is_bool_str, isn_bool_str, is_bool_tuple, isn_bool_tuple, is_bool_list, isn_bool_list, is_bool_bool, isn_bool_bool, is_NoneType_int, isn_NoneType_int, is_NoneType_str, isn_NoneType_str, is_NoneType_tuple, isn_NoneType_tuple, is_NoneType_list, isn_NoneType_list, is_NoneType_bool, isn_NoneType_bool, isN_non, isnN_non, isB_non, isnB_non, isN_bl, isnN_bl, isB_bl, isnB_bl, isN_int, isnN_int, isB_int, isnB_int, isN_str, isnN_str, isB_str, isnB_str, isN_tup, isnN_tup, isB_tup, isnB_tup, eq_non_non, eq_non_bl, ne_non_bl, eq_non_int, ne_non_int, eq_non_str, ne_non_str, eq_bl_non, ne_bl_non, eq_bl_bl, ne_bl_bl, eq_bl_str, ne_bl_str, eq_int_non, ne_int_non, eq_int_int, ne_int_int, eq_int_str, ne_int_str, eq_str_non, ne_str_non, eq_str_bl, ne_str_bl, eq_str_int, ne_str_int, eq_str_str, ne_str_str, isN_ref, isB_ref, tru_bl, tru_int, itOf]
        refine forL_inv _ (fun rest Γ S => (∃ x4 x6, Γ = [some (.sq (ns.map D.int)), some (.ref b), some d, some (.tup acc), x4, some (.tup es), x6]) ∧ Box b S ∧ ∀ d ∈ rest, Od S d) ⟨⟨_, _, rfl⟩, b9, pl_cons o7.od (pl_cons (q8.keepB k9 b9) (pl_cons q9 pl_nil))⟩ (fun _ _ _ _ => trivial) ?_ ?_
        · rintro d6 rest6 Γ S6 ⟨⟨x4, x6, rfl⟩, b6, hr⟩
          refine ⟨_, rfl, ?_⟩
          have o6 := hr _ List.mem_cons_self
          simp only [sat_ok, sat_ex, sat_err, sat_bind_eq, ofP_some, ofP_none, sat_of_eq, st_nx, st_rt, st_bk, st_ct, st_ex, st_err, st_then, seqP_nx, seqP_rt, seqP_bk, seqP_ct, seqP_ex, st_xSeq, endP_nx, endP_rt, endP_ex, endP_bk, endP_ct, varP_some, varP_none, varP_non, sat_xVar, sat_xC, sat_xOp, sat_xUn, blP_bl, sat_xTB, trP_some, trP_none, sat_xT, sat_xAndT, sat_xOrT, sat_xNotT, sat_xAnd, sat_xOr, sat_xNot, sat_xIf, sat_xNil, sat_xCons, sat_xTup, sat_xLst, sat_xChain, sat_xCall, sat_xCB, sat_xM0, sat_xM, intP_int, sat_xNoP, sat_xPart, sat_xSl, st_xSkip, st_xBrk, st_xCnt, st_xDrop, st_xRet, st_xRetN, st_xIfS, tgP_some, tgP_none, st_xAsg, g_gVar, g_gNil, g_gCons, g_gTup, augP_some, augP_none, st_xAug, parP_two, st_xPar, loopP_nx, loopP_ct, loopP_bk, loopP_rt, loopP_ex, st_xFor, itP_some, itP_none, sat_xIt, sat_xLc, sat_xItA, sat_xYes, sat_xLenSet, oAdd_ii, oSub_ii, oMul_ii, oFdiv_ii, oMod_ii, oNeg_i, oLt_ii, oLe_ii, oGt_ii, oGe_ii, oInt_i, oIx_ti, oIx_qi, oLen_t, oLen_q, oLen_s, atI_0, atI_1, atI_2, atI_3, atI_4, atI_5, atI_6, atI_7, atI_8, atI_9, atI_10, atI_11, atI_12, atI_13, atI_14, List.getElem?_cons_zero, List.getElem?_cons_succ, List.map_cons, List.map_nil, List.cons_append, List.nil_append, List.length_cons, List.length_nil, List.set_cons_zero, List.set_cons_succ, List.replicate, Option.map_some, Option.map_none, Option.bind_some, Option.bind_none, if_true, if_false, Nat.reduceAdd, Nat.reduceSub, Nat.reduceLT, Nat.reduceLeDiff, Nat.reduceEqDiff, Int.reduceLT, Int.reduceLE, Int.reduceNeg, Int.reduceEq, Bool.false_eq_true, Bool.true_eq_false, reduceIte, reduceCtorEq, Bool.not_true, Bool.not_false, decide_eq_true_eq, Nat.zero_lt_succ, and_true, true_and, and_self, and_false, false_and, isi_non_tuple, isi_non_int, isi_non_str, isi_non_bool, isi_non_list, type_non, isi_bl_tuple, isi_bl_int, isi_bl_str, isi_bl_bool, isi_bl_list, type_bl, isi_int_tuple, isi_int_int, isi_int_str, isi_int_bool, isi_int_list, type_int, isi_str_tuple, isi_str_int, isi_str_str, isi_str_bool, isi_str_list, type_str, isi_tup_tuple, isi_tup_int, isi_tup_str, isi_tup_bool, isi_tup_list, type_tup, is_int_int, isn_int_int, is_int_str, isn_int_str, is_int_tuple, isn_int_tuple, is_int_list, isn_int_list, is_int_bool, isn_int_bool, is_str_int, isn_str_int, is_str_str, isn_str_str, is_str_tuple, isn_str_tuple, is_str_list, isn_str_list, is_str_bool, isn_str_bool, is_tuple_int, isn_tuple_int, is_tuple_str, isn_tuple_str, is_tuple_tuple, isn_tuple_tuple, is_tuple_list, isn_tuple_list, is_tuple_bool, isn_tuple_bool, is_list_int, isn_list_int, is_list_str, isn_list_str, is_list_tuple, isn_list_tuple, is_list_list, isn_list_list, is_list_bool, isn_list_bool, is_bool_int, isn_bool_int, is_bool_str, isn_bool_str, is_bool_tuple, isn_bool_tuple, is_bool_list, isn_bool_list, is_bool_bool, isn_bool_bool, is_NoneType_int, isn_NoneType_int, is_NoneType_str, isn_NoneType_str, is_NoneType_tuple, isn_NoneType_tuple, is_NoneType_list, isn_NoneType_list, is_NoneType_bool, isn_NoneType_bool, isN_non, isnN_non, isB_non, isnB_non, isN_bl, isnN_bl, isB_bl, isnB_bl, isN_int, isnN_int, isB_int, isnB_int, isN_str, isnN_str, isB_str, isnB_str, isN_tup, isnN_tup, isB_tup, isnB_tup, eq_non_non, eq_non_bl, ne_non_bl, eq_non_int, ne_non_int, eq_non_str, ne_non_str, eq_bl_non, ne_bl_non, eq_bl_bl, ne_bl_bl, eq_bl_str, ne_bl_str, eq_int_non, ne_int_non, eq_int_int, ne_int_int, eq_int_str, ne_int_str, eq_str_non, ne_str_non, eq_str_bl, ne_str_bl, eq_str_int, ne_str_int, eq_str_str, ne_str_str, isN_ref, isB_ref, tru_bl, tru_int]
          refine is_order_spec o6 fun S7 k7 => ?_
          refine due_order_spec (o6.keep k7) fun S8 k8 => ?_
          try simp only [sat_ok, sat_ex, sat_err, sat_bind_eq, ofP_some, ofP_none, sat_of_eq, st_nx, st_rt, st_bk, st_ct, st_ex, st_err, st_then, seqP_nx, seqP_rt, seqP_bk, seqP_ct, seqP_ex, st_xSeq, endP_nx, endP_rt, endP_ex, endP_bk, endP_ct, varP_some, varP_none, varP_non, sat_xVar, sat_xC, sat_xOp, sat_xUn, blP_bl, sat_xTB, trP_some, trP_none, sat_xT, sat_xAndT, sat_xOrT, sat_xNotT, sat_xAnd, sat_xOr, sat_xNot, sat_xIf, sat_xNil, sat_xCons, sat_xTup, sat_xLst, sat_xChain, sat_xCall, sat_xCB, sat_xM0, sat_xM, intP_int, sat_xNoP, sat_xPart, sat_xSl, st_xSkip, st_xBrk, st_xCnt, st_xDrop, st_xRet, st_xRetN, st_xIfS, tgP_some, tgP_none, st_xAsg, g_gVar, g_gNil, g_gCons, g_gTup, augP_some, augP_none, st_xAug, parP_two, st_xPar, loopP_nx, loopP_ct, loopP_bk, loopP_rt, loopP_ex, st_xFor, itP_some, itP_none, sat_xIt, sat_xLc, sat_xItA, sat_xYes, sat_xLenSet, oAdd_ii, oSub_ii, oMul_ii, oFdiv_ii, oMod_ii, oNeg_i, oLt_ii, oLe_ii, oGt_ii, oGe_ii, oInt_i, oIx_ti, oIx_qi, oLen_t, oLen_q, oLen_s, atI_0, atI_1, atI_2, atI_3, atI_4, atI_5, atI_6, atI_7, atI_8, atI_9, atI_10, atI_11, atI_12, atI_13, atI_14, List.getElem?_cons_zero, List.getElem?_cons_succ, List.map_cons, List.map_nil, List.cons_append, List.nil_append, List.length_cons, List.length_nil, List.set_cons_zero, List.set_cons_succ, List.replicate, Option.map_some, Option.map_none, Option.bind_some, Option.bind_none, if_true, if_false, Nat.reduceAdd, Nat.reduceSub, Nat.reduceLT, Nat.reduceLeDiff, Nat.reduceEqDiff, Int.reduceLT, Int.reduceLE, Int.reduceNeg, Int.reduceEq, Bool.false_eq_true, Bool.true_eq_false, reduceIte, reduceCtorEq, Bool.not_true, Bool.not_false, decide_eq_true_eq, Nat.zero_lt_succ, and_true, true_and, and_self, and_false, false_and, isi_non_tuple, isi_non_int, isi_non_str, isi_non_bool, isi_non_list, type_non, isi_bl_tuple, isi_bl_int, isi_bl_str, isi_bl_bool, isi_bl_list, type_bl, isi_int_tuple, isi_int_int, isi_int_str, isi_int_bool, isi_int_list, type_int, isi_str_tuple, isi_str_int, isi_str_str, isi_str_bool, isi_str_list, type_str, isi_tup_tuple, isi_tup_int, isi_tup_str, isi_tup_bool, isi_tup_list, type_tup, is_int_int, isn_int_int, is_int_str, isn_int_str, is_int_tuple, isn_int_tuple, is_int_list, isn_int_list, is_int_bool, isn_int_bool, is_str_int, isn_str_int, is_str_str, isn_str_str, is_str_tuple, isn_str_tuple, is_str_list, isn_str_list, is_str_bool, isn_str_bool, is_tuple_int, isn_tuple_int, is_tuple_str, isn_tuple_str, is_tuple_tuple, isn_tuple_tuple, is_tuple_list, isn_tuple_list, is_tuple_bool, isn_tuple_bool, is_list_int, isn_list_int, is_list_str, isn_list_str, is_list_tuple, isn_list_tuple, is_list_list, isn_list_list, is_list_bool, isn_list_bool, is_bool_int, isn_bool_int, is_bool_str, isn_bool_str, is_bool_tuple, isn_bool_tuple, is_bool_list, isn_bool_list, is_bool_bool, isn_bool_bool, is_NoneType_int, isn_NoneType_int, is_NoneType_str, isn_NoneType_str, is_NoneType_tuple, isn_NoneType_tuple, is_NoneType_list, isn_NoneType_list, is_NoneType_bool, isn_NoneType_bool, isN_non, isnN_non, isB_non, isnB_non, isN_bl, isnN_bl, isB_bl, isnB_bl, isN_int, isnN_int, isB_int, isnB_int, isN_str, isnN_str, isB_str, isnB_str, isN_tup, isnN_tup, isB_tup, isnB_tup, eq_non_non, eq_non_bl, ne_non_bl, eq_non_int, ne_non_int, eq_non_str, ne_non_str, eq_bl_non, ne_bl_non, eq_bl_bl, ne_bl_bl, eq_bl_str, ne_bl_str, eq_int_non, ne_int_non, eq_int_int, ne_int_int, eq_int_str, ne_int_str, eq_str_non, ne_str_non, eq_str_bl, ne_str_bl, eq_str_int, ne_str_int, eq_str_str, ne_str_str, isN_ref, isB_ref, tru_bl, tru_int]
          refine like_spec 2 (m := 0) Pl.bl Vd.bl fun S9 k9 => ?_
          simp only [sat_ok, sat_ex, sat_err, sat_bind_eq, ofP_some, ofP_none, sat_of_eq, st_nx, st_rt, st_bk, st_ct, st_ex, st_err, st_then, seqP_nx, seqP_rt, seqP_bk, seqP_ct, seqP_ex, st_xSeq, endP_nx, endP_rt, endP_ex, endP_bk, endP_ct, varP_some, varP_none, varP_non, sat_xVar, sat_xC, sat_xOp, sat_xUn, blP_bl, sat_xTB, trP_some, trP_none, sat_xT, sat_xAndT, sat_xOrT, sat_xNotT, sat_xAnd, sat_xOr, sat_xNot, sat_xIf, sat_xNil, sat_xCons, sat_xTup, sat_xLst, sat_xChain, sat_xCall, sat_xCB, sat_xM0, sat_xM, intP_int, sat_xNoP, sat_xPart, sat_xSl, st_xSkip, st_xBrk, st_xCnt, st_xDrop, st_xRet, st_xRetN, st_xIfS, tgP_some, tgP_none, st_xAsg, g_gVar, g_gNil, g_gCons, g_gTup, augP_some, augP_none, st_xAug, parP_two, st_xPar, loopP_nx, loopP_ct, loopP_bk, loopP_rt, loopP_ex, st_xFor, itP_some, itP_none, sat_xIt, sat_xLc, sat_xItA, sat_xYes, sat_xLenSet, oAdd_ii, oSub_ii, oMul_ii, oFdiv_ii, oMod_ii, oNeg_i, oLt_ii, oLe_ii, oGt_ii, oGe_ii, oInt_i, oIx_ti, oIx_qi, oLen_t, oLen_q, oLen_s, atI_0, atI_1, atI_2, atI_3, atI_4, atI_5, atI_6, atI_7, atI_8, atI_9, atI_10, atI_11, atI_12, atI_13, atI_14, List.getElem?_cons_zero, List.getElem?_cons_succ, List.map_cons, List.map_nil, List.cons_append, List.nil_append, List.length_cons, List.length_nil, List.set_cons_zero, List.set_cons_succ, List.replicate, Option.map_some, Option.map_none, Option.bind_some, Option.bind_none, if_true, if_false, Nat.reduceAdd, Nat.reduceSub, Nat.reduceLT, Nat.reduceLeDiff, Nat.reduceEqDiff, Int.reduceLT, Int.reduceLE, Int.reduceNeg, Int.reduceEq, Bool.false_eq_true, Bool.true_eq_false, reduceIte, reduceCtorEq, Bool.not_true, Bool.not_false, decide_eq_true_eq, Nat.zero_lt_succ, and_true, true_and, and_self, and_false, false_and, isi_non_tuple, isi_non_int, isi_non_str, isi_non_bool, isi_non_list, type_non, isi_bl_tuple, isi_bl_int, isi_bl_str, isi_bl_bool, isi_bl_list, type_bl, isi_int_tuple, isi_int_int, isi_int_str, isi_int_bool, isi_int_list, type_int, isi_str_tuple, isi_str_int, isi_str_str, isi_str_bool, isi_str_list, type_str, isi_tup_tuple, isi_tup_int, isi_tup_str, isi_tup_bool, isi_tup_list, type_tup, is_int_int, isn_int_int, is_int_str, isn_int_str, is_int_tuple, isn_int_tuple, is_int_list, isn_int_list, is_int_bool, isn_int_bool, is_str_int, isn_str_int, is_str_str, isn_str_str, is_str_tuple, isn_str_tuple, is_str_list, isn_str_list, is_str_bool, isn_str_bool, is_tuple_int, isn_tuple_int, is_tuple_str, isn_tuple_str, is_tuple_tuple, isn_tuple_tuple, is_tuple_list, isn_tuple_list, is_tuple_bool, isn_tuple_bool, is_list_int, isn_list_int, is_list_str, isn_list_str, is_list_tuple, isn_list_tuple, is_list_list, isn_list_list, is_list_bool, isn_list_bool, is_bool_int, isn_bool_int, is_bool_str, isn_bool_str, is_bool_tuple, isn_bool_tuple, is_bool_list, isn_bool_list, is_bool_bool, isn_bool_bool, is_NoneType_int, isn_NoneType_int, is_NoneType_str, isn_NoneType_str, is_NoneType_tuple, isn_NoneType_tuple, is_NoneType_list, isn_NoneType_list, is_NoneType_bool, isn_NoneType_bool, isN_non, isnN_non, isB_non, isnB_non, isN_bl, isnN_bl, isB_bl, isnB_bl, isN_int, isnN_int, isB_int, isnB_int, isN_str, isnN_str, isB_str, isnB_str, isN_tup, isnN_tup, isB_tup, isnB_tup, eq_non_non, eq_non_bl, ne_non_bl, eq_non_int, ne_non_int, eq_non_str, ne_non_str, eq_bl_non, ne_bl_non, eq_bl_bl, ne_bl_bl, eq_bl_str, ne_bl_str, eq_int_non, ne_int_non, eq_int_int, ne_int_int, eq_int_str, ne_int_str, eq_str_non, ne_str_non, eq_str_bl, ne_str_bl, eq_str_int, ne_str_int, eq_str_str, ne_str_str, isN_ref, isB_ref, tru_bl, tru_int, likeB, decide_true]
          have kk := (k7.trans k8).trans k9
          exact ⟨⟨_, _, rfl⟩, b6.keep kk, fun d hd => (hr d (List.mem_cons_of_mem _ hd)).keep kk⟩
        · rintro Γ S6 ⟨⟨x4, x6, rfl⟩, b6, _⟩
          exact ⟨⟨_, _, _, _, _, rfl⟩, b6⟩
  · rintro Γ S2 ⟨⟨x2, x3, x4, x5, x6, rfl⟩, b2⟩
    refine n2 _ _ ?_
    simp only [sat_ok, sat_ex, sat_err, sat_bind_eq, ofP_some, ofP_none, sat_of_eq, st_nx, st_rt, st_bk, st_ct, st_ex, st_err, st_then, seqP_nx, seqP_rt, seqP_bk, seqP_ct, seqP_ex, st_xSeq, endP_nx, endP_rt, endP_ex, endP_bk, endP_ct, varP_some, varP_none, varP_non, sat_xVar, sat_xC, sat_xOp, sat_xUn, blP_bl, sat_xTB, trP_some, trP_none, sat_xT, sat_xAndT, sat_xOrT, sat_xNotT, sat_xAnd, sat_xOr, sat_xNot, sat_xIf, sat_xNil, sat_xCons, sat_xTup, sat_xLst, sat_xChain, sat_xCall, sat_xCB, sat_xM0, sat_xM, intP_int, sat_xNoP, sat_xPart, sat_xSl, st_xSkip, st_xBrk, st_xCnt, st_xDrop, st_xRet, st_xRetN, st_xIfS, tgP_some, tgP_none, st_xAsg, g_gVar, g_gNil, g_gCons, g_gTup, augP_some, augP_none, st_xAug, parP_two, st_xPar, loopP_nx, loopP_ct, loopP_bk, loopP_rt, loopP_ex, st_xFor, itP_some, itP_none, sat_xIt, sat_xLc, sat_xItA, sat_xYes, sat_xLenSet, oAdd_ii, oSub_ii, oMul_ii, oFdiv_ii, oMod_ii, oNeg_i, oLt_ii, oLe_ii, oGt_ii, oGe_ii, oInt_i, oIx_ti, oIx_qi, oLen_t, oLen_q, oLen_s, atI_0, atI_1, atI_2, atI_3, atI_4, atI_5, atI_6, atI_7, atI_8, atI_9, atI_10, atI_11, atI_12, atI_13, atI_14, List.getElem?_cons_zero, List.getElem?_cons_succ, List.map_cons, List.map_nil, List.cons_append, List.nil_append, List.length_cons, List.length_nil, List.set_cons_zero, List.set_cons_succ, List.replicate, Option.map_some, Option.map_none, Option.bind_some, Option.bind_none, if_true, if_false, Nat.reduceAdd, Nat.reduceSub, Nat.reduceLT, Nat.reduceLeDiff, Nat.reduceEqDiff, Int.reduceLT, Int.reduceLE, Int.reduceNeg, Int.reduceEq, Bool.false_eq_true, Bool.true_eq_false, reduceIte, reduceCtorEq, Bool.not_true, Bool.not_false, decide_eq_true_eq, Nat.zero_lt_succ, and_true, true_and, and_self, and_false, false_and, isi_non_tuple, isi_non_int, isi_non_str, isi_non_bool, isi_non_list, type_non, isi_bl_tuple, isi_bl_int, isi_bl_str, isi_bl_bool, isi_bl_list, type_bl, isi_int_tuple, isi_int_int, isi_int_str, isi_int_bool, isi_int_list, type_int, isi_str_tuple, isi_str_int, isi_str_str, isi_str_bool, isi_str_list, type_str, isi_tup_tuple, isi_tup_int, isi_tup_str, isi_tup_bool, isi_tup_list, type_tup, is_int_int, isn_int_int, is_int_str, isn_int_str, is_int_tuple, isn_int_tuple, is_int_list, isn_int_list, is_int_bool, isn_int_bool, is_str_int, isn_str_int, is_str_str, isn_str_str, is_str_tuple, isn_str_tuple, is_str_list, isn_str_list, is_str_bool, isn_str_bool, is_tuple_int, isn_tuple_int, is_tuple_str, isn_tuple_str, is_tuple_tuple, isn_tuple_tuple, is_tuple_list, isn_tuple_list, is_tuple_bool, isn_tuple_bool, is_list_int, isn_list_int, is_list_str, isn_list_str, is_list_tuple, isn_list_tuple, is_list_list, isn_list_list, is_list_bool, isn_list_bool, is_bool_int, isn_bool_int, is_bool_str, isn_bool_str, is_bool_tuple, isn_bool_tuple, is_bool_list, isn_bool_list, is_bool_bool, isn_bool_bool, is_NoneType_int, isn_NoneType_int, is_NoneType_str, isn_NoneType_str, is_NoneType_tuple, isn_NoneType_tuple, is_NoneType_list, isn_NoneType_list, is_NoneType_bool, isn_NoneType_bool, isN_non, isnN_non, isB_non, isnB_non, isN_bl, isnN_bl, isB_bl, isnB_bl, isN_int, isnN_int, isB_int, isnB_int, isN_str, isnN_str, isB_str, isnB_str, isN_tup, isnN_tup, isB_tup, isnB_tup, eq_non_non, eq_non_bl, ne_non_bl, eq_non_int, ne_non_int, eq_non_str, ne_non_str, eq_bl_non, ne_bl_non, eq_bl_bl, ne_bl_bl, eq_bl_str, ne_bl_str, eq_int_non, ne_int_non, eq_int_int, ne_int_int, eq_int_str, ne_int_str, eq_str_non, ne_str_non, eq_str_bl, ne_str_bl, eq_str_int, ne_str_int, eq_str_str, ne_str_str, isN_ref, isB_ref, tru_bl, tru_int]
    exact h _
theorem lawEnd (ns : List Int) : (fLaw [.sq (ns.map D.int)] []).sat (fun d _ => d = .bl true) fun _ _ => False := by
  rw [← wp_def]
  exact law_true fun _ => rfl
end
end K43
namespace K43
open PySem PySem.Spec PyProof.Rows L2 Dx
def d_within : He.DefD := ⟨("within", none), "within", "within", defArgs (top 1), defBody (top 1), defScope (top 1), [], []⟩
def d_is_tuple : He.DefD := ⟨("is_tuple", none), "is_tuple", "is_tuple", defArgs (top 2), defBody (top 2), defScope (top 2), [], []⟩
def d_unlike : He.DefD := ⟨("unlike", none), "unlike", "unlike", defArgs (top 3), defBody (top 3), defScope (top 3), [], []⟩
def d_is_name : He.DefD := ⟨("is_name", none), "is_name", "is_name", defArgs (top 9), defBody (top 9), defScope (top 9), [], []⟩
def d_is_day : He.DefD := ⟨("is_day", none), "is_day", "is_day", defArgs (top 10), defBody (top 10), defScope (top 10), [], []⟩
def d_is_amount : He.DefD := ⟨("is_amount", none), "is_amount", "is_amount", defArgs (top 11), defBody (top 11), defScope (top 11), [], []⟩
def d_is_order : He.DefD := ⟨("is_order", none), "is_order", "is_order", defArgs (top 17), defBody (top 17), defScope (top 17), [], []⟩
def d_is_orders : He.DefD := ⟨("is_orders", none), "is_orders", "is_orders", defArgs (top 18), defBody (top 18), defScope (top 18), [], []⟩
def d__law_cell : He.DefD := ⟨("_law_cell", none), "_law_cell", "_law_cell", defArgs (top 20), defBody (top 20), defScope (top 20), [], []⟩
def d__law_digits : He.DefD := ⟨("_law_digits", none), "_law_digits", "_law_digits", defArgs (top 21), defBody (top 21), defScope (top 21), [], []⟩
def d__law_draw : He.DefD := ⟨("_law_draw", none), "_law_draw", "_law_draw", defArgs (top 22), defBody (top 22), defScope (top 22), [], []⟩
def d__law_wide : He.DefD := ⟨("_law_wide", none), "_law_wide", "_law_wide", defArgs (top 23), defBody (top 23), defScope (top 23), [], []⟩
def d__law_like : He.DefD := ⟨("_law_like", none), "_law_like", "_law_like", defArgs (top 24), defBody (top 24), defScope (top 24), [], []⟩
def d__law_order : He.DefD := ⟨("_law_order", none), "_law_order", "_law_order", defArgs (top 25), defBody (top 25), defScope (top 25), [], []⟩
def d__law_is_name : He.DefD := ⟨("_law_is_name", none), "_law_is_name", "_law_is_name", defArgs (top 26), defBody (top 26), defScope (top 26), [], []⟩
def d__law_is_whole : He.DefD := ⟨("_law_is_whole", none), "_law_is_whole", "_law_is_whole", defArgs (top 27), defBody (top 27), defScope (top 27), [], []⟩
def d__law_due_order : He.DefD := ⟨("_law_due_order", none), "_law_due_order", "_law_due_order", defArgs (top 28), defBody (top 28), defScope (top 28), [], []⟩
def d__law_due_orders : He.DefD := ⟨("_law_due_orders", none), "_law_due_orders", "_law_due_orders", defArgs (top 29), defBody (top 29), defScope (top 29), [], []⟩
def d__law_other : He.DefD := ⟨("_law_other", none), "_law_other", "_law_other", defArgs (top 30), defBody (top 30), defScope (top 30), [], []⟩
def d__law_changed : He.DefD := ⟨("_law_changed", none), "_law_changed", "_law_changed", defArgs (top 31), defBody (top 31), defScope (top 31), [], []⟩
def d_law : He.DefD := ⟨("law", none), "law", "law", defArgs (top 32), defBody (top 32), defScope (top 32), [], []⟩
def fn : List He.DefD := [d_within, d_is_tuple, d_unlike, d_is_name, d_is_day, d_is_amount, d_is_order, d_is_orders, d__law_cell, d__law_digits, d__law_draw, d__law_wide, d__law_like, d__law_order, d__law_is_name, d__law_is_whole, d__law_due_order, d__law_due_orders, d__law_other, d__law_changed, d_law]
def fa : List He.Fa := [.glo "within", .glo "is_tuple", .glo "unlike", .glo "is_name", .glo "is_day", .glo "is_amount", .glo "is_order", .glo "is_orders", .glo "_law_cell", .glo "_law_digits", .glo "_law_draw", .glo "_law_wide", .glo "_law_like", .glo "_law_order", .glo "_law_is_name", .glo "_law_is_whole", .glo "_law_due_order", .glo "_law_due_orders", .glo "_law_other", .glo "_law_changed", .glo "law", .free "all", .free "bool", .free "int", .free "isinstance", .free "len", .free "list", .free "range", .free "set", .free "str", .free "tuple", .free "type", .str "LETTERS" g_LETTERS, .str "SIGNS" g_SIGNS, .int "LAST_DAY" 9999, .int "MOST_AMOUNT" 99999999, .int "MOST_ORDERS" 12, .int "MOST_STEP" 999, .int "MOST_DUES" 60, .int "MOST_SLACK" 99]
abbrev RR : PySem.W.OpenRow := PySem.W.OpenLaw.row PySem.Challenge.rw_accorded_k43_ord_is_things
abbrev hk : PySem.W.Hook := He.hookD 4 fa fn
def ob (s : PySem.W.SharedT) : He.AlD := He.obsDG 4 fa fn (HandSHeadRun.getT s)
theorem ob_eq (s : PySem.W.SharedT) : ob s = hk.obs s.abs := He.obsDG_eq (HandSHeadRun.getT_eq s)
def loose0 : List Str := ["within", "is_tuple", "unlike", "LETTERS", "SIGNS", "LAST_DAY", "MOST_AMOUNT", "is_name", "is_day", "is_amount", "MOST_ORDERS", "MOST_STEP", "MOST_DUES", "MOST_SLACK", "is_order", "is_orders", "_law_cell", "_law_digits", "_law_draw", "_law_wide", "_law_like", "_law_order", "_law_is_name", "_law_is_whole", "_law_due_order", "_law_due_orders", "_law_other", "_law_changed"]
abbrev loose : List Str := loose0
theorem run (w : World) : HandSHeadRun.RunEq RR (PySem.W.view RR.prog [32]) hk ob 4000 loose w := by
  intro os
  kernel_rfl
theorem facts {P : Program} {w : World} {K : PySem.W.Frag} {h : Heap} {mg : Str → Option Value} {f : Addr} (X : K.In h) (G : h.Ns mainGlobals mg) (hfa : mg ("law" : Str) = some (.ref f)) (c : He.SaysD fa fn K) :
    ∃ fd : FuncData, (∀ (s : Shared) (v : Value), BindsTo s fd ⟨[v], []⟩ [("script", v)]) ∧ ∀ base : Heap, K.In base → base.Ns mainGlobals mg → FnOk P w K mg base CX0 6 f fd ["script"] (spLaw K) := by
  obtain ⟨fd_within, F_within⟩ := c.def_ 0 (d := d_within) rfl
  have g_within : mg "within" = some (.ref _) := He.glo_ok X G (c.fact 0 (f := .glo "within") rfl)
  obtain ⟨fd_is_tuple, F_is_tuple⟩ := c.def_ 1 (d := d_is_tuple) rfl
  have g_is_tuple : mg "is_tuple" = some (.ref _) := He.glo_ok X G (c.fact 1 (f := .glo "is_tuple") rfl)
  obtain ⟨fd_unlike, F_unlike⟩ := c.def_ 2 (d := d_unlike) rfl
  have g_unlike : mg "unlike" = some (.ref _) := He.glo_ok X G (c.fact 2 (f := .glo "unlike") rfl)
  obtain ⟨fd_is_name, F_is_name⟩ := c.def_ 3 (d := d_is_name) rfl
  have g_is_name : mg "is_name" = some (.ref _) := He.glo_ok X G (c.fact 3 (f := .glo "is_name") rfl)
  obtain ⟨fd_is_day, F_is_day⟩ := c.def_ 4 (d := d_is_day) rfl
  have g_is_day : mg "is_day" = some (.ref _) := He.glo_ok X G (c.fact 4 (f := .glo "is_day") rfl)
  obtain ⟨fd_is_amount, F_is_amount⟩ := c.def_ 5 (d := d_is_amount) rfl
  have g_is_amount : mg "is_amount" = some (.ref _) := He.glo_ok X G (c.fact 5 (f := .glo "is_amount") rfl)
  obtain ⟨fd_is_order, F_is_order⟩ := c.def_ 6 (d := d_is_order) rfl
  have g_is_order : mg "is_order" = some (.ref _) := He.glo_ok X G (c.fact 6 (f := .glo "is_order") rfl)
  obtain ⟨fd_is_orders, F_is_orders⟩ := c.def_ 7 (d := d_is_orders) rfl
  have g_is_orders : mg "is_orders" = some (.ref _) := He.glo_ok X G (c.fact 7 (f := .glo "is_orders") rfl)
  obtain ⟨fd__law_cell, F__law_cell⟩ := c.def_ 8 (d := d__law_cell) rfl
  have g__law_cell : mg "_law_cell" = some (.ref _) := He.glo_ok X G (c.fact 8 (f := .glo "_law_cell") rfl)
  obtain ⟨fd__law_digits, F__law_digits⟩ := c.def_ 9 (d := d__law_digits) rfl
  have g__law_digits : mg "_law_digits" = some (.ref _) := He.glo_ok X G (c.fact 9 (f := .glo "_law_digits") rfl)
  obtain ⟨fd__law_draw, F__law_draw⟩ := c.def_ 10 (d := d__law_draw) rfl
  have g__law_draw : mg "_law_draw" = some (.ref _) := He.glo_ok X G (c.fact 10 (f := .glo "_law_draw") rfl)
  obtain ⟨fd__law_wide, F__law_wide⟩ := c.def_ 11 (d := d__law_wide) rfl
  have g__law_wide : mg "_law_wide" = some (.ref _) := He.glo_ok X G (c.fact 11 (f := .glo "_law_wide") rfl)
  obtain ⟨fd__law_like, F__law_like⟩ := c.def_ 12 (d := d__law_like) rfl
  have g__law_like : mg "_law_like" = some (.ref _) := He.glo_ok X G (c.fact 12 (f := .glo "_law_like") rfl)
  obtain ⟨fd__law_order, F__law_order⟩ := c.def_ 13 (d := d__law_order) rfl
  have g__law_order : mg "_law_order" = some (.ref _) := He.glo_ok X G (c.fact 13 (f := .glo "_law_order") rfl)
  obtain ⟨fd__law_is_name, F__law_is_name⟩ := c.def_ 14 (d := d__law_is_name) rfl
  have g__law_is_name : mg "_law_is_name" = some (.ref _) := He.glo_ok X G (c.fact 14 (f := .glo "_law_is_name") rfl)
  obtain ⟨fd__law_is_whole, F__law_is_whole⟩ := c.def_ 15 (d := d__law_is_whole) rfl
  have g__law_is_whole : mg "_law_is_whole" = some (.ref _) := He.glo_ok X G (c.fact 15 (f := .glo "_law_is_whole") rfl)
  obtain ⟨fd__law_due_order, F__law_due_order⟩ := c.def_ 16 (d := d__law_due_order) rfl
  have g__law_due_order : mg "_law_due_order" = some (.ref _) := He.glo_ok X G (c.fact 16 (f := .glo "_law_due_order") rfl)
  obtain ⟨fd__law_due_orders, F__law_due_orders⟩ := c.def_ 17 (d := d__law_due_orders) rfl
  have g__law_due_orders : mg "_law_due_orders" = some (.ref _) := He.glo_ok X G (c.fact 17 (f := .glo "_law_due_orders") rfl)
  obtain ⟨fd__law_other, F__law_other⟩ := c.def_ 18 (d := d__law_other) rfl
  have g__law_other : mg "_law_other" = some (.ref _) := He.glo_ok X G (c.fact 18 (f := .glo "_law_other") rfl)
  obtain ⟨fd__law_changed, F__law_changed⟩ := c.def_ 19 (d := d__law_changed) rfl
  have g__law_changed : mg "_law_changed" = some (.ref _) := He.glo_ok X G (c.fact 19 (f := .glo "_law_changed") rfl)
  obtain ⟨fd_law, F_law⟩ := c.def_ 20 (d := d_law) rfl
  have g_law : mg "law" = some (.ref _) := He.glo_ok X G (c.fact 20 (f := .glo "law") rfl)
  have T : Tx mg := ⟨He.free_ok X G (c.fact 21 (f := .free "all") rfl), He.free_ok X G (c.fact 22 (f := .free "bool") rfl), He.free_ok X G (c.fact 23 (f := .free "int") rfl), He.free_ok X G (c.fact 24 (f := .free "isinstance") rfl), He.free_ok X G (c.fact 25 (f := .free "len") rfl), He.free_ok X G (c.fact 26 (f := .free "list") rfl), He.free_ok X G (c.fact 27 (f := .free "range") rfl), He.free_ok X G (c.fact 28 (f := .free "set") rfl), He.free_ok X G (c.fact 29 (f := .free "str") rfl), He.free_ok X G (c.fact 30 (f := .free "tuple") rfl), He.free_ok X G (c.fact 31 (f := .free "type") rfl), He.str_ok X G (c.fact 32 (f := .str "LETTERS" g_LETTERS) rfl), He.str_ok X G (c.fact 33 (f := .str "SIGNS" g_SIGNS) rfl), He.int_ok X G (c.fact 34 (f := .int "LAST_DAY" 9999) rfl), He.int_ok X G (c.fact 35 (f := .int "MOST_AMOUNT" 99999999) rfl), He.int_ok X G (c.fact 36 (f := .int "MOST_ORDERS" 12) rfl), He.int_ok X G (c.fact 37 (f := .int "MOST_STEP" 999) rfl), He.int_ok X G (c.fact 38 (f := .int "MOST_DUES" 60) rfl), He.int_ok X G (c.fact 39 (f := .int "MOST_SLACK" 99) rfl)⟩
  have H_within := fun base => ok_within (P := P) (w := w) (base := base) (k := 0) T F_within g_within 
  have H_is_tuple := fun base => ok_is_tuple (P := P) (w := w) (base := base) (k := 0) T F_is_tuple g_is_tuple 
  have H_unlike := fun base => ok_unlike (P := P) (w := w) (base := base) (k := 0) T F_unlike g_unlike 
  have H_is_name := fun base => ok_is_name (P := P) (w := w) (base := base) (k := 0) T F_is_name g_is_name 
  have H_is_day := fun base => ok_is_day (P := P) (w := w) (base := base) (k := 1) T F_is_day g_is_day ((H_within base).mono (by decide))
  have H_is_amount := fun base => ok_is_amount (P := P) (w := w) (base := base) (k := 1) T F_is_amount g_is_amount ((H_within base).mono (by decide))
  have H_is_order := fun base => ok_is_order (P := P) (w := w) (base := base) (k := 2) T F_is_order g_is_order ((H_is_name base).mono (by decide)) ((H_is_day base).mono (by decide)) ((H_is_amount base).mono (by decide)) ((H_within base).mono (by decide))
  have H_is_orders := fun base => ok_is_orders (P := P) (w := w) (base := base) (k := 3) T F_is_orders g_is_orders ((H_is_tuple base).mono (by decide)) ((H_is_order base).mono (by decide)) ((H_unlike base).mono (by decide))
  have H__law_cell := fun base => ok__law_cell (P := P) (w := w) (base := base) (k := 0) T F__law_cell g__law_cell 
  have H__law_digits := fun base => ok__law_digits (P := P) (w := w) (base := base) (k := 1) T F__law_digits g__law_digits ((H__law_cell base).mono (by decide))
  have H__law_draw := fun base => ok__law_draw (P := P) (w := w) (base := base) (k := 0) T F__law_draw g__law_draw 
  have H__law_wide := fun base => ok__law_wide (P := P) (w := w) (base := base) (k := 1) T F__law_wide g__law_wide ((H__law_draw base).mono (by decide))
  have H__law_like : ∀ base n, HasFn P w K mg base "_law_like" 2 (0 + n) (fLike n) := fun base n => by
    induction n with
    | zero => exact err__law_like _ F__law_like g__law_like
    | succ n ih => exact ok__law_like T F__law_like g__law_like ih
  replace H__law_like := fun base => H__law_like base 3
  have H__law_order := fun base => ok__law_order (P := P) (w := w) (base := base) (k := 2) T F__law_order g__law_order ((H__law_draw base).mono (by decide)) ((H__law_wide base).mono (by decide))
  have H__law_is_name := fun base => ok__law_is_name (P := P) (w := w) (base := base) (k := 0) T F__law_is_name g__law_is_name 
  have H__law_is_whole := fun base => ok__law_is_whole (P := P) (w := w) (base := base) (k := 0) T F__law_is_whole g__law_is_whole 
  have H__law_due_order := fun base => ok__law_due_order (P := P) (w := w) (base := base) (k := 3) T F__law_due_order g__law_due_order ((H__law_like base).mono (by decide)) ((H__law_is_name base).mono (by decide)) ((H__law_is_whole base).mono (by decide))
  have H__law_due_orders := fun base => ok__law_due_orders (P := P) (w := w) (base := base) (k := 4) T F__law_due_orders g__law_due_orders ((H__law_due_order base).mono (by decide))
  have H__law_other := fun base => ok__law_other (P := P) (w := w) (base := base) (k := 1) T F__law_other g__law_other ((H__law_draw base).mono (by decide))
  have H__law_changed : ∀ base n, HasFn P w K mg base "_law_changed" 2 (2 + n) (fChanged n) := fun base n => by
    induction n with
    | zero => exact err__law_changed _ F__law_changed g__law_changed
    | succ n ih => exact ok__law_changed T F__law_changed g__law_changed ((H__law_draw base).mono (Nat.le_trans (by decide) (Nat.le_add_right 2 n))) ((H__law_other base).mono (Nat.le_trans (by decide) (Nat.le_add_right 2 n))) ih
  replace H__law_changed := fun base => H__law_changed base 3
  have e := hfa.symm.trans g_law
  cases e
  have b := FunD.bindsA (ps := ["script"]) F_law fun _ _ _ _ _ _ us hl => match us, hl with | [_], _ => rfl
  exact ⟨fd_law, fun s v => b s [v] rfl, fun base _ _ => law_fn (fn_law (k := 5) T F_law ((H__law_digits base).mono (by decide)) ((H__law_draw base).mono (by decide)) ((H__law_order base).mono (by decide)) ((H__law_changed base).mono (by decide)) ((H__law_like base).mono (by decide)) ((H__law_due_orders base).mono (by decide)) ((H_is_orders base).mono (by decide)) ((H__law_due_order base).mono (by decide)) ((H_is_order base).mono (by decide))) lawEnd⟩
end K43
open PySem PySem.W PySem.Calls PyProof.Rows
theorem PySem.Challenge.cw_accorded_k43_ord_is_things_holds : PySem.Challenge.rw_accorded_k43_ord_is_things.Holds := by
  w_on; o_law
  refine HandSHeadRun.head_any (r := OpenLaw.row PySem.Challenge.rw_accorded_k43_ord_is_things) (q := view (OpenLaw.row PySem.Challenge.rw_accorded_k43_ord_is_things).prog [32]) (H := K43.hk) (ob := K43.ob) (M := 4000) (loose := K43.loose) (d := HandSHeadRun.topDef (OpenLaw.row PySem.Challenge.rw_accorded_k43_ord_is_things).prog 32) (kwd := []) K43.ob_eq
    (by kernel_rfl) (fun s => by kernel_rfl) K43.run (by kernel_rfl) (by kernel_rfl) (by kernel_rfl) (by rfl) (by first | assumption | decide +kernel) (by decide +kernel) ⟨rfl, rfl, rfl, rfl, rfl, by decide +kernel⟩ ?hw ?hc
  case hw => w_witness2
  case hc =>
    refine L2.walk_ofE (l := PySem.Challenge.rw_accorded_k43_ord_is_things) (n := 63) (k := 6) (x := "script") (CX := L2.CX0) rfl (by decide) (by kernel_rfl) ⟨rfl, by decide, by decide⟩ ?F (fun _ _ _ _ z => z)
    intro w mg fa h Y G hmg0
    obtain ⟨K, KX, c⟩ := Y
    have hmg : mg ("law" : PySem.Str) = some (.ref fa) := by
      have e : (HandSHeadRun.topDef (OpenLaw.row PySem.Challenge.rw_accorded_k43_ord_is_things).prog 32).name = ("law" : PySem.Str) := by kernel_rfl
      rw [← e]
      exact hmg0
    obtain ⟨fd, hb, hF⟩ := K43.facts (P := (PySem.Challenge.rw_accorded_k43_ord_is_things).prog) (w := w) KX G hmg c
    exact ⟨K, fd, Dx.spLaw K, KX, hb, fun H a ns hl hO hS => ⟨a, ns, rfl, hO, hS, fun _ => rfl⟩, hF⟩
