import PyProof.Rows.All
import Wide.All
import OpenK.AllK
import Wide.FinOn
import HandS.ForMost
import HandS.ForExc
import HandS.Walk
import HandS.IsInst
import HandS.Zip
import HandS.Rev
import HandS.Flow
import HandS.Wide
import HandS.Conv
import HandS.TupAny
import HandS.Deep
import HandS.More
import HandS.Strs
import HandS.Style
import HandS.Defaults
import PySem.Challenge.RW_underrows_k14_forms
set_option Elab.async false
set_option linter.all false
set_option maxRecDepth 100000
set_option maxHeartbeats 4000000
namespace Mi
open PySem L2

/-! ### values of the mirror: what stands still is a value, what changes is a place of the store -/
inductive MV where
  | non | bl (b : Bool) | int (i : Int) | str (s : List Nat) | ty (n : String)
  | tup (xs : List MV) | lst (xs : List MV) | rol (xs : List MV) | dic (kvs : List (MV × MV))
  | ins (c : Nat) (fs : List (Str × MV)) | ref (l : Nat) | fn (g : Nat) | clo (g : Nat) (cs : List MV)
  deriving Inhabited
inductive MO where
  | lst (xs : List MV) | dic (kvs : List (MV × MV)) | ins (c : Nat) (fs : List (Str × MV))
  deriving Inhabited
abbrev Sto := List MO
abbrev Env := List (Option MV)
structure MX where
  cls : Nat
  fs : List (Str × MV)
inductive Res (α : Type) where
  | ok (a : α) (S : Sto) | ex (x : MX) (S : Sto) | bad
def Res.bind {α β : Type} (r : Res α) (k : α → Sto → Res β) : Res β := match r with
  | .ok a S => k a S
  | .ex x S => .ex x S
  | .bad => .bad
@[simp] theorem bind_ok {α β : Type} (a : α) (S : Sto) (k : α → Sto → Res β) : (Res.ok a S).bind k = k a S := rfl
@[simp] theorem bind_ex {α β : Type} (x : MX) (S : Sto) (k : α → Sto → Res β) : (Res.ex x S).bind k = .ex x S := rfl
@[simp] theorem bind_bad {α β : Type} (k : α → Sto → Res β) : (Res.bad : Res α).bind k = .bad := rfl
inductive SRes where
  | nx (e : Env) (S : Sto) | rt (v : MV) (S : Sto) | bk (e : Env) (S : Sto) | ct (e : Env) (S : Sto) | ex (x : MX) (e : Env) (S : Sto) | bad

/-- what is fixed: the written part, where classes and defs stand -/
structure Ct where
  K : PySem.W.Frag
  cA : Nat → Addr
  fA : Nat → Addr
abbrev Io := List Addr

def KL (K : PySem.W.Frag) (a : Addr) (xs : List V) : Prop :=
  ∃ (o : Obj) (its : Array Value) (n : Nat), K.lookup a = some o ∧ o.cls = .type "list" ∧ o.dict = none ∧ o.data = .seq its n ∧ its.size ≤ sizeLine ∧ Vals xs its.toList
def KT (K : PySem.W.Frag) (a : Addr) (xs : List V) : Prop :=
  ∃ (o : Obj) (its : Array Value) (n : Nat), K.lookup a = some o ∧ o.cls = .type "tuple" ∧ o.data = .seq its n ∧ its.size ≤ sizeLine ∧ Vals xs its.toList
def FL (C : Ct) (ι : Io) (H : Hp) (a : Addr) (xs : List V) : Prop := (a ∉ ι ∧ Rd H a (.lst xs)) ∨ KL C.K a xs
def FT (C : Ct) (ι : Io) (H : Hp) (a : Addr) (xs : List V) : Prop := (a ∉ ι ∧ Rd H a (.tup xs)) ∨ KT C.K a xs
theorem FL.sq {C : Ct} {ι : Io} {H : Hp} {a : Addr} {xs : List V} (h : FL C ι H a xs) : SqL C.K H a xs := h.elim (fun h => .inl h.2) .inr
theorem FT.sq {C : Ct} {ι : Io} {H : Hp} {a : Addr} {xs : List V} (h : FT C ι H a xs) : SqT C.K H a xs := h.elim (fun h => .inl h.2) .inr

/-- a key of a dict -/
def KeyR : MV → Key → Prop
  | .int i, k => k = .inl i
  | .str s, k => k = .inr ⟨s.toArray⟩
  | _, _ => False

mutual
/-- a mirror's value and the value that it stands for -/
def VR (C : Ct) (ι : Io) (H : Hp) : MV → V → Prop
  | .non, v => v = .non
  | .bl b, v => v = .bl b
  | .int i, v => v = .int i
  | .str s, v => v = .str ⟨s.toArray⟩
  | .ty n, v => v = .ty n
  | .tup xs, v => ∃ a vs, v = .ref a ∧ FT C ι H a vs ∧ VRs C ι H xs vs
  | .lst xs, v => ∃ a vs, v = .ref a ∧ a ∉ ι ∧ H a = some (.lst vs) ∧ VRs C ι H xs vs
  | .rol xs, v => ∃ a vs, v = .ref a ∧ FL C ι H a vs ∧ VRs C ι H xs vs
  | .dic kvs, v => ∃ a kx, v = .ref a ∧ a ∉ ι ∧ Rd H a (.dK kx) ∧ KRs C ι H kvs kx
  | .ins c fs, v => ∃ a dx fx, v = .ref a ∧ a ∉ ι ∧ H a = some (.ins (C.cA c) dx fx) ∧ FRs C ι H fs fx
  | .ref l, v => ∃ a, v = .ref a ∧ ι[l]? = some a
  | .fn g, v => v = .ref (C.fA g)
  | .clo _ _, _ => False
def VRs (C : Ct) (ι : Io) (H : Hp) : List MV → List V → Prop
  | [], vs => vs = []
  | x :: r, vs => ∃ v w, vs = v :: w ∧ VR C ι H x v ∧ VRs C ι H r w
def KRs (C : Ct) (ι : Io) (H : Hp) : List (MV × MV) → List (Key × V) → Prop
  | [], vs => vs = []
  | p :: r, vs => ∃ q w, vs = q :: w ∧ KR C ι H p q ∧ KRs C ι H r w
def KR (C : Ct) (ι : Io) (H : Hp) : MV × MV → Key × V → Prop
  | (k, x), q => KeyR k q.1 ∧ VR C ι H x q.2
def FRs (C : Ct) (ι : Io) (H : Hp) : List (Str × MV) → List (Str × V) → Prop
  | [], vs => vs = []
  | p :: r, vs => ∃ q w, vs = q :: w ∧ FR C ι H p q ∧ FRs C ι H r w
def FR (C : Ct) (ι : Io) (H : Hp) : Str × MV → Str × V → Prop
  | (f, x), q => q.1 = f ∧ VR C ι H x q.2
end

def OR (C : Ct) (ι : Io) (H : Hp) (a : Addr) : MO → Prop
  | .lst xs => ∃ vs, H a = some (.lst vs) ∧ VRs C ι H xs vs
  | .dic kvs => ∃ kx, H a = some (.dK kx) ∧ KRs C ι H kvs kx
  | .ins c fs => ∃ dx fx, H a = some (.ins (C.cA c) dx fx) ∧ FRs C ι H fs fx
structure StR (C : Ct) (ι : Io) (S : Sto) (H : Hp) : Prop where
  len : ι.length = S.length
  nd : ι.Nodup
  ob : ∀ (l : Nat) (o : MO) (a : Addr), S[l]? = some o → ι[l]? = some a → OR C ι H a o
/-- the heap goes on: new places are new, what is no place stays -/
structure Ext (ι : Io) (H : Hp) (ι' : Io) (H' : Hp) : Prop where
  pre : ι <+: ι'
  new : ∀ a ∈ ι', a ∈ ι ∨ H a = none
  old : ∀ a o, H a = some o → a ∉ ι → H' a = some o

section
variable {C : Ct} {ι ι' ι2 : Io} {H H' H2 : Hp} {S S' : Sto}
theorem Ext.refl : Ext ι H ι H := ⟨List.prefix_refl _, fun _ h => .inl h, fun _ _ h _ => h⟩
theorem Ext.trans (a : Ext ι H ι' H') (b : Ext ι' H' ι2 H2) : Ext ι H ι2 H2 where
  pre := a.pre.trans b.pre
  new := fun x hx => by
    rcases b.new x hx with h | h
    · exact a.new x h
    · by_cases hi : x ∈ ι
      · exact .inl hi
      · cases e : H x with
        | none => exact .inr rfl
        | some o => rw [a.old x o e hi] at h; cases h
  old := fun x o e hi => b.old x o (a.old x o e hi) fun hm => by
    rcases a.new x hm with h | h
    · exact hi h
    · rw [e] at h; cases h
theorem Ext.notin (a : Ext ι H ι' H') {x : Addr} {o : HO} (h : x ∉ ι) (e : H x = some o) : x ∉ ι' := fun hm => by
  rcases a.new x hm with q | q
  · exact h q
  · rw [e] at q; cases q
theorem Ext.at (a : Ext ι H ι' H') {l : Nat} {x : Addr} (h : ι[l]? = some x) : ι'[l]? = some x := by
  obtain ⟨t, e⟩ := a.pre
  have hl : l < ι.length := (List.getElem?_eq_some_iff.mp h).1
  rw [← e, List.getElem?_append_left hl]
  exact h
theorem Ext.rd (a : Ext ι H ι' H') {x : Addr} {o : HO} (h : x ∉ ι) (e : Rd H x o) : x ∉ ι' ∧ Rd H' x o := by
  rcases e with e | ⟨u, e⟩
  · exact ⟨a.notin h e, .inl (a.old _ _ e h)⟩
  · exact ⟨a.notin h e, .inr ⟨u, a.old _ _ e h⟩⟩
theorem FL.mono {a : Addr} {xs : List V} (x : Ext ι H ι' H') (h : FL C ι H a xs) : FL C ι' H' a xs := h.elim (fun h => .inl (x.rd h.1 h.2)) .inr
theorem FT.mono {a : Addr} {xs : List V} (x : Ext ι H ι' H') (h : FT C ι H a xs) : FT C ι' H' a xs := h.elim (fun h => .inl (x.rd h.1 h.2)) .inr
mutual
theorem VR.mono (e : Ext ι H ι' H') : ∀ (x : MV) (v : V), VR C ι H x v → VR C ι' H' x v
  | .non, v, h => by simpa only [VR] using h
  | .bl _, v, h => by simpa only [VR] using h
  | .int _, v, h => by simpa only [VR] using h
  | .str _, v, h => by simpa only [VR] using h
  | .ty _, v, h => by simpa only [VR] using h
  | .fn _, v, h => by simpa only [VR] using h
  | .clo _ _, v, h => by simp only [VR] at h
  | .tup xs, v, h => by
    simp only [VR] at h ⊢
    obtain ⟨a, vs, h1, h2, h3⟩ := h
    exact ⟨a, vs, h1, h2.mono e, VRs.mono e xs vs h3⟩
  | .lst xs, v, h => by
    simp only [VR] at h ⊢
    obtain ⟨a, vs, h1, h2, h3, h4⟩ := h
    exact ⟨a, vs, h1, e.notin h2 h3, e.old _ _ h3 h2, VRs.mono e xs vs h4⟩
  | .rol xs, v, h => by
    simp only [VR] at h ⊢
    obtain ⟨a, vs, h1, h2, h3⟩ := h
    exact ⟨a, vs, h1, h2.mono e, VRs.mono e xs vs h3⟩
  | .dic kvs, v, h => by
    simp only [VR] at h ⊢
    obtain ⟨a, kx, h1, h2, h3, h4⟩ := h
    exact ⟨a, kx, h1, (e.rd h2 h3).1, (e.rd h2 h3).2, KRs.mono e kvs kx h4⟩
  | .ins c fs, v, h => by
    simp only [VR] at h ⊢
    obtain ⟨a, dx, fx, h1, h2, h3, h4⟩ := h
    exact ⟨a, dx, fx, h1, e.notin h2 h3, e.old _ _ h3 h2, FRs.mono e fs fx h4⟩
  | .ref l, v, h => by
    simp only [VR] at h ⊢
    obtain ⟨a, h1, h2⟩ := h
    exact ⟨a, h1, e.at h2⟩
theorem VRs.mono (e : Ext ι H ι' H') : ∀ (x : List MV) (v : List V), VRs C ι H x v → VRs C ι' H' x v
  | [], v, h => by simpa only [VRs] using h
  | x :: r, v, h => by
    simp only [VRs] at h ⊢
    obtain ⟨u, w, h1, h2, h3⟩ := h
    exact ⟨u, w, h1, VR.mono e x u h2, VRs.mono e r w h3⟩
theorem KRs.mono (e : Ext ι H ι' H') : ∀ (x : List (MV × MV)) (v : List (Key × V)), KRs C ι H x v → KRs C ι' H' x v
  | [], v, h => by simpa only [KRs] using h
  | x :: r, v, h => by
    simp only [KRs] at h ⊢
    obtain ⟨u, w, h1, h2, h3⟩ := h
    exact ⟨u, w, h1, KR.mono e x u h2, KRs.mono e r w h3⟩
theorem KR.mono (e : Ext ι H ι' H') : ∀ (x : MV × MV) (v : Key × V), KR C ι H x v → KR C ι' H' x v
  | (k, x), v, h => by
    simp only [KR] at h ⊢
    exact ⟨h.1, VR.mono e x v.2 h.2⟩
theorem FRs.mono (e : Ext ι H ι' H') : ∀ (x : List (Str × MV)) (v : List (Str × V)), FRs C ι H x v → FRs C ι' H' x v
  | [], v, h => by simpa only [FRs] using h
  | x :: r, v, h => by
    simp only [FRs] at h ⊢
    obtain ⟨u, w, h1, h2, h3⟩ := h
    exact ⟨u, w, h1, FR.mono e x u h2, FRs.mono e r w h3⟩
theorem FR.mono (e : Ext ι H ι' H') : ∀ (x : Str × MV) (v : Str × V), FR C ι H x v → FR C ι' H' x v
  | (k, x), v, h => by
    simp only [FR] at h ⊢
    exact ⟨h.1, VR.mono e x v.2 h.2⟩
end
theorem OR.mono (e : Ext ι H ι' H') {a : Addr} {o : MO} (q : H' a = H a) (h : OR C ι H a o) : OR C ι' H' a o := by
  cases o with
  | lst xs => obtain ⟨vs, h1, h2⟩ := h; exact ⟨vs, q.trans h1, VRs.mono e _ _ h2⟩
  | dic kvs => obtain ⟨vs, h1, h2⟩ := h; exact ⟨vs, q.trans h1, KRs.mono e _ _ h2⟩
  | ins c fs => obtain ⟨dx, vs, h1, h2⟩ := h; exact ⟨dx, vs, q.trans h1, FRs.mono e _ _ h2⟩
theorem OR.some {a : Addr} {o : MO} (h : OR C ι H a o) : ∃ u, H a = some u := by
  cases o with
  | lst xs => obtain ⟨vs, h1, h2⟩ := h; exact ⟨_, h1⟩
  | dic kvs => obtain ⟨vs, h1, h2⟩ := h; exact ⟨_, h1⟩
  | ins c fs => obtain ⟨dx, vs, h1, h2⟩ := h; exact ⟨_, h1⟩
theorem StR.there (s : StR C ι S H) {a : Addr} (h : a ∈ ι) : ∃ u, H a = some u := by
  obtain ⟨l, hl, e⟩ := List.mem_iff_getElem.mp h
  have h2 : l < S.length := by rw [← s.len]; exact hl
  exact (s.ob l S[l] a (by simp [h2]) (by rw [← e]; simp [hl])).some
theorem StR.fresh (s : StR C ι S H) {a : Addr} (h : H a = none) : a ∉ ι := fun hm => by
  obtain ⟨u, e⟩ := s.there hm
  rw [h] at e; cases e
/-- a new object that is no place -/
theorem Ext.upd (s : StR C ι S H) {p : Addr} {o : HO} (h : H p = none) : Ext ι H ι (upd H p o) :=
  ⟨List.prefix_refl _, fun _ q => .inl q, fun a u e _ => by rw [upd_ne (ne_of_none e h)]; exact e⟩
theorem StR.upd (s : StR C ι S H) {p : Addr} {o : HO} (h : H p = none) : StR C ι S (upd H p o) :=
  ⟨s.len, s.nd, fun l u a e1 e2 => by
    have q := s.ob l u a e1 e2
    obtain ⟨w, ew⟩ := q.some
    exact q.mono (Ext.upd s h) (by rw [upd_ne (ne_of_none ew h)])⟩
/-- a new object that is a new place -/
theorem Ext.push (s : StR C ι S H) {p : Addr} {o : HO} (h : H p = none) : Ext ι H (ι ++ [p]) (L2.upd H p o) :=
  ⟨List.prefix_append _ _, fun a q => by
    rcases List.mem_append.mp q with q | q
    · exact .inl q
    · right; have : a = p := by simpa using q
      rw [this]; exact h, fun a u e _ => by rw [upd_ne (ne_of_none e h)]; exact e⟩
theorem StR.push (s : StR C ι S H) {p : Addr} {o : HO} {m : MO} (h : H p = none) (hm : OR C (ι ++ [p]) (L2.upd H p o) p m) : StR C (ι ++ [p]) (S ++ [m]) (L2.upd H p o) := by
  refine ⟨by simp [s.len], ?_, fun l u a e1 e2 => ?_⟩
  · rw [List.nodup_append]
    refine ⟨s.nd, by simp, fun a ha b hb e => ?_⟩
    have : b = p := by simpa using hb
    subst this; subst e
    exact s.fresh h ha
  · by_cases hl : l < S.length
    · rw [List.getElem?_append_left hl] at e1
      rw [List.getElem?_append_left (by rw [s.len]; exact hl)] at e2
      have q := s.ob l u a e1 e2
      obtain ⟨w, ew⟩ := q.some
      exact q.mono (Ext.push s h) (by rw [upd_ne (ne_of_none ew h)])
    · have e : l = S.length := by
        have := (List.getElem?_eq_some_iff.mp e1).1
        simp at this; omega
      subst e
      have h1 : u = m := by simpa using e1.symm
      have h2 : a = p := by
        rw [← s.len] at e2
        simpa using e2.symm
      subst h1; subst h2
      exact hm
/-- a place is written -/
theorem Ext.set {l : Nat} {a : Addr} {o : HO} (e : ι[l]? = some a) : Ext ι H ι (L2.upd H a o) :=
  ⟨List.prefix_refl _, fun _ q => .inl q, fun b u e' hb => by
    rw [upd_ne (fun z => hb (by rw [z]; exact List.mem_of_getElem? e))]; exact e'⟩
theorem StR.set (s : StR C ι S H) {l : Nat} {a : Addr} {o : HO} {m : MO} (e : ι[l]? = some a) (hm : OR C ι (L2.upd H a o) a m) : StR C ι (S.set l m) (L2.upd H a o) := by
  refine ⟨by simp [s.len], s.nd, fun k u b e1 e2 => ?_⟩
  by_cases hk : k = l
  · subst hk
    rw [e] at e2; cases e2
    have hl : k < S.length := by rw [← s.len]; exact (List.getElem?_eq_some_iff.mp e).1
    rw [List.getElem?_set_self hl] at e1; cases e1
    exact hm
  · rw [List.getElem?_set_ne (Ne.symm hk)] at e1
    have q := s.ob k u b e1 e2
    refine q.mono (Ext.set e) ?_
    rw [upd_ne]
    intro z
    subst z
    obtain ⟨h1, q1⟩ := List.getElem?_eq_some_iff.mp e
    obtain ⟨h2, q2⟩ := List.getElem?_eq_some_iff.mp e2
    exact hk ((List.getElem_inj s.nd).mp (q2.trans q1.symm))
end
end Mi

namespace Mi
open PySem L2

abbrev ME := Env → Sto → Res MV
abbrev MB := Env → Sto → Res Bool
abbrev MA := Env → Sto → Res (List MV)
abbrev MSt := Env → Sto → SRes

def XR (C : Ct) (ι : Io) (H : Hp) (e : MX) (cls : Value) (d : Option Addr) : Prop :=
  cls = .ref (C.cA e.cls) ∧ match d with
    | none => e.fs = []
    | some a => a ∉ ι ∧ ∃ fx, H a = some (.xd fx) ∧ FRs C ι H e.fs fx
def EnvR (C : Ct) (ι : Io) (H : Hp) (env : Env) (σ : L2.St) : Prop :=
  env.length = σ.length ∧ ∀ (i : Nat) (x : MV), env[i]? = some (some x) → ∃ v, σ[i]? = some (some v) ∧ VR C ι H x v
theorem EnvR.mono {C : Ct} {ι ι' : Io} {H H' : Hp} {env : Env} {σ : L2.St} (e : Ext ι H ι' H') (h : EnvR C ι H env σ) : EnvR C ι' H' env σ :=
  ⟨h.1, fun i x q => by obtain ⟨v, h1, h2⟩ := h.2 i x q; exact ⟨v, h1, h2.mono e⟩⟩
theorem EnvR.set {C : Ct} {ι : Io} {H : Hp} {env : Env} {σ : L2.St} {x : MV} {v : V} (h : EnvR C ι H env σ) (r : VR C ι H x v) (i : Nat) : EnvR C ι H (env.set i (some x)) (σ.set i (some v)) := by
  refine ⟨by simp [h.1], fun j y q => ?_⟩
  by_cases hj : i = j
  · subst hj
    by_cases hl : i < env.length
    · rw [List.getElem?_set_self hl] at q
      cases q
      exact ⟨v, List.getElem?_set_self (by rw [← h.1]; exact hl), r⟩
    · rw [List.getElem?_eq_none (by simpa using hl)] at q; cases q
  · rw [List.getElem?_set_ne hj] at q ⊢
    exact h.2 j y q

/-- what is wanted behind a run of the mirror -/
def Post {α β : Type} (C : Ct) (W : WX) (R : Io → Hp → α → β → Prop) (ι : Io) (σ : L2.St) (H : Hp) (r : Res α) (Q : β → Hp → Prop) : Prop :=
  match r with
  | .ok x S' => ∀ ι' H' v, Ext ι H ι' H' → StR C ι' S' H' → R ι' H' x v → Q v H'
  | .ex e S' => ∀ ι' H' cls d, Ext ι H ι' H' → StR C ι' S' H' → XR C ι' H' e cls d → W cls d σ H'
  | .bad => False
abbrev RB : Io → Hp → Bool → Bool → Prop := fun _ _ x v => v = x
def SPost (C : Ct) (W : WX) (ι : Io) (H : Hp) (r : SRes) (D : Ends) : Prop :=
  match r with
  | .nx e S' => ∀ ι' H' σ', Ext ι H ι' H' → StR C ι' S' H' → EnvR C ι' H' e σ' → D.nx σ' H'
  | .bk e S' => ∀ ι' H' σ', Ext ι H ι' H' → StR C ι' S' H' → EnvR C ι' H' e σ' → D.bk σ' H'
  | .ct e S' => ∀ ι' H' σ', Ext ι H ι' H' → StR C ι' S' H' → EnvR C ι' H' e σ' → D.ct σ' H'
  | .rt x S' => ∀ ι' H' v, Ext ι H ι' H' → StR C ι' S' H' → VR C ι' H' x v → D.rt v H'
  | .ex x e S' => ∀ ι' H' σ' cls d, Ext ι H ι' H' → StR C ι' S' H' → EnvR C ι' H' e σ' → XR C ι' H' x cls d → W cls d σ' H'
  | .bad => False
section
variable {α β γ δ : Type} {C : Ct} {W : WX} {R : Io → Hp → α → β → Prop} {R2 : Io → Hp → γ → δ → Prop} {ι ι' : Io} {σ : L2.St} {H H' : Hp}
theorem Post.mono {r : Res α} {Q : β → Hp → Prop} (e : Ext ι H ι' H') (h : Post C W R ι σ H r Q) : Post C W R ι' σ H' r Q := by
  cases r with
  | ok x S => exact fun ι2 H2 v e2 => h ι2 H2 v (e.trans e2)
  | ex x S => exact fun ι2 H2 c d e2 => h ι2 H2 c d (e.trans e2)
  | bad => exact h
theorem SPost.mono {r : SRes} {D : Ends} (e : Ext ι H ι' H') (h : SPost C W ι H r D) : SPost C W ι' H' r D := by
  cases r with
  | nx x S => exact fun ι2 H2 v e2 => h ι2 H2 v (e.trans e2)
  | bk x S => exact fun ι2 H2 v e2 => h ι2 H2 v (e.trans e2)
  | ct x S => exact fun ι2 H2 v e2 => h ι2 H2 v (e.trans e2)
  | rt x S => exact fun ι2 H2 v e2 => h ι2 H2 v (e.trans e2)
  | ex x en S => exact fun ι2 H2 v c d e2 => h ι2 H2 v c d (e.trans e2)
  | bad => exact h
/-- the first part of a run -/
theorem Post.bind {r : Res α} {k : α → Sto → Res γ} {Q : δ → Hp → Prop} {Q' : β → Hp → Prop} (h : Post C W R2 ι σ H (r.bind k) Q)
    (hk : ∀ x S1 ι1 H1 v, Ext ι H ι1 H1 → StR C ι1 S1 H1 → R ι1 H1 x v → Post C W R2 ι1 σ H1 (k x S1) Q → Q' v H1) : Post C W R ι σ H r Q' := by
  cases r with
  | ok x S => exact fun ι1 H1 v e s q => hk x S ι1 H1 v e s q (h.mono e)
  | ex x S => exact h
  | bad => exact h
end

/-- a reading by the mirror -/
def tM (C : Ct) (W : WX) (m : ME) : TE := fun σ H Q => ∃ ι env S, EnvR C ι H env σ ∧ StR C ι S H ∧ Post C W (VR C) ι σ H (m env S) Q
def tMB (C : Ct) (W : WX) (m : MB) : TT := fun σ H Q => ∃ ι env S, EnvR C ι H env σ ∧ StR C ι S H ∧ Post C W RB ι σ H (m env S) Q
def tMA (C : Ct) (W : WX) (m : MA) : TA := fun σ H Q => ∃ ι env S, EnvR C ι H env σ ∧ StR C ι S H ∧ Post C W (VRs C) ι σ H (m env S) Q
def tMS (C : Ct) (W : WX) (m : MSt) : TS := fun D σ H => ∃ ι env S, EnvR C ι H env σ ∧ StR C ι S H ∧ SPost C W ι H (m env S) D

section
variable {X : Cx}
theorem peImp {e : Expr} {t t' : TE} (h : PE X e t) (i : ∀ σ H Q, t' σ H Q → t σ H Q) : PE X e t' := ⟨fun pins s σ H Q I q => h.run pins s σ H Q I (i σ H Q q)⟩
theorem ptImp {e : Expr} {t t' : TT} (h : PT X e t) (i : ∀ σ H Q, t' σ H Q → t σ H Q) : PT X e t' := ⟨fun pins s σ H Q I q => h.run pins s σ H Q I (i σ H Q q)⟩
theorem pwImp {e : Expr} {t t' : TT} (h : PW X e t) (i : ∀ σ H Q, t' σ H Q → t σ H Q) : PW X e t' := ⟨fun w pins s σ H Q I q => h.run w pins s σ H Q I (i σ H Q q)⟩
theorem paImp {e : List Expr} {t t' : TA} (h : PA X e t) (i : ∀ σ H Q, t' σ H Q → t σ H Q) : PA X e t' := ⟨fun p pins s σ H Q I q => h.run p pins s σ H Q I (i σ H Q q)⟩
theorem psImp {e : Stmt} {t t' : TS} (h : PS X e t) (i : ∀ D σ H, t' D σ H → t D σ H) : PS X e t' := ⟨fun pins s σ H D I q => h.run pins s σ H D I (i D σ H q)⟩
theorem pssImp {e : List Stmt} {t t' : TS} (h : PSs X e t) (i : ∀ D σ H, t' D σ H → t D σ H) : PSs X e t' := ⟨fun pins s σ H D I q => h.run pins s σ H D I (i D σ H q)⟩
end

/-! ### names, constants -/
def mV (i : Nat) : ME := fun env S => match env[i]? with
  | some (some v) => .ok v S
  | _ => .bad
def mC (v : MV) : ME := fun _ S => .ok v S
section
variable {X : Cx} {C : Ct} {W : WX} {pos : Pos}
theorem tM_var {i : Nat} {σ : L2.St} {H : Hp} {Q : VK} (h : tM C W (mV i) σ H Q) : tVar i σ H Q := by
  obtain ⟨ι, env, S, he, hs, hp⟩ := h
  unfold mV at hp
  split at hp
  · rename_i v e
    obtain ⟨u, h1, h2⟩ := he.2 i v e
    exact ⟨u, h1, hp ι H u .refl hs h2⟩
  · exact hp.elim
theorem je_v (i : Nat) {x : Str} (hN : X.N[i]? = some x := by rfl) (hv : Vis X.env.scope x := by first | exact Or.inl rfl | exact Or.inr (Or.inl rfl) | exact Or.inr (Or.inr rfl)) (hd : (x == ("__debug__" : Str)) = false := by decide)
    (hcd : (x == ("__classdict__" : Str)) = false := by decide) : PE X (.Name x pos) (tM C W (mV i)) := peImp (pe_var hN hv hd hcd) fun _ _ _ => tM_var
theorem tM_c {x : MV} {v : V} (r : ∀ ι H, VR C ι H x v) {σ : L2.St} {H : Hp} {Q : VK} (h : tM C W (mC x) σ H Q) : tC v σ H Q := by
  obtain ⟨ι, env, S, he, hs, hp⟩ := h
  exact hp ι H v .refl hs (r _ _)
theorem je_int {i : Int} {j} : PE X (.Constant (.int i) j pos) (tM C W (mC (.int i))) := peImp pe_int fun _ _ _ => tM_c fun _ _ => by simp only [VR]
theorem je_bl {b : Bool} {j} : PE X (.Constant (.bool b) j pos) (tM C W (mC (.bl b))) := peImp pe_bl fun _ _ _ => tM_c fun _ _ => by simp only [VR]
theorem je_non {j} : PE X (.Constant .none j pos) (tM C W (mC .non)) := peImp pe_non fun _ _ _ => tM_c fun _ _ => by simp only [VR]
/-- a written text: its codes -/
theorem je_str {x : Str} {j} (l : List Nat) (e : x.cps.toList = l := by decide +kernel) : PE X (.Constant (.str x) j pos) (tM C W (mC (.str l))) := peImp pe_str fun _ _ _ => tM_c fun _ _ => by
  subst e
  simp only [VR]

/-! ### two operands -/
def mBin (f : MV → MV → Sto → Res MV) (a b : ME) : ME := fun env S => (a env S).bind fun x S1 => (b env S1).bind fun y S2 => f x y S2
/-- an operation of two values by the mirror -/
def OpM (C : Ct) (f : MV → MV → Sto → Res MV) (r : R2) : Prop := ∀ (W : WX) (ι : Io) (σ : L2.St) (S : Sto) (H : Hp) (x y : MV) (v u : V) (Q : VK), StR C ι S H → VR C ι H x v → VR C ι H y u → Post C W (VR C) ι σ H (f x y S) Q → r v u H Q
theorem tM_bin {f : MV → MV → Sto → Res MV} {r : R2} (ho : OpM C f r) {a b : ME} {σ : L2.St} {H : Hp} {Q : VK} (h : tM C W (mBin f a b) σ H Q) : tOp r (tM C W a) (tM C W b) σ H Q := by
  obtain ⟨ι, env, S, he, hs, hp⟩ := h
  refine ⟨ι, env, S, he, hs, Post.bind hp fun x S1 ι1 H1 v e1 s1 q1 p1 => ?_⟩
  refine ⟨ι1, env, S1, he.mono e1, s1, Post.bind p1 fun y S2 ι2 H2 u e2 s2 q2 p2 => ?_⟩
  exact ho W ι2 σ S2 H2 x y v u Q s2 (q1.mono e2) q2 p2
theorem je_op {op : Operator} {f : MV → MV → Sto → Res MV} {r : R2} {ea eb : Expr} {a b : ME} (hr : OpR X (binaryOp op) r) (ho : OpM C f r) (ha : PE X ea (tM C W a)) (hb : PE X eb (tM C W b)) : PE X (.BinOp ea op eb pos) (tM C W (mBin f a b)) :=
  peImp (pe_op hr ha hb) fun _ _ _ => tM_bin ho
theorem je_cmp {op : CmpOp} {f : MV → MV → Sto → Res MV} {r : R2} {ea eb : Expr} {a b : ME} (hr : OpR X (compareOp op) r) (ho : OpM C f r) (ha : PE X ea (tM C W a)) (hb : PE X eb (tM C W b)) (hm : behindInMarks op eb = false) : PE X (.Compare ea [op] [eb] pos) (tM C W (mBin f a b)) :=
  peImp (pe_cmpR hr ha hb hm) fun _ _ _ => tM_bin ho

/-! ### tests -/
/-- a bool as a test -/
def asB (m : ME) : MB := fun env S => (m env S).bind fun x S1 => match x with
  | .bl b => .ok b S1
  | _ => .bad
theorem tMB_of {m : ME} {σ : L2.St} {H : Hp} {Q : Bool → Hp → Prop} (h : tMB C W (asB m) σ H Q) : tM C W m σ H fun x H1 => ∃ k, x = .bl k ∧ Q k H1 := by
  obtain ⟨ι, env, S, he, hs, hp⟩ := h
  refine ⟨ι, env, S, he, hs, Post.bind hp fun x S1 ι1 H1 v e1 s1 q1 p1 => ?_⟩
  split at p1
  · rename_i b
    simp only [VR] at q1
    exact ⟨b, q1, p1 ι1 H1 b .refl s1 rfl⟩
  · exact p1.elim
theorem jt_cmp {op : CmpOp} {f : MV → MV → Sto → Res MV} {r : R2} {ea eb : Expr} {a b : ME} (hr : OpR X (compareOp op) r) (ho : OpM C f r) (ha : PE X ea (tM C W a)) (hb : PE X eb (tM C W b)) (hm : behindInMarks op eb = false) : PT X (.Compare ea [op] [eb] pos) (tMB C W (asB (mBin f a b))) :=
  ptImp (pt_cmpR hr ha hb hm) fun σ H Q h => by
    have q := tMB_of h
    exact tM_bin ho q
theorem jt_val {e : Expr} {m : ME} (h : PE X e (tM C W m)) (he : ∀ whole, isTrue e X.env whole = (do let v ← whole; standAt e.pos; holding [v] (truthy v)) := by intro _; rfl) : PT X e (tMB C W (asB m)) :=
  ptImp (pt_val h he) fun σ H Q h => tMB_of h
/-- any value's truth -/
def tru (S : Sto) : MV → Option Bool
  | .non => some false
  | .bl b => some b
  | .int i => some (i != 0)
  | .str s => if s.length ≤ sizeLine then some (!s.isEmpty) else none
  | .tup xs => some (!xs.isEmpty)
  | .lst xs => some (!xs.isEmpty)
  | .rol xs => some (!xs.isEmpty)
  | .ref l => match S[l]? with
    | some (.lst xs) => some (!xs.isEmpty)
    | some (.dic kvs) => some (!kvs.isEmpty)
    | _ => none
  | _ => none
def asT (m : ME) : MB := fun env S => (m env S).bind fun x S1 => match tru S1 x with
  | some b => .ok b S1
  | none => .bad
end
theorem VRs.len {C : Ct} {ι : Io} {H : Hp} : ∀ {xs : List MV} {vs : List V}, VRs C ι H xs vs → vs.length = xs.length
  | [], _, h => by simp only [VRs] at h; rw [h]; rfl
  | x :: r, _, h => by
    simp only [VRs] at h
    obtain ⟨v, w, e, _, h2⟩ := h
    rw [e, List.length_cons, List.length_cons, VRs.len h2]
theorem KRs.len {C : Ct} {ι : Io} {H : Hp} : ∀ {xs : List (MV × MV)} {vs : List (Key × V)}, KRs C ι H xs vs → vs.length = xs.length
  | [], _, h => by simp only [KRs] at h; rw [h]; rfl
  | x :: r, _, h => by
    simp only [KRs] at h
    obtain ⟨v, w, e, _, h2⟩ := h
    rw [e, List.length_cons, List.length_cons, KRs.len h2]
theorem isEmpty_len {α β : Type} {xs : List α} {ys : List β} (h : xs.length = ys.length) : xs.isEmpty = ys.isEmpty := by
  cases xs <;> cases ys <;> simp at h ⊢
theorem str_len (s : List Nat) : (⟨s.toArray⟩ : Str).length = s.length := by simp [Str.length]
theorem tru_ok' {C : Ct} {ι : Io} {S : Sto} {H : Hp} {x : MV} {v : V} {b : Bool} (s : StR C ι S H) (r : VR C ι H x v) (h : tru S x = some b) : TruV C.K v H b := by
  cases x with
  | non => simp only [VR] at r; subst r; simp only [tru, Option.some.injEq] at h; exact h.symm
  | bl b' => simp only [VR] at r; subst r; simp only [tru, Option.some.injEq] at h; exact h.symm
  | int i => simp only [VR] at r; subst r; simp only [tru, Option.some.injEq] at h; exact h.symm
  | str z =>
    simp only [VR] at r; subst r
    simp only [tru] at h
    split at h
    · rename_i hl
      simp only [Option.some.injEq] at h
      refine ⟨by rw [str_len]; exact hl, ?_⟩
      rw [str_len, ← h]
      cases z <;> simp <;> omega
    · cases h
  | tup xs =>
    simp only [VR] at r
    obtain ⟨a, vs, rfl, h1, h2⟩ := r
    simp only [tru, Option.some.injEq] at h
    exact .inr (.inl ⟨vs, h1.sq, by rw [← h, isEmpty_len h2.len]⟩)
  | lst xs =>
    simp only [VR] at r
    obtain ⟨a, vs, rfl, h0, h1, h2⟩ := r
    simp only [tru, Option.some.injEq] at h
    exact .inl ⟨vs, SqL.of h1, by rw [← h, isEmpty_len h2.len]⟩
  | rol xs =>
    simp only [VR] at r
    obtain ⟨a, vs, rfl, h1, h2⟩ := r
    simp only [tru, Option.some.injEq] at h
    exact .inl ⟨vs, h1.sq, by rw [← h, isEmpty_len h2.len]⟩
  | ref l =>
    simp only [VR] at r
    obtain ⟨a, rfl, hl⟩ := r
    simp only [tru] at h
    split at h
    · rename_i xs e
      obtain ⟨vs, h1, h2⟩ := s.ob l _ a e hl
      simp only [Option.some.injEq] at h
      exact .inl ⟨vs, SqL.of h1, by rw [← h, isEmpty_len h2.len]⟩
    · rename_i xs e
      obtain ⟨vs, h1, h2⟩ := s.ob l _ a e hl
      simp only [Option.some.injEq] at h
      exact .inr (.inr ⟨vs, h1, by rw [← h, isEmpty_len h2.len]⟩)
    · cases h
  | _ => cases h
section
variable {X : Cx} {C : Ct} {W : WX} {pos : Pos}
theorem jt_tru (hK : X.K = C.K) {e : Expr} {m : ME} (h : PE X e (tM C W m)) (he : ∀ whole, isTrue e X.env whole = (do let v ← whole; standAt e.pos; holding [v] (truthy v)) := by intro _; rfl) : PT X e (tMB C W (asT m)) :=
  ptImp (pt_truth h he) fun σ H Q h => by
    obtain ⟨ι, env, S, he, hs, hp⟩ := h
    refine ⟨ι, env, S, he, hs, Post.bind hp fun x S1 ι1 H1 v e1 s1 q1 p1 => ?_⟩
    split at p1
    · rename_i b hb
      exact ⟨b, by rw [hK]; exact tru_ok' s1 q1 hb, p1 ι1 H1 b .refl s1 rfl⟩
    · exact p1.elim
def mNotB (m : MB) : MB := fun env S => (m env S).bind fun b S1 => .ok (!b) S1
def mAndB (a b : MB) : MB := fun env S => (a env S).bind fun x S1 => if x = true then b env S1 else .ok false S1
def mOrB (a b : MB) : MB := fun env S => (a env S).bind fun x S1 => if x = true then .ok true S1 else b env S1
theorem jt_not {e : Expr} {m : MB} (h : PT X e (tMB C W m)) : PT X (.UnaryOp .Not e pos) (tMB C W (mNotB m)) :=
  ptImp (pt_not h) fun σ H Q h => by
    obtain ⟨ι, env, S, he, hs, hp⟩ := h
    refine ⟨ι, env, S, he, hs, Post.bind hp fun x S1 ι1 H1 v e1 s1 q1 p1 => ?_⟩
    subst q1
    exact p1 ι1 H1 _ .refl s1 rfl
theorem jw_one_and {e : Expr} {m : MB} (h : PT X e (tMB C W m)) : PW X (.BoolOp .And [e] pos) (tMB C W m) := pw_and1 h
theorem jw_one_or {e : Expr} {m : MB} (h : PT X e (tMB C W m)) : PW X (.BoolOp .Or [e] pos) (tMB C W m) := pw_or1 h
theorem jw_and {a b : Expr} {rest : List Expr} {m n : MB} (h : PT X a (tMB C W m)) (h2 : PW X (.BoolOp .And (b :: rest) pos) (tMB C W n)) : PW X (.BoolOp .And (a :: b :: rest) pos) (tMB C W (mAndB m n)) :=
  pwImp (pw_and h h2) fun σ H Q h => by
    obtain ⟨ι, env, S, he, hs, hp⟩ := h
    refine ⟨ι, env, S, he, hs, Post.bind hp fun x S1 ι1 H1 v e1 s1 q1 p1 => ?_⟩
    subst q1
    cases v with
    | true => exact ⟨ι1, env, S1, he.mono e1, s1, p1⟩
    | false => exact p1 ι1 H1 _ .refl s1 rfl
theorem jw_or {a b : Expr} {rest : List Expr} {m n : MB} (h : PT X a (tMB C W m)) (h2 : PW X (.BoolOp .Or (b :: rest) pos) (tMB C W n)) : PW X (.BoolOp .Or (a :: b :: rest) pos) (tMB C W (mOrB m n)) :=
  pwImp (pw_or h h2) fun σ H Q h => by
    obtain ⟨ι, env, S, he, hs, hp⟩ := h
    refine ⟨ι, env, S, he, hs, Post.bind hp fun x S1 ι1 H1 v e1 s1 q1 p1 => ?_⟩
    subst q1
    cases v with
    | false => exact ⟨ι1, env, S1, he.mono e1, s1, p1⟩
    | true => exact p1 ι1 H1 _ .refl s1 rfl
/-- .. as values -/
def mNotE (m : ME) : ME := fun env S => (m env S).bind fun x S1 => match x with
  | .bl b => .ok (.bl (!b)) S1
  | _ => .bad
def mAndE (a b : ME) : ME := fun env S => (a env S).bind fun x S1 => match x with
  | .bl true => b env S1
  | .bl false => .ok (.bl false) S1
  | _ => .bad
def mOrE (a b : ME) : ME := fun env S => (a env S).bind fun x S1 => match x with
  | .bl true => .ok (.bl true) S1
  | .bl false => b env S1
  | _ => .bad
theorem je_not {e : Expr} {m : ME} (h : PE X e (tM C W m)) : PE X (.UnaryOp .Not e pos) (tM C W (mNotE m)) :=
  peImp (pe_not h) fun σ H Q h => by
    obtain ⟨ι, env, S, he, hs, hp⟩ := h
    refine ⟨ι, env, S, he, hs, Post.bind hp fun x S1 ι1 H1 v e1 s1 q1 p1 => ?_⟩
    split at p1
    · rename_i b
      simp only [VR] at q1
      exact ⟨b, q1, p1 ι1 H1 _ .refl s1 (by simp only [VR])⟩
    · exact p1.elim
theorem je_and {a b : Expr} {rest : List Expr} {m n : ME} (h : PE X a (tM C W m)) (h2 : PE X (.BoolOp .And (b :: rest) pos) (tM C W n)) : PE X (.BoolOp .And (a :: b :: rest) pos) (tM C W (mAndE m n)) :=
  peImp (pe_and h h2) fun σ H Q h => by
    obtain ⟨ι, env, S, he, hs, hp⟩ := h
    refine ⟨ι, env, S, he, hs, Post.bind hp fun x S1 ι1 H1 v e1 s1 q1 p1 => ?_⟩
    split at p1
    · simp only [VR] at q1
      exact ⟨true, q1, ⟨ι1, env, S1, he.mono e1, s1, p1⟩⟩
    · simp only [VR] at q1
      exact ⟨false, q1, p1 ι1 H1 _ .refl s1 (by simp only [VR])⟩
    · exact p1.elim
theorem je_or {a b : Expr} {rest : List Expr} {m n : ME} (h : PE X a (tM C W m)) (h2 : PE X (.BoolOp .Or (b :: rest) pos) (tM C W n)) : PE X (.BoolOp .Or (a :: b :: rest) pos) (tM C W (mOrE m n)) :=
  peImp (pe_or h h2) fun σ H Q h => by
    obtain ⟨ι, env, S, he, hs, hp⟩ := h
    refine ⟨ι, env, S, he, hs, Post.bind hp fun x S1 ι1 H1 v e1 s1 q1 p1 => ?_⟩
    split at p1
    · simp only [VR] at q1
      exact ⟨true, q1, p1 ι1 H1 _ .refl s1 (by simp only [VR])⟩
    · simp only [VR] at q1
      exact ⟨false, q1, ⟨ι1, env, S1, he.mono e1, s1, p1⟩⟩
    · exact p1.elim
def mIf {α : Type} (c : MB) (a b : Env → Sto → Res α) : Env → Sto → Res α := fun env S => (c env S).bind fun x S1 => if x = true then a env S1 else b env S1
theorem je_if {c a b : Expr} {mc : MB} {ma mb : ME} (hc : PT X c (tMB C W mc)) (ha : PE X a (tM C W ma)) (hb : PE X b (tM C W mb)) : PE X (.IfExp c a b pos) (tM C W (mIf mc ma mb)) :=
  peImp (pe_ifExp hc ha hb) fun σ H Q h => by
    obtain ⟨ι, env, S, he, hs, hp⟩ := h
    refine ⟨ι, env, S, he, hs, Post.bind hp fun x S1 ι1 H1 v e1 s1 q1 p1 => ?_⟩
    subst q1
    cases v with
    | true => exact ⟨ι1, env, S1, he.mono e1, s1, p1⟩
    | false => exact ⟨ι1, env, S1, he.mono e1, s1, p1⟩

/-! ### argument lists -/
def mNil : MA := fun _ S => .ok [] S
def mCons (a : ME) (r : MA) : MA := fun env S => (a env S).bind fun x S1 => (r env S1).bind fun xs S2 => .ok (x :: xs) S2
theorem ja_nil : PA X [] (tMA C W mNil) := paImp pa_nil fun σ H Q h => by
  obtain ⟨ι, env, S, he, hs, hp⟩ := h
  exact hp ι H [] .refl hs (by simp only [VRs])
theorem ja_cons {e : Expr} {es : List Expr} {a : ME} {r : MA} (ha : PE X e (tM C W a)) (hr : PA X es (tMA C W r)) (hs : starEach (e :: es) X.env = (false, eval e X.env) :: starEach es X.env := by rfl) : PA X (e :: es) (tMA C W (mCons a r)) :=
  paImp (pa_cons ha hr hs) fun σ H Q h => by
    obtain ⟨ι, env, S, he, hs, hp⟩ := h
    refine ⟨ι, env, S, he, hs, Post.bind hp fun x S1 ι1 H1 v e1 s1 q1 p1 => ?_⟩
    refine ⟨ι1, env, S1, he.mono e1, s1, Post.bind p1 fun y S2 ι2 H2 u e2 s2 q2 p2 => ?_⟩
    exact p2 ι2 H2 (v :: u) .refl s2 (by simp only [VRs]; exact ⟨v, u, rfl, q1.mono e2, q2⟩)
end
end Mi

namespace Mi
open PySem L2

/-! ### statements -/
def sBind {α : Type} (r : Res α) (env : Env) (k : α → Sto → SRes) : SRes := match r with
  | .ok a S => k a S
  | .ex x S => .ex x env S
  | .bad => .bad
@[simp] theorem sBind_ok {α : Type} (a : α) (S : Sto) (env : Env) (k : α → Sto → SRes) : sBind (.ok a S) env k = k a S := rfl
@[simp] theorem sBind_ex {α : Type} (x : MX) (S : Sto) (env : Env) (k : α → Sto → SRes) : sBind (.ex x S) env k = .ex x env S := rfl
@[simp] theorem sBind_bad {α : Type} (env : Env) (k : α → Sto → SRes) : sBind (.bad : Res α) env k = .bad := rfl
theorem SPost.bind {α β : Type} {C : Ct} {W : WX} {R : Io → Hp → α → β → Prop} {ι : Io} {σ : L2.St} {H : Hp} {env : Env} {r : Res α} {k : α → Sto → SRes} {D : Ends} {Q' : β → Hp → Prop} (he : EnvR C ι H env σ) (h : SPost C W ι H (sBind r env k) D)
    (hk : ∀ x S1 ι1 H1 v, Ext ι H ι1 H1 → StR C ι1 S1 H1 → R ι1 H1 x v → SPost C W ι1 H1 (k x S1) D → Q' v H1) : Post C W R ι σ H r Q' := by
  cases r with
  | ok x S => exact fun ι1 H1 v e s q => hk x S ι1 H1 v e s q (h.mono e)
  | ex x S => exact fun ι1 H1 c d e s q => h ι1 H1 σ c d e s (he.mono e) q
  | bad => exact h
def sSeq (a b : MSt) : MSt := fun env S => match a env S with
  | .nx e S1 => b e S1
  | r => r
def sNext : MSt := fun env S => .nx env S
def sBad : MSt := fun _ _ => .bad
def sRet (m : ME) : MSt := fun env S => sBind (m env S) env fun v S1 => .rt v S1
def sRetN : MSt := fun env S => .rt .non S
def sDrop (m : ME) : MSt := fun env S => sBind (m env S) env fun _ S1 => .nx env S1
def sIf (c : MB) (a b : MSt) : MSt := fun env S => sBind (c env S) env fun x S1 => if x = true then a env S1 else b env S1
def sBreak : MSt := fun env S => .bk env S
def sCont : MSt := fun env S => .ct env S
section
variable {X : Cx} {C : Ct} {W : WX} {pos : Pos}
theorem js_nil : PSs X [] (tMS C W sNext) := pssImp pss_nil fun D σ H h => by
  obtain ⟨ι, env, S, he, hs, hp⟩ := h
  exact hp ι H σ .refl hs he
theorem js_seq {a b : MSt} {D : Ends} {σ : L2.St} {H : Hp} (h : tMS C W (sSeq a b) D σ H) : tSeq (tMS C W a) (tMS C W b) D σ H := by
  obtain ⟨ι, env, S, he, hs, hp⟩ := h
  refine ⟨ι, env, S, he, hs, ?_⟩
  unfold sSeq at hp
  cases e : a env S with
  | nx e1 S1 =>
    rw [e] at hp
    intro ι1 H1 σ1 x1 s1 r1
    exact ⟨ι1, e1, S1, r1, s1, hp.mono x1⟩
  | rt v S1 => rw [e] at hp; exact hp
  | bk e1 S1 => rw [e] at hp; exact hp
  | ct e1 S1 => rw [e] at hp; exact hp
  | ex x e1 S1 => rw [e] at hp; exact hp
  | bad => rw [e] at hp; exact hp
theorem js_cons {st : Stmt} {rest : List Stmt} {a b : MSt} (h1 : PS X st (tMS C W a)) (h2 : PSs X rest (tMS C W b)) : PSs X (st :: rest) (tMS C W (sSeq a b)) :=
  pssImp (pss_cons h1 h2) fun _ _ _ => js_seq
theorem js_one {st : Stmt} {a : MSt} (h1 : PS X st (tMS C W a)) : PSs X [st] (tMS C W a) := pss_one h1
/-- what the proof never comes to -/
theorem js_never {st : Stmt} : PS X st (tMS C W sBad) := psImp ps_never fun D σ H h => by
  obtain ⟨ι, env, S, he, hs, hp⟩ := h
  exact hp
theorem js_nevers {st : List Stmt} : PSs X st (tMS C W sBad) := pssImp pss_never fun D σ H h => by
  obtain ⟨ι, env, S, he, hs, hp⟩ := h
  exact hp
theorem js_pass : PS X (.Pass pos) (tMS C W sNext) := psImp ps_pass fun D σ H h => by
  obtain ⟨ι, env, S, he, hs, hp⟩ := h
  exact hp ι H σ .refl hs he
theorem js_break : PS X (.Break pos) (tMS C W sBreak) := psImp ps_break fun D σ H h => by
  obtain ⟨ι, env, S, he, hs, hp⟩ := h
  exact hp ι H σ .refl hs he
theorem js_cont : PS X (.Continue pos) (tMS C W sCont) := psImp ps_continue fun D σ H h => by
  obtain ⟨ι, env, S, he, hs, hp⟩ := h
  exact hp ι H σ .refl hs he
theorem js_ret {e : Expr} {m : ME} (h : PE X e (tM C W m)) : PS X (.Return (some e) pos) (tMS C W (sRet m)) := psImp (ps_ret h) fun D σ H h => by
  obtain ⟨ι, env, S, he, hs, hp⟩ := h
  exact ⟨ι, env, S, he, hs, SPost.bind he hp fun x S1 ι1 H1 v e1 s1 q1 p1 => p1 ι1 H1 v .refl s1 q1⟩
theorem js_retN : PS X (.Return none pos) (tMS C W sRetN) := psImp ps_retN fun D σ H h => by
  obtain ⟨ι, env, S, he, hs, hp⟩ := h
  exact hp ι H .non .refl hs (by simp only [VR])
theorem js_expr {e : Expr} {m : ME} (h : PE X e (tM C W m)) (hs : swapsWith e none pos.line X.env = pure false := by rfl) : PS X (.Expr e pos) (tMS C W (sDrop m)) := psImp (ps_expr h hs) fun D σ H h => by
  obtain ⟨ι, env, S, he, hs, hp⟩ := h
  exact ⟨ι, env, S, he, hs, SPost.bind he hp fun x S1 ι1 H1 v e1 s1 q1 p1 => p1 ι1 H1 σ .refl s1 (he.mono e1)⟩
theorem js_if {c : Expr} {a b : List Stmt} {mc : MB} {ma mb : MSt} (hc : PT X c (tMB C W mc)) (ha : PSs X a (tMS C W ma)) (hb : PSs X b (tMS C W mb)) : PS X (.If c a b pos) (tMS C W (sIf mc ma mb)) := psImp (ps_if hc ha hb) fun D σ H h => by
  obtain ⟨ι, env, S, he, hs, hp⟩ := h
  refine ⟨ι, env, S, he, hs, SPost.bind he hp fun x S1 ι1 H1 v e1 s1 q1 p1 => ?_⟩
  subst q1
  cases v with
  | true => exact ⟨ι1, env, S1, he.mono e1, s1, p1⟩
  | false => exact ⟨ι1, env, S1, he.mono e1, s1, p1⟩

/-! ### targets -/
abbrev MG := MV → Env → Option Env
abbrev MGs := List MV → Env → Option Env
/-- the same slots but these -/
def ButS (ws : List Nat) (σ σ' : L2.St) : Prop := σ'.length = σ.length ∧ ∀ (j : Nat), j ∉ ws → σ'[j]? = σ[j]?
def tMG (C : Ct) (ws : List Nat) (g : MG) : TG := fun v σ H Q => ∃ ι env S x, EnvR C ι H env σ ∧ StR C ι S H ∧ VR C ι H x v ∧ match g x env with
  | some e1 => ∀ σ', EnvR C ι H e1 σ' → ButS ws σ σ' → Q σ' H
  | none => False
def tMGs (C : Ct) (ws : List Nat) (g : MGs) : TGs := fun vs σ H Q => ∃ ι env S xs, EnvR C ι H env σ ∧ StR C ι S H ∧ VRs C ι H xs vs ∧ match g xs env with
  | some e1 => ∀ σ', EnvR C ι H e1 σ' → ButS ws σ σ' → Q σ' H
  | none => False
theorem pgImp {tg : Expr} {t t' : TG} (h : PG X tg t) (i : ∀ v σ H Q, t' v σ H Q → t v σ H Q) : PG X tg t' := ⟨fun pins s σ H v u Q I r q => h.run pins s σ H v u Q I r (i v σ H Q q)⟩
theorem pgsImp {tg : List Expr} {t t' : TGs} (h : PGs X tg t) (i : ∀ v σ H Q, t' v σ H Q → t v σ H Q) : PGs X tg t' := ⟨fun pins s σ H v u Q I r q => h.run pins s σ H v u Q I r (i v σ H Q q)⟩
theorem pgOr {tg : Expr} {t t' : TG} (h : PG X tg t) (h' : PG X tg t') : PG X tg (fun v σ H Q => t v σ H Q ∨ t' v σ H Q) :=
  ⟨fun pins s σ H v u Q I r q => q.elim (h.run pins s σ H v u Q I r) (h'.run pins s σ H v u Q I r)⟩
def gN (i : Nat) : MG := fun v env => some (env.set i (some v))
def gNl : MGs := fun xs env => match xs with
  | [] => some env
  | _ => none
def gCs (g : MG) (r : MGs) : MGs := fun xs env => match xs with
  | x :: xr => (g x env).bind fun e1 => r xr e1
  | [] => none
/-- a tuple or a list that stands still, taken apart -/
def gT (n : Nat) (g : MGs) : MG := fun v env => match v with
  | .tup xs => if xs.length = n then g xs env else none
  | .lst xs => if xs.length = n then g xs env else none
  | _ => none
theorem jg_n {i : Nat} {x : Str} (hN : X.N.Nodup) (hi : X.N[i]? = some x := by rfl) (hx : Loc X.env.scope x := by first | exact Or.inl rfl | exact Or.inr rfl) (hf : X.fn x = true ∨ X.env.scope.names.lookup x = some .local := by first | exact .inl rfl | exact .inr rfl | assumption) : PG X (.Name x pos) (tMG C [i] (gN i)) :=
  pgImp (pg_name hN hi hx hf) fun v σ H Q h => by
    obtain ⟨ι, env, S, y, he, hs, r, h⟩ := h
    exact h _ (he.set r i) ⟨by simp, fun j hj => List.getElem?_set_ne (fun e => hj (by simp [e]))⟩
theorem jgs_nil : PGs X [] (tMGs C [] gNl) := pgsImp pgs_nil fun v σ H Q h => by
  obtain ⟨ι, env, S, xs, he, hs, r, h⟩ := h
  cases xs with
  | nil => simp only [VRs] at r; exact ⟨r, h σ he ⟨rfl, fun _ _ => rfl⟩⟩
  | cons => exact h.elim
theorem jgs_cons {e : Expr} {es : List Expr} {g : MG} {r : MGs} {ws ws2 : List Nat} (h1 : PG X e (tMG C ws g)) (h2 : PGs X es (tMGs C ws2 r)) (hs : (assignEach (e :: es) X.env).map (·.2) = assign e X.env :: (assignEach es X.env).map (·.2) := by rfl) : PGs X (e :: es) (tMGs C (ws ++ ws2) (gCs g r)) :=
  pgsImp (pgs_cons h1 h2 hs) fun v σ H Q h => by
    obtain ⟨ι, env, S, xs, he, hs, rr, h⟩ := h
    cases xs with
    | nil => exact h.elim
    | cons x xr =>
      simp only [VRs] at rr
      obtain ⟨u, w, rfl, r1, r2⟩ := rr
      refine ⟨u, w, rfl, ι, env, S, x, he, hs, r1, ?_⟩
      simp only [gCs] at h
      cases e : g x env with
      | none => rw [e] at h; exact h
      | some e1 =>
        rw [e] at h
        intro σ' he' hb
        refine ⟨ι, e1, S, xr, he', hs, r2, ?_⟩
        simp only [Option.bind_some] at h
        cases e2 : r xr e1 with
        | none => rw [e2] at h; exact h
        | some e3 =>
          rw [e2] at h
          exact fun σ2 h2 hb2 => h σ2 h2 ⟨hb2.1.trans hb.1, fun j hj => (hb2.2 j fun z => hj (List.mem_append_right _ z)).trans (hb.2 j fun z => hj (List.mem_append_left _ z))⟩
theorem jg_t {es : List Expr} {k : Nat} {g : MGs} {n : Nat} {ws : List Nat} (hK : X.K = C.K) (hc : X.calm = true) (h : PGs X es (tMGs C ws g)) (hn : (assignEach es X.env).length = n := by rfl) (hst : (assignEach es X.env).findIdx? (·.1) = none := by rfl) : PG X (.Tuple es k pos) (tMG C ws (gT n g)) :=
  pgImp (pgOr (pg_tup hc h hn hst) (pg_lst hc h hn hst)) fun v σ H Q h => by
    obtain ⟨ι, env, S, x, he, hs, r, h⟩ := h
    cases x with
    | tup xs =>
      simp only [VR] at r
      obtain ⟨a, vs, rfl, h1, h2⟩ := r
      simp only [gT] at h
      split at h
      · rename_i e1 heq
        split at heq
        · rename_i hl
          refine .inl ⟨a, vs, rfl, by rw [hK]; exact h1.sq, by rw [h2.len]; exact hl, ι, env, S, xs, he, hs, h2, ?_⟩
          rw [heq]
          exact h
        · cases heq
      · exact h.elim
    | lst xs =>
      simp only [VR] at r
      obtain ⟨a, vs, rfl, h0, h1, h2⟩ := r
      simp only [gT] at h
      split at h
      · rename_i e1 heq
        split at heq
        · rename_i hl
          refine .inr ⟨a, vs, rfl, SqL.of h1, by rw [h2.len]; exact hl, ι, env, S, xs, he, hs, h2, ?_⟩
          rw [heq]
          exact h
        · cases heq
      · exact h.elim
    | _ => exact h.elim

/-! ### assignments to names -/
def sSet (i : Nat) (m : ME) : MSt := fun env S => sBind (m env S) env fun v S1 => .nx (env.set i (some v)) S1
def sAsg (g : MG) (m : ME) : MSt := fun env S => sBind (m env S) env fun v S1 => match g v env with
  | some e1 => .nx e1 S1
  | none => .bad
theorem asg_name {i : Nat} {m : ME} {D : Ends} {σ : L2.St} {H : Hp} (h : tMS C W (sSet i m) D σ H) : tAsg (tM C W m) (gName i) D σ H := by
  obtain ⟨ι, env, S, he, hs, hp⟩ := h
  exact ⟨ι, env, S, he, hs, SPost.bind he hp fun x S1 ι1 H1 v e1 s1 q1 p1 => p1 ι1 H1 _ .refl s1 ((he.mono e1).set q1 i)⟩
theorem js_set {i : Nat} {x : Str} {e : Expr} {m : ME} {pos' : Pos} (hN : X.N.Nodup) (h : PE X e (tM C W m)) (hi : X.N[i]? = some x := by rfl) (hx : Loc X.env.scope x := by first | exact Or.inl rfl | exact Or.inr rfl) (hs : swapsWith e (some (.Name x pos')) pos.line X.env = pure false := by rfl) (hf : X.fn x = true ∨ X.env.scope.names.lookup x = some .local := by first | exact .inl rfl | exact .inr rfl | assumption) :
    PS X (.Assign [.Name x pos'] e pos) (tMS C W (sSet i m)) := psImp (ps_set hN hi hx h hs hf) fun _ _ _ => asg_name
theorem js_asg {tg e : Expr} {m : ME} {g : MG} {ws : List Nat} (h : PE X e (tM C W m)) (hg : PG X tg (tMG C ws g)) (hs : swapsWithSole [tg] e pos.line X.env = pure false := by rfl) (hw : swappedStores [tg] e X.env = pure none := by rfl) (h1 : (assignEach [tg] X.env).map (·.2) = [assign tg X.env] := by rfl) :
    PS X (.Assign [tg] e pos) (tMS C W (sAsg g m)) := psImp (ps_asg h hg hs hw h1) fun D σ H h => by
  obtain ⟨ι, env, S, he, hs, hp⟩ := h
  refine ⟨ι, env, S, he, hs, SPost.bind he hp fun x S1 ι1 H1 v e1 s1 q1 p1 => ?_⟩
  refine ⟨ι1, env, S1, x, he.mono e1, s1, q1, ?_⟩
  cases e : g x env with
  | none => rw [e] at p1; exact p1
  | some e2 =>
    rw [e] at p1
    intro σ' he' _
    exact p1 ι1 H1 σ' .refl s1 he'
/-- a, b = x, y -/
def sPar (i j : Nat) (a b : ME) : MSt := fun env S => sBind (a env S) env fun x S1 => sBind (b env S1) env fun y S2 => .nx ((env.set i (some x)).set j (some y)) S2
theorem js_par {i j : Nat} {x y : Str} {a b : Expr} {ma mb : ME} {px py pt : Pos} {kt k2 pt2} (hc : X.calm = true) (hN : X.N.Nodup) (ha : PE X a (tM C W ma)) (hb : PE X b (tM C W mb)) (hi : X.N[i]? = some x := by rfl) (hj : X.N[j]? = some y := by rfl) (hij : i ≠ j := by decide)
    (hx : X.env.scope.names.lookup x = some .local := by rfl) (hy : X.env.scope.names.lookup y = some .local := by rfl)
    (hw : swappedStores [.Tuple [.Name x px, .Name y py] kt pt] (.Tuple [a, b] k2 pt2) X.env = pure (some [x, y]) := by rfl)
    (hs : swapsWithSole [.Tuple [.Name x px, .Name y py] kt pt] (.Tuple [a, b] k2 pt2) pos.line X.env = pure false := by rfl)
    (hse : starEach [a, b] X.env = (false, eval a X.env) :: starEach [b] X.env := by rfl) (hse2 : starEach [b] X.env = (false, eval b X.env) :: starEach [] X.env := by rfl) :
    PS X (.Assign [.Tuple [.Name x px, .Name y py] kt pt] (.Tuple [a, b] k2 pt2) pos) (tMS C W (sPar i j ma mb)) :=
  psImp (ps_par hc hN hi hj hij hx hy (pa_cons ha (pa_cons hb pa_nil hse2) hse) hw hs) fun D σ H h => by
    obtain ⟨ι, env, S, he, hs, hp⟩ := h
    refine ⟨ι, env, S, he, hs, SPost.bind he hp fun x S1 ι1 H1 v e1 s1 q1 p1 => ?_⟩
    refine ⟨ι1, env, S1, he.mono e1, s1, SPost.bind (he.mono e1) p1 fun y S2 ι2 H2 u e2 s2 q2 p2 => ?_⟩
    exact ⟨v, u, rfl, p2 ι2 H2 _ .refl s2 ((((he.mono e1).mono e2).set (q1.mono e2) i).set q2 j)⟩

/-! ### what is walked -/
structure Itv where
  items : List MV
  deps : List (Nat × List MV)
def Itv.chk (t : Itv) (S : Sto) : Prop := ∀ p ∈ t.deps, S[p.1]? = some (.lst p.2)
def WalkOk (C : Ct) (ι : Io) (H : Hp) (t : Itv) (J : It) : Prop := ∃ (G : Hp → Prop) (Y : Nat → Hp → V → Hp → Prop), Walk J t.items.length G Y ∧
  (∀ ι' S' H', Ext ι H ι' H' → StR C ι' S' H' → t.chk S' → G H') ∧
  (∀ i ι' S' H1 x H2, Ext ι H ι' H1 → StR C ι' S' H1 → t.chk S' → i < t.items.length → Y i H1 x H2 → ∃ mv, t.items[i]? = some mv ∧ Ext ι' H1 ι' H2 ∧ StR C ι' S' H2 ∧ VR C ι' H2 mv x)
def tMI (C : Ct) (W : WX) (m : Env → Sto → Res Itv) : TI := fun σ H R => ∃ ι env S, EnvR C ι H env σ ∧ StR C ι S H ∧ Post C W (fun ι H => WalkOk C ι H) ι σ H (m env S) R
open Classical in
noncomputable def forL (t : Itv) (g : MG) (mb : MSt) : List MV → Env → Sto → SRes
  | [], env, S => if t.chk S then .nx env S else .bad
  | v :: vs, env, S => if t.chk S then (match g v env with
    | none => .bad
    | some e1 => match mb e1 S with
      | .nx e2 S2 => forL t g mb vs e2 S2
      | .ct e2 S2 => forL t g mb vs e2 S2
      | .bk e2 S2 => .nx e2 S2
      | .rt v S2 => .rt v S2
      | .ex x e2 S2 => .ex x e2 S2
      | .bad => .bad) else .bad
noncomputable def sFor (mi : Env → Sto → Res Itv) (g : MG) (mb : MSt) : MSt := fun env S => sBind (mi env S) env fun t S1 => forL t g mb t.items env S1
theorem for_core {t : Itv} {J : It} {g : MG} {ws : List Nat} {mb : MSt} {D : Ends} {ι : Io} {σ : L2.St} {H : Hp} {env : Env} {S : Sto} (he : EnvR C ι H env σ) (hs : StR C ι S H) (w : WalkOk C ι H t J) (hp : SPost C W ι H (forL t g mb t.items env S) D) :
    ∃ W' : Nat → Nat → L2.St → Hp → Prop, (∃ m, W' 0 m σ H) ∧ ∀ i m σ H, W' i m σ H →
      (J.stop i H ∧ D.nx σ H) ∨ (J.go i H ∧ ∃ N : L2.St → Hp → Prop, (∀ σ' H', N σ' H' → ∃ m', m' < m ∧ W' (i + 1) m' σ' H') ∧ ∀ x H', J.yld i H x H' → tMG C ws g x σ H' fun σ2 H2 => tMS C W mb { D with nx := N, ct := N, bk := D.nx } σ2 H2) := by
  obtain ⟨G, Y, wk, hG, hY⟩ := w
  refine for_it wk (fun i σ' H' => ∃ ι' env' S', Ext ι H ι' H' ∧ EnvR C ι' H' env' σ' ∧ StR C ι' S' H' ∧ SPost C W ι' H' (forL t g mb (t.items.drop i) env' S') D) ⟨ι, env, S, .refl, he, hs, by rw [List.drop_zero]; exact hp⟩ ?_ ?_ ?_
  · rintro i σ' H' hi ⟨ι', env', S', e1, he', hs', hp'⟩
    have hc : t.chk S' := by
      cases hd : t.items.drop i with
      | nil => rw [hd] at hp'; unfold forL at hp'; split at hp'; assumption; exact hp'.elim
      | cons v vs => rw [hd] at hp'; unfold forL at hp'; split at hp'; assumption; exact hp'.elim
    exact hG ι' S' H' e1 hs' hc
  · rintro i x σ' H' H2 hi ⟨ι', env', S', e1, he', hs', hp'⟩ y
    rw [List.drop_eq_getElem_cons hi] at hp'
    unfold forL at hp'
    split at hp'
    · rename_i hc
      obtain ⟨mv, em, e2, s2, r2⟩ := hY i ι' S' H' x H2 e1 hs' hc hi y
      have : t.items[i] = mv := by rw [List.getElem?_eq_getElem hi] at em; exact Option.some.inj em
      rw [this] at hp'
      refine ⟨ι', env', S', mv, he'.mono e2, s2, r2, ?_⟩
      cases eg : g mv env' with
      | none => rw [eg] at hp'; exact hp'
      | some en =>
        rw [eg] at hp'
        intro σ2 he2 _
        refine ⟨ι', en, S', he2, s2, ?_⟩
        have hp2 := hp'.mono e2
        simp only at hp2
        cases eb : mb en S' with
        | nx e3 S3 =>
          rw [eb] at hp2
          exact fun ι3 H3 σ3 x3 s3 r3 => ⟨ι3, e3, S3, (e1.trans e2).trans x3, r3, s3, hp2.mono x3⟩
        | ct e3 S3 =>
          rw [eb] at hp2
          exact fun ι3 H3 σ3 x3 s3 r3 => ⟨ι3, e3, S3, (e1.trans e2).trans x3, r3, s3, hp2.mono x3⟩
        | bk e3 S3 => rw [eb] at hp2; exact hp2
        | rt v S3 => rw [eb] at hp2; exact hp2
        | ex x e3 S3 => rw [eb] at hp2; exact hp2
        | bad => rw [eb] at hp2; exact hp2
    · exact hp'.elim
  · rintro σ' H' ⟨ι', env', S', e1, he', hs', hp'⟩
    rw [List.drop_length] at hp'
    unfold forL at hp'
    split at hp'
    · exact hp' ι' H' σ' .refl hs' he'
    · exact hp'.elim
theorem js_for {tg iter : Expr} {body : List Stmt} {mi : Env → Sto → Res Itv} {g : MG} {ws : List Nat} {mb : MSt} (hp : PassesOwn (model X.prog X.w) X.A X.env X.xe) (hc : X.calm = true) (hi : PI X tg iter (tMI C W mi)) (hg : PG X tg (tMG C ws g)) (hb : PSs X body (tMS C W mb))
    (hs : ∀ x, foldedSetIterable iter X.env x = pure x := by intro _; rfl) : PS X (.For tg iter body [] pos) (tMS C W (sFor mi g mb)) :=
  psImp (ps_for hp hc hi hg hb hs) fun D σ H h => by
    obtain ⟨ι, env, S, he, hs, hp⟩ := h
    refine ⟨ι, env, S, he, hs, SPost.bind he hp fun t S1 ι1 H1 J e1 s1 q1 p1 => ?_⟩
    exact for_core (he.mono e1) s1 q1 p1

/-! ### while -/
def whileL (c : MB) (mb : MSt) : Nat → Env → Sto → SRes
  | 0, _, _ => .bad
  | n + 1, env, S => sBind (c env S) env fun x S1 => if x = true then (match mb env S1 with
    | .nx e2 S2 => whileL c mb n e2 S2
    | .ct e2 S2 => whileL c mb n e2 S2
    | .bk e2 S2 => .nx e2 S2
    | .rt v S2 => .rt v S2
    | .ex x e2 S2 => .ex x e2 S2
    | .bad => .bad) else .nx env S1
open Classical in
noncomputable def sWhile (c : MB) (mb : MSt) : MSt := fun env S => if h : ∃ n, whileL c mb n env S ≠ .bad then whileL c mb (Classical.choose h) env S else .bad
theorem whileL_more {c : MB} {mb : MSt} : ∀ (n : Nat) (env : Env) (S : Sto), whileL c mb n env S ≠ .bad → ∀ k, whileL c mb (n + k) env S = whileL c mb n env S
  | 0, _, _, h, _ => absurd rfl h
  | n + 1, env, S, h, k => by
    rw [show n + 1 + k = (n + k) + 1 from by omega]
    unfold whileL at h ⊢
    cases e : c env S with
    | ok b S1 =>
      rw [e] at h
      simp only [sBind_ok] at h ⊢
      cases b with
      | false => rfl
      | true =>
        simp only [if_true] at h ⊢
        cases e2 : mb env S1 with
        | nx e3 S3 => rw [e2] at h; exact whileL_more n e3 S3 h k
        | ct e3 S3 => rw [e2] at h; exact whileL_more n e3 S3 h k
        | _ => rfl
    | ex x S1 => rfl
    | bad => rw [e] at h; exact absurd rfl h
theorem sWhile_eq {c : MB} {mb : MSt} {env : Env} {S : Sto} (n : Nat) (h : whileL c mb n env S ≠ .bad) : sWhile c mb env S = whileL c mb n env S := by
  have hx : ∃ n, whileL c mb n env S ≠ .bad := ⟨n, h⟩
  unfold sWhile
  rw [dif_pos hx]
  have h2 := Classical.choose_spec hx
  have a := whileL_more n env S h (Classical.choose hx)
  have b := whileL_more (Classical.choose hx) env S h2 n
  rw [← a, ← b, Nat.add_comm]
theorem js_while {c : Expr} {body : List Stmt} {mc : MB} {mb : MSt} (hp : PassesOwn (model X.prog X.w) X.A X.env X.xe) (hc : PT X c (tMB C W mc)) (hb : PSs X body (tMS C W mb)) : PS X (.While c body [] pos) (tMS C W (sWhile mc mb)) :=
  psImp (ps_while hp hc hb) fun D σ H h => by
    obtain ⟨ι, env, S, he, hs, hp⟩ := h
    have key : ∃ n, SPost C W ι H (whileL mc mb n env S) D := by
      unfold sWhile at hp
      split at hp
      · exact ⟨_, hp⟩
      · exact hp.elim
    obtain ⟨n0, hp⟩ := key
    refine ⟨fun n σ' H' => ∃ ι' env' S', EnvR C ι' H' env' σ' ∧ StR C ι' S' H' ∧ SPost C W ι' H' (whileL mc mb n env' S') D, ⟨n0, ι, env, S, he, hs, hp⟩, ?_⟩
    rintro n σ' H' ⟨ι', env', S', he', hs', hp'⟩
    cases n with
    | zero => exact hp'.elim
    | succ n =>
      unfold whileL at hp'
      refine ⟨ι', env', S', he', hs', SPost.bind he' hp' fun x S1 ι1 H1 v e1 s1 q1 p1 => ?_⟩
      subst q1
      cases v with
      | false => exact p1 ι1 H1 σ' .refl s1 (he'.mono e1)
      | true =>
        refine ⟨fun σ2 H2 => ∃ ι2 env2 S2, EnvR C ι2 H2 env2 σ2 ∧ StR C ι2 S2 H2 ∧ SPost C W ι2 H2 (whileL mc mb n env2 S2) D, fun σ2 H2 q => ⟨n, Nat.lt_succ_self n, q⟩, ?_⟩
        refine ⟨ι1, env', S1, he'.mono e1, s1, ?_⟩
        simp only [if_true] at p1
        cases eb : mb env' S1 with
        | nx e3 S3 => rw [eb] at p1; exact fun ι3 H3 σ3 x3 s3 r3 => ⟨ι3, e3, S3, r3, s3, p1.mono x3⟩
        | ct e3 S3 => rw [eb] at p1; exact fun ι3 H3 σ3 x3 s3 r3 => ⟨ι3, e3, S3, r3, s3, p1.mono x3⟩
        | bk e3 S3 => rw [eb] at p1; exact p1
        | rt v S3 => rw [eb] at p1; exact p1
        | ex x e3 S3 => rw [eb] at p1; exact p1
        | bad => rw [eb] at p1; exact p1
end
end Mi

namespace Mi
open PySem L2

/-! ### leaving a def: what was made within becomes a value -/
mutual
/-- no place from n on -/
def Cl (n : Nat) : MV → Prop
  | .tup xs => ClL n xs
  | .lst xs => ClL n xs
  | .rol xs => ClL n xs
  | .dic kvs => Clk n kvs
  | .ins _ fs => Clf n fs
  | .ref l => l < n
  | .clo _ cs => ClL n cs
  | _ => True
def ClL (n : Nat) : List MV → Prop
  | [] => True
  | x :: r => Cl n x ∧ ClL n r
def Clk (n : Nat) : List (MV × MV) → Prop
  | [] => True
  | p :: r => Clp n p ∧ Clk n r
def Clp (n : Nat) : MV × MV → Prop
  | (_, x) => Cl n x
def Clf (n : Nat) : List (Str × MV) → Prop
  | [] => True
  | p :: r => Clg n p ∧ Clf n r
def Clg (n : Nat) : Str × MV → Prop
  | (_, x) => Cl n x
end
def ClO (n : Nat) : MO → Prop
  | .lst xs => ClL n xs
  | .dic kvs => Clk n kvs
  | .ins _ fs => Clf n fs
section
variable {C : Ct} {ι : Io} {H : Hp}
mutual
theorem VR.closed : ∀ (x : MV) (v : V), VR C ι H x v → Cl ι.length x
  | .non, v, h => by simp only [Cl]
  | .bl _, v, h => by simp only [Cl]
  | .int _, v, h => by simp only [Cl]
  | .str _, v, h => by simp only [Cl]
  | .ty _, v, h => by simp only [Cl]
  | .fn _, v, h => by simp only [Cl]
  | .clo _ _, v, h => by simp only [VR] at h
  | .tup xs, v, h => by
    simp only [VR] at h
    obtain ⟨a, vs, h1, h2, h3⟩ := h
    simp only [Cl]; exact VRs.closed xs vs h3
  | .lst xs, v, h => by
    simp only [VR] at h
    obtain ⟨a, vs, h1, h2, h3, h4⟩ := h
    simp only [Cl]; exact VRs.closed xs vs h4
  | .rol xs, v, h => by
    simp only [VR] at h
    obtain ⟨a, vs, h1, h2, h3⟩ := h
    simp only [Cl]; exact VRs.closed xs vs h3
  | .dic kvs, v, h => by
    simp only [VR] at h
    obtain ⟨a, kx, h1, h2, h3, h4⟩ := h
    simp only [Cl]; exact KRs.closed kvs kx h4
  | .ins c fs, v, h => by
    simp only [VR] at h
    obtain ⟨a, dx, fx, h1, h2, h3, h4⟩ := h
    simp only [Cl]; exact FRs.closed fs fx h4
  | .ref l, v, h => by
    simp only [VR] at h
    obtain ⟨a, h1, h2⟩ := h
    simp only [Cl]; exact (List.getElem?_eq_some_iff.mp h2).1
theorem VRs.closed : ∀ (x : List MV) (v : List V), VRs C ι H x v → ClL ι.length x
  | [], v, h => by simp only [ClL]
  | x :: r, v, h => by
    simp only [VRs] at h
    obtain ⟨u, w, h1, h2, h3⟩ := h
    simp only [ClL]; exact ⟨VR.closed x u h2, VRs.closed r w h3⟩
theorem KRs.closed : ∀ (x : List (MV × MV)) (v : List (Key × V)), KRs C ι H x v → Clk ι.length x
  | [], v, h => by simp only [Clk]
  | x :: r, v, h => by
    simp only [KRs] at h
    obtain ⟨u, w, h1, h2, h3⟩ := h
    simp only [Clk]; exact ⟨KR.closed x u h2, KRs.closed r w h3⟩
theorem KR.closed : ∀ (x : MV × MV) (v : Key × V), KR C ι H x v → Clp ι.length x
  | (k, x), v, h => by
    simp only [KR] at h
    simp only [Clp]; exact VR.closed x v.2 h.2
theorem FRs.closed : ∀ (x : List (Str × MV)) (v : List (Str × V)), FRs C ι H x v → Clf ι.length x
  | [], v, h => by simp only [Clf]
  | x :: r, v, h => by
    simp only [FRs] at h
    obtain ⟨u, w, h1, h2, h3⟩ := h
    simp only [Clf]; exact ⟨FR.closed x u h2, FRs.closed r w h3⟩
theorem FR.closed : ∀ (x : Str × MV) (v : Str × V), FR C ι H x v → Clg ι.length x
  | (k, x), v, h => by
    simp only [FR] at h
    simp only [Clg]; exact VR.closed x v.2 h.2
end
/-- a part of the places, the first n of them where they were -/
structure Shr (ι ι2 : Io) (n : Nat) : Prop where
  sub : ∀ b, b ∈ ι2 → b ∈ ι
  at' : ∀ l a, l < n → ι[l]? = some a → ι2[l]? = some a
theorem Shr.take {n : Nat} : Shr ι (ι.take n) n := ⟨fun _ h => List.mem_of_mem_take h, fun l a hl h => by rw [List.getElem?_take_of_lt hl]; exact h⟩
variable {ι2 : Io}
theorem FL.shrink {a : Addr} {xs : List V} {n : Nat} (w : Shr ι ι2 n) (h : FL C ι H a xs) : FL C ι2 H a xs := h.elim (fun h => .inl ⟨fun z => h.1 (w.sub _ z), h.2⟩) .inr
theorem FT.shrink {a : Addr} {xs : List V} {n : Nat} (w : Shr ι ι2 n) (h : FT C ι H a xs) : FT C ι2 H a xs := h.elim (fun h => .inl ⟨fun z => h.1 (w.sub _ z), h.2⟩) .inr
mutual
theorem VR.shrink {n : Nat} (w : Shr ι ι2 n) : ∀ (x : MV) (v : V), Cl n x → VR C ι H x v → VR C ι2 H x v
  | .non, v, _, h => by simpa only [VR] using h
  | .bl _, v, _, h => by simpa only [VR] using h
  | .int _, v, _, h => by simpa only [VR] using h
  | .str _, v, _, h => by simpa only [VR] using h
  | .ty _, v, _, h => by simpa only [VR] using h
  | .fn _, v, _, h => by simpa only [VR] using h
  | .clo _ _, v, _, h => by simp only [VR] at h
  | .tup xs, v, c, h => by
    simp only [VR] at h ⊢
    simp only [Cl] at c
    obtain ⟨a, vs, h1, h2, h3⟩ := h
    exact ⟨a, vs, h1, h2.shrink w, VRs.shrink w xs vs c h3⟩
  | .lst xs, v, c, h => by
    simp only [VR] at h ⊢
    simp only [Cl] at c
    obtain ⟨a, vs, h1, h2, h3, h4⟩ := h
    exact ⟨a, vs, h1, fun z => h2 (w.sub _ z), h3, VRs.shrink w xs vs c h4⟩
  | .rol xs, v, c, h => by
    simp only [VR] at h ⊢
    simp only [Cl] at c
    obtain ⟨a, vs, h1, h2, h3⟩ := h
    exact ⟨a, vs, h1, h2.shrink w, VRs.shrink w xs vs c h3⟩
  | .dic kvs, v, c, h => by
    simp only [VR] at h ⊢
    simp only [Cl] at c
    obtain ⟨a, kx, h1, h2, h3, h4⟩ := h
    exact ⟨a, kx, h1, fun z => h2 (w.sub _ z), h3, KRs.shrink w kvs kx c h4⟩
  | .ins k fs, v, c, h => by
    simp only [VR] at h ⊢
    simp only [Cl] at c
    obtain ⟨a, dx, fx, h1, h2, h3, h4⟩ := h
    exact ⟨a, dx, fx, h1, fun z => h2 (w.sub _ z), h3, FRs.shrink w fs fx c h4⟩
  | .ref l, v, c, h => by
    simp only [VR] at h ⊢
    simp only [Cl] at c
    obtain ⟨a, h1, h2⟩ := h
    exact ⟨a, h1, w.at' l a c h2⟩
theorem VRs.shrink {n : Nat} (w : Shr ι ι2 n) : ∀ (x : List MV) (v : List V), ClL n x → VRs C ι H x v → VRs C ι2 H x v
  | [], v, _, h => by simpa only [VRs] using h
  | x :: r, v, c, h => by
    simp only [VRs] at h ⊢
    simp only [ClL] at c
    obtain ⟨u, t, h1, h2, h3⟩ := h
    exact ⟨u, t, h1, VR.shrink w x u c.1 h2, VRs.shrink w r t c.2 h3⟩
theorem KRs.shrink {n : Nat} (w : Shr ι ι2 n) : ∀ (x : List (MV × MV)) (v : List (Key × V)), Clk n x → KRs C ι H x v → KRs C ι2 H x v
  | [], v, _, h => by simpa only [KRs] using h
  | x :: r, v, c, h => by
    simp only [KRs] at h ⊢
    simp only [Clk] at c
    obtain ⟨u, t, h1, h2, h3⟩ := h
    exact ⟨u, t, h1, KR.shrink w x u c.1 h2, KRs.shrink w r t c.2 h3⟩
theorem KR.shrink {n : Nat} (w : Shr ι ι2 n) : ∀ (x : MV × MV) (v : Key × V), Clp n x → KR C ι H x v → KR C ι2 H x v
  | (k, x), v, c, h => by
    simp only [KR] at h ⊢
    simp only [Clp] at c
    exact ⟨h.1, VR.shrink w x v.2 c h.2⟩
theorem FRs.shrink {n : Nat} (w : Shr ι ι2 n) : ∀ (x : List (Str × MV)) (v : List (Str × V)), Clf n x → FRs C ι H x v → FRs C ι2 H x v
  | [], v, _, h => by simpa only [FRs] using h
  | x :: r, v, c, h => by
    simp only [FRs] at h ⊢
    simp only [Clf] at c
    obtain ⟨u, t, h1, h2, h3⟩ := h
    exact ⟨u, t, h1, FR.shrink w x u c.1 h2, FRs.shrink w r t c.2 h3⟩
theorem FR.shrink {n : Nat} (w : Shr ι ι2 n) : ∀ (x : Str × MV) (v : Str × V), Clg n x → FR C ι H x v → FR C ι2 H x v
  | (k, x), v, c, h => by
    simp only [FR] at h ⊢
    simp only [Clg] at c
    exact ⟨h.1, VR.shrink w x v.2 c h.2⟩
end
theorem OR.closed {a : Addr} {o : MO} (h : OR C ι H a o) : ClO ι.length o := by
  cases o with
  | lst xs => obtain ⟨vs, _, h⟩ := h; exact VRs.closed _ _ h
  | dic xs => obtain ⟨vs, _, h⟩ := h; exact KRs.closed _ _ h
  | ins c xs => obtain ⟨_, vs, _, h⟩ := h; exact FRs.closed _ _ h
theorem OR.shrink {n : Nat} {a : Addr} {o : MO} (w : Shr ι ι2 n) (c : ClO n o) (h : OR C ι H a o) : OR C ι2 H a o := by
  cases o with
  | lst xs => obtain ⟨vs, h1, h⟩ := h; exact ⟨vs, h1, VRs.shrink w _ _ c h⟩
  | dic xs => obtain ⟨vs, h1, h⟩ := h; exact ⟨vs, h1, KRs.shrink w _ _ c h⟩
  | ins k xs => obtain ⟨dx, vs, h1, h⟩ := h; exact ⟨dx, vs, h1, FRs.shrink w _ _ c h⟩
end

/-- through a list, all or none -/
def optL {α β : Type} (f : α → Option β) : List α → Option (List β)
  | [] => some []
  | x :: r => match f x, optL f r with
    | some y, some ys => some (y :: ys)
    | _, _ => none
open Classical in
noncomputable def fz (S : Sto) (n : Nat) : Nat → MV → Option MV
  | 0, v => if Cl n v then some v else none
  | d + 1, v => if Cl n v then some v else match v with
    | .ref l => match S[l]? with
      | some (.lst xs) => (optL (fz S n d) xs).map .lst
      | some (.dic kvs) => (optL (fun p => (fz S n d p.2).map fun y => (p.1, y)) kvs).map .dic
      | some (.ins c fs) => (optL (fun p => (fz S n d p.2).map fun y => (p.1, y)) fs).map (.ins c)
      | none => none
    | .tup xs => (optL (fz S n d) xs).map .tup
    | .lst xs => (optL (fz S n d) xs).map .lst
    | _ => none
theorem fz_cl {S : Sto} {n d : Nat} {v : MV} (h : Cl n v) : fz S n d v = some v := by
  cases d <;> (unfold fz; rw [if_pos h])
section
variable {C : Ct} {ι : Io} {S : Sto} {H : Hp}
theorem optL_vrs {f : MV → Option MV} {n : Nat} (hf : ∀ x y v, f x = some y → VR C ι H x v → VR C (ι.take n) H y v) : ∀ (xs ys : List MV) (vs : List V), optL f xs = some ys → VRs C ι H xs vs → VRs C (ι.take n) H ys vs
  | [], ys, vs, h, r => by
    simp only [optL, Option.some.injEq] at h
    subst h
    simpa only [VRs] using r
  | x :: xr, ys, vs, h, r => by
    simp only [optL] at h
    split at h
    · rename_i y yr e1 e2
      simp only [Option.some.injEq] at h
      subst h
      simp only [VRs] at r ⊢
      obtain ⟨v, w, rfl, r1, r2⟩ := r
      exact ⟨v, w, rfl, hf _ _ _ e1 r1, optL_vrs hf xr yr w e2 r2⟩
    · cases h
theorem optL_krs {f : MV → Option MV} {n : Nat} (hf : ∀ x y v, f x = some y → VR C ι H x v → VR C (ι.take n) H y v) : ∀ (xs ys : List (MV × MV)) (vs : List (Key × V)), optL (fun p => (f p.2).map fun y => (p.1, y)) xs = some ys → KRs C ι H xs vs → KRs C (ι.take n) H ys vs
  | [], ys, vs, h, r => by
    simp only [optL, Option.some.injEq] at h
    subst h
    simpa only [KRs] using r
  | (k, x) :: xr, ys, vs, h, r => by
    simp only [optL] at h
    split at h
    · rename_i y yr e1 e2
      simp only [Option.some.injEq] at h
      subst h
      cases e : f x with
      | none => rw [e] at e1; cases e1
      | some z =>
        rw [e] at e1
        simp only [Option.map_some, Option.some.injEq] at e1
        subst e1
        simp only [KRs, KR] at r ⊢
        obtain ⟨v, w, rfl, r1, r2⟩ := r
        exact ⟨v, w, rfl, ⟨r1.1, hf _ _ _ e r1.2⟩, optL_krs hf xr yr w e2 r2⟩
    · cases h
theorem optL_frs {f : MV → Option MV} {n : Nat} (hf : ∀ x y v, f x = some y → VR C ι H x v → VR C (ι.take n) H y v) : ∀ (xs ys : List (Str × MV)) (vs : List (Str × V)), optL (fun p => (f p.2).map fun y => (p.1, y)) xs = some ys → FRs C ι H xs vs → FRs C (ι.take n) H ys vs
  | [], ys, vs, h, r => by
    simp only [optL, Option.some.injEq] at h
    subst h
    simpa only [FRs] using r
  | (k, x) :: xr, ys, vs, h, r => by
    simp only [optL] at h
    split at h
    · rename_i y yr e1 e2
      simp only [Option.some.injEq] at h
      subst h
      cases e : f x with
      | none => rw [e] at e1; cases e1
      | some z =>
        rw [e] at e1
        simp only [Option.map_some, Option.some.injEq] at e1
        subst e1
        simp only [FRs, FR] at r ⊢
        obtain ⟨v, w, rfl, r1, r2⟩ := r
        exact ⟨v, w, rfl, ⟨r1.1, hf _ _ _ e r1.2⟩, optL_frs hf xr yr w e2 r2⟩
    · cases h
theorem notin_take {n l : Nat} {a : Addr} (nd : ι.Nodup) (h : ι[l]? = some a) (hl : n ≤ l) : a ∉ ι.take n := fun hm => by
  obtain ⟨k, hk, e⟩ := List.mem_iff_getElem.mp hm
  have hk' : k < n ∧ k < ι.length := by rw [List.length_take] at hk; omega
  have e2 : ι[k]? = some a := by
    have h1 : (ι.take n)[k]? = some a := by rw [List.getElem?_eq_getElem hk, e]
    rwa [List.getElem?_take_of_lt hk'.1] at h1
  obtain ⟨h1, q1⟩ := List.getElem?_eq_some_iff.mp h
  obtain ⟨h2, q2⟩ := List.getElem?_eq_some_iff.mp e2
  have := (List.getElem_inj nd).mp (q2.trans q1.symm)
  omega
theorem fz_ok (s : StR C ι S H) {n : Nat} : ∀ (d : Nat) (x y : MV) (v : V), fz S n d x = some y → VR C ι H x v → VR C (ι.take n) H y v
  | 0, x, y, v, h, r => by
    unfold fz at h
    split at h
    · rename_i c
      simp only [Option.some.injEq] at h
      subst h
      exact VR.shrink .take _ _ c r
    · cases h
  | d + 1, x, y, v, h, r => by
    unfold fz at h
    split at h
    · rename_i c
      simp only [Option.some.injEq] at h
      subst h
      exact VR.shrink .take _ _ c r
    · rename_i nc
      have ih := fz_ok s (n := n) d
      split at h
      · rename_i l
        simp only [Cl, Nat.not_lt] at nc
        simp only [VR] at r
        obtain ⟨a, rfl, hl⟩ := r
        have na := notin_take s.nd hl nc
        split at h
        · rename_i xs e
          obtain ⟨vs, h1, h2⟩ := s.ob l _ a e hl
          cases e2 : optL (fz S n d) xs with
          | none => rw [e2] at h; cases h
          | some ys =>
            rw [e2] at h
            simp only [Option.map_some, Option.some.injEq] at h
            subst h
            simp only [VR]
            exact ⟨a, vs, rfl, na, h1, optL_vrs ih xs ys vs e2 h2⟩
        · rename_i kvs e
          obtain ⟨vs, h1, h2⟩ := s.ob l _ a e hl
          cases e2 : optL (fun p => (fz S n d p.2).map fun y => (p.1, y)) kvs with
          | none => rw [e2] at h; cases h
          | some ys =>
            rw [e2] at h
            simp only [Option.map_some, Option.some.injEq] at h
            subst h
            simp only [VR]
            exact ⟨a, vs, rfl, na, .inl h1, optL_krs ih kvs ys vs e2 h2⟩
        · rename_i c fs e
          obtain ⟨dx, vs, h1, h2⟩ := s.ob l _ a e hl
          cases e2 : optL (fun p => (fz S n d p.2).map fun y => (p.1, y)) fs with
          | none => rw [e2] at h; cases h
          | some ys =>
            rw [e2] at h
            simp only [Option.map_some, Option.some.injEq] at h
            subst h
            simp only [VR]
            exact ⟨a, dx, vs, rfl, na, h1, optL_frs ih fs ys vs e2 h2⟩
        · cases h
      · rename_i xs
        simp only [VR] at r
        obtain ⟨a, vs, rfl, h1, h2⟩ := r
        cases e2 : optL (fz S n d) xs with
        | none => rw [e2] at h; cases h
        | some ys =>
          rw [e2] at h
          simp only [Option.map_some, Option.some.injEq] at h
          subst h
          simp only [VR]
          exact ⟨a, vs, rfl, h1.shrink .take, optL_vrs ih xs ys vs e2 h2⟩
      · rename_i xs
        simp only [VR] at r
        obtain ⟨a, vs, rfl, h0, h1, h2⟩ := r
        cases e2 : optL (fz S n d) xs with
        | none => rw [e2] at h; cases h
        | some ys =>
          rw [e2] at h
          simp only [Option.map_some, Option.some.injEq] at h
          subst h
          simp only [VR]
          exact ⟨a, vs, rfl, fun z => h0 (Shr.take.sub _ z), h1, optL_vrs ih xs ys vs e2 h2⟩
      · cases h
end
/-- the places that stood there are unchanged, or hold nothing that is new -/
def Keeps (S S' : Sto) : Prop := S.length ≤ S'.length ∧ ∀ l, l < S.length → S'[l]? = S[l]? ∨ ∃ o, S'[l]? = some o ∧ ClO S.length o
open Classical in
noncomputable def leaveV (S S' : Sto) (v : MV) : Res MV := if Keeps S S' then (match fz S' S.length 6 v with
  | some y => .ok y (S'.take S.length)
  | none => .bad) else .bad
open Classical in
/-- a new place is handed on as one -/
noncomputable def leaveR (S S' : Sto) (v : MV) : Res MV := if Keeps S S' then (match v with
  | .ref l => if S.length ≤ l then (match S'[l]? with
    | some o => if ClO S.length o then .ok (.ref S.length) (S'.take S.length ++ [o]) else .bad
    | none => .bad) else .bad
  | _ => .bad) else .bad
open Classical in
noncomputable def leaveX {α : Type} (S S' : Sto) (x : MX) : Res α := if Keeps S S' ∧ Clf S.length x.fs then .ex x (S'.take S.length) else .bad
section
variable {C : Ct} {ι ι' : Io} {S S' : Sto} {H H' : Hp}
theorem StR.leave (s : StR C ι S H) (e : Ext ι H ι' H') (s' : StR C ι' S' H') (k : Keeps S S') : Ext ι H ι H' ∧ StR C ι (S'.take S.length) H' ∧ ι'.take S.length = ι := by
  have ei : ι'.take S.length = ι := by
    obtain ⟨t, q⟩ := e.pre
    rw [← q, ← s.len, List.take_left']
    rfl
  refine ⟨⟨List.prefix_refl _, fun a h => .inl h, e.old⟩, ⟨by rw [List.length_take, s.len]; have := k.1; omega, s.nd, fun l o a e1 e2 => ?_⟩, ei⟩
  have hl : l < S.length := by rw [← s.len]; exact (List.getElem?_eq_some_iff.mp e2).1
  rw [List.getElem?_take_of_lt hl] at e1
  have q := s'.ob l o a e1 (e.at e2)
  rw [← ei]
  refine q.shrink .take ?_
  rcases k.2 l hl with z | ⟨o', z, c⟩
  · rw [z] at e1
    have := (s.ob l o a e1 e2).closed
    rwa [s.len] at this
  · rw [z] at e1; cases e1
    exact c
theorem leaveV_ok {v y : MV} {S2 : Sto} {x : V} (s : StR C ι S H) (e : Ext ι H ι' H') (s' : StR C ι' S' H') (r : VR C ι' H' v x) (h : leaveV S S' v = .ok y S2) : Ext ι H ι H' ∧ StR C ι S2 H' ∧ VR C ι H' y x := by
  unfold leaveV at h
  split at h
  · rename_i k
    obtain ⟨e1, s1, ei⟩ := s.leave e s' k
    split at h
    · rename_i z hz
      injection h with h1 h2
      subst h1; subst h2
      have q := fz_ok s' 6 _ _ _ hz r
      rw [ei] at q
      exact ⟨e1, s1, q⟩
    · cases h
  · cases h
theorem leaveR_ok {v y : MV} {S2 : Sto} {x : V} (s : StR C ι S H) (e : Ext ι H ι' H') (s' : StR C ι' S' H') (r : VR C ι' H' v x) (h : leaveR S S' v = .ok y S2) : ∃ ι2, Ext ι H ι2 H' ∧ StR C ι2 S2 H' ∧ VR C ι2 H' y x := by
  unfold leaveR at h
  split at h
  · rename_i k
    obtain ⟨e1, s1, ei⟩ := s.leave e s' k
    split at h
    · rename_i l
      split at h
      · rename_i hl
        split at h
        · rename_i o ho
          split at h
          · rename_i hc
            injection h with h1 h2
            subst h1; subst h2
            simp only [VR] at r
            obtain ⟨a, rfl, ha⟩ := r
            have na := notin_take s'.nd ha hl
            rw [ei] at na
            have q := s'.ob l o a ho ha
            have hn : H a = none := by
              rcases e.new a (List.mem_of_getElem? ha) with z | z
              · exact absurd z na
              · exact z
            have mem2 : ∀ b, b ∈ ι ++ [a] → b ∈ ι ∨ b = a := fun b hb => (List.mem_append.mp hb).imp id fun z => by simpa using z
            have hat : ∀ l2 b, l2 < S.length → ι'[l2]? = some b → (ι ++ [a])[l2]? = some b := fun l2 b hl2 hb => by
              rw [List.getElem?_append_left (by rw [s.len]; exact hl2), ← ei, List.getElem?_take_of_lt hl2]
              exact hb
            have w : Shr ι' (ι ++ [a]) S.length := ⟨fun b hb => by
              rcases mem2 b hb with z | z
              · exact e.pre.subset z
              · rw [z]; exact List.mem_of_getElem? ha, hat⟩
            refine ⟨ι ++ [a], ⟨List.prefix_append _ _, fun b hb => by
              rcases mem2 b hb with z | z
              · exact .inl z
              · exact .inr (by rw [z]; exact hn), e.old⟩, ⟨by simp [s.len]; have := k.1; omega, ?_, fun l2 o2 b e1 e2 => ?_⟩, ?_⟩
            · rw [List.nodup_append]
              refine ⟨s.nd, by simp, fun b hb c hc2 z => ?_⟩
              have : c = a := by simpa using hc2
              subst this; subst z
              exact na hb
            · by_cases h2 : l2 < S.length
              · rw [List.getElem?_append_left (by rw [List.length_take]; have := k.1; omega), List.getElem?_take_of_lt h2] at e1
                rw [List.getElem?_append_left (by rw [s.len]; exact h2)] at e2
                refine (s'.ob l2 o2 b e1 (e.at e2)).shrink w ?_
                rcases k.2 l2 h2 with z | ⟨o', z, c⟩
                · rw [z] at e1
                  have := (s.ob l2 o2 b e1 e2).closed
                  rwa [s.len] at this
                · rw [z] at e1; cases e1
                  exact c
              · have hlt := (List.getElem?_eq_some_iff.mp e2).1
                have e3 : l2 = S.length := by simp [s.len] at hlt; omega
                subst e3
                have h3 : b = a := by
                  rw [← s.len] at e2
                  simpa using e2.symm
                have h4 : o2 = o := by
                  rw [List.getElem?_append_right (by rw [List.length_take]; omega)] at e1
                  have : S.length - (S'.take S.length).length = 0 := by rw [List.length_take]; have := k.1; omega
                  rw [this] at e1
                  simpa using e1.symm
                subst h3; subst h4
                exact q.shrink w hc
            · simp only [VR]
              exact ⟨a, rfl, by rw [← s.len]; simp⟩
          · cases h
        · cases h
      · cases h
    · cases h
  · cases h
end
end Mi

namespace Mi
open PySem L2

/-! ### defs and their calls -/
def spM (C : Ct) (n : Nat) (g : List MV → Sto → Res MV) : Sp := fun vs H Q E => vs.length = n ∧ ∃ ι S args, StR C ι S H ∧ VRs C ι H args vs ∧ Post C (fun cls d _ H' => E cls d H') (VR C) ι [] H (g args S) Q
def env0 (n : Nat) (args : List MV) : Env := args.map some ++ List.replicate (n - args.length) none
noncomputable def mDef (n : Nat) (b : MSt) : List MV → Sto → Res MV := fun args S => match b (env0 n args) S with
  | .rt v S' => leaveV S S' v
  | .nx _ S' => leaveV S S' .non
  | .ex x _ S' => leaveX S S' x
  | _ => .bad
/-- .. whose answer is a place made within -/
noncomputable def mDefR (n : Nat) (b : MSt) : List MV → Sto → Res MV := fun args S => match b (env0 n args) S with
  | .rt v S' => leaveR S S' v
  | .ex x _ S' => leaveX S S' x
  | _ => .bad
section
variable {C : Ct} {ι ι' : Io} {S S' : Sto} {H H' : Hp}
theorem leaveX_ok {α : Type} {x : MX} {cls : Value} {d : Option Addr} {r : Res α} (s : StR C ι S H) (e : Ext ι H ι' H') (s' : StR C ι' S' H') (xr : XR C ι' H' x cls d) (h : leaveX S S' x = r) : r = .bad ∨ ∃ S2, r = .ex x S2 ∧ Ext ι H ι H' ∧ StR C ι S2 H' ∧ XR C ι H' x cls d := by
  unfold leaveX at h
  split at h
  · rename_i k
    obtain ⟨e1, s1, ei⟩ := s.leave e s' k.1
    right
    refine ⟨_, h.symm, e1, s1, xr.1, ?_⟩
    have h2 := xr.2
    cases d with
    | none => exact h2
    | some a =>
      obtain ⟨na, fx, hx, hf⟩ := h2
      refine ⟨fun z => na (e.pre.subset z), fx, hx, ?_⟩
      have w := @Shr.take ι' S.length
      rw [ei] at w
      exact FRs.shrink w _ _ k.2 hf
  · exact .inl h.symm
theorem EnvR.start {N : List Str} {args : List MV} {vs : List V} (r : VRs C ι H args vs) : EnvR C ι H (env0 N.length args) (L2.start N vs) := by
  have hl := r.len
  refine ⟨by simp [env0, L2.start, hl], fun i x q => ?_⟩
  have key : ∀ (args : List MV) (vs : List V), VRs C ι H args vs → ∀ (i : Nat) (x : MV), args[i]? = some x → ∃ v, vs[i]? = some v ∧ VR C ι H x v := by
    intro args
    induction args with
    | nil => intro vs _ i x h; simp at h
    | cons a r ih =>
      intro vs rr i x h
      simp only [VRs] at rr
      obtain ⟨v, w, rfl, r1, r2⟩ := rr
      cases i with
      | zero => simp at h; subst h; exact ⟨v, rfl, r1⟩
      | succ i =>
        obtain ⟨u, h1, h2⟩ := ih w r2 i x (by simpa using h)
        exact ⟨u, by simpa using h1, h2⟩
  by_cases hi : i < args.length
  · unfold env0 at q
    rw [List.getElem?_append_left (by simpa using hi)] at q
    rw [List.getElem?_map] at q
    cases e : args[i]? with
    | none => rw [e] at q; cases q
    | some y =>
      rw [e] at q
      simp only [Option.map_some, Option.some.injEq] at q
      subst q
      obtain ⟨v, h1, h2⟩ := key args vs r i y e
      refine ⟨v, ?_, h2⟩
      unfold L2.start
      rw [List.getElem?_append_left (by simp [hl]; exact hi), List.getElem?_map, h1]
      rfl
  · unfold env0 at q
    rw [List.getElem?_append_right (by simpa using hi)] at q
    rw [List.getElem?_replicate] at q
    split at q
    · cases q
    · cases q
end
section
variable {P : Program} {w : World} {K : PySem.W.Frag} {mg : Str → Option Value} {base : Heap} {C : Ct}
theorem def_core {N : List Str} {n : Nat} {b : MSt} {g : List MV → Sto → Res MV} (hn : N.length = n) (hg : g = mDef n b ∨ g = mDefR n b) {m : Nat} {vs : List V} {H : Hp} {Q : VK} {E : XK} (h : spM C m g vs H Q E) :
    tMS C (fun cls d _ H' => E cls d H') b { nx := fun _ H' => Q .non H', rt := Q } (L2.start N vs) H := by
  obtain ⟨_, ι, S, args, hs, hr, hp⟩ := h
  refine ⟨ι, env0 n args, S, by rw [← hn]; exact EnvR.start hr, hs, ?_⟩
  rcases hg with rfl | rfl
  · unfold mDef at hp
    cases e : b (env0 n args) S with
    | nx e1 S1 =>
      rw [e] at hp
      intro ι1 H1 σ1 x1 s1 r1
      cases e2 : leaveV S S1 .non with
      | ok y S2 =>
        obtain ⟨a1, a2, a3⟩ := leaveV_ok hs x1 s1 (x := V.non) (by simp only [VR]) e2
        simp only [e2] at hp
        exact hp ι H1 .non a1 a2 a3
      | ex x S2 => unfold leaveV at e2; (repeat (split at e2)) <;> cases e2
      | bad => simp only [e2] at hp; exact hp.elim
    | rt v S1 =>
      rw [e] at hp
      intro ι1 H1 x x1 s1 r1
      cases e2 : leaveV S S1 v with
      | ok y S2 =>
        obtain ⟨a1, a2, a3⟩ := leaveV_ok hs x1 s1 r1 e2
        simp only [e2] at hp
        exact hp ι H1 x a1 a2 a3
      | ex x S2 => unfold leaveV at e2; (repeat (split at e2)) <;> cases e2
      | bad => simp only [e2] at hp; exact hp.elim
    | bk e1 S1 => rw [e] at hp; exact hp.elim
    | ct e1 S1 => rw [e] at hp; exact hp.elim
    | bad => rw [e] at hp; exact hp.elim
    | ex x e1 S1 =>
      rw [e] at hp
      intro ι1 H1 σ1 cls d x1 s1 r1 xr
      rcases leaveX_ok (α := MV) hs x1 s1 xr rfl with e2 | ⟨S2, e2, a1, a2, a3⟩
      · simp only [e2] at hp; exact hp.elim
      · simp only [e2] at hp; exact hp ι H1 cls d a1 a2 a3
  · unfold mDefR at hp
    cases e : b (env0 n args) S with
    | nx e1 S1 => rw [e] at hp; exact hp.elim
    | rt v S1 =>
      rw [e] at hp
      intro ι1 H1 x x1 s1 r1
      cases e2 : leaveR S S1 v with
      | ok y S2 =>
        obtain ⟨ι2, a1, a2, a3⟩ := leaveR_ok hs x1 s1 r1 e2
        simp only [e2] at hp
        exact hp ι2 H1 x a1 a2 a3
      | ex x S2 => unfold leaveR at e2; (repeat (split at e2)) <;> cases e2
      | bad => simp only [e2] at hp; exact hp.elim
    | bk e1 S1 => rw [e] at hp; exact hp.elim
    | ct e1 S1 => rw [e] at hp; exact hp.elim
    | bad => rw [e] at hp; exact hp.elim
    | ex x e1 S1 =>
      rw [e] at hp
      intro ι1 H1 σ1 cls d x1 s1 r1 xr
      rcases leaveX_ok (α := MV) hs x1 s1 xr rfl with e2 | ⟨S2, e2, a1, a2, a3⟩
      · simp only [e2] at hp; exact hp.elim
      · simp only [e2] at hp; exact hp ι H1 cls d a1 a2 a3
/-- THE RULE for a def: its body is the mirror's -/
theorem def_ok {x qual : Str} {st : Stmt} {f : Addr} {fd : FuncData} {N ps : List Str} {k n m : Nat} {b : MSt} {g : List MV → Sto → Res MV} (F : Fun K x qual st f fd) (Sc : FnScope N ps (defScope st)) (hg : g = mDef n b ∨ g = mDefR n b)
    (hb : ∀ (cdv : Value) (A : Around) (outer : List PySem.Env) (s : Shared) (H : Hp) (E : XK) (E₁ : Value → Shared → Prop) (X : Cx), X = cxOf (L2.CX P w) P w K mg base N qual (defScope st) f cdv A outer s H E → Room k X.A →
      PSs X (defBody st) (tMS C (fun cls d _ H' => E cls d H') b)) (hn : N.length = n := by rfl) (hm : ps.length = m := by rfl) :
    FnOk P w K mg base (L2.CX P w) (k + 1) f fd ps (spM C m g) :=
  F.okX Sc (fun vs H Q E h => h.1.trans hm.symm) fun cdv A outer s H vs Q E hr h => ⟨_, hb cdv A outer s H E (fun _ _ => False) _ rfl hr, def_core hn hg h⟩
end

/-- what a body's context is: for the rules below -/
structure Bx (C : Ct) (W : WX) (k : Nat) (X : Cx) : Prop where
  hK : X.K = C.K
  calm : X.calm = true
  tk : Takes X W
  room : Room k X.A
  own : PassesOwn (model X.prog X.w) X.A X.env X.xe
theorem bx_of {C : Ct} {P : Program} {w : World} {K : PySem.W.Frag} {mg : Str → Option Value} {base : Heap} {N : List Str} {qual : Str} {sc : Scope} {f : Addr} {cdv : Value} {A : Around} {outer : List PySem.Env} {s : Shared} {H : Hp} {E : XK} {k : Nat} {X : Cx}
    (hX : X = cxOf (L2.CX P w) P w K mg base N qual sc f cdv A outer s H E) (hK : K = C.K) (hr : Room k X.A) : Bx C (fun cls d _ H' => E cls d H') k X := by
  subst hX
  exact ⟨hK, rfl, takes_of rfl rfl rfl (E₁ := fun e' s'' => L2.CX P w outer H s E e' s'') rfl, hr, passes_of rfl⟩

/-! ### calls -/
section
variable {X : Cx} {C : Ct} {W : WX} {CX : CXT} {k j n : Nat} {f cl : Addr} {fd : FuncData} {ps : List Str} {sp : Sp} {dvs : List V} {ds : List Value} {E : L2.St → XK} {x m : Str} {p pos apos : Pos} {e o : Expr} {es : List Expr} {ta : TE} {t : TA}
theorem run_fnD {pins : List (Addr × Obj)} {σ : L2.St} {H : Hp} {s : Shared} {Q : VK} {us : List Value} {vs : List V} (F : FnOk X.prog X.w X.K X.mg X.base CX k f fd ps sp) (hr : Room k X.A) (hb : Binds X.K fd ps ds) (hd : Vals dvs ds) (hx : PassesAt CX X σ (E σ))
    (I : Inv X pins σ H s) (r : Vals vs us) (h : sp (vs ++ dvs) H Q (E σ)) : wpAny (model X.prog X.w) X.A (call (.ref f) us) (EP X pins σ Q) X.xe s := by
  have r2 : Vals (vs ++ dvs) (us ++ ds) := r.append hd
  have hl : (us ++ ds).length = ps.length := by rw [← r2.length]; exact F.len _ _ _ _ h
  refine wpAny_call (codeAny_mono (F.run X.A X.stack s H ⟨us, []⟩ (us ++ ds) (vs ++ dvs) Q (E σ) hr I.env0 (hb s us I.kIn hl) r2 h) fun r s' hq => ?_)
  cases r with
  | error e => exact hx pins H s e s' I hq
  | ok fl =>
    cases fl with
    | ret u => exact I.after hq
    | next => exact False.elim hq
    | brk => exact False.elim hq
    | cont => exact False.elim hq
def tCallD (sp : Sp) (dvs : List V) (E : L2.St → XK) (t : TA) : TE := fun σ H Q => t σ H fun vs H1 => sp (vs ++ dvs) H1 Q (E σ)
theorem pe_callD (F : FnOk X.prog X.w X.K X.mg X.base CX k f fd ps sp) (hr : Room k X.A) (hg : Gl X x) (hm : X.mg x = some (.ref f)) (hk : PySem.W.keepIn X.K (.ref f) = true) (hb : Binds X.K fd ps ds) (hd : Vals dvs ds) (hx : ∀ σ, PassesAt CX X σ (E σ))
    (ha : PA X (e :: es) t) (hdb : (x == ("__debug__" : Str)) = false := by decide) (he : starEach (e :: es) X.env = (false, eval e X.env) :: starEach es X.env := by rfl) (hpl : (backTo pos (starEach es X.env)).any (·.1) = false := by rfl) :
    PE X (.Call (.Name x p) (e :: es) [] pos) (tCallD sp dvs E t) := by
  refine ⟨fun pins s σ H Q I h => ?_⟩
  refine wpAny_Call_Name_kw (ld_glob I hg hm ?_ hdb)
  refine PySem.W.callWith_K (h₀ := X.base) I.ok.mod.kin hk (thn (ha.run pos pins s σ H _ I h) fun us s1 ⟨vs, H1, I1, r, q⟩ => ⟨I1.kIn, ?_⟩) he hpl
  exact run_fnD F hr hb hd (hx σ) I1 r q
theorem pe_callD0 (F : FnOk X.prog X.w X.K X.mg X.base CX k f fd ps sp) (hr : Room k X.A) (hg : Gl X x) (hm : X.mg x = some (.ref f)) (hk : PySem.W.keepIn X.K (.ref f) = true) (hb : Binds X.K fd ps ds) (hd : Vals dvs ds) (hx : ∀ σ, PassesAt CX X σ (E σ))
    (hdb : (x == ("__debug__" : Str)) = false := by decide) : PE X (.Call (.Name x p) [] [] pos) (tCallD sp dvs E tNil) := by
  refine ⟨fun pins s σ H Q I h => ?_⟩
  refine wpAny_Call_Name_kw (ld_glob I hg hm ?_ hdb)
  exact PySem.W.callWith_K0 I.kIn hk (run_fnD (us := []) F hr hb hd (hx σ) I .nil h)
/-- a def's call: ms the defaults that fill up -/
def mCall (n : Nat) (g : List MV → Sto → Res MV) (ms : List MV) (as : MA) : ME := fun env S => (as env S).bind fun vs S1 => if (vs ++ ms).length = n then g (vs ++ ms) S1 else .bad
/-- constants of the mirror -/
inductive CstR : List MV → List V → Prop where
  | nil : CstR [] []
  | non {ms vs} : CstR ms vs → CstR (.non :: ms) (.non :: vs)
  | int {i ms vs} : CstR ms vs → CstR (.int i :: ms) (.int i :: vs)
  | bl {i ms vs} : CstR ms vs → CstR (.bl i :: ms) (.bl i :: vs)
theorem CstR.vrs {ms : List MV} {vs : List V} (h : CstR ms vs) : ∀ {ι H}, VRs C ι H ms vs := by
  induction h with
  | nil => intro ι H; simp only [VRs]
  | non _ ih => intro ι H; simp only [VRs, VR]; exact ⟨_, _, rfl, rfl, ih⟩
  | int _ ih => intro ι H; simp only [VRs, VR]; exact ⟨_, _, rfl, rfl, ih⟩
  | bl _ ih => intro ι H; simp only [VRs, VR]; exact ⟨_, _, rfl, rfl, ih⟩
theorem VRs.append {ι : Io} {H : Hp} : ∀ {xs ys : List MV} {vs ws : List V}, VRs C ι H xs vs → VRs C ι H ys ws → VRs C ι H (xs ++ ys) (vs ++ ws)
  | [], ys, vs, ws, h, h2 => by simp only [VRs] at h; subst h; exact h2
  | x :: r, ys, vs, ws, h, h2 => by
    simp only [VRs] at h
    obtain ⟨v, w, rfl, h1, h3⟩ := h
    simp only [List.cons_append, VRs]
    exact ⟨v, w ++ ws, rfl, h1, VRs.append h3 h2⟩
theorem spM_of {g : List MV → Sto → Res MV} {ι : Io} {S : Sto} {H : Hp} {σ : L2.St} {vs : List MV} {us : List V} {Q : VK} (hs : StR C ι S H) (hr : VRs C ι H vs us) (hp : Post C W (VR C) ι σ H (if vs.length = n then g vs S else .bad) Q) : spM C n g us H Q (WE W σ) := by
  split at hp
  · rename_i hl
    refine ⟨by rw [hr.len]; exact hl, ι, S, vs, hs, hr, ?_⟩
    cases e : g vs S with
    | ok v S1 => rw [e] at hp; exact hp
    | ex v S1 => rw [e] at hp; exact hp
    | bad => rw [e] at hp; exact hp
  · exact hp.elim
theorem je_call {ms : List MV} {g : List MV → Sto → Res MV} {as : MA} (B : Bx C W j X) (F : FnOk X.prog X.w X.K X.mg X.base (L2.CX X.prog X.w) k f fd ps (spM C n g)) (hm : X.mg x = some (.ref f)) (hk : PySem.W.keepIn X.K (.ref f) = true) (hb : Binds X.K fd ps ds) (hd : Vals dvs ds) (hc : CstR ms dvs)
    (ha : PA X (e :: es) (tMA C W as)) (hkj : k ≤ j := by decide) (hg : Gl X x := by rfl) (hdb : (x == ("__debug__" : Str)) = false := by decide) (he : starEach (e :: es) X.env = (false, eval e X.env) :: starEach es X.env := by rfl) (hpl : (backTo pos (starEach es X.env)).any (·.1) = false := by rfl) :
    PE X (.Call (.Name x p) (e :: es) [] pos) (tM C W (mCall n g ms as)) :=
  peImp (pe_callD F (B.room.mono hkj) hg hm hk hb hd (fun σ => passAt B.tk σ) ha hdb he hpl) fun σ H Q h => by
    obtain ⟨ι, env, S, he, hs, hp⟩ := h
    refine ⟨ι, env, S, he, hs, Post.bind hp fun x S1 ι1 H1 v e1 s1 q1 p1 => ?_⟩
    exact spM_of s1 (q1.append hc.vrs) p1
theorem je_call0 {ms : List MV} {g : List MV → Sto → Res MV} (B : Bx C W j X) (F : FnOk X.prog X.w X.K X.mg X.base (L2.CX X.prog X.w) k f fd ps (spM C n g)) (hm : X.mg x = some (.ref f)) (hk : PySem.W.keepIn X.K (.ref f) = true) (hb : Binds X.K fd ps ds) (hd : Vals dvs ds) (hc : CstR ms dvs)
    (hkj : k ≤ j := by decide) (hg : Gl X x := by rfl) (hdb : (x == ("__debug__" : Str)) = false := by decide) :
    PE X (.Call (.Name x p) [] [] pos) (tM C W (mCall n g ms mNil)) :=
  peImp (pe_callD0 F (B.room.mono hkj) hg hm hk hb hd (fun σ => passAt B.tk σ) hdb) fun σ H Q h => by
    obtain ⟨ι, env, S, he, hs, hp⟩ := h
    exact spM_of hs hc.vrs hp

/-! ### methods of own classes -/
def tMethD (C : Addr) (m : Str) (sp : Sp) (dvs : List V) (E : L2.St → XK) (ta : TE) (t : TA) : TE := fun σ H Q => ta σ H fun x H1 => ∃ a dx fs, x = .ref a ∧ H1 a = some (.ins C dx fs) ∧ fs.lookup m = none ∧
  t σ H1 fun vs H2 => sp (x :: (vs ++ dvs)) H2 Q (E σ)
theorem pe_methD {pl : Sem Bool} (he : PE X o ta) (c : Cls X.K cl) (hm : Meth X.K cl m f) (F : FnOk X.prog X.w X.K X.mg X.base CX k f fd ps sp) (hr : Room k X.A) (hb : Binds X.K fd ps ds) (hd : Vals dvs ds) (hx : ∀ σ, PassesAt CX X σ (E σ)) (ha : PA X (e :: es) t)
    (hst : starEach (e :: es) X.env = (false, eval e X.env) :: starEach es X.env := by rfl) (hpl : (backTo pos (starEach es X.env)).any (·.1) = false := by rfl)
    (ht : eval (.Call (.Attribute o m apos) (e :: es) [] pos) X.env = (do
      let ov ← eval o X.env
      standAt apos.atName
      let (f, first) ← holding [ov] (getMethod ov m pl)
      callWith pos f first (backTo pos (starEach (e :: es) X.env)) (backToKw pos (keywordEach [] X.env))) := by rfl) :
    PE X (.Call (.Attribute o m apos) (e :: es) [] pos) (tMethD cl m sp dvs E ta t) := by
  refine ⟨fun pins s σ H Q I h => ?_⟩
  refine PySem.W.methodCall_KW (pl := pl) (thn (he.run pins s σ H _ I h) fun u s1 ⟨x, H1, I1, rx, a, dx, fs, ex, ea, l, q⟩ => ?_) ht
  subst ex
  obtain rfl : u = Value.ref a := rx
  refine getmeth_ok I1 ea c hm l ?_
  refine PySem.W.callWith_K (first := [.ref a]) (h₀ := X.base) I.ok.mod.kin hm.kp (thn (ha.run pos pins s1 σ H1 _ I1 q) fun us s2 ⟨vs, H2, I2, r, q2⟩ => ⟨I2.kIn, ?_⟩) hst hpl
  exact run_fnD (us := .ref a :: us) (vs := .ref a :: vs) F hr hb hd (hx σ) I2 (.cons rfl r) q2
theorem pe_methD0 {pl : Sem Bool} (he : PE X o ta) (c : Cls X.K cl) (hm : Meth X.K cl m f) (F : FnOk X.prog X.w X.K X.mg X.base CX k f fd ps sp) (hr : Room k X.A) (hb : Binds X.K fd ps ds) (hd : Vals dvs ds) (hx : ∀ σ, PassesAt CX X σ (E σ))
    (ht : eval (.Call (.Attribute o m apos) [] [] pos) X.env = (do
      let ov ← eval o X.env
      standAt apos.atName
      let (f, first) ← holding [ov] (getMethod ov m pl)
      callWith pos f first (backTo pos (starEach [] X.env)) (backToKw pos (keywordEach [] X.env))) := by rfl) :
    PE X (.Call (.Attribute o m apos) [] [] pos) (tMethD cl m sp dvs E ta tNil) := by
  refine ⟨fun pins s σ H Q I h => ?_⟩
  refine PySem.W.methodCall_KW (pl := pl) (thn (he.run pins s σ H _ I h) fun u s1 ⟨x, H1, I1, rx, a, dx, fs, ex, ea, l, q⟩ => ?_) ht
  subst ex
  obtain rfl : u = Value.ref a := rx
  refine getmeth_ok I1 ea c hm l ?_
  exact PySem.W.callWith_K0 (first := [.ref a]) I1.kIn hm.kp (run_fnD (us := [.ref a]) (vs := [.ref a]) F hr hb hd (hx σ) I1 (.cons rfl .nil) q)
/-- the attributes of an instance, by its class -/
def insOf (S : Sto) : MV → Option (Nat × List (Str × MV))
  | .ins c fs => some (c, fs)
  | .ref l => match S[l]? with
    | some (.ins c fs) => some (c, fs)
    | _ => none
  | _ => none
theorem insOf_ok {ι : Io} {S : Sto} {H : Hp} {x : MV} {v : V} {c : Nat} {fs : List (Str × MV)} (s : StR C ι S H) (r : VR C ι H x v) (h : insOf S x = some (c, fs)) : ∃ a dx fx, v = .ref a ∧ H a = some (.ins (C.cA c) dx fx) ∧ FRs C ι H fs fx := by
  cases x with
  | ins c' fs' =>
    simp only [insOf, Option.some.injEq, Prod.mk.injEq] at h
    obtain ⟨rfl, rfl⟩ := h
    simp only [VR] at r
    obtain ⟨a, dx, fx, rfl, _, h1, h2⟩ := r
    exact ⟨a, dx, fx, rfl, h1, h2⟩
  | ref l =>
    simp only [insOf] at h
    simp only [VR] at r
    obtain ⟨a, rfl, hl⟩ := r
    split at h
    · rename_i c' fs' e
      simp only [Option.some.injEq, Prod.mk.injEq] at h
      obtain ⟨rfl, rfl⟩ := h
      obtain ⟨dx, fx, h1, h2⟩ := s.ob l _ a e hl
      exact ⟨a, dx, fx, rfl, h1, h2⟩
    · cases h
  | _ => cases h
theorem FRs.look {ι : Io} {H : Hp} (f : Str) : ∀ {fs : List (Str × MV)} {fx : List (Str × V)}, FRs C ι H fs fx → (fs.lookup f = none → fx.lookup f = none) ∧ ∀ x, fs.lookup f = some x → ∃ v, fx.lookup f = some v ∧ VR C ι H x v
  | [], fx, h => by simp only [FRs] at h; subst h; exact ⟨fun _ => rfl, fun x h => by cases h⟩
  | (g, y) :: r, fx, h => by
    simp only [FRs] at h
    obtain ⟨q, w, rfl, h1, h2⟩ := h
    obtain ⟨qn, qv⟩ := q
    simp only [FR] at h1
    obtain ⟨rfl, h1⟩ := h1
    obtain ⟨i1, i2⟩ := FRs.look f h2
    cases hb : f == qn with
    | true =>
      simp only [List.lookup_cons, hb]
      exact ⟨fun z => (by cases z), fun x hx => by cases hx; exact ⟨qv, rfl, h1⟩⟩
    | false =>
      simp only [List.lookup_cons, hb]
      exact ⟨i1, i2⟩
def mMeth (c n : Nat) (m : Str) (g : List MV → Sto → Res MV) (ms : List MV) (o : ME) (as : MA) : ME := fun env S => (o env S).bind fun x S1 => match insOf S1 x with
  | some (c', fs) => if c' = c ∧ fs.lookup m = none then (as env S1).bind fun vs S2 => if (x :: (vs ++ ms)).length = n then g (x :: (vs ++ ms)) S2 else .bad else .bad
  | none => .bad
theorem meth_imp {c : Nat} {ms : List MV} {g : List MV → Sto → Res MV} {mo : ME} {as : MA} {σ : L2.St} {H : Hp} {Q : VK} (hcl : C.cA c = cl) (hc : CstR ms dvs) (h : tM C W (mMeth c n m g ms mo as) σ H Q) : tMethD cl m (spM C n g) dvs (WE W) (tM C W mo) (tMA C W as) σ H Q := by
  obtain ⟨ι, env, S, he, hs, hp⟩ := h
  refine ⟨ι, env, S, he, hs, Post.bind hp fun x S1 ι1 H1 v e1 s1 q1 p1 => ?_⟩
  split at p1
  · rename_i c' fs hi
    split at p1
    · rename_i hh
      obtain ⟨rfl, hl⟩ := hh
      obtain ⟨a, dx, fx, rfl, h1, h2⟩ := insOf_ok s1 q1 hi
      rw [hcl] at h1
      refine ⟨a, dx, fx, rfl, h1, (h2.look m).1 hl, ι1, env, S1, he.mono e1, s1, Post.bind p1 fun vs S2 ι2 H2 us e2 s2 q2 p2 => ?_⟩
      refine spM_of s2 ?_ p2
      simp only [VRs]
      exact ⟨_, _, rfl, q1.mono e2, q2.append hc.vrs⟩
    · exact p1.elim
  · exact p1.elim
theorem je_meth {pl : Sem Bool} {c : Nat} {ms : List MV} {g : List MV → Sto → Res MV} {mo : ME} {as : MA} (B : Bx C W j X) (hcl : C.cA c = cl) (ho : PE X o (tM C W mo)) (hc : Cls X.K cl) (hm : Meth X.K cl m f) (F : FnOk X.prog X.w X.K X.mg X.base (L2.CX X.prog X.w) k f fd ps (spM C n g)) (hb : Binds X.K fd ps ds) (hd : Vals dvs ds) (hcs : CstR ms dvs) (ha : PA X (e :: es) (tMA C W as))
    (hkj : k ≤ j := by decide) (hst : starEach (e :: es) X.env = (false, eval e X.env) :: starEach es X.env := by rfl) (hpl : (backTo pos (starEach es X.env)).any (·.1) = false := by rfl)
    (ht : eval (.Call (.Attribute o m apos) (e :: es) [] pos) X.env = (do
      let ov ← eval o X.env
      standAt apos.atName
      let (f, first) ← holding [ov] (getMethod ov m pl)
      callWith pos f first (backTo pos (starEach (e :: es) X.env)) (backToKw pos (keywordEach [] X.env))) := by rfl) :
    PE X (.Call (.Attribute o m apos) (e :: es) [] pos) (tM C W (mMeth c n m g ms mo as)) :=
  peImp (pe_methD ho hc hm F (B.room.mono hkj) hb hd (fun σ => passAt B.tk σ) ha hst hpl ht) fun σ H Q h => meth_imp hcl hcs h
theorem je_meth0 {pl : Sem Bool} {c : Nat} {ms : List MV} {g : List MV → Sto → Res MV} {mo : ME} (B : Bx C W j X) (hcl : C.cA c = cl) (ho : PE X o (tM C W mo)) (hc : Cls X.K cl) (hm : Meth X.K cl m f) (F : FnOk X.prog X.w X.K X.mg X.base (L2.CX X.prog X.w) k f fd ps (spM C n g)) (hb : Binds X.K fd ps ds) (hd : Vals dvs ds) (hcs : CstR ms dvs)
    (hkj : k ≤ j := by decide)
    (ht : eval (.Call (.Attribute o m apos) [] [] pos) X.env = (do
      let ov ← eval o X.env
      standAt apos.atName
      let (f, first) ← holding [ov] (getMethod ov m pl)
      callWith pos f first (backTo pos (starEach [] X.env)) (backToKw pos (keywordEach [] X.env))) := by rfl) :
    PE X (.Call (.Attribute o m apos) [] [] pos) (tM C W (mMeth c n m g ms mo mNil)) :=
  peImp (pe_methD0 ho hc hm F (B.room.mono hkj) hb hd (fun σ => passAt B.tk σ) ht) fun σ H Q h => by
    have q := meth_imp hcl hcs h
    obtain ⟨ι, env, S, he, hs, hp⟩ := q
    refine ⟨ι, env, S, he, hs, ?_⟩
    cases e : mo env S with
    | ok x S1 =>
      rw [e] at hp
      intro ι1 H1 v e1 s1 r1
      obtain ⟨a, dx, fs, h1, h2, h3, ι2, env2, S2, he2, hs2, hp2⟩ := hp ι1 H1 v e1 s1 r1
      exact ⟨a, dx, fs, h1, h2, h3, hp2 ι2 H1 [] .refl hs2 (by simp only [VRs])⟩
    | ex x S1 => rw [e] at hp; exact hp
    | bad => rw [e] at hp; exact hp
/-- o.f -/
def mFld (c : Nat) (f : Str) (o : ME) : ME := fun env S => (o env S).bind fun x S1 => match insOf S1 x with
  | some (c', fs) => if c' = c then (match fs.lookup f with
    | some v => .ok v S1
    | none => .bad) else .bad
  | none => .bad
theorem je_fld {c : Nat} {fl : Str} {mo : ME} (hcl : C.cA c = cl) (ho : PE X o (tM C W mo)) (hc : Cls X.K cl) (hn : NoAttr X.K cl fl) (hb : attributeBase o fl X.env (eval o X.env) = eval o X.env := by rfl) : PE X (.Attribute o fl pos) (tM C W (mFld c fl mo)) :=
  peImp (pe_fld ho hb) fun σ H Q h => by
    obtain ⟨ι, env, S, he, hs, hp⟩ := h
    refine ⟨ι, env, S, he, hs, Post.bind hp fun x S1 ι1 H1 v e1 s1 q1 p1 => ?_⟩
    split at p1
    · rename_i c' fs hi
      split at p1
      · rename_i hh
        subst hh
        obtain ⟨a, dx, fx, rfl, h1, h2⟩ := insOf_ok s1 q1 hi
        split at p1
        · rename_i y hy
          obtain ⟨u, h3, h4⟩ := (h2.look fl).2 y hy
          rw [hcl] at h1
          exact ⟨a, cl, dx, fx, u, rfl, h1, hc, hn, h3, p1 ι1 H1 u .refl s1 h4⟩
        · exact p1.elim
      · exact p1.elim
    · exact p1.elim
/-- o.f = e -/
def putM (f : Str) (v : MV) : List (Str × MV) → List (Str × MV)
  | [] => [(f, v)]
  | p :: r => if p.1 = f then (f, v) :: r else p :: putM f v r
theorem FRs.put {ι : Io} {H : Hp} {f : Str} {y : MV} {v : V} (r : VR C ι H y v) : ∀ {fs : List (Str × MV)} {fx : List (Str × V)}, FRs C ι H fs fx → FRs C ι H (putM f y fs) (putF f v fx)
  | [], fx, h => by simp only [FRs] at h; subst h; simp only [putM, putF, FRs, FR]; exact ⟨_, _, rfl, ⟨rfl, r⟩, rfl⟩
  | (g, z) :: fr, fx, h => by
    simp only [FRs] at h
    obtain ⟨q, w, rfl, h1, h2⟩ := h
    obtain ⟨qn, qv⟩ := q
    simp only [FR] at h1
    obtain ⟨rfl, h1⟩ := h1
    simp only [putM, putF]
    by_cases e : qn = f
    · subst e
      rw [if_pos rfl, if_pos rfl]
      simp only [FRs, FR]
      exact ⟨_, _, rfl, ⟨rfl, r⟩, h2⟩
    · rw [if_neg e, if_neg e]
      simp only [FRs, FR]
      exact ⟨_, _, rfl, ⟨rfl, h1⟩, FRs.put r h2⟩
theorem FRs.len {ι : Io} {H : Hp} : ∀ {xs : List (Str × MV)} {vs : List (Str × V)}, FRs C ι H xs vs → vs.length = xs.length
  | [], _, h => by simp only [FRs] at h; rw [h]; rfl
  | x :: r, _, h => by
    simp only [FRs] at h
    obtain ⟨v, w, e, _, h2⟩ := h
    rw [e, List.length_cons, List.length_cons, FRs.len h2]
def sFldM (c : Nat) (f : Str) (o m : ME) : MSt := fun env S => sBind (m env S) env fun y S1 => sBind (o env S1) env fun x S2 => match x with
  | .ref l => match S2[l]? with
    | some (.ins c' fs) => if c' = c ∧ fs.length < 1000 then .nx env (S2.set l (.ins c (putM f y fs))) else .bad
    | _ => .bad
  | _ => .bad
theorem js_fld {c : Nat} {fl : Str} {pos' : Pos} {mo m : ME} (hcl : C.cA c = cl) (ho : PE X o (tM C W mo)) (hc : Cls X.K cl) (hn : NoAttr X.K cl fl) (hv : PE X e (tM C W m)) (hs : swapsWith e (some (.Attribute o fl pos')) pos.line X.env = pure false := by rfl) : PS X (.Assign [.Attribute o fl pos'] e pos) (tMS C W (sFldM c fl mo m)) :=
  psImp (ps_fld ho hv hs) fun D σ H h => by
    obtain ⟨ι, env, S, he, hs, hp⟩ := h
    refine ⟨ι, env, S, he, hs, SPost.bind he hp fun y S1 ι1 H1 u e1 s1 q1 p1 => ?_⟩
    refine ⟨ι1, env, S1, he.mono e1, s1, SPost.bind (he.mono e1) p1 fun x S2 ι2 H2 v e2 s2 q2 p2 => ?_⟩
    split at p2
    · rename_i l
      split at p2
      · rename_i c' fs e3
        split at p2
        · rename_i hh
          obtain ⟨rfl, hl⟩ := hh
          simp only [VR] at q2
          obtain ⟨a, rfl, ha⟩ := q2
          obtain ⟨dx, fx, h1, h2⟩ := s2.ob l _ a e3 ha
          rw [hcl] at h1
          have ex : Ext ι2 H2 ι2 (upd H2 a (.ins cl dx (putF fl u fx))) := Ext.set ha
          refine ⟨a, cl, dx, fx, rfl, h1, hc, hn, by rw [h2.len]; exact hl, ?_⟩
          refine p2 ι2 _ σ ex (s2.set ha ⟨dx, _, by rw [upd_same, hcl], ?_⟩) (((he.mono e1).mono e2).mono ex)
          exact FRs.mono ex _ _ (FRs.put (q1.mono e2) h2)
        · exact p2.elim
      · exact p2.elim
    · exact p2.elim
end
end Mi

namespace Mi
open PySem L2

/-! ### lists and tuples read -/
def asL (S : Sto) : MV → Option (List MV)
  | .lst xs => some xs
  | .rol xs => some xs
  | .ref l => match S[l]? with
    | some (.lst xs) => some xs
    | _ => none
  | _ => none
/-- .. that may be an operand of + and * -/
def asH (S : Sto) : MV → Option (List MV)
  | .lst xs => some xs
  | .ref l => match S[l]? with
    | some (.lst xs) => some xs
    | _ => none
  | _ => none
def asU : MV → Option (List MV)
  | .tup xs => some xs
  | _ => none
section
variable {C : Ct} {ι : Io} {S : Sto} {H : Hp}
theorem asL_ok {x : MV} {v : V} {xs : List MV} (s : StR C ι S H) (r : VR C ι H x v) (h : asL S x = some xs) : ∃ a vs, v = .ref a ∧ SqL C.K H a vs ∧ VRs C ι H xs vs := by
  cases x with
  | lst ys =>
    simp only [asL, Option.some.injEq] at h; subst h
    simp only [VR] at r
    obtain ⟨a, vs, rfl, h0, h1, h2⟩ := r
    exact ⟨a, vs, rfl, SqL.of h1, h2⟩
  | rol ys =>
    simp only [asL, Option.some.injEq] at h; subst h
    simp only [VR] at r
    obtain ⟨a, vs, rfl, h1, h2⟩ := r
    exact ⟨a, vs, rfl, h1.sq, h2⟩
  | ref l =>
    simp only [asL] at h
    split at h
    · rename_i ys e
      simp only [Option.some.injEq] at h; subst h
      simp only [VR] at r
      obtain ⟨a, rfl, hl⟩ := r
      obtain ⟨vs, h1, h2⟩ := s.ob l _ a e hl
      exact ⟨a, vs, rfl, SqL.of h1, h2⟩
    · cases h
  | _ => cases h
theorem asH_ok {x : MV} {v : V} {xs : List MV} (s : StR C ι S H) (r : VR C ι H x v) (h : asH S x = some xs) : ∃ a vs, v = .ref a ∧ H a = some (.lst vs) ∧ VRs C ι H xs vs := by
  cases x with
  | lst ys =>
    simp only [asH, Option.some.injEq] at h; subst h
    simp only [VR] at r
    obtain ⟨a, vs, rfl, h0, h1, h2⟩ := r
    exact ⟨a, vs, rfl, h1, h2⟩
  | ref l =>
    simp only [asH] at h
    split at h
    · rename_i ys e
      simp only [Option.some.injEq] at h; subst h
      simp only [VR] at r
      obtain ⟨a, rfl, hl⟩ := r
      obtain ⟨vs, h1, h2⟩ := s.ob l _ a e hl
      exact ⟨a, vs, rfl, h1, h2⟩
    · cases h
  | _ => cases h
theorem asU_ok {x : MV} {v : V} {xs : List MV} (r : VR C ι H x v) (h : asU x = some xs) : ∃ a vs, v = .ref a ∧ FT C ι H a vs ∧ VRs C ι H xs vs := by
  cases x with
  | tup ys =>
    simp only [asU, Option.some.injEq] at h; subst h
    simp only [VR] at r
    obtain ⟨a, vs, rfl, h1, h2⟩ := r
    exact ⟨a, vs, rfl, h1, h2⟩
  | _ => cases h
theorem VRs.at {ι : Io} {H : Hp} : ∀ {xs : List MV} {vs : List V} {i : Nat} {x : MV}, VRs C ι H xs vs → xs[i]? = some x → ∃ v, vs[i]? = some v ∧ VR C ι H x v
  | [], _, i, x, _, h => by simp at h
  | y :: r, _, i, x, q, h => by
    simp only [VRs] at q
    obtain ⟨v, w, rfl, h1, h2⟩ := q
    cases i with
    | zero => simp at h; subst h; exact ⟨v, rfl, h1⟩
    | succ i =>
      obtain ⟨u, e1, e2⟩ := VRs.at h2 (i := i) (x := x) (by simpa using h)
      exact ⟨u, by simpa using e1, e2⟩
theorem VRs.at' {ι : Io} {H : Hp} : ∀ {xs : List MV} {vs : List V} {i : Nat} {v : V}, VRs C ι H xs vs → vs[i]? = some v → ∃ x, xs[i]? = some x ∧ VR C ι H x v
  | [], _, i, x, q, h => by simp only [VRs] at q; subst q; simp at h
  | y :: r, _, i, x, q, h => by
    simp only [VRs] at q
    obtain ⟨v, w, rfl, h1, h2⟩ := q
    cases i with
    | zero => simp at h; subst h; exact ⟨y, rfl, h1⟩
    | succ i =>
      obtain ⟨u, e1, e2⟩ := VRs.at' h2 (i := i) (v := x) (by simpa using h)
      exact ⟨u, by simpa using e1, e2⟩
theorem VRs.take {ι : Io} {H : Hp} (n : Nat) : ∀ {xs : List MV} {vs : List V}, VRs C ι H xs vs → VRs C ι H (xs.take n) (vs.take n) := by
  induction n with
  | zero => intro xs vs h; simp only [List.take_zero, VRs]
  | succ n ih =>
    intro xs vs h
    cases xs with
    | nil => simp only [VRs] at h; subst h; simp only [List.take_nil, VRs]
    | cons x r =>
      simp only [VRs] at h
      obtain ⟨v, w, rfl, h1, h2⟩ := h
      simp only [List.take_succ_cons, VRs]
      exact ⟨v, _, rfl, h1, ih h2⟩
theorem VRs.drop {ι : Io} {H : Hp} (n : Nat) : ∀ {xs : List MV} {vs : List V}, VRs C ι H xs vs → VRs C ι H (xs.drop n) (vs.drop n) := by
  induction n with
  | zero => intro xs vs h; exact h
  | succ n ih =>
    intro xs vs h
    cases xs with
    | nil => simp only [VRs] at h; subst h; simp only [List.drop_nil, VRs]
    | cons x r =>
      simp only [VRs] at h
      obtain ⟨v, w, rfl, h1, h2⟩ := h
      simp only [List.drop_succ_cons]
      exact ih h2
theorem VRs.set {ι : Io} {H : Hp} {y : MV} {u : V} (r : VR C ι H y u) : ∀ {xs : List MV} {vs : List V} (i : Nat), VRs C ι H xs vs → VRs C ι H (xs.set i y) (vs.set i u)
  | [], _, i, h => by simp only [VRs] at h; subst h; simp only [List.set_nil, VRs]
  | x :: xr, _, 0, h => by
    simp only [VRs] at h
    obtain ⟨v, w, rfl, h1, h2⟩ := h
    simp only [List.set_cons_zero, VRs]
    exact ⟨u, w, rfl, r, h2⟩
  | x :: xr, _, i + 1, h => by
    simp only [VRs] at h
    obtain ⟨v, w, rfl, h1, h2⟩ := h
    simp only [List.set_cons_succ, VRs]
    exact ⟨v, _, rfl, h1, VRs.set r i h2⟩
theorem VRs.erase {ι : Io} {H : Hp} : ∀ {xs : List MV} {vs : List V} (i : Nat), VRs C ι H xs vs → VRs C ι H (xs.eraseIdx i) (vs.eraseIdx i)
  | [], _, i, h => by simp only [VRs] at h; subst h; simp only [List.eraseIdx_nil, VRs]
  | x :: xr, _, 0, h => by
    simp only [VRs] at h
    obtain ⟨v, w, rfl, h1, h2⟩ := h
    simp only [List.eraseIdx_zero, List.tail_cons]
    exact h2
  | x :: xr, _, i + 1, h => by
    simp only [VRs] at h
    obtain ⟨v, w, rfl, h1, h2⟩ := h
    simp only [List.eraseIdx_cons_succ, VRs]
    exact ⟨v, _, rfl, h1, VRs.erase i h2⟩
theorem VRs.rev {ι : Io} {H : Hp} : ∀ {xs : List MV} {vs : List V}, VRs C ι H xs vs → VRs C ι H xs.reverse vs.reverse
  | [], _, h => by simp only [VRs] at h; subst h; simp only [List.reverse_nil, VRs]
  | x :: xr, _, h => by
    simp only [VRs] at h
    obtain ⟨v, w, rfl, h1, h2⟩ := h
    rw [List.reverse_cons, List.reverse_cons]
    exact (VRs.rev h2).append (by simp only [VRs]; exact ⟨v, [], rfl, h1, rfl⟩)
end

/-! ### == -/
def flat : MV → Bool
  | .non => true
  | .bl _ => true
  | .int _ => true
  | .str _ => true
  | _ => false
def eqF : MV → MV → Bool
  | .non, .non => true
  | .bl a, .bl b => a == b
  | .bl a, .int b => (if a then 1 else 0) == b
  | .int a, .bl b => a == (if b then 1 else 0)
  | .int a, .int b => a == b
  | .str a, .str b => a == b
  | _, _ => false
/-- all pairs from the left, as far as both go -/
def all2 (f : MV → MV → Option Bool) : List MV → List MV → Option Bool
  | x :: xs, y :: ys => match f x y, all2 f xs ys with
    | some a, some b => some (a && b)
    | _, _ => none
  | _, _ => some true
def deq : Nat → MV → MV → Option Bool
  | 0, x, y => if flat x && flat y then some (eqF x y) else none
  | d + 1, x, y => if flat x && flat y then some (eqF x y) else match x, y with
    | .tup xs, .tup ys => (all2 (deq d) xs ys).map fun b => b && xs.length == ys.length
    | .lst xs, .lst ys => if xs.length = ys.length then all2 (deq d) xs ys else some false
    | .tup _, .lst _ => some false
    | .lst _, .tup _ => some false
    | .tup _, y => if flat y then some false else none
    | .lst _, y => if flat y then some false else none
    | x, .tup _ => if flat x then some false else none
    | x, .lst _ => if flat x then some false else none
    | _, _ => none
/-- what a value looks like to a reader: a list's place, or its name, forgotten -/
def view (S : Sto) : MV → MV
  | .rol xs => .lst xs
  | .ref l => match S[l]? with
    | some (.lst xs) => .lst xs
    | _ => .ref l
  | x => x
def VW (C : Ct) (ι : Io) (H : Hp) (x : MV) (v : V) : Prop := match x with
  | .lst xs => ∃ a vs, v = .ref a ∧ SqL C.K H a vs ∧ VRs C ι H xs vs
  | .tup xs => ∃ a vs, v = .ref a ∧ SqT C.K H a vs ∧ VRs C ι H xs vs
  | x => flat x = true → VR C ι H x v
section
variable {C : Ct} {ι : Io} {S : Sto} {H : Hp}
theorem VR.vw {x : MV} {v : V} (h : VR C ι H x v) : VW C ι H x v := by
  cases x with
  | lst xs => simp only [VR] at h; obtain ⟨a, vs, rfl, _, h1, h2⟩ := h; exact ⟨a, vs, rfl, SqL.of h1, h2⟩
  | tup xs => simp only [VR] at h; obtain ⟨a, vs, rfl, h1, h2⟩ := h; exact ⟨a, vs, rfl, h1.sq, h2⟩
  | _ => exact fun _ => h
theorem view_ok {x : MV} {v : V} (s : StR C ι S H) (r : VR C ι H x v) : VW C ι H (view S x) v := by
  cases x with
  | rol xs => simp only [VR] at r; obtain ⟨a, vs, rfl, h1, h2⟩ := r; exact ⟨a, vs, rfl, h1.sq, h2⟩
  | ref l =>
    simp only [view]
    split
    · rename_i xs e
      simp only [VR] at r
      obtain ⟨a, rfl, hl⟩ := r
      obtain ⟨vs, h1, h2⟩ := s.ob l _ a e hl
      exact ⟨a, vs, rfl, SqL.of h1, h2⟩
    · exact fun h => by cases h
  | lst xs => exact r.vw
  | tup xs => exact r.vw
  | _ => exact fun _ => r
theorem VR.flatV {x : MV} {v : V} (h : VR C ι H x v) (f : flat x = true) : L2.flatV v = true := by
  cases x <;> first | (simp only [VR] at h; subst h; rfl) | cases f
theorem eqF_V {x y : MV} {v u : V} (h : VR C ι H x v) (h2 : VR C ι H y u) (f : flat x = true) (g : flat y = true) : eqV v u = eqF x y := by
  cases x <;> (first | cases f) <;> cases y <;> (first | cases g) <;> simp only [VR] at h h2 <;> subst h <;> subst h2 <;> try rfl
  rename_i a b
  show ((⟨a.toArray⟩ : Str) == ⟨b.toArray⟩) = (a == b)
  by_cases e : a = b
  · subst e; simp
  · rw [beq_eq_false_iff_ne.mpr e, beq_eq_false_iff_ne]
    intro z
    injection z with z
    exact e (by simpa using congrArg Array.toList z)
end
section
variable {X : Cx} {C : Ct} {ι : Io} {pins : List (Addr × Obj)} {σ : L2.St} {H : Hp} {s : Shared}
/-- the same object twice is equal to itself -/
theorem eqF_same {x y : MV} {v : V} (h : VR C ι H x v) (h2 : VR C ι H y v) (f : flat x = true) (g : flat y = true) : eqF x y = true := by
  rw [← eqF_V h h2 f g]
  have := h.flatV f
  cases v <;> first | rfl | (simp [eqV]; done) | (simp [L2.flatV] at this)
theorem all2_same {d : Nat} (ih : ∀ x y v b, VR C ι H x v → VR C ι H y v → deq d x y = some b → b = true) : ∀ {xs ys : List MV} {vs : List V} {b : Bool}, VRs C ι H xs vs → VRs C ι H ys vs → all2 (deq d) xs ys = some b → b = true
  | [], ys, vs, b, _, _, h => by simp only [all2, Option.some.injEq] at h; exact h.symm
  | x :: xr, [], vs, b, _, _, h => by simp only [all2, Option.some.injEq] at h; exact h.symm
  | x :: xr, y :: yr, vs, b, h1, h2, h => by
    simp only [VRs] at h1 h2
    obtain ⟨v, w, rfl, a1, a2⟩ := h1
    obtain ⟨v', w', e, b1, b2⟩ := h2
    obtain ⟨rfl, rfl⟩ := List.cons.inj e
    simp only [all2] at h
    split at h
    · rename_i c1 c2 e1 e2
      simp only [Option.some.injEq] at h
      rw [← h, ih _ _ _ _ a1 b1 e1, all2_same ih a2 b2 e2]
      rfl
    · cases h
theorem deq_same (hK : X.K = C.K) (I : Inv X pins σ H s) : ∀ (d : Nat) (x y : MV) (v : V) (b : Bool), VW C ι H x v → VW C ι H y v → deq d x y = some b → b = true
  | 0, x, y, v, b, h1, h2, h => by
    unfold deq at h
    split at h
    · rename_i hf
      rw [Bool.and_eq_true] at hf
      simp only [Option.some.injEq] at h
      have g1 : VR C ι H x v := by cases x <;> first | exact h1 rfl | cases hf.1
      have g2 : VR C ι H y v := by cases y <;> first | exact h2 rfl | cases hf.2
      rw [← h]; exact eqF_same g1 g2 hf.1 hf.2
    · cases h
  | d + 1, x, y, v, b, h1, h2, h => by
    have ih : ∀ x y v b, VR C ι H x v → VR C ι H y v → deq d x y = some b → b = true := fun x y v b a1 a2 => deq_same hK I d x y v b a1.vw a2.vw
    have flatref : ∀ {z : MV} {a : Addr}, flat z = true → VW C ι H z (.ref a) → False := fun {z a} hz q => by
      cases z <;> first | (have := q rfl; simp only [VR] at this; cases this) | cases hz
    have lt : ∀ {a : Addr} {vs ws : List V}, SqL C.K H a vs → SqT C.K H a ws → False := fun {a vs ws} p q => by
      rw [← hK] at p q
      obtain ⟨its, _, pl, _⟩ := I.list p
      obtain ⟨its2, _, pt, _⟩ := I.tuple q
      exact absurd rfl (SeqAt.ne_of_list_tuple pl.isList pt)
    unfold deq at h
    split at h
    · rename_i hf
      rw [Bool.and_eq_true] at hf
      simp only [Option.some.injEq] at h
      have g1 : VR C ι H x v := by cases x <;> first | exact h1 rfl | cases hf.1
      have g2 : VR C ι H y v := by cases y <;> first | exact h2 rfl | cases hf.2
      rw [← h]; exact eqF_same g1 g2 hf.1 hf.2
    · split at h
      · rename_i xs ys nf
        obtain ⟨a, vs, rfl, p1, p2⟩ := h1
        obtain ⟨a', ws, e, q1, q2⟩ := h2
        cases e
        have ev : vs = ws := I.tuple_inj (by rw [hK]; exact p1) (by rw [hK]; exact q1)
        subst ev
        cases e2 : all2 (deq d) xs ys with
        | none => rw [e2] at h; cases h
        | some c =>
          rw [e2] at h
          simp only [Option.map_some, Option.some.injEq] at h
          rw [← h, all2_same ih p2 q2 e2, ← p2.len, ← q2.len]
          simp
      · rename_i xs ys nf
        obtain ⟨a, vs, rfl, p1, p2⟩ := h1
        obtain ⟨a', ws, e, q1, q2⟩ := h2
        cases e
        have ev : vs = ws := I.list_inj (by rw [hK]; exact p1) (by rw [hK]; exact q1)
        subst ev
        rw [if_pos (by rw [← p2.len, ← q2.len])] at h
        exact all2_same ih p2 q2 h
      · obtain ⟨a, vs, rfl, p1, p2⟩ := h1
        obtain ⟨a', ws, e, q1, q2⟩ := h2
        cases e
        exact (lt q1 p1).elim
      · obtain ⟨a, vs, rfl, p1, p2⟩ := h1
        obtain ⟨a', ws, e, q1, q2⟩ := h2
        cases e
        exact (lt p1 q1).elim
      · obtain ⟨a, vs, rfl, p1, p2⟩ := h1
        split at h
        · rename_i hy; exact (flatref hy h2).elim
        · cases h
      · obtain ⟨a, vs, rfl, p1, p2⟩ := h1
        split at h
        · rename_i hy; exact (flatref hy h2).elim
        · cases h
      · obtain ⟨a, vs, rfl, p1, p2⟩ := h2
        split at h
        · rename_i hy; exact (flatref hy h1).elim
        · cases h
      · obtain ⟨a, vs, rfl, p1, p2⟩ := h2
        split at h
        · rename_i hy; exact (flatref hy h1).elim
        · cases h
      · cases h
theorem all2_at {f : MV → MV → Option Bool} : ∀ {xs ys : List MV} {b : Bool}, all2 f xs ys = some b → ∃ e : Nat → Bool, (∀ (j : Nat) (x y : MV), xs[j]? = some x → ys[j]? = some y → f x y = some (e j)) ∧ (List.range (min xs.length ys.length)).all e = b
  | [], ys, b, h => by
    simp only [all2, Option.some.injEq] at h
    exact ⟨fun _ => true, fun j x y h => by simp at h, by simp [h]⟩
  | x :: xr, [], b, h => by
    simp only [all2, Option.some.injEq] at h
    exact ⟨fun _ => true, fun j x y _ h => by simp at h, by simp [h]⟩
  | x :: xr, y :: yr, b, h => by
    simp only [all2] at h
    split at h
    · rename_i c1 c2 e1 e2
      simp only [Option.some.injEq] at h
      obtain ⟨e, h1, h2⟩ := all2_at e2
      refine ⟨fun j => match j with | 0 => c1 | j + 1 => e j, fun j u v hu hv => ?_, ?_⟩
      · cases j with
        | zero => simp at hu hv; subst hu; subst hv; exact e1
        | succ j => exact h1 j u v (by simpa using hu) (by simpa using hv)
      · rw [show min (x :: xr).length (y :: yr).length = min xr.length yr.length + 1 from by simp only [List.length_cons]; omega, List.range_succ_eq_map, List.all_cons, List.all_map, ← h, ← h2]
        rfl
    · cases h
theorem deq_run (hK : X.K = C.K) (I : Inv X pins σ H s) : ∀ (d : Nat) (A : Around), A.units + d < cLine → ∀ (x y : MV) (v u : V) (vv uu : Value) (b : Bool), VW C ι H x v → VW C ι H y u → RelV v vv → RelV u uu → deq d x y = some b → SeqAt.EqAt A s vv uu b
  | 0, A, hA, x, y, v, u, vv, uu, b, h1, h2, r1, r2, h => by
    unfold deq at h
    split at h
    · rename_i hf
      rw [Bool.and_eq_true] at hf
      simp only [Option.some.injEq] at h
      have g1 : VR C ι H x v := by cases x <;> first | exact h1 rfl | cases hf.1
      have g2 : VR C ι H y u := by cases y <;> first | exact h2 rfl | cases hf.2
      rw [← h, ← eqF_V g1 g2 hf.1 hf.2]
      exact eqAt_V r1 r2 (g1.flatV hf.1) (g2.flatV hf.2)
    · cases h
  | d + 1, A, hA, x, y, v, u, vv, uu, b, h1, h2, r1, r2, h => by
    have hu : A.units < cLine := by omega
    have ih := fun (x y : MV) (v u : V) (vv uu : Value) (b : Bool) (a1 : VR C ι H x v) (a2 : VR C ι H y u) => deq_run hK I d A.in1 (by show A.units + 1 + d < cLine; omega) x y v u vv uu b a1.vw a2.vw
    have same := fun (v : V) (b : Bool) (a1 : VW C ι H x v) (a2 : VW C ι H y v) => deq_same hK I (d + 1) x y v b a1 a2
    have lst : ∀ {a : Addr} {vs : List V}, SqL C.K H a vs → ∃ its : List Value, Vals vs its ∧ s.heap.IsList a its.toArray := fun {a vs} p => by
      rw [← hK] at p
      obtain ⟨its, rv, pl, _⟩ := I.list p
      exact ⟨its, rv, pl.isList⟩
    have tpl : ∀ {a : Addr} {vs : List V}, SqT C.K H a vs → ∃ its : List Value, Vals vs its ∧ s.heap.IsTuple a its.toArray := fun {a vs} p => by
      rw [← hK] at p
      obtain ⟨its, rv, pl, _⟩ := I.tuple p
      exact ⟨its, rv, pl⟩
    have items : ∀ {xs ys : List MV} {vs ws : List V} {its its2 : List Value} {e : Nat → Bool}, VRs C ι H xs vs → VRs C ι H ys ws → Vals vs its → Vals ws its2 → (∀ (j : Nat) (x y : MV), xs[j]? = some x → ys[j]? = some y → deq d x y = some (e j)) →
        ∀ j (h1 : j < its.toArray.size) (h2 : j < its2.toArray.size), SeqAt.EqAt A.in1 s its.toArray[j] its2.toArray[j] (e j) := fun {xs ys vs ws its its2 e} a1 a2 b1 b2 he j j1 j2 => by
      have j1' : j < its.length := by simpa using j1
      have j2' : j < its2.length := by simpa using j2
      have l1 := b1.length
      have l2 := b2.length
      obtain ⟨x, ex, rx⟩ := a1.at' (i := j) (v := vs[j]'(by omega)) (by simp)
      obtain ⟨y, ey, ry⟩ := a2.at' (i := j) (v := ws[j]'(by omega)) (by simp)
      obtain ⟨p, ep, rp⟩ := b1.get (i := j) (x := vs[j]'(by omega)) (by simp)
      obtain ⟨q, eq, rq⟩ := b2.get (i := j) (x := ws[j]'(by omega)) (by simp)
      have e1 : its.toArray[j] = p := by simp only [List.getElem_toArray]; rw [List.getElem?_eq_getElem j1'] at ep; exact Option.some.inj ep
      have e2 : its2.toArray[j] = q := by simp only [List.getElem_toArray]; rw [List.getElem?_eq_getElem j2'] at eq; exact Option.some.inj eq
      rw [e1, e2]
      exact ih x y _ _ p q _ rx ry rp rq (he j x y ex ey)
    have h' := h
    unfold deq at h
    split at h
    · rename_i hf
      rw [Bool.and_eq_true] at hf
      simp only [Option.some.injEq] at h
      have g1 : VR C ι H x v := by cases x <;> first | exact h1 rfl | cases hf.1
      have g2 : VR C ι H y u := by cases y <;> first | exact h2 rfl | cases hf.2
      rw [← h, ← eqF_V g1 g2 hf.1 hf.2]
      exact eqAt_V r1 r2 (g1.flatV hf.1) (g2.flatV hf.2)
    · split at h
      · rename_i xs ys nf
        obtain ⟨a, vs, rfl, p1, p2⟩ := id h1
        obtain ⟨a', ws, rfl, q1, q2⟩ := id h2
        cases r1; cases r2
        by_cases ea : a = a'
        · subst ea
          rw [same _ b h1 h2 h']
          exact SeqAt.EqAt.same _
        · obtain ⟨its, rv, il⟩ := tpl p1
          obtain ⟨its2, rv2, il2⟩ := tpl q1
          cases e2 : all2 (deq d) xs ys with
          | none => rw [e2] at h; cases h
          | some c =>
            rw [e2] at h
            simp only [Option.map_some, Option.some.injEq] at h
            obtain ⟨e, e3, e4⟩ := all2_at e2
            have z := SeqAt.RcAt.tuples il il2 hu (items p2 q2 rv rv2 e3)
            refine SeqAt.EqAt.of_refs ea ?_
            have l1 : its.toArray.size = xs.length := by rw [List.size_toArray, ← rv.length, p2.len]
            have l2 : its2.toArray.size = ys.length := by rw [List.size_toArray, ← rv2.length, q2.len]
            rw [l1, l2, e4, h] at z
            exact z
      · rename_i xs ys nf
        obtain ⟨a, vs, rfl, p1, p2⟩ := id h1
        obtain ⟨a', ws, rfl, q1, q2⟩ := id h2
        cases r1; cases r2
        by_cases ea : a = a'
        · subst ea
          rw [same _ b h1 h2 h']
          exact SeqAt.EqAt.same _
        · obtain ⟨its, rv, il⟩ := lst p1
          obtain ⟨its2, rv2, il2⟩ := lst q1
          have l1 : its.toArray.size = xs.length := by rw [List.size_toArray, ← rv.length, p2.len]
          have l2 : its2.toArray.size = ys.length := by rw [List.size_toArray, ← rv2.length, q2.len]
          refine SeqAt.EqAt.of_refs ea ?_
          split at h
          · rename_i hl
            obtain ⟨e, e3, e4⟩ := all2_at h
            have z := SeqAt.RcAt.lists il il2 (by rw [l1, l2, hl]) hu (items p2 q2 rv rv2 e3)
            rw [l1] at z
            rw [← hl, Nat.min_self] at e4
            rw [e4] at z
            exact z
          · rename_i hl
            simp only [Option.some.injEq] at h
            rw [← h]
            exact SeqAt.RcAt.lists_lengths il il2 (by rw [l1, l2]; exact bne_iff_ne.mpr hl) hu
      · rename_i xs ys nf
        obtain ⟨a, vs, rfl, p1, p2⟩ := id h1
        obtain ⟨a', ws, rfl, q1, q2⟩ := id h2
        cases r1; cases r2
        obtain ⟨its, rv, il⟩ := tpl p1
        obtain ⟨its2, rv2, il2⟩ := lst q1
        simp only [Option.some.injEq] at h
        rw [← h]; exact .tuple_list il il2 hu
      · rename_i xs ys nf
        obtain ⟨a, vs, rfl, p1, p2⟩ := id h1
        obtain ⟨a', ws, rfl, q1, q2⟩ := id h2
        cases r1; cases r2
        obtain ⟨its, rv, il⟩ := lst p1
        obtain ⟨its2, rv2, il2⟩ := tpl q1
        simp only [Option.some.injEq] at h
        rw [← h]; exact .list_tuple il il2 hu
      · obtain ⟨a, vs, rfl, p1, p2⟩ := id h1
        cases r1
        obtain ⟨its, rv, il⟩ := tpl p1
        split at h
        · rename_i hy
          simp only [Option.some.injEq] at h
          rw [← h]
          cases y with
          | non => have := h2 rfl; simp only [VR] at this; subst this; cases r2; exact .tuple_none il hu
          | bl b => have := h2 rfl; simp only [VR] at this; subst this; cases r2; exact .tuple_bool b il hu
          | int b => have := h2 rfl; simp only [VR] at this; subst this; obtain ⟨t, rfl⟩ := r2; exact .tuple_int b t il hu
          | str b => have := h2 rfl; simp only [VR] at this; subst this; obtain ⟨t, rfl⟩ := r2; exact .tuple_str _ t il hu
          | _ => cases hy
        · cases h
      · obtain ⟨a, vs, rfl, p1, p2⟩ := id h1
        cases r1
        obtain ⟨its, rv, il⟩ := lst p1
        split at h
        · rename_i hy
          simp only [Option.some.injEq] at h
          rw [← h]
          cases y with
          | non => have := h2 rfl; simp only [VR] at this; subst this; cases r2; exact .list_none il hu
          | bl b => have := h2 rfl; simp only [VR] at this; subst this; cases r2; exact .list_bool b il hu
          | int b => have := h2 rfl; simp only [VR] at this; subst this; obtain ⟨t, rfl⟩ := r2; exact .list_int b t il hu
          | str b => have := h2 rfl; simp only [VR] at this; subst this; obtain ⟨t, rfl⟩ := r2; exact .list_str _ t il hu
          | _ => cases hy
        · cases h
      · obtain ⟨a, vs, rfl, p1, p2⟩ := id h2
        cases r2
        obtain ⟨its, rv, il⟩ := tpl p1
        split at h
        · rename_i hy
          simp only [Option.some.injEq] at h
          rw [← h]
          cases x with
          | non => have := h1 rfl; simp only [VR] at this; subst this; cases r1; exact .none_tuple il hu
          | bl b => have := h1 rfl; simp only [VR] at this; subst this; cases r1; exact .bool_tuple b il hu
          | int b => have := h1 rfl; simp only [VR] at this; subst this; obtain ⟨t, rfl⟩ := r1; exact .int_tuple b t il hu
          | str b => have := h1 rfl; simp only [VR] at this; subst this; obtain ⟨t, rfl⟩ := r1; exact .str_tuple _ t il hu
          | _ => cases hy
        · cases h
      · obtain ⟨a, vs, rfl, p1, p2⟩ := id h2
        cases r2
        obtain ⟨its, rv, il⟩ := lst p1
        split at h
        · rename_i hy
          simp only [Option.some.injEq] at h
          rw [← h]
          cases x with
          | non => have := h1 rfl; simp only [VR] at this; subst this; cases r1; exact .none_list il hu
          | bl b => have := h1 rfl; simp only [VR] at this; subst this; cases r1; exact .bool_list b il hu
          | int b => have := h1 rfl; simp only [VR] at this; subst this; obtain ⟨t, rfl⟩ := r1; exact .int_list b t il hu
          | str b => have := h1 rfl; simp only [VR] at this; subst this; obtain ⟨t, rfl⟩ := r1; exact .str_list _ t il hu
          | _ => cases hy
        · cases h
      · cases h
end
end Mi

namespace Mi
open PySem L2
section
variable {X : Cx} {C : Ct} {ι : Io} {pins : List (Addr × Obj)} {σ : L2.St} {H : Hp} {s : Shared}
theorem strEq (a b : List Nat) : ((⟨a.toArray⟩ : Str) == ⟨b.toArray⟩) = (a == b) := by
  by_cases e : a = b
  · subst e; simp
  · rw [beq_eq_false_iff_ne.mpr e, beq_eq_false_iff_ne]
    intro z
    injection z with z
    exact e (by simpa using congrArg Array.toList z)
theorem rc_flat {A : Around} {x y : MV} {v u : V} {vv uu : Value} {b : Bool} (h1 : VR C ι H x v) (h2 : VR C ι H y u) (r1 : RelV v vv) (r2 : RelV u uu) (f : flat x = true) (g : flat y = true) (h : eqF x y = b) : SeqAt.RcAt A s vv uu b ∧ SeqAt.RcNeAt A s vv uu (!b) := by
  subst h
  cases x with
  | non =>
    simp only [VR] at h1; subst h1; cases r1
    cases y with
    | non => simp only [VR] at h2; subst h2; cases r2; exact ⟨SeqAt.RcAt.none_none, SeqAt.RcNeAt.none_none⟩
    | bl j => simp only [VR] at h2; subst h2; cases r2; exact ⟨SeqAt.RcAt.none_bool j, SeqAt.RcNeAt.none_bool j⟩
    | int j => simp only [VR] at h2; subst h2; obtain ⟨t2, rfl⟩ := r2; exact ⟨SeqAt.RcAt.none_int j _, SeqAt.RcNeAt.none_int j _⟩
    | str j => simp only [VR] at h2; subst h2; obtain ⟨t2, rfl⟩ := r2; exact ⟨SeqAt.RcAt.none_str _ _, SeqAt.RcNeAt.none_str _ _⟩
    | _ => cases g
  | bl i =>
    simp only [VR] at h1; subst h1; cases r1
    cases y with
    | non => simp only [VR] at h2; subst h2; cases r2; exact ⟨SeqAt.RcAt.bool_none i, SeqAt.RcNeAt.bool_none i⟩
    | bl j => simp only [VR] at h2; subst h2; cases r2; exact ⟨SeqAt.RcAt.bool_bool i j, SeqAt.RcNeAt.bool_bool i j⟩
    | int j => simp only [VR] at h2; subst h2; obtain ⟨t2, rfl⟩ := r2; exact ⟨SeqAt.RcAt.bool_int i j _, SeqAt.RcNeAt.bool_int i j _⟩
    | str j => simp only [VR] at h2; subst h2; obtain ⟨t2, rfl⟩ := r2; exact ⟨SeqAt.RcAt.bool_str i _ _, SeqAt.RcNeAt.bool_str i _ _⟩
    | _ => cases g
  | int i =>
    simp only [VR] at h1; subst h1; obtain ⟨t1, rfl⟩ := r1
    cases y with
    | non => simp only [VR] at h2; subst h2; cases r2; exact ⟨SeqAt.RcAt.int_none i _, SeqAt.RcNeAt.int_none i _⟩
    | bl j => simp only [VR] at h2; subst h2; cases r2; exact ⟨SeqAt.RcAt.int_bool i _ j, SeqAt.RcNeAt.int_bool i _ j⟩
    | int j => simp only [VR] at h2; subst h2; obtain ⟨t2, rfl⟩ := r2; exact ⟨SeqAt.RcAt.int_int i _ j _, SeqAt.RcNeAt.int_int i _ j _⟩
    | str j => simp only [VR] at h2; subst h2; obtain ⟨t2, rfl⟩ := r2; exact ⟨SeqAt.RcAt.int_str i _ _ _, SeqAt.RcNeAt.int_str i _ _ _⟩
    | _ => cases g
  | str i =>
    simp only [VR] at h1; subst h1; obtain ⟨t1, rfl⟩ := r1
    cases y with
    | non => simp only [VR] at h2; subst h2; cases r2; exact ⟨SeqAt.RcAt.str_none _ _, SeqAt.RcNeAt.str_none _ _⟩
    | bl j => simp only [VR] at h2; subst h2; cases r2; exact ⟨SeqAt.RcAt.str_bool _ _ j, SeqAt.RcNeAt.str_bool _ _ j⟩
    | int j => simp only [VR] at h2; subst h2; obtain ⟨t2, rfl⟩ := r2; exact ⟨SeqAt.RcAt.str_int _ _ j _, SeqAt.RcNeAt.str_int _ _ j _⟩
    | str j => simp only [VR] at h2; subst h2; obtain ⟨t2, rfl⟩ := r2; have e := strEq i j; simp only [eqF]; rw [← e]; exact ⟨SeqAt.RcAt.str_str _ _ _ _, SeqAt.RcNeAt.str_str _ _ _ _⟩
    | _ => cases g
  | _ => cases f
theorem rc_core (hK : X.K = C.K) (I : Inv X pins σ H s) (d : Nat) (A : Around) (hA : A.units + (d + 1) < cLine) (x y : MV) (v u : V) (vv uu : Value) (b : Bool) (h1 : VW C ι H x v) (h2 : VW C ι H y u) (r1 : RelV v vv) (r2 : RelV u uu) (h : deq (d + 1) x y = some b) : SeqAt.RcAt A s vv uu b ∧ SeqAt.RcNeAt A s vv uu (!b) := by
  have hu : A.units < cLine := by omega
  have ih := fun (x y : MV) (v u : V) (vv uu : Value) (b : Bool) (a1 : VR C ι H x v) (a2 : VR C ι H y u) => deq_run hK I d A.in1 (by show A.units + 1 + d < cLine; omega) x y v u vv uu b a1.vw a2.vw
  have lst : ∀ {a : Addr} {vs : List V}, SqL C.K H a vs → ∃ its : List Value, Vals vs its ∧ s.heap.IsList a its.toArray := fun {a vs} p => by
    rw [← hK] at p
    obtain ⟨its, rv, pl, _⟩ := I.list p
    exact ⟨its, rv, pl.isList⟩
  have tpl : ∀ {a : Addr} {vs : List V}, SqT C.K H a vs → ∃ its : List Value, Vals vs its ∧ s.heap.IsTuple a its.toArray := fun {a vs} p => by
    rw [← hK] at p
    obtain ⟨its, rv, pl, _⟩ := I.tuple p
    exact ⟨its, rv, pl⟩
  have items : ∀ {xs ys : List MV} {vs ws : List V} {its its2 : List Value} {e : Nat → Bool}, VRs C ι H xs vs → VRs C ι H ys ws → Vals vs its → Vals ws its2 → (∀ (j : Nat) (x y : MV), xs[j]? = some x → ys[j]? = some y → deq d x y = some (e j)) →
      ∀ j (h1 : j < its.toArray.size) (h2 : j < its2.toArray.size), SeqAt.EqAt A.in1 s its.toArray[j] its2.toArray[j] (e j) := fun {xs ys vs ws its its2 e} a1 a2 b1 b2 he j j1 j2 => by
    have j1' : j < its.length := by simpa using j1
    have j2' : j < its2.length := by simpa using j2
    have l1 := b1.length
    have l2 := b2.length
    obtain ⟨x, ex, rx⟩ := a1.at' (i := j) (v := vs[j]'(by omega)) (by simp)
    obtain ⟨y, ey, ry⟩ := a2.at' (i := j) (v := ws[j]'(by omega)) (by simp)
    obtain ⟨p, ep, rp⟩ := b1.get (i := j) (x := vs[j]'(by omega)) (by simp)
    obtain ⟨q, eq, rq⟩ := b2.get (i := j) (x := ws[j]'(by omega)) (by simp)
    have e1 : its.toArray[j] = p := by simp only [List.getElem_toArray]; rw [List.getElem?_eq_getElem j1'] at ep; exact Option.some.inj ep
    have e2 : its2.toArray[j] = q := by simp only [List.getElem_toArray]; rw [List.getElem?_eq_getElem j2'] at eq; exact Option.some.inj eq
    rw [e1, e2]
    exact ih x y _ _ p q _ rx ry rp rq (he j x y ex ey)
  unfold deq at h
  split at h
  · rename_i hf
    rw [Bool.and_eq_true] at hf
    simp only [Option.some.injEq] at h
    have g1 : VR C ι H x v := by cases x <;> first | exact h1 rfl | cases hf.1
    have g2 : VR C ι H y u := by cases y <;> first | exact h2 rfl | cases hf.2
    exact rc_flat g1 g2 r1 r2 hf.1 hf.2 h
  · split at h
    · rename_i xs ys nf
      obtain ⟨a, vs, rfl, p1, p2⟩ := id h1
      obtain ⟨a', ws, rfl, q1, q2⟩ := id h2
      cases r1; cases r2
      obtain ⟨its, rv, il⟩ := tpl p1
      obtain ⟨its2, rv2, il2⟩ := tpl q1
      cases e2 : all2 (deq d) xs ys with
      | none => rw [e2] at h; cases h
      | some c =>
        rw [e2] at h
        simp only [Option.map_some, Option.some.injEq] at h
        obtain ⟨e, e3, e4⟩ := all2_at e2
        have z := SeqAt.RcAt.tuples il il2 hu (items p2 q2 rv rv2 e3)
        have z2 := SeqAt.RcNeAt.tuples il il2 hu (items p2 q2 rv rv2 e3)
        have l1 : its.toArray.size = xs.length := by rw [List.size_toArray, ← rv.length, p2.len]
        have l2 : its2.toArray.size = ys.length := by rw [List.size_toArray, ← rv2.length, q2.len]
        rw [l1, l2, e4, h] at z z2
        exact ⟨z, z2⟩
    · rename_i xs ys nf
      obtain ⟨a, vs, rfl, p1, p2⟩ := id h1
      obtain ⟨a', ws, rfl, q1, q2⟩ := id h2
      cases r1; cases r2
      obtain ⟨its, rv, il⟩ := lst p1
      obtain ⟨its2, rv2, il2⟩ := lst q1
      have l1 : its.toArray.size = xs.length := by rw [List.size_toArray, ← rv.length, p2.len]
      have l2 : its2.toArray.size = ys.length := by rw [List.size_toArray, ← rv2.length, q2.len]
      split at h
      · rename_i hl
        obtain ⟨e, e3, e4⟩ := all2_at h
        have z := SeqAt.RcAt.lists il il2 (by rw [l1, l2, hl]) hu (items p2 q2 rv rv2 e3)
        have z2 := SeqAt.RcNeAt.lists il il2 (by rw [l1, l2, hl]) hu (items p2 q2 rv rv2 e3)
        rw [l1] at z z2
        rw [← hl, Nat.min_self] at e4
        rw [e4] at z z2
        exact ⟨z, z2⟩
      · rename_i hl
        simp only [Option.some.injEq] at h
        rw [← h]
        exact ⟨SeqAt.RcAt.lists_lengths il il2 (by rw [l1, l2]; exact bne_iff_ne.mpr hl) hu, SeqAt.RcNeAt.lists_lengths il il2 (by rw [l1, l2]; exact bne_iff_ne.mpr hl) hu⟩
    · obtain ⟨a, vs, rfl, p1, p2⟩ := id h1
      obtain ⟨a', ws, rfl, q1, q2⟩ := id h2
      cases r1; cases r2
      obtain ⟨its, rv, il⟩ := tpl p1
      obtain ⟨its2, rv2, il2⟩ := lst q1
      simp only [Option.some.injEq] at h
      rw [← h]; exact ⟨.tuple_list il il2 hu, .tuple_list il il2 hu⟩
    · obtain ⟨a, vs, rfl, p1, p2⟩ := id h1
      obtain ⟨a', ws, rfl, q1, q2⟩ := id h2
      cases r1; cases r2
      obtain ⟨its, rv, il⟩ := lst p1
      obtain ⟨its2, rv2, il2⟩ := tpl q1
      simp only [Option.some.injEq] at h
      rw [← h]; exact ⟨.list_tuple il il2 hu, .list_tuple il il2 hu⟩
    · obtain ⟨a, vs, rfl, p1, p2⟩ := id h1
      cases r1
      obtain ⟨its, rv, il⟩ := tpl p1
      split at h
      · rename_i hy
        simp only [Option.some.injEq] at h
        rw [← h]
        cases y with
        | non => have h2 := h2 rfl; simp only [VR] at h2; subst h2; cases r2; exact ⟨.tuple_none il hu, .tuple_none il hu⟩
        | bl j => have h2 := h2 rfl; simp only [VR] at h2; subst h2; cases r2; exact ⟨.tuple_bool j il hu, .tuple_bool j il hu⟩
        | int j => have h2 := h2 rfl; simp only [VR] at h2; subst h2; obtain ⟨t2, rfl⟩ := r2; exact ⟨.tuple_int j _ il hu, .tuple_int j _ il hu⟩
        | str j => have h2 := h2 rfl; simp only [VR] at h2; subst h2; obtain ⟨t2, rfl⟩ := r2; exact ⟨.tuple_str _ _ il hu, .tuple_str _ _ il hu⟩
        | _ => cases hy
      · cases h
    · obtain ⟨a, vs, rfl, p1, p2⟩ := id h1
      cases r1
      obtain ⟨its, rv, il⟩ := lst p1
      split at h
      · rename_i hy
        simp only [Option.some.injEq] at h
        rw [← h]
        cases y with
        | non => have h2 := h2 rfl; simp only [VR] at h2; subst h2; cases r2; exact ⟨.list_none il hu, .list_none il hu⟩
        | bl j => have h2 := h2 rfl; simp only [VR] at h2; subst h2; cases r2; exact ⟨.list_bool j il hu, .list_bool j il hu⟩
        | int j => have h2 := h2 rfl; simp only [VR] at h2; subst h2; obtain ⟨t2, rfl⟩ := r2; exact ⟨.list_int j _ il hu, .list_int j _ il hu⟩
        | str j => have h2 := h2 rfl; simp only [VR] at h2; subst h2; obtain ⟨t2, rfl⟩ := r2; exact ⟨.list_str _ _ il hu, .list_str _ _ il hu⟩
        | _ => cases hy
      · cases h
    · obtain ⟨a, vs, rfl, p1, p2⟩ := id h2
      cases r2
      obtain ⟨its, rv, il⟩ := tpl p1
      split at h
      · rename_i hy
        simp only [Option.some.injEq] at h
        rw [← h]
        cases x with
        | non => have h1 := h1 rfl; simp only [VR] at h1; subst h1; cases r1; exact ⟨.none_tuple il hu, .none_tuple il hu⟩
        | bl j => have h1 := h1 rfl; simp only [VR] at h1; subst h1; cases r1; exact ⟨.bool_tuple j il hu, .bool_tuple j il hu⟩
        | int j => have h1 := h1 rfl; simp only [VR] at h1; subst h1; obtain ⟨t1, rfl⟩ := r1; exact ⟨.int_tuple j _ il hu, .int_tuple j _ il hu⟩
        | str j => have h1 := h1 rfl; simp only [VR] at h1; subst h1; obtain ⟨t1, rfl⟩ := r1; exact ⟨.str_tuple _ _ il hu, .str_tuple _ _ il hu⟩
        | _ => cases hy
      · cases h
    · obtain ⟨a, vs, rfl, p1, p2⟩ := id h2
      cases r2
      obtain ⟨its, rv, il⟩ := lst p1
      split at h
      · rename_i hy
        simp only [Option.some.injEq] at h
        rw [← h]
        cases x with
        | non => have h1 := h1 rfl; simp only [VR] at h1; subst h1; cases r1; exact ⟨.none_list il hu, .none_list il hu⟩
        | bl j => have h1 := h1 rfl; simp only [VR] at h1; subst h1; cases r1; exact ⟨.bool_list j il hu, .bool_list j il hu⟩
        | int j => have h1 := h1 rfl; simp only [VR] at h1; subst h1; obtain ⟨t1, rfl⟩ := r1; exact ⟨.int_list j _ il hu, .int_list j _ il hu⟩
        | str j => have h1 := h1 rfl; simp only [VR] at h1; subst h1; obtain ⟨t1, rfl⟩ := r1; exact ⟨.str_list _ _ il hu, .str_list _ _ il hu⟩
        | _ => cases hy
      · cases h
    · cases h
end

/-! ### comparisons -/
def fEq (x y : MV) (S : Sto) : Res MV := match deq 60 (view S x) (view S y) with
  | some b => .ok (.bl b) S
  | none => .bad
def fNe (x y : MV) (S : Sto) : Res MV := match deq 60 (view S x) (view S y) with
  | some b => .ok (.bl (!b)) S
  | none => .bad
def rEqM (C : Ct) : R2 := fun v u H Q => ∃ ι S x y b, StR C ι S H ∧ VR C ι H x v ∧ VR C ι H y u ∧ deq 60 (view S x) (view S y) = some b ∧ Q (.bl b) H
def rNeM (C : Ct) : R2 := fun v u H Q => ∃ ι S x y b, StR C ι S H ∧ VR C ι H x v ∧ VR C ι H y u ∧ deq 60 (view S x) (view S y) = some b ∧ Q (.bl (!b)) H
section
variable {X : Cx} {C : Ct}
theorem op_eqM (hK : X.K = C.K) (hu : X.A.units + 64 < cLine) : OpR X (compareOp .Eq) (rEqM C) := by
  intro pins s σ H x y v u Q I rx ry h
  obtain ⟨ι, S, a, b, c, hs, h1, h2, h3, q⟩ := h
  exact (rc_core hK I 59 X.A (by omega) _ _ _ _ _ _ _ (view_ok hs h1) (view_ok hs h2) rx ry h3).1 _ _ _ _ ⟨.bl c, H, I, rfl, q⟩
theorem op_neM (hK : X.K = C.K) (hu : X.A.units + 64 < cLine) : OpR X (compareOp .NotEq) (rNeM C) := by
  intro pins s σ H x y v u Q I rx ry h
  obtain ⟨ι, S, a, b, c, hs, h1, h2, h3, q⟩ := h
  exact (rc_core hK I 59 X.A (by omega) _ _ _ _ _ _ _ (view_ok hs h1) (view_ok hs h2) rx ry h3).2 _ _ _ _ ⟨.bl (!c), H, I, rfl, q⟩
theorem opm_eq : OpM C fEq (rEqM C) := by
  intro W ι σ S H x y v u Q hs h1 h2 hp
  unfold fEq at hp
  split at hp
  · rename_i b e
    exact ⟨ι, S, x, y, b, hs, h1, h2, e, hp ι H _ .refl hs (by simp only [VR])⟩
  · exact hp.elim
theorem opm_ne : OpM C fNe (rNeM C) := by
  intro W ι σ S H x y v u Q hs h1 h2 hp
  unfold fNe at hp
  split at hp
  · rename_i b e
    exact ⟨ι, S, x, y, b, hs, h1, h2, e, hp ι H _ .refl hs (by simp only [VR])⟩
  · exact hp.elim
end
end Mi

namespace Mi
open PySem L2 TL
/-! ### texts by their codes -/
abbrev st (l : List Nat) : Str := ⟨l.toArray⟩
theorem st_tl (z : Str) : st (tl z) = z := mk_tl z
theorem st_app (a b : List Nat) : (st a ++ st b : Str) = st (a ++ b) := ext_tl (by rw [tl_append])
theorem st_len (a : List Nat) : (st a).length = a.length := by rw [len_tl]
theorem VR_str {C : Ct} {ι : Io} {H : Hp} {l : List Nat} {z : Str} (h : tl z = l) : VR C ι H (.str l) (.str z) := by
  simp only [VR]
  rw [← h, mk_tl]

/-- a new list: a value, or a new place -/
def mkL (mu : Bool) (xs : List MV) (S : Sto) : Res MV := if mu then .ok (.ref S.length) (S ++ [.lst xs]) else .ok (.lst xs) S
theorem mkL_ok {C : Ct} {W : WX} {mu : Bool} {xs : List MV} {vs : List V} {ι : Io} {σ : L2.St} {S : Sto} {H : Hp} {Q : VK} (hs : StR C ι S H) (r : VRs C ι H xs vs) (hp : Post C W (VR C) ι σ H (mkL mu xs S) Q) : ∀ p, H p = none → Q (.ref p) (upd H p (.lst vs)) := by
  intro p hn
  cases mu with
  | true =>
    have e := Ext.push (o := .lst vs) hs hn
    refine hp (ι ++ [p]) _ _ e (hs.push hn ⟨vs, upd_same, VRs.mono e _ _ r⟩) ?_
    simp only [VR]
    exact ⟨p, rfl, by rw [← hs.len]; simp⟩
  | false =>
    have e := Ext.upd (o := .lst vs) hs hn
    refine hp ι _ _ e (hs.upd hn) ?_
    simp only [VR]
    exact ⟨p, vs, rfl, hs.fresh hn, upd_same, VRs.mono e _ _ r⟩
theorem mkT_ok {C : Ct} {W : WX} {xs : List MV} {vs : List V} {ι : Io} {σ : L2.St} {S : Sto} {H : Hp} {Q : VK} (hs : StR C ι S H) (r : VRs C ι H xs vs) (hp : Post C W (VR C) ι σ H (.ok (.tup xs) S) Q) : ∀ p, H p = none → Q (.ref p) (upd H p (.tup vs)) := by
  intro p hn
  have e := Ext.upd (o := .tup vs) hs hn
  refine hp ι _ _ e (hs.upd hn) ?_
  simp only [VR]
  exact ⟨p, vs, rfl, .inl ⟨hs.fresh hn, .inl upd_same⟩, VRs.mono e _ _ r⟩

/-! ### + -/
def fAdd (mu : Bool) (x y : MV) (S : Sto) : Res MV := match x, y with
  | .int i, .int j => .ok (.int (i + j)) S
  | .str a, .str b => if a.length + b.length ≤ sizeLine then .ok (.str (a ++ b)) S else .bad
  | .tup xs, .tup ys => if xs.length + ys.length ≤ sizeLine then .ok (.tup (xs ++ ys)) S else .bad
  | x, y => match asH S x, asH S y with
    | some xs, some ys => if xs.length + ys.length ≤ sizeLine then mkL mu (xs ++ ys) S else .bad
    | _, _ => .bad
def rAddM (K : PySem.W.Frag) : R2 := fun x y H Q => (∃ i j, x = .int i ∧ y = .int j ∧ Q (.int (i + j)) H) ∨ (∃ i j, x = .str i ∧ y = .str j ∧ i.length + j.length ≤ sizeLine ∧ Q (.str (i ++ j)) H) ∨ rCatA K x y H Q ∨ rCat x y H Q
section
variable {X : Cx} {C : Ct}
theorem op_addM : OpR X (binaryOp .Add) (rAddM X.K) := op_add.or (op_add_str.or (op_catA.or op_cat))
theorem opm_add (mu : Bool) : OpM C (fAdd mu) (rAddM C.K) := by
  intro W ι σ S H x y v u Q hs h1 h2 hp
  unfold fAdd at hp
  split at hp
  · simp only [VR] at h1 h2
    exact .inl ⟨_, _, h1, h2, hp ι H _ .refl hs (by simp only [VR])⟩
  · simp only [VR] at h1 h2
    split at hp
    · rename_i hl
      exact .inr (.inl ⟨_, _, h1, h2, by simpa [Str.length] using hl, hp ι H _ .refl hs (VR_str (by rw [tl_append]))⟩)
    · exact hp.elim
  · split at hp
    · rename_i xs ys hl
      simp only [VR] at h1 h2
      obtain ⟨a, vs, rfl, f1, r1⟩ := h1
      obtain ⟨b, ws, rfl, f2, r2⟩ := h2
      have l1 := r1.len
      have l2 := r2.len
      refine .inr (.inr (.inl ⟨a, b, vs, ws, rfl, rfl, f1.sq, f2.sq, by rw [l1, l2]; exact hl, fun e => ?_, fun e e2 => ?_, fun e e2 => ?_⟩))
      · have : xs = [] := List.length_eq_zero_iff.mp (by rw [← l1, e]; rfl)
        subst this
        exact hp ι H _ .refl hs (by simp only [VR, List.nil_append]; exact ⟨b, ws, rfl, f2, r2⟩)
      · have : ys = [] := List.length_eq_zero_iff.mp (by rw [← l2, e2]; rfl)
        subst this
        exact hp ι H _ .refl hs (by simp only [VR, List.append_nil]; exact ⟨a, vs, rfl, f1, r1⟩)
      · exact mkT_ok hs (r1.append r2) hp
    · exact hp.elim
  · split at hp
    · rename_i xs ys e1 e2
      split at hp
      · rename_i hl
        obtain ⟨a, vs, rfl, f1, r1⟩ := asH_ok hs h1 e1
        obtain ⟨b, ws, rfl, f2, r2⟩ := asH_ok hs h2 e2
        exact .inr (.inr (.inr ⟨a, b, vs, ws, rfl, rfl, f1, f2, by rw [r1.len, r2.len]; exact hl, mkL_ok hs (r1.append r2) hp⟩))
      · exact hp.elim
    · exact hp.elim

/-! ### the other operators -/
def fSub (x y : MV) (S : Sto) : Res MV := match x, y with
  | .int i, .int j => .ok (.int (i - j)) S
  | _, _ => .bad
theorem opm_int {g : Int → Int → MV} {g' : Int → Int → V} {cond : Int → Int → Prop} {f : MV → MV → Sto → Res MV} (hg : ∀ ι H i j, VR C ι H (g i j) (g' i j))
    (hf : ∀ x y S, f x y S = .bad ∨ ∃ i j, x = .int i ∧ y = .int j ∧ cond i j ∧ f x y S = .ok (g i j) S) : OpM C f (rI cond g') := by
  intro W ι σ S H x y v u Q hs h1 h2 hp
  rcases hf x y S with e | ⟨i, j, rfl, rfl, c, e⟩
  · rw [e] at hp; exact hp.elim
  · rw [e] at hp
    simp only [VR] at h1 h2
    exact ⟨i, j, h1, h2, c, hp ι H _ .refl hs (hg _ _ _ _)⟩
theorem opm_int0 {g : Int → Int → MV} {g' : Int → Int → V} {f : MV → MV → Sto → Res MV} (hg : ∀ ι H i j, VR C ι H (g i j) (g' i j))
    (hf : ∀ x y S, f x y S = .bad ∨ ∃ i j, x = .int i ∧ y = .int j ∧ f x y S = .ok (g i j) S) : OpM C f (rI0 g') := by
  intro W ι σ S H x y v u Q hs h1 h2 hp
  rcases hf x y S with e | ⟨i, j, rfl, rfl, e⟩
  · rw [e] at hp; exact hp.elim
  · rw [e] at hp
    simp only [VR] at h1 h2
    exact ⟨i, j, h1, h2, hp ι H _ .refl hs (hg _ _ _ _)⟩
theorem opm_sub : OpM C fSub (rI0 fun i j => .int (i - j)) := opm_int0 (g := fun i j => .int (i - j)) (fun _ _ _ _ => by simp only [VR]) fun x y S => by
  unfold fSub; split
  · exact .inr ⟨_, _, rfl, rfl, rfl⟩
  · exact .inl rfl
def fMod (x y : MV) (S : Sto) : Res MV := match x, y with
  | .int i, .int j => if 0 < j then .ok (.int (i % j)) S else .bad
  | _, _ => .bad
theorem opm_mod : OpM C fMod (rI (fun _ j => 0 < j) fun i j => .int (i % j)) := opm_int (g := fun i j => .int (i % j)) (fun _ _ _ _ => by simp only [VR]) fun x y S => by
  unfold fMod; split
  · split
    · rename_i h; exact .inr ⟨_, _, rfl, rfl, h, rfl⟩
    · exact .inl rfl
  · exact .inl rfl
def fDiv (x y : MV) (S : Sto) : Res MV := match x, y with
  | .int i, .int j => if 0 < j ∧ j.natAbs.log2 < 9000 then .ok (.int (i / j)) S else .bad
  | _, _ => .bad
theorem opm_div : OpM C fDiv (rI CDivW fun i j => .int (i / j)) := opm_int (g := fun i j => .int (i / j)) (fun _ _ _ _ => by simp only [VR]) fun x y S => by
  unfold fDiv; split
  · split
    · rename_i h; exact .inr ⟨_, _, rfl, rfl, h, rfl⟩
    · exact .inl rfl
  · exact .inl rfl
def CPowW (i j : Int) : Prop := 0 ≤ j ∧ (Builtin.Int.intBits i : Int) * j ≤ 2 ^ 27
theorem op_powW : OpR X (binaryOp .Pow) (rI CPowW fun i j => .int (i ^ j.toNat)) := opI fun _ _ _ _ _ _ _ hc q => PyProof.Rows.pow_int hc.1 hc.2 q
/-- powers with a small written exponent -/
def fPow (x y : MV) (S : Sto) : Res MV := match x, y with
  | .int i, .int j => if 0 ≤ j ∧ (Builtin.Int.intBits i : Int) * j ≤ 2 ^ 27 then .ok (.int (i ^ j.toNat)) S else .bad
  | _, _ => .bad
theorem opm_pow : OpM C fPow (rI CPowW fun i j => .int (i ^ j.toNat)) := opm_int (g := fun i j => .int (i ^ j.toNat)) (fun _ _ _ _ => by simp only [VR]) fun x y S => by
  unfold fPow; split
  · split
    · rename_i h; exact .inr ⟨_, _, rfl, rfl, h, rfl⟩
    · exact .inl rfl
  · exact .inl rfl
/-! ### * -/
def rMulS : R2 := fun x y H Q => ∃ (z : Str) (k : Int), x = .str z ∧ y = .int k ∧ k < 2 ^ 20 ∧ -(2 ^ 20) < k ∧ z.length * k.toNat ≤ sizeLine ∧ Q (.str (st (List.replicate k.toNat (tl z)).flatten)) H
theorem fold_cps (l : Array Nat) : ∀ (k : Nat) (acc : Array Nat), ((List.replicate k l).foldl (· ++ ·) acc).toList = acc.toList ++ (List.replicate k l.toList).flatten
  | 0, acc => by simp
  | k + 1, acc => by
    rw [List.replicate_succ, List.foldl_cons, fold_cps l k, List.replicate_succ, List.flatten_cons, Array.toList_append, List.append_assoc]
theorem op_mulS : OpR X (binaryOp .Mult) rMulS := by
  intro pins s σ H x y v u Q I rx ry h
  obtain ⟨z, k, rfl, rfl, h1, h2, hz, q⟩ := h
  obtain ⟨t, rfl⟩ := rx
  obtain ⟨t', rfl⟩ := ry
  refine PySem.P.mul_str ?_ ?_ ?_ ?_
  · rw [decide_eq_false (by omega), decide_eq_false (by omega)]; rfl
  · intro a1 _
    have hk : (1 : Int) ≤ k := by omega
    have h4 : (z.length : Int) * k ≤ 2 ^ 63 - 1 := by
      have h5 : ((z.length * k.toNat : Nat) : Int) ≤ (sizeLine : Nat) := by exact_mod_cast hz
      have h6 : ((sizeLine : Nat) : Int) ≤ 2 ^ 63 - 1 := by rw [sizeLine_eq]; decide
      rw [Int.natCast_mul, Int.toNat_of_nonneg (by omega)] at h5
      omega
    have h7 := Int.le_ediv_of_mul_le (by omega : (0 : Int) < k) h4
    omega
  · intro a1 _
    exact decide_eq_false (by omega)
  · split
    · rename_i hk
      have e : k.toNat = 0 := by omega
      refine ⟨by decide, .str _, H, I.tok _, ⟨_, rfl⟩, ?_⟩
      rw [e] at q
      exact q
    · split
      · rename_i hk h3
        refine ⟨.str z, H, I, ⟨_, rfl⟩, ?_⟩
        rw [Bool.or_eq_true] at h3
        have e : st (List.replicate k.toNat (tl z)).flatten = z := by
          rcases h3 with h3 | h3
          · have : k = 1 := by simpa using h3
            subst this
            exact ext_tl (by simp)
          · have h0 : tl z = [] := by
              have : z.length = 0 := by simpa using h3
              rw [len_tl] at this
              exact List.length_eq_zero_iff.mp this
            refine ext_tl ?_
            rw [h0]
            show (List.replicate k.toNat ([] : List Nat)).flatten = []
            simp
        rw [e] at q
        exact q
      · rename_i hk h3
        have e : (⟨(List.replicate k.toNat z.cps).foldl (· ++ ·) #[]⟩ : Str) = st (List.replicate k.toNat (tl z)).flatten := ext_tl (by
          show ((List.replicate k.toNat z.cps).foldl (· ++ ·) #[]).toList = _
          rw [fold_cps]
          simp)
        rw [e]
        refine ⟨?_, .str _, H, I.tok _, ⟨_, rfl⟩, q⟩
        rw [st_len]
        have : (List.replicate k.toNat (tl z)).flatten.length = k.toNat * (tl z).length := by simp
        rw [this, ← len_tl, Nat.mul_comm]
        exact hz
end
end Mi

namespace Mi
open PySem L2 TL

/-! ### * -/
def fMul (mu : Bool) (x y : MV) (S : Sto) : Res MV := match x, y with
  | .int i, .int j => if i.natAbs.log2 + j.natAbs.log2 < 1000000 then .ok (.int (i * j)) S else .bad
  | .str a, .int k => if k < 2 ^ 20 ∧ -(2 ^ 20) < k ∧ a.length * k.toNat ≤ sizeLine then .ok (.str (List.replicate k.toNat a).flatten) S else .bad
  | x, .int k => match asH S x with
    | some xs => if k < 2 ^ 20 ∧ -(2 ^ 20) < k ∧ xs.length * k.toNat ≤ sizeLine then mkL mu (List.replicate k.toNat xs).flatten S else .bad
    | none => .bad
  | _, _ => .bad
def rMulM : R2 := fun x y H Q => rI CMulW (fun i j => .int (i * j)) x y H Q ∨ rMulS x y H Q ∨ rRep x y H Q
theorem VRs.rep {C : Ct} {ι : Io} {H : Hp} {xs : List MV} {vs : List V} (h : VRs C ι H xs vs) : ∀ k : Nat, VRs C ι H (List.replicate k xs).flatten (List.replicate k vs).flatten
  | 0 => by simp only [List.replicate_zero, List.flatten_nil, VRs]
  | k + 1 => by
    rw [List.replicate_succ, List.replicate_succ, List.flatten_cons, List.flatten_cons]
    exact h.append (VRs.rep h k)
section
variable {X : Cx} {C : Ct}
theorem op_mulM : OpR X (binaryOp .Mult) rMulM := op_mulW.or (op_mulS.or op_rep)
theorem opm_mul (mu : Bool) : OpM C (fMul mu) rMulM := by
  intro W ι σ S H x y v u Q hs h1 h2 hp
  unfold fMul at hp
  split at hp
  · simp only [VR] at h1 h2
    split at hp
    · rename_i hl
      exact .inl ⟨_, _, h1, h2, hl, hp ι H _ .refl hs (by simp only [VR])⟩
    · exact hp.elim
  · simp only [VR] at h1 h2
    split at hp
    · rename_i hl
      exact .inr (.inl ⟨_, _, h1, h2, hl.1, hl.2.1, by rw [st_len]; exact hl.2.2, hp ι H _ .refl hs (by simp only [VR])⟩)
    · exact hp.elim
  · split at hp
    · rename_i xs e
      simp only [VR] at h2
      subst h2
      obtain ⟨a, vs, rfl, f1, r1⟩ := asH_ok hs h1 e
      split at hp
      · rename_i hl
        exact .inr (.inr ⟨a, _, vs, rfl, rfl, f1, by omega, by omega, by rw [r1.len]; exact hl.2.2, mkL_ok hs (r1.rep _) hp⟩)
      · exact hp.elim
    · exact hp.elim
  · exact hp.elim

/-! ### order of ints and of texts -/
def fLt (x y : MV) (S : Sto) : Res MV := match x, y with
  | .int i, .int j => .ok (.bl (decide (i < j))) S
  | .str a, .str b => .ok (.bl (decide (a < b))) S
  | _, _ => .bad
def fLe (x y : MV) (S : Sto) : Res MV := match x, y with
  | .int i, .int j => .ok (.bl (decide (i ≤ j))) S
  | .str a, .str b => .ok (.bl (!decide (b < a))) S
  | _, _ => .bad
def fGt (x y : MV) (S : Sto) : Res MV := match x, y with
  | .int i, .int j => .ok (.bl (decide (j < i))) S
  | .str a, .str b => .ok (.bl (decide (b < a))) S
  | _, _ => .bad
def fGe (x y : MV) (S : Sto) : Res MV := match x, y with
  | .int i, .int j => .ok (.bl (decide (j ≤ i))) S
  | .str a, .str b => .ok (.bl (!decide (a < b))) S
  | _, _ => .bad
def rOrd (p : Int → Int → Bool) (q : List Nat → List Nat → Bool) : R2 := fun x y H Q => (∃ i j, x = .int i ∧ y = .int j ∧ Q (.bl (p i j)) H) ∨ ∃ i j, x = .str i ∧ y = .str j ∧ Q (.bl (q i.cps.toList j.cps.toList)) H
theorem op_ltM : OpR X (compareOp .Lt) (rOrd (fun i j => decide (i < j)) fun a b => decide (a < b)) := op_lt.or op_lt_str
theorem op_leM : OpR X (compareOp .LtE) (rOrd (fun i j => decide (i ≤ j)) fun a b => !decide (b < a)) := op_le.or op_le_str
theorem op_gtM : OpR X (compareOp .Gt) (rOrd (fun i j => decide (j < i)) fun a b => decide (b < a)) := op_gt.or op_gt_str
theorem op_geM : OpR X (compareOp .GtE) (rOrd (fun i j => decide (j ≤ i)) fun a b => !decide (a < b)) := op_ge.or op_ge_str
theorem opm_ord {p : Int → Int → Bool} {q : List Nat → List Nat → Bool} {f : MV → MV → Sto → Res MV}
    (hf : ∀ x y S, f x y S = .bad ∨ (∃ i j, x = .int i ∧ y = .int j ∧ f x y S = .ok (.bl (p i j)) S) ∨ ∃ i j, x = .str i ∧ y = .str j ∧ f x y S = .ok (.bl (q i j)) S) : OpM C f (rOrd p q) := by
  intro W ι σ S H x y v u Q hs h1 h2 hp
  rcases hf x y S with e | ⟨i, j, rfl, rfl, e⟩ | ⟨i, j, rfl, rfl, e⟩
  · rw [e] at hp; exact hp.elim
  · rw [e] at hp
    simp only [VR] at h1 h2
    exact .inl ⟨i, j, h1, h2, hp ι H _ .refl hs (by simp only [VR])⟩
  · rw [e] at hp
    simp only [VR] at h1 h2
    exact .inr ⟨_, _, h1, h2, hp ι H _ .refl hs (by simp only [VR])⟩
theorem opm_lt : OpM C fLt (rOrd (fun i j => decide (i < j)) fun a b => decide (a < b)) := opm_ord fun x y S => by
  unfold fLt; split
  · exact .inr (.inl ⟨_, _, rfl, rfl, rfl⟩)
  · exact .inr (.inr ⟨_, _, rfl, rfl, rfl⟩)
  · exact .inl rfl
theorem opm_le : OpM C fLe (rOrd (fun i j => decide (i ≤ j)) fun a b => !decide (b < a)) := opm_ord fun x y S => by
  unfold fLe; split
  · exact .inr (.inl ⟨_, _, rfl, rfl, rfl⟩)
  · exact .inr (.inr ⟨_, _, rfl, rfl, rfl⟩)
  · exact .inl rfl
theorem opm_gt : OpM C fGt (rOrd (fun i j => decide (j < i)) fun a b => decide (b < a)) := opm_ord fun x y S => by
  unfold fGt; split
  · exact .inr (.inl ⟨_, _, rfl, rfl, rfl⟩)
  · exact .inr (.inr ⟨_, _, rfl, rfl, rfl⟩)
  · exact .inl rfl
theorem opm_ge : OpM C fGe (rOrd (fun i j => decide (j ≤ i)) fun a b => !decide (a < b)) := opm_ord fun x y S => by
  unfold fGe; split
  · exact .inr (.inl ⟨_, _, rfl, rfl, rfl⟩)
  · exact .inr (.inr ⟨_, _, rfl, rfl, rfl⟩)
  · exact .inl rfl
/-- a < b < c -/
def mChain (f g : MV → MV → Sto → Res MV) (a b c : ME) : ME := fun env S => (a env S).bind fun x S1 => (b env S1).bind fun y S2 => (f x y S2).bind fun z S3 => match z with
  | .bl true => (c env S3).bind fun w S4 => g y w S4
  | .bl false => .ok (.bl false) S3
  | _ => .bad
/-- an operation that leaves the store as it is, and its operands' names alone -/
theorem chain_core {W : WX} {f g : MV → MV → Sto → Res MV} {r r' : R2} (hf : OpM C f r) (hg : OpM C g r') {a b c : ME} {σ : L2.St} {H : Hp} {Q : VK} (h : tM C W (mChain f g a b c) σ H Q) :
    tM C W a σ H fun x H1 => tM C W b σ H1 fun y H2 => r x y H2 fun z H3 => ∃ k, z = .bl k ∧ (if k = true then tM C W c σ H3 fun w H4 => r' y w H4 Q else Q (.bl false) H3) := by
  obtain ⟨ι, env, S, he, hs, hp⟩ := h
  refine ⟨ι, env, S, he, hs, Post.bind hp fun x S1 ι1 H1 v e1 s1 q1 p1 => ?_⟩
  refine ⟨ι1, env, S1, he.mono e1, s1, Post.bind p1 fun y S2 ι2 H2 u e2 s2 q2 p2 => ?_⟩
  refine hf W ι2 σ S2 H2 x y v u _ s2 (q1.mono e2) q2 (Post.bind p2 fun z S3 ι3 H3 t e3 s3 q3 p3 => ?_)
  split at p3
  · simp only [VR] at q3
    refine ⟨true, q3, ?_⟩
    rw [if_pos rfl]
    refine ⟨ι3, env, S3, ((he.mono e1).mono e2).mono e3, s3, Post.bind p3 fun w S4 ι4 H4 t4 e4 s4 q4 p4 => ?_⟩
    exact hg W ι4 σ S4 H4 y w u t4 Q s4 ((q2.mono e3).mono e4) q4 p4
  · simp only [VR] at q3
    refine ⟨false, q3, ?_⟩
    rw [if_neg Bool.false_ne_true]
    exact p3 ι3 H3 _ .refl s3 (by simp only [VR])
  · exact p3.elim
end
end Mi

namespace Mi
open PySem PySem.Spec PyProof.Rows L2 TL
section
variable {X : Cx} {C : Ct} {W : WX} {pos : Pos} {k : Nat}
theorem Bx.u64 (B : Bx C W k X) : X.A.units + 64 < cLine := B.room.units
theorem Bx.u1 (B : Bx C W k X) : X.A.units + 1 < cLine := hu_of B.room
theorem je_chain {op op' : CmpOp} {f g : MV → MV → Sto → Res MV} {r r' : R2} {ea eb ec : Expr} {a b c : ME} (ho : OpR X (compareOp op) r) (hf : OpM C f r) (ho' : OpR X (compareOp op') r') (hg : OpM C g r') (ha : PE X ea (tM C W a)) (hb : PE X eb (tM C W b)) (hc : PE X ec (tM C W c))
    (hm : lastMarks [op, op'] [eb, ec] = false := by with_unfolding_all rfl) : PE X (.Compare ea [op, op'] [eb, ec] pos) (tM C W (mChain f g a b c)) :=
  peImp (pe_chain ho ho' ha hb hc hm) fun σ H Q h => chain_core hf hg h
theorem jt_chain {op op' : CmpOp} {f g : MV → MV → Sto → Res MV} {r r' : R2} {ea eb ec : Expr} {a b c : ME} (ho : OpR X (compareOp op) r) (hf : OpM C f r) (ho' : OpR X (compareOp op') r') (hg : OpM C g r') (ha : PE X ea (tM C W a)) (hb : PE X eb (tM C W b)) (hc : PE X ec (tM C W c))
    (hm : lastMarks [op, op'] [eb, ec] = false := by with_unfolding_all rfl) : PT X (.Compare ea [op, op'] [eb, ec] pos) (tMB C W (asB (mChain f g a b c))) :=
  ptImp (pt_chain ho ho' ha hb hc hm) fun σ H Q h => by
    have q := tMB_of h
    exact chain_core hf hg q

/-! ### is None -/
def isN : MV → Bool
  | .non => true
  | _ => false
def mIsN (m : ME) : ME := fun env S => (m env S).bind fun x S1 => .ok (.bl (isN x)) S1
def mNotN (m : ME) : ME := fun env S => (m env S).bind fun x S1 => .ok (.bl (!isN x)) S1
theorem isN_ok {ι : Io} {H : Hp} {x : MV} {v : V} (r : VR C ι H x v) : decide (v = .non) = isN x := by
  cases x with
  | non => simp only [VR] at r; subst r; rfl
  | bl b => simp only [VR] at r; subst r; rfl
  | int b => simp only [VR] at r; subst r; rfl
  | str b => simp only [VR] at r; subst r; rfl
  | ty b => simp only [VR] at r; subst r; rfl
  | tup b => simp only [VR] at r; obtain ⟨a, _, rfl, _⟩ := r; rfl
  | lst b => simp only [VR] at r; obtain ⟨a, _, rfl, _⟩ := r; rfl
  | rol b => simp only [VR] at r; obtain ⟨a, _, rfl, _⟩ := r; rfl
  | dic b => simp only [VR] at r; obtain ⟨a, _, rfl, _⟩ := r; rfl
  | ins c b => simp only [VR] at r; obtain ⟨a, _, _, rfl, _⟩ := r; rfl
  | ref b => simp only [VR] at r; obtain ⟨a, rfl, _⟩ := r; rfl
  | fn b => simp only [VR] at r; subst r; rfl
  | clo b c => simp only [VR] at r
theorem isN_imp {m : ME} {σ : L2.St} {H : Hp} {Q : VK} (h : tM C W (mIsN m) σ H Q) : tIsN (tM C W m) σ H Q := by
  obtain ⟨ι, env, S, he, hs, hp⟩ := h
  refine ⟨ι, env, S, he, hs, Post.bind hp fun x S1 ι1 H1 v e1 s1 q1 p1 => ?_⟩
  rw [isN_ok q1]
  exact p1 ι1 H1 _ .refl s1 (by simp only [VR])
theorem notN_imp {m : ME} {σ : L2.St} {H : Hp} {Q : VK} (h : tM C W (mNotN m) σ H Q) : tNotN (tM C W m) σ H Q := by
  obtain ⟨ι, env, S, he, hs, hp⟩ := h
  refine ⟨ι, env, S, he, hs, Post.bind hp fun x S1 ι1 H1 v e1 s1 q1 p1 => ?_⟩
  rw [isN_ok q1]
  exact p1 ι1 H1 _ .refl s1 (by simp only [VR])
theorem je_isN {e : Expr} {m : ME} {j pos'} (h : PE X e (tM C W m)) : PE X (.Compare e [.Is] [.Constant .none j pos'] pos) (tM C W (mIsN m)) := peImp (pe_cmp (pc_isN h) rfl) fun _ _ _ => isN_imp
theorem je_notN {e : Expr} {m : ME} {j pos'} (h : PE X e (tM C W m)) : PE X (.Compare e [.IsNot] [.Constant .none j pos'] pos) (tM C W (mNotN m)) := peImp (pe_cmp (pc_notN h) rfl) fun _ _ _ => notN_imp
theorem jt_isN {e : Expr} {m : ME} {j pos'} (h : PE X e (tM C W m)) : PT X (.Compare e [.Is] [.Constant .none j pos'] pos) (tMB C W (asB (mIsN m))) := ptImp (pt_cmp (pc_isN h) rfl) fun _ _ _ h => isN_imp (tMB_of h)
theorem jt_notN {e : Expr} {m : ME} {j pos'} (h : PE X e (tM C W m)) : PT X (.Compare e [.IsNot] [.Constant .none j pos'] pos) (tMB C W (asB (mNotN m))) := ptImp (pt_cmp (pc_notN h) rfl) fun _ _ _ h => notN_imp (tMB_of h)

/-! ### dicts read -/
def keyB : MV → MV → Bool
  | .int i, .int j => i == j
  | .str a, .str b => a == b
  | _, _ => false
def isKey : MV → Bool
  | .int _ => true
  | .str _ => true
  | _ => false
def kLook : List (MV × MV) → MV → Option MV
  | [], _ => none
  | (k, x) :: r, y => if keyB k y then some x else kLook r y
def asD (S : Sto) : MV → Option (List (MV × MV))
  | .dic kvs => some kvs
  | .ref l => match S[l]? with
    | some (.dic kvs) => some kvs
    | _ => none
  | _ => none
def keyOf : MV → Key
  | .int i => .inl i
  | .str s => .inr (st s)
  | _ => .inl 0
theorem keyOf_ok {ι : Io} {H : Hp} {x : MV} {v : V} (r : VR C ι H x v) (k : isKey x = true) : v = kV (keyOf x) := by
  cases x <;> first | (simp only [VR] at r; subst r; rfl) | cases k
theorem keyR_eq {x : MV} {k : Key} (h : KeyR x k) : isKey x = true ∧ k = keyOf x := by
  cases x <;> first | exact ⟨rfl, h⟩ | exact h.elim
theorem st_inj {a b : List Nat} (h : st a = st b) : a = b := by
  have := congrArg tl h
  simpa using this
theorem keyB_ok {x y : MV} (hx : isKey x = true) (hy : isKey y = true) : keyB x y = decide (keyOf x = keyOf y) := by
  cases x with
  | int i => cases y with
    | int j => simp only [keyB, keyOf, Sum.inl.injEq]; by_cases h : i = j <;> simp [h]
    | str b => simp [keyB, keyOf]
    | _ => cases hy
  | str a => cases y with
    | int j => simp [keyB, keyOf]
    | str b =>
      simp only [keyB, keyOf, Sum.inr.injEq]
      by_cases h : a = b
      · simp [h]
      · have : ¬ st a = st b := fun z => h (st_inj z)
        simp [h]
    | _ => cases hy
  | _ => cases hx
theorem KRs.look {ι : Io} {H : Hp} {y : MV} (hy : isKey y = true) : ∀ {kvs : List (MV × MV)} {kx : List (Key × V)}, KRs C ι H kvs kx → (kLook kvs y = none → valV kx (keyOf y) = none) ∧ ∀ x, kLook kvs y = some x → ∃ v, valV kx (keyOf y) = some v ∧ VR C ι H x v
  | [], kx, h => by simp only [KRs] at h; subst h; exact ⟨fun _ => rfl, fun x h => by cases h⟩
  | (k, z) :: r, kx, h => by
    simp only [KRs] at h
    obtain ⟨⟨key, v⟩, w, rfl, h1, h2⟩ := h
    simp only [KR] at h1
    obtain ⟨h1, h3⟩ := h1
    obtain ⟨hk, rfl⟩ := keyR_eq h1
    obtain ⟨i1, i2⟩ := KRs.look hy h2
    have e := keyB_ok hk hy
    by_cases hb : keyOf k = keyOf y
    · rw [decide_eq_true hb] at e
      simp only [kLook, e, if_true]
      exact ⟨fun z => (by cases z), fun x hx => by cases hx; exact ⟨v, valV_pos hb, h3⟩⟩
    · rw [decide_eq_false hb] at e
      simp only [kLook, e, Bool.false_eq_true, if_false]
      rw [valV_neg (p := (keyOf k, v)) hb]
      exact ⟨i1, i2⟩
theorem asD_ok {ι : Io} {S : Sto} {H : Hp} {x : MV} {v : V} {kvs : List (MV × MV)} (s : StR C ι S H) (r : VR C ι H x v) (h : asD S x = some kvs) : ∃ a kx, v = .ref a ∧ Rd H a (.dK kx) ∧ KRs C ι H kvs kx := by
  cases x with
  | dic ys =>
    simp only [asD, Option.some.injEq] at h; subst h
    simp only [VR] at r
    obtain ⟨a, kx, rfl, h0, h1, h2⟩ := r
    exact ⟨a, kx, rfl, h1, h2⟩
  | ref l =>
    simp only [asD] at h
    split at h
    · rename_i ys e
      simp only [Option.some.injEq] at h; subst h
      simp only [VR] at r
      obtain ⟨a, rfl, hl⟩ := r
      obtain ⟨kx, h1, h2⟩ := s.ob l _ a e hl
      exact ⟨a, kx, rfl, .inl h1, h2⟩
    · cases h
  | _ => cases h

/-! ### in -/
def rInD' : R2 := fun x y H Q => ∃ a o, y = .ref a ∧ DGet H a x o ∧ Q (.bl o.isSome) H
def rNotInD' : R2 := fun x y H Q => ∃ a o, y = .ref a ∧ DGet H a x o ∧ Q (.bl (!o.isSome)) H
theorem op_inD' (hu : X.A.units + 1 < cLine) : OpR X (compareOp .In) rInD' := by
  intro pins s σ H x y v u Q I rx ry h
  obtain ⟨a, o, rfl, g, q⟩ := h
  cases ry
  exact d_in hu I g rx fun s3 I3 => ⟨.bl o.isSome, H, I3, rfl, q⟩
theorem op_notInD' (hu : X.A.units + 1 < cLine) : OpR X (compareOp .NotIn) rNotInD' := by
  intro pins s σ H x y v u Q I rx ry h
  obtain ⟨a, o, rfl, g, q⟩ := h
  cases ry
  exact d_notIn hu I g rx fun s3 I3 => ⟨.bl (!o.isSome), H, I3, rfl, q⟩
def rInS' : R2 := fun x y H Q => ∃ (c : Nat) (z : Str), x = .str ⟨#[c]⟩ ∧ y = .str z ∧ Q (.bl (decide (c ∈ z.cps.toList))) H
def rNotInS' : R2 := fun x y H Q => ∃ (c : Nat) (z : Str), x = .str ⟨#[c]⟩ ∧ y = .str z ∧ Q (.bl (!decide (c ∈ z.cps.toList))) H
def rInM (K : PySem.W.Frag) : R2 := fun x y H Q => rInS' x y H Q ∨ rIn K false x y H Q ∨ rInD' x y H Q
def rNotInM (K : PySem.W.Frag) : R2 := fun x y H Q => rNotInS' x y H Q ∨ rIn K true x y H Q ∨ rNotInD' x y H Q
theorem op_inM (hu : X.A.units + 1 < cLine) : OpR X (compareOp .In) (rInM X.K) := OpR.or op_in_sign (OpR.or op_in_seq (op_inD' hu))
theorem op_notInM (hu : X.A.units + 1 < cLine) : OpR X (compareOp .NotIn) (rNotInM X.K) := OpR.or op_notIn_sign (OpR.or op_notIn_seq (op_notInD' hu))
/-- a list or a tuple -/
def asSq (S : Sto) (x : MV) : Option (List MV) := match asU x with
  | some xs => some xs
  | none => asL S x
theorem asSq_ok {ι : Io} {S : Sto} {H : Hp} {x : MV} {v : V} {xs : List MV} (s : StR C ι S H) (r : VR C ι H x v) (h : asSq S x = some xs) : ∃ a vs, v = .ref a ∧ (SqL C.K H a vs ∨ SqT C.K H a vs) ∧ VRs C ι H xs vs := by
  unfold asSq at h
  split at h
  · rename_i ys e
    simp only [Option.some.injEq] at h; subst h
    obtain ⟨a, vs, rfl, h1, h2⟩ := asU_ok r e
    exact ⟨a, vs, rfl, .inr h1.sq, h2⟩
  · obtain ⟨a, vs, rfl, h1, h2⟩ := asL_ok s r h
    exact ⟨a, vs, rfl, .inl h1, h2⟩
theorem VRs.flats {ι : Io} {H : Hp} : ∀ {xs : List MV} {vs : List V}, VRs C ι H xs vs → xs.all flat = true → vs.all L2.flatV = true
  | [], _, h, _ => by simp only [VRs] at h; subst h; rfl
  | x :: r, _, h, f => by
    simp only [VRs] at h
    obtain ⟨v, w, rfl, h1, h2⟩ := h
    rw [List.all_cons, Bool.and_eq_true] at f
    rw [List.all_cons, h1.flatV f.1, VRs.flats h2 f.2]
    rfl
theorem VRs.inV {ι : Io} {H : Hp} {y : MV} {u : V} (hy : VR C ι H y u) (fy : flat y = true) : ∀ {xs : List MV} {vs : List V}, VRs C ι H xs vs → xs.all flat = true → L2.inV u vs = xs.any fun x => eqF x y
  | [], _, h, _ => by simp only [VRs] at h; subst h; rfl
  | x :: r, _, h, f => by
    simp only [VRs] at h
    obtain ⟨v, w, rfl, h1, h2⟩ := h
    rw [List.all_cons, Bool.and_eq_true] at f
    have ih := VRs.inV hy fy h2 f.2
    unfold L2.inV at ih ⊢
    rw [List.any_cons, List.any_cons, ih, eqF_V h1 hy f.1 fy]
/-- whether x is in y -/
def isIn (S : Sto) (x y : MV) : Option Bool := match x, y with
  | .str [c], .str z => some (decide (c ∈ z))
  | x, y => match asSq S y with
    | some xs => if flat x && xs.all flat then some (xs.any fun z => eqF z x) else none
    | none => match asD S y with
      | some kvs => if isKey x then some (kLook kvs x).isSome else none
      | none => none
def fIn (x y : MV) (S : Sto) : Res MV := match isIn S x y with
  | some b => .ok (.bl b) S
  | none => .bad
def fNotIn (x y : MV) (S : Sto) : Res MV := match isIn S x y with
  | some b => .ok (.bl (!b)) S
  | none => .bad
theorem isIn_ok {ι : Io} {S : Sto} {H : Hp} {x y : MV} {v u : V} {b : Bool} (hs : StR C ι S H) (h1 : VR C ι H x v) (h2 : VR C ι H y u) (h : isIn S x y = some b) :
    (∃ (c : Nat) (z : Str), v = .str ⟨#[c]⟩ ∧ u = .str z ∧ decide (c ∈ z.cps.toList) = b) ∨ (∃ p xs, u = .ref p ∧ (SqL C.K H p xs ∨ SqT C.K H p xs) ∧ L2.flatV v = true ∧ xs.all L2.flatV = true ∧ L2.inV v xs = b) ∨ ∃ a o, u = .ref a ∧ DGet H a v o ∧ o.isSome = b := by
  unfold isIn at h
  split at h
  · simp only [VR] at h1 h2
    simp only [Option.some.injEq] at h
    exact .inl ⟨_, _, h1, h2, h⟩
  · split at h
    · rename_i xs e
      split at h
      · rename_i hf
        rw [Bool.and_eq_true] at hf
        simp only [Option.some.injEq] at h
        obtain ⟨a, vs, rfl, g1, g2⟩ := asSq_ok hs h2 e
        exact .inr (.inl ⟨a, vs, rfl, g1, h1.flatV hf.1, g2.flats hf.2, by rw [g2.inV h1 hf.1 hf.2]; exact h⟩)
      · cases h
    · split at h
      · rename_i kvs e
        split at h
        · rename_i hk
          simp only [Option.some.injEq] at h
          obtain ⟨a, kx, rfl, g1, g2⟩ := asD_ok hs h2 e
          refine .inr (.inr ⟨a, valV kx (keyOf x), rfl, .inl ⟨kx, _, g1, keyOf_ok h1 hk, rfl⟩, ?_⟩)
          obtain ⟨l1, l2⟩ := g2.look hk
          cases hl : kLook kvs x with
          | none => rw [l1 hl, ← h, hl]; rfl
          | some z =>
            obtain ⟨w, ew, _⟩ := l2 z hl
            rw [ew, ← h, hl]; rfl
        · cases h
      · cases h
theorem opm_in : OpM C fIn (rInM C.K) := by
  intro W ι σ S H x y v u Q hs h1 h2 hp
  unfold fIn at hp
  split at hp
  · rename_i b e
    have q := hp ι H (.bl b) .refl hs (by simp only [VR])
    rcases isIn_ok hs h1 h2 e with ⟨c, z, rfl, rfl, e⟩ | ⟨p, xs, rfl, g1, g2, g3, e⟩ | ⟨a, o, rfl, g, e⟩
    · exact .inl ⟨c, z, rfl, rfl, by rw [e]; exact q⟩
    · exact .inr (.inl ⟨p, xs, rfl, g1, g2, g3, by rw [if_neg Bool.false_ne_true, e]; exact q⟩)
    · exact .inr (.inr ⟨a, o, rfl, g, by rw [e]; exact q⟩)
  · exact hp.elim
theorem opm_notIn : OpM C fNotIn (rNotInM C.K) := by
  intro W ι σ S H x y v u Q hs h1 h2 hp
  unfold fNotIn at hp
  split at hp
  · rename_i b e
    have q := hp ι H (.bl (!b)) .refl hs (by simp only [VR])
    rcases isIn_ok hs h1 h2 e with ⟨c, z, rfl, rfl, e⟩ | ⟨p, xs, rfl, g1, g2, g3, e⟩ | ⟨a, o, rfl, g, e⟩
    · exact .inl ⟨c, z, rfl, rfl, by rw [e]; exact q⟩
    · exact .inr (.inl ⟨p, xs, rfl, g1, g2, g3, by rw [if_pos rfl, e]; exact q⟩)
    · exact .inr (.inr ⟨a, o, rfl, g, by rw [e]; exact q⟩)
  · exact hp.elim

/-! ### a[b] -/
def rIxD : R2 := fun x y H Q => ∃ a v, x = .ref a ∧ DGet H a y (some v) ∧ Q v H
theorem ix_dict (hu : X.A.units + 1 < cLine) : IxR X rIxD := by
  intro value slice pins s σ H x y v u Q I rx ry h hs
  obtain ⟨a, z, rfl, g, q⟩ := h
  cases rx
  have hT := dict_typeIs I g
  unfold subscriptTail
  refine wpAny_bind ?_
  rw [getitemInPython_of_ne hT.not_modules]
  refine wpAny_bind (wpAny_specialOf hT PySem.F.slot_dict_getitem.lookup ?_)
  have fin : wpAny (model X.prog X.w) X.A (subscripted slice false (.ref a) u) (fun r s₃ => wpAny (model X.prog X.w) X.A (letTemporaryGo value (.ref a) r >>= fun _ => pure r) (EP X pins σ Q) X.xe s₃) X.xe s := by
    rw [hs]
    exact wpAny_operating (d_getItem hu I g ry fun w' s3 I3 rw' => wpAny_bind (wpAny_letTemporaryGo (wpAny_pure ⟨z, H, I3, rw', q⟩)))
  first
    | exact wpAny_pure (wpAny_bind fin)
    | exact wpAny_bind (wpAny_pure (wpAny_bind fin))
    | exact wpAny_bind fin
def rIxM (K : PySem.W.Frag) : R2 := fun x y H Q => rIx K x y H Q ∨ rIxD x y H Q
theorem ix_M (hu : X.A.units + 1 < cLine) : IxR X (rIxM X.K) := IxR.or ix_seq (ix_dict hu)
def fIx (x y : MV) (S : Sto) : Res MV := match x, y with
  | .str z, .int i => if z.length ≤ sizeLine then (match atI z i with
    | some c => .ok (.str [c]) S
    | none => .bad) else .bad
  | x, y => match asSq S x with
    | some xs => (match y with
      | .int i => (match atI xs i with
        | some v => .ok v S
        | none => .bad)
      | _ => .bad)
    | none => match asD S x with
      | some kvs => if isKey y then (match kLook kvs y with
        | some v => .ok v S
        | none => .bad) else .bad
      | none => .bad
theorem VRs.atI {ι : Io} {H : Hp} {xs : List MV} {vs : List V} {i : Int} {x : MV} (r : VRs C ι H xs vs) (h : L2.atI xs i = some x) : ∃ v, L2.atI vs i = some v ∧ VR C ι H x v := by
  unfold L2.atI at h ⊢
  rw [r.len]
  cases e : ixN xs.length i with
  | none => rw [e] at h; cases h
  | some j =>
    rw [e] at h
    exact r.at h
theorem opm_ix : OpM C fIx (rIxM C.K) := by
  intro W ι σ S H x y v u Q hs h1 h2 hp
  unfold fIx at hp
  split at hp
  · split at hp
    · rename_i hl
      split at hp
      · rename_i z i _ c e
        simp only [VR] at h1 h2
        exact .inl (.inr (.inr ⟨_, _, c, h1, h2, by rw [st_len]; exact hl, e, hp ι H _ .refl hs (by simp only [VR])⟩))
      · exact hp.elim
    · exact hp.elim
  · split at hp
    · rename_i xs e
      obtain ⟨a, vs, rfl, g1, g2⟩ := asSq_ok hs h1 e
      split at hp
      · split at hp
        · rename_i i _ z e2
          simp only [VR] at h2
          obtain ⟨w, e3, r3⟩ := g2.atI e2
          have q := hp ι H w .refl hs r3
          rcases g1 with g1 | g1
          · exact .inl (.inl ⟨a, vs, _, w, rfl, h2, g1, e3, q⟩)
          · exact .inl (.inr (.inl ⟨a, vs, _, w, rfl, h2, g1, e3, q⟩))
        · exact hp.elim
      · exact hp.elim
    · split at hp
      · rename_i kvs e
        split at hp
        · rename_i hk
          split at hp
          · rename_i z e2
            obtain ⟨a, kx, rfl, g1, g2⟩ := asD_ok hs h1 e
            obtain ⟨w, e3, r3⟩ := (g2.look hk).2 z e2
            exact .inr ⟨a, w, rfl, .inl ⟨kx, _, g1, keyOf_ok h2 hk, e3.symm⟩, hp ι H w .refl hs r3⟩
          · exact hp.elim
        · exact hp.elim
      · exact hp.elim
theorem je_ix {ea eb : Expr} {a b : ME} (B : Bx C W k X) (ha : PE X ea (tM C W a)) (hb : PE X eb (tM C W b)) (hs : PlainIx eb := by exact fun _ _ => rfl) : PE X (.Subscript ea eb pos) (tM C W (mBin fIx a b)) :=
  peImp (pe_ix (ix_M B.u1) ha hb hs) fun _ _ _ h => by rw [B.hK]; exact tM_bin opm_ix h

/-! ### slices -/
def cutL {α : Type} (xs : List α) (lo hi : Option Int) : List α := (xs.drop (HT.sIx xs.length 0 lo)).take (HT.sIx xs.length xs.length hi - HT.sIx xs.length 0 lo)
abbrev MO' := Env → Sto → Res (Option Int)
def tMO (C : Ct) (W : WX) (m : MO') : TO := fun σ H Q => ∃ ι env S, EnvR C ι H env σ ∧ StR C ι S H ∧ Post C W (fun _ _ x v => v = x) ι σ H (m env S) Q
theorem poImp {e : Option Expr} {t t' : TO} (h : PO X e t) (i : ∀ σ H Q, t' σ H Q → t σ H Q) : PO X e t' := ⟨fun pins s σ H Q I q => h.run pins s σ H Q I (i σ H Q q)⟩
def mNoPart : MO' := fun _ S => .ok none S
def mPart (m : ME) : MO' := fun env S => (m env S).bind fun x S1 => match x with
  | .int i => .ok (some i) S1
  | _ => .bad
theorem jo_none : PO X none (tMO C W mNoPart) := poImp po_none fun σ H Q h => by
  obtain ⟨ι, env, S, he, hs, hp⟩ := h
  exact hp ι H _ .refl hs rfl
theorem jo_some {e : Expr} {m : ME} (h : PE X e (tM C W m)) : PO X (some e) (tMO C W (mPart m)) := poImp (po_some h) fun σ H Q h => by
  obtain ⟨ι, env, S, he, hs, hp⟩ := h
  refine ⟨ι, env, S, he, hs, Post.bind hp fun x S1 ι1 H1 v e1 s1 q1 p1 => ?_⟩
  split at p1
  · simp only [VR] at q1
    exact ⟨_, q1, p1 ι1 H1 _ .refl s1 rfl⟩
  · exact p1.elim
def fSl (mu : Bool) (x : MV) (lo hi : Option Int) (S : Sto) : Res MV := match x with
  | .str z => if z.length ≤ sizeLine then .ok (.str (cutL z lo hi)) S else .bad
  | .tup xs => .ok (.tup (cutL xs lo hi)) S
  | x => match asL S x with
    | some xs => mkL mu (cutL xs lo hi) S
    | none => .bad
def mSl (mu : Bool) (a : ME) (lo hi : MO') : ME := fun env S => (a env S).bind fun x S1 => (lo env S1).bind fun l S2 => (hi env S2).bind fun h S3 => fSl mu x l h S3
def rSlM (K : PySem.W.Frag) : V → Option Int → Option Int → Hp → VK → Prop := fun x lo hi H Q => rSlL K x lo hi H Q ∨ rSlA K x lo hi H Q ∨ rSlS x lo hi H Q
theorem sl_M : SlR X (rSlM X.K) := SlR.or sl_list (SlR.or sl_tupA sl_str)
theorem VRs.cut {ι : Io} {H : Hp} {xs : List MV} {vs : List V} (lo hi : Option Int) (r : VRs C ι H xs vs) : VRs C ι H (cutL xs lo hi) (cutV vs lo hi) := by
  unfold cutL cutV
  rw [r.len]
  exact (r.drop _).take _
theorem fSl_ok {mu : Bool} {ι : Io} {σ : L2.St} {S : Sto} {H : Hp} {x : MV} {v : V} {lo hi : Option Int} {Q : VK} (hs : StR C ι S H) (h1 : VR C ι H x v) (hp : Post C W (VR C) ι σ H (fSl mu x lo hi S) Q) : rSlM C.K v lo hi H Q := by
  unfold fSl at hp
  split at hp
  · split at hp
    · rename_i z hl
      simp only [VR] at h1
      refine .inr (.inr ⟨_, h1, by rw [st_len]; exact hl, hp ι H _ .refl hs ?_⟩)
      refine VR_str ?_
      unfold cutS cutL
      simp [Str.length]
    · exact hp.elim
  · rename_i xs
    simp only [VR] at h1
    obtain ⟨a, vs, rfl, f1, r1⟩ := h1
    refine .inr (.inl ⟨a, vs, rfl, f1.sq, fun e => ?_, fun e => mkT_ok hs (r1.cut lo hi) hp⟩)
    refine hp ι H _ .refl hs ?_
    have e2 : cutL xs lo hi = xs := by
      unfold cutL
      rw [← r1.len, e.1, e.2, List.drop_zero, Nat.sub_zero, r1.len, List.take_length]
    rw [e2]
    simp only [VR]
    exact ⟨a, vs, rfl, f1, r1⟩
  · split at hp
    · rename_i xs e
      obtain ⟨a, vs, rfl, g1, g2⟩ := asL_ok hs h1 e
      exact .inl ⟨a, vs, rfl, g1, mkL_ok hs (g2.cut lo hi) hp⟩
    · exact hp.elim
theorem je_sl (mu : Bool) {e : Expr} {lo hi : Option Expr} {p2 : Pos} {a : ME} {l h : MO'} (hK : X.K = C.K) (ha : PE X e (tM C W a)) (hl : PO X lo (tMO C W l)) (hh : PO X hi (tMO C W h)) : PE X (.Subscript e (.Slice lo hi none p2) pos) (tM C W (mSl mu a l h)) :=
  peImp (pe_slice sl_M ha hl hh) fun σ H Q h => by
    obtain ⟨ι, env, S, he, hs, hp⟩ := h
    refine ⟨ι, env, S, he, hs, Post.bind hp fun x S1 ι1 H1 v e1 s1 q1 p1 => ?_⟩
    refine ⟨ι1, env, S1, he.mono e1, s1, Post.bind p1 fun y S2 ι2 H2 u e2 s2 q2 p2 => ?_⟩
    refine ⟨ι2, env, S2, (he.mono e1).mono e2, s2, Post.bind p2 fun z S3 ι3 H3 t e3 s3 q3 p3 => ?_⟩
    subst q2; subst q3
    rw [hK]
    exact fSl_ok s3 ((q1.mono e2).mono e3) p3

/-! ### displays -/
def mTup (as : MA) : ME := fun env S => (as env S).bind fun xs S1 => if xs.length ≤ sizeLine then .ok (.tup xs) S1 else .bad
def mLst (mu : Bool) (as : MA) : ME := fun env S => (as env S).bind fun xs S1 => if xs.length ≤ sizeLine then mkL mu xs S1 else .bad
theorem je_tup {es : List Expr} {x1} {as : MA} (h : PA X es (tMA C W as)) : PE X (.Tuple es x1 pos) (tM C W (mTup as)) := peImp (pe_tup h) fun σ H Q h => by
  obtain ⟨ι, env, S, he, hs, hp⟩ := h
  refine ⟨ι, env, S, he, hs, Post.bind hp fun xs S1 ι1 H1 vs e1 s1 q1 p1 => ?_⟩
  split at p1
  · rename_i hl
    exact ⟨by rw [q1.len]; exact hl, mkT_ok s1 q1 p1⟩
  · exact p1.elim
theorem je_lst (mu : Bool) {es : List Expr} {as : MA} (h : PA X es (tMA C W as)) : PE X (.List es pos) (tM C W (mLst mu as)) := peImp (pe_lst h) fun σ H Q h => by
  obtain ⟨ι, env, S, he, hs, hp⟩ := h
  refine ⟨ι, env, S, he, hs, Post.bind hp fun xs S1 ι1 H1 vs e1 s1 q1 p1 => ?_⟩
  split at p1
  · rename_i hl
    exact ⟨by rw [q1.len]; exact hl, mkL_ok s1 q1 p1⟩
  · exact p1.elim
end
end Mi

namespace Mi
open PySem PySem.Spec PyProof.Rows L2 TL

/-! ### what is walked -/
theorem piImp {X : Cx} {tg e : Expr} {t t' : TI} (h : PI X tg e t) (i : ∀ σ H R, t' σ H R → t σ H R) : PI X tg e t' := ⟨fun pins s σ H R I q => h.run pins s σ H R I (i σ H R q)⟩
theorem piOr {X : Cx} {tg e : Expr} {t t' : TI} (h : PI X tg e t) (h' : PI X tg e t') : PI X tg e (fun σ H R => t σ H R ∨ t' σ H R) := ⟨fun pins s σ H R I q => q.elim (h.run pins s σ H R I) (h'.run pins s σ H R I)⟩
/-- which place an iteration leans on -/
def depsOf : MV → List MV → List (Nat × List MV)
  | .ref l, xs => [(l, xs)]
  | _, _ => []
theorem asL_chk {S S' : Sto} {x : MV} {xs : List MV} {its : List MV} (h : asL S x = some xs) (c : (Itv.mk its (depsOf x xs)).chk S') : asL S' x = some xs := by
  cases x with
  | ref l =>
    have := c (l, xs) (by simp [depsOf])
    simp only at this
    simp only [asL, this]
  | _ => exact h
section
variable {X : Cx} {C : Ct} {W : WX} {pos : Pos} {k : Nat} {tg : Expr}
def itL (S : Sto) (x : MV) : Option Itv := match asU x with
  | some xs => some ⟨xs, []⟩
  | none => (asL S x).map fun xs => ⟨xs, depsOf x xs⟩
/-- a list or a tuple -/
def mItS (m : ME) : Env → Sto → Res Itv := fun env S => (m env S).bind fun x S1 => match itL S1 x with
  | some t => .ok t S1
  | none => .bad
theorem walkL {ι : Io} {S : Sto} {H : Hp} {x : MV} {a : Addr} {xs : List MV} (hs : StR C ι S H) (r : VR C ι H x (.ref a)) (h : asL S x = some xs) : WalkOk C ι H ⟨xs, depsOf x xs⟩ (Itl C.K a) := by
  refine ⟨fun H' => ∃ vs, vs.length = xs.length ∧ SqL C.K H' a vs, fun i H' y H2 => H2 = H' ∧ ∀ vs, SqL C.K H' a vs → vs[i]? = some y, ⟨?_, ?_, ?_⟩, ?_, ?_⟩
  · rintro i H' hi ⟨vs, hl, q⟩
    have hi : i < xs.length := hi
    exact ⟨vs, vs[i]'(by omega), q, by simp [show i < vs.length by omega]⟩
  · rintro H' ⟨vs, hl, q⟩
    exact ⟨vs, q, by rw [hl]; exact Nat.le_refl _⟩
  · rintro i H' y H2 hi ⟨vs, hl, q⟩ z
    exact ⟨z.1, z.2⟩
  · intro ι' S' H' e s' c
    obtain ⟨a', vs, ea, q, rr⟩ := asL_ok s' (r.mono e) (asL_chk h c)
    cases ea
    exact ⟨vs, rr.len, q⟩
  · rintro i ι' S' H1 y H2 e s' c hi ⟨rfl, hy⟩
    obtain ⟨a', vs, ea, q, rr⟩ := asL_ok s' (r.mono e) (asL_chk h c)
    cases ea
    obtain ⟨mv, em, rm⟩ := rr.at' (hy vs q)
    exact ⟨mv, em, .refl, s', rm⟩
theorem walkT {ι : Io} {S : Sto} {H : Hp} {x : MV} {a : Addr} {xs : List MV} (r : VR C ι H x (.ref a)) (h : asU x = some xs) : WalkOk C ι H ⟨xs, []⟩ (Itt C.K a) := by
  refine ⟨fun H' => ∃ vs, vs.length = xs.length ∧ SqT C.K H' a vs, fun i H' y H2 => H2 = H' ∧ ∀ vs, SqT C.K H' a vs → vs[i]? = some y, ⟨?_, ?_, ?_⟩, ?_, ?_⟩
  · rintro i H' hi ⟨vs, hl, q⟩
    have hi : i < xs.length := hi
    exact ⟨vs, vs[i]'(by omega), q, by simp [show i < vs.length by omega]⟩
  · rintro H' ⟨vs, hl, q⟩
    exact ⟨vs, q, by rw [hl]; exact Nat.le_refl _⟩
  · rintro i H' y H2 hi ⟨vs, hl, q⟩ z
    exact ⟨z.1, z.2⟩
  · intro ι' S' H' e s' c
    obtain ⟨a', vs, ea, q, rr⟩ := asU_ok (r.mono e) h
    cases ea
    exact ⟨vs, rr.len, q.sq⟩
  · rintro i ι' S' H1 y H2 e s' c hi ⟨rfl, hy⟩
    obtain ⟨a', vs, ea, q, rr⟩ := asU_ok (r.mono e) h
    cases ea
    obtain ⟨mv, em, rm⟩ := rr.at' (hy vs q.sq)
    exact ⟨mv, em, .refl, s', rm⟩
theorem ji_seq {e : Expr} {m : ME} (hK : X.K = C.K) (h : PE X e (tM C W m)) : PI X tg e (tMI C W (mItS m)) :=
  piImp (piOr (pi_list h) (pi_tup h)) fun σ H R h => by
    obtain ⟨ι, env, S, he, hs, hp⟩ := h
    unfold mItS at hp
    cases em : m env S with
    | bad => rw [em] at hp; exact hp.elim
    | ex x S1 => refine .inl ⟨ι, env, S, he, hs, ?_⟩; rw [em] at hp ⊢; exact hp
    | ok x S1 =>
      rw [em] at hp
      simp only [bind_ok] at hp
      unfold itL at hp
      cases eu : asU x with
      | some xs =>
        rw [eu] at hp
        refine .inr ⟨ι, env, S, he, hs, ?_⟩
        rw [em]
        intro ι1 H1 v e1 s1 q1
        obtain ⟨a, vs, rfl, g1, g2⟩ := asU_ok q1 eu
        refine ⟨a, rfl, ⟨vs, by rw [hK]; exact g1.sq⟩, ?_⟩
        rw [hK]
        exact hp ι1 H1 _ e1 s1 (walkT (S := S1) q1 eu)
      | none =>
        rw [eu] at hp
        simp only at hp
        cases el : asL S1 x with
        | none => rw [el] at hp; exact hp.elim
        | some xs =>
          rw [el] at hp
          refine .inl ⟨ι, env, S, he, hs, ?_⟩
          rw [em]
          intro ι1 H1 v e1 s1 q1
          obtain ⟨a, vs, rfl, g1, g2⟩ := asL_ok s1 q1 el
          refine ⟨a, rfl, ⟨vs, by rw [hK]; exact g1⟩, ?_⟩
          rw [hK]
          exact hp ι1 H1 _ e1 s1 (walkL s1 q1 el)
/-- range -/
def rngL (lo : Int) (n : Nat) : List MV := (List.range n).map fun (i : Nat) => MV.int (lo + (i : Int))
def mItR1 (as : MA) : Env → Sto → Res Itv := fun env S => (as env S).bind fun xs S1 => match xs with
  | [.int j] => if -(2 ^ 62) ≤ j ∧ j < 2 ^ 62 then .ok ⟨rngL 0 j.toNat, []⟩ S1 else .bad
  | _ => .bad
def mItR2 (as : MA) : Env → Sto → Res Itv := fun env S => (as env S).bind fun xs S1 => match xs with
  | [.int i, .int j] => if -(2 ^ 62) ≤ i ∧ i < 2 ^ 62 ∧ -(2 ^ 62) ≤ j ∧ j < 2 ^ 62 then .ok ⟨rngL i (j - i).toNat, []⟩ S1 else .bad
  | _ => .bad
theorem walkR {ι : Io} {H : Hp} (lo : Int) (n : Nat) : WalkOk C ι H ⟨rngL lo n, []⟩ (Itr lo n) := by
  have hl : (rngL lo n).length = n := by simp [rngL]
  refine ⟨fun _ => True, YFn fun i => .int (lo + (i : Int)), ?_, fun _ _ _ _ _ _ => trivial, ?_⟩
  · show Walk _ (rngL lo n).length _ _
    rw [hl]
    exact walk_range
  · rintro i ι' S' H1 y H2 e s' c hi ⟨rfl, rfl⟩
    have hi : i < (rngL lo n).length := hi
    rw [hl] at hi
    exact ⟨.int (lo + (i : Int)), by simp [rngL, hi], .refl, s', by simp only [VR]⟩
theorem ji_range1 {e : Expr} {as : MA} {p : Pos} (hg : Gl X "range" := by rfl) (hm : X.mg "range" = none) (ha : PA X [e] (tMA C W as)) (hs : starEach [e] X.env = [(false, eval e X.env)] := by rfl) : PI X tg (.Call (.Name "range" p) [e] [] pos) (tMI C W (mItR1 as)) :=
  piImp (pi_range1 hg hm ha hs) fun σ H R h => by
    obtain ⟨ι, env, S, he, hs, hp⟩ := h
    refine ⟨ι, env, S, he, hs, Post.bind hp fun xs S1 ι1 H1 vs e1 s1 q1 p1 => ?_⟩
    split at p1
    · rename_i j
      split at p1
      · rename_i hb
        simp only [VRs, VR] at q1
        obtain ⟨v, w, rfl, rfl, rfl⟩ := q1
        exact ⟨j, rfl, hb.1, hb.2, p1 ι1 H1 _ .refl s1 (walkR 0 j.toNat)⟩
      · exact p1.elim
    · exact p1.elim
theorem ji_range2 {e e2 : Expr} {as : MA} {p : Pos} (hg : Gl X "range" := by rfl) (hm : X.mg "range" = none) (ha : PA X [e, e2] (tMA C W as)) (hs : starEach [e, e2] X.env = [(false, eval e X.env), (false, eval e2 X.env)] := by rfl) (hs2 : starEach [e2] X.env = [(false, eval e2 X.env)] := by rfl) : PI X tg (.Call (.Name "range" p) [e, e2] [] pos) (tMI C W (mItR2 as)) :=
  piImp (pi_range2 hg hm ha hs hs2) fun σ H R h => by
    obtain ⟨ι, env, S, he, hs, hp⟩ := h
    refine ⟨ι, env, S, he, hs, Post.bind hp fun xs S1 ι1 H1 vs e1 s1 q1 p1 => ?_⟩
    split at p1
    · rename_i i j
      split at p1
      · rename_i hb
        simp only [VRs, VR] at q1
        obtain ⟨v, w, rfl, rfl, v', w', rfl, rfl, rfl⟩ := q1
        exact ⟨i, j, rfl, ⟨hb.1, hb.2.1, hb.2.2.1, hb.2.2.2⟩, p1 ι1 H1 _ .refl s1 (walkR i (j - i).toNat)⟩
      · exact p1.elim
    · exact p1.elim
/-- a text, sign by sign -/
def mItT (m : ME) : Env → Sto → Res Itv := fun env S => (m env S).bind fun x S1 => match x with
  | .str z => .ok ⟨z.map fun c => .str [c], []⟩ S1
  | _ => .bad
theorem ji_str {e : Expr} {m : ME} (h : PE X e (tM C W m)) : PI X tg e (tMI C W (mItT m)) :=
  piImp (pi_str h) fun σ H R h => by
    obtain ⟨ι, env, S, he, hs, hp⟩ := h
    refine ⟨ι, env, S, he, hs, Post.bind hp fun x S1 ι1 H1 v e1 s1 q1 p1 => ?_⟩
    split at p1
    · rename_i z
      simp only [VR] at q1
      refine ⟨_, q1, p1 ι1 H1 _ .refl s1 ⟨fun _ => True, fun i H v H' => H' = H ∧ ∃ c, (st z).cps[i]? = some c ∧ v = .str ⟨#[c]⟩, ?_, fun _ _ _ _ _ _ => trivial, ?_⟩⟩
      · show Walk _ (z.map fun c => (MV.str [c])).length _ _
        rw [List.length_map]
        exact walk_str (z := st z)
      · rintro i ι' S' H1 y H2 e s' c hi ⟨rfl, cc, hc, rfl⟩
        have : z[i]? = some cc := by simpa using hc
        exact ⟨.str [cc], by simp [this], .refl, s', by simp only [VR]⟩
    · exact p1.elim
/-- enumerate of a list -/
def enuL (xs : List MV) : List MV := (List.range xs.length).map fun (i : Nat) => MV.tup [.int (i : Int), xs.getD i .non]
def mItE (as : MA) : Env → Sto → Res Itv := fun env S => (as env S).bind fun xs S1 => match xs with
  | [x] => (match asL S1 x with
    | some ys => .ok ⟨enuL ys, depsOf x ys⟩ S1
    | none => .bad)
  | _ => .bad
theorem pairNew {ι : Io} {S : Sto} {H : Hp} {T : Addr} {x y : MV} {v u : V} (s : StR C ι S H) (h : H T = none) (r1 : VR C ι H x v) (r2 : VR C ι H y u) : Ext ι H ι (upd H T (.tup [v, u])) ∧ StR C ι S (upd H T (.tup [v, u])) ∧ VR C ι (upd H T (.tup [v, u])) (.tup [x, y]) (.ref T) := by
  have e := Ext.upd (o := .tup [v, u]) s h
  refine ⟨e, s.upd h, ?_⟩
  simp only [VR]
  refine ⟨T, [v, u], rfl, .inl ⟨s.fresh h, .inl upd_same⟩, ?_⟩
  simp only [VRs]
  exact ⟨v, [u], rfl, r1.mono e, u, [], rfl, r2.mono e, rfl⟩
theorem ji_enum {e : Expr} {as : MA} {p tpos : Pos} {elts : List Expr} {kk : Nat} (hK : X.K = C.K) (hg : Gl X "enumerate" := by rfl) (hm : X.mg "enumerate" = none) (ha : PA X [e] (tMA C W as)) (hs : starEach [e] X.env = [(false, eval e X.env)] := by rfl) : PI X (.Tuple elts kk tpos) (.Call (.Name "enumerate" p) [e] [] pos) (tMI C W (mItE as)) :=
  piImp (pi_enum hg hm ha hs) fun σ H R h => by
    obtain ⟨ι, env, S, he, hs, hp⟩ := h
    refine ⟨ι, env, S, he, hs, Post.bind hp fun xs S1 ι1 H1 vs e1 s1 q1 p1 => ?_⟩
    split at p1
    · rename_i x
      split at p1
      · rename_i ys el
        simp only [VRs] at q1
        obtain ⟨v, w, rfl, q1, rfl⟩ := q1
        obtain ⟨a, zs, rfl, g1, g2⟩ := asL_ok s1 q1 el
        refine ⟨a, zs, rfl, by rw [hK]; exact g1, ?_⟩
        rw [hK]
        have hl : (enuL ys).length = ys.length := by simp [enuL]
        refine p1 ι1 H1 _ .refl s1 ⟨fun H' => ∃ vs, vs.length = ys.length ∧ SqL C.K H' a vs, fun i H v H' => ∃ T x, v = .ref T ∧ H T = none ∧ H' = upd H T (.tup [.int (i : Nat), x]) ∧ ∀ vs, SqL C.K H a vs → vs[i]? = some x, ⟨?_, ?_, ?_⟩, ?_, ?_⟩
        · rintro i H' hi ⟨vs, hl2, q⟩
          have hi : i < (enuL ys).length := hi
          exact ⟨vs, vs[i]'(by omega), q, by simp [show i < vs.length by omega]⟩
        · rintro H' ⟨vs, hl2, q⟩
          exact ⟨vs, q, by show vs.length ≤ (enuL ys).length; omega⟩
        · rintro i H' y H2 hi ⟨vs, hl2, q⟩ z
          exact z
        · intro ι' S' H' e s' c
          obtain ⟨a', vs, ea, q, rr⟩ := asL_ok s' (q1.mono e) (asL_chk el c)
          cases ea
          exact ⟨vs, rr.len, q⟩
        · rintro i ι' S' H1 y H2 e s' c hi ⟨T, u, rfl, hT, rfl, hu⟩
          have hi : i < (enuL ys).length := hi
          rw [hl] at hi
          obtain ⟨a', vs, ea, q, rr⟩ := asL_ok s' (q1.mono e) (asL_chk el c)
          cases ea
          obtain ⟨mv, em, rm⟩ := rr.at' (hu vs q)
          obtain ⟨x1, x2, x3⟩ := pairNew s' hT (x := .int (i : Int)) (v := .int (i : Int)) (by simp only [VR]) rm
          refine ⟨.tup [.int (i : Int), mv], ?_, x1, x2, x3⟩
          show (enuL ys)[i]? = _
          unfold enuL
          rw [List.getElem?_map, List.getElem?_range hi, Option.map_some, List.getD_eq_getElem?_getD, em]
          rfl
      · exact p1.elim
    · exact p1.elim
/-- zip of two lists -/
def zipL (xs ys : List MV) : List MV := (List.range (min xs.length ys.length)).map fun (i : Nat) => MV.tup [xs.getD i .non, ys.getD i .non]
def mItZ (as : MA) : Env → Sto → Res Itv := fun env S => (as env S).bind fun xs S1 => match xs with
  | [x, y] => (match asL S1 x, asL S1 y with
    | some a, some b => .ok ⟨zipL a b, depsOf x a ++ depsOf y b⟩ S1
    | _, _ => .bad)
  | _ => .bad
theorem chk_app {its its2 : List MV} {d1 d2 : List (Nat × List MV)} {S : Sto} (c : (Itv.mk its (d1 ++ d2)).chk S) : (Itv.mk its2 d1).chk S ∧ (Itv.mk its2 d2).chk S :=
  ⟨fun p hp => c p (List.mem_append_left _ hp), fun p hp => c p (List.mem_append_right _ hp)⟩
theorem ji_zip {e e2 : Expr} {as : MA} {p tpos : Pos} {elts : List Expr} {kk : Nat} (hK : X.K = C.K) (hg : Gl X "zip" := by rfl) (hm : X.mg "zip" = none) (ha : PA X [e, e2] (tMA C W as)) (hs : starEach [e, e2] X.env = (false, eval e X.env) :: starEach [e2] X.env := by rfl) (hs2 : (backTo pos (starEach [e2] X.env)).any (·.1) = false := by rfl) : PI X (.Tuple elts kk tpos) (.Call (.Name "zip" p) [e, e2] [] pos) (tMI C W (mItZ as)) :=
  piImp (pi_zip hg hm ha hs hs2) fun σ H R h => by
    obtain ⟨ι, env, S, he, hs, hp⟩ := h
    refine ⟨ι, env, S, he, hs, Post.bind hp fun xs S1 ι1 H1 vs e1 s1 q1 p1 => ?_⟩
    split at p1
    · rename_i x y
      split at p1
      · rename_i xs ys ex ey
        simp only [VRs] at q1
        obtain ⟨v, w, rfl, q1, v2, w2, rfl, q2, rfl⟩ := q1
        obtain ⟨a, zs, rfl, g1, g2⟩ := asL_ok s1 q1 ex
        obtain ⟨b, zt, rfl, g3, g4⟩ := asL_ok s1 q2 ey
        refine ⟨a, b, zs, zt, rfl, by rw [hK]; exact g1, by rw [hK]; exact g3, ?_⟩
        rw [hK]
        have hl : (zipL xs ys).length = min xs.length ys.length := by simp [zipL]
        refine p1 ι1 H1 _ .refl s1 ⟨fun H' => ∃ vs ws, vs.length = xs.length ∧ ws.length = ys.length ∧ SqL C.K H' a vs ∧ SqL C.K H' b ws, fun i H v H' => ∃ T x y, v = .ref T ∧ H T = none ∧ H' = upd H T (.tup [x, y]) ∧ (∀ vs, SqL C.K H a vs → vs[i]? = some x) ∧ ∀ vs, SqL C.K H b vs → vs[i]? = some y, ⟨?_, ?_, ?_⟩, ?_, ?_⟩
        · rintro i H' hi ⟨vs, ws, l1, l2, q, q'⟩
          have hi : i < (zipL xs ys).length := hi
          exact ⟨vs, ws, vs[i]'(by omega), ws[i]'(by omega), q, q', by simp [show i < vs.length by omega], by simp [show i < ws.length by omega]⟩
        · rintro H' ⟨vs, ws, l1, l2, q, q'⟩
          exact ⟨vs, ws, q, q', by show vs.length ≤ (zipL xs ys).length ∨ ws.length ≤ (zipL xs ys).length; omega⟩
        · rintro i H' y H2 hi ⟨vs, ws, l1, l2, q, q'⟩ z
          exact z
        · intro ι' S' H' e s' c
          obtain ⟨a', vs, ea, q, rr⟩ := asL_ok s' (q1.mono e) (asL_chk ex (chk_app c).1 (its := []))
          obtain ⟨b', ws, eb, q', rr'⟩ := asL_ok s' (q2.mono e) (asL_chk ey (chk_app c).2 (its := []))
          cases ea
          cases eb
          exact ⟨vs, ws, rr.len, rr'.len, q, q'⟩
        · rintro i ι' S' H1 y' H2 e s' c hi ⟨T, u, u2, rfl, hT, rfl, hu, hu2⟩
          have hi : i < (zipL xs ys).length := hi
          rw [hl] at hi
          obtain ⟨a', vs, ea, q, rr⟩ := asL_ok s' (q1.mono e) (asL_chk ex (chk_app c).1 (its := []))
          obtain ⟨b', ws, eb, q', rr'⟩ := asL_ok s' (q2.mono e) (asL_chk ey (chk_app c).2 (its := []))
          cases ea
          cases eb
          obtain ⟨mv, em, rm⟩ := rr.at' (hu vs q)
          obtain ⟨mw, em2, rm2⟩ := rr'.at' (hu2 ws q')
          obtain ⟨x1, x2, x3⟩ := pairNew s' hT rm rm2
          refine ⟨.tup [mv, mw], ?_, x1, x2, x3⟩
          show (zipL xs ys)[i]? = _
          unfold zipL
          rw [List.getElem?_map, List.getElem?_range hi, Option.map_some, List.getD_eq_getElem?_getD, em, List.getD_eq_getElem?_getD, em2]
          rfl
      · exact p1.elim
    · exact p1.elim
end
end Mi

namespace Mi
open PySem PySem.Spec PyProof.Rows L2 TL

/-! ### comprehensions -/
def noX {α : Type} : Res α → Res α
  | .ok a S => .ok a S
  | _ => .bad
abbrev W0 : WX := fun _ _ _ _ => False
def wipeE (env : Env) : List Nat → Env
  | [] => env
  | v :: vs => (wipeE env vs).set v none
open Classical in
/-- the turns of a comprehension whose new list is the place l -/
noncomputable def compL (t : Itv) (g : MG) (c : MB) (e : ME) (l : Nat) : List MV → Env → Sto → Res Unit
  | [], env, S => if t.chk S then .ok () S else .bad
  | v :: vs, env, S => if t.chk S then (match g v env with
    | none => .bad
    | some e1 => match c e1 S with
      | .ok true S1 => (match e e1 S1 with
        | .ok y S2 => (match S2[l]? with
          | some (.lst acc) => if acc.length < sizeLine then compL t g c e l vs env (S2.set l (.lst (acc ++ [y]))) else .bad
          | _ => .bad)
        | _ => .bad)
      | .ok false S1 => compL t g c e l vs env S1
      | _ => .bad) else .bad
noncomputable def compE (mu : Bool) (S S2 : Sto) : Res MV := if mu then .ok (.ref S.length) S2 else leaveV S S2 (.ref S.length)
noncomputable def mComp (mu : Bool) (mi : Env → Sto → Res Itv) (vs : List Nat) (g : MG) (c : MB) (e : ME) : ME := fun env S => (mi env S).bind fun t S1 => (compL t g c e S1.length t.items (wipeE env vs) (S1 ++ [.lst []])).bind fun _ S2 => compE mu S1 S2
def mYes : MB := fun _ S => .ok true S
section
variable {X : Cx} {C : Ct} {W : WX} {pos : Pos} {k : Nat} {tg : Expr}
theorem noX_post {α β : Type} {R : Io → Hp → α → β → Prop} {ι : Io} {σ : L2.St} {H : Hp} {r : Res α} {Q : β → Hp → Prop} (h : Post C W R ι σ H (noX r) Q) : Post C W0 R ι σ H r Q := by
  cases r with
  | ok a S => exact h
  | ex x S => exact h.elim
  | bad => exact h
theorem wipeE_len (env : Env) : ∀ vs, (wipeE env vs).length = env.length
  | [] => rfl
  | v :: vs => by unfold wipeE; rw [List.length_set, wipeE_len env vs]
theorem wipeE_at {env : Env} {i : Nat} : ∀ {vs : List Nat}, (i ∉ vs → (wipeE env vs)[i]? = env[i]?) ∧ (∀ x, (wipeE env vs)[i]? = some (some x) → i ∉ vs)
  | [] => ⟨fun _ => rfl, fun _ _ => by simp⟩
  | v :: vs => by
    obtain ⟨h1, h2⟩ := wipeE_at (env := env) (i := i) (vs := vs)
    unfold wipeE
    refine ⟨fun hi => ?_, fun x hx => ?_⟩
    · simp only [List.mem_cons, not_or] at hi
      rw [List.getElem?_set_ne (fun e => hi.1 e.symm)]
      exact h1 hi.2
    · by_cases hv : v = i
      · subst hv
        by_cases hl : v < (wipeE env vs).length
        · rw [List.getElem?_set_self hl] at hx; cases hx
        · rw [List.getElem?_eq_none (by simpa using hl)] at hx; cases hx
      · rw [List.getElem?_set_ne hv] at hx
        simp only [List.mem_cons, not_or]
        exact ⟨fun e => hv e.symm, h2 x hx⟩
theorem wipe_at {σ : L2.St} {i : Nat} : ∀ {vs : List Nat}, i ∉ vs → (wipe σ vs)[i]? = σ[i]?
  | [], _ => rfl
  | v :: vs, hi => by
    simp only [List.mem_cons, not_or] at hi
    unfold wipe
    rw [List.getElem?_set_ne (fun e => hi.1 e.symm)]
    exact wipe_at hi.2
theorem wipe_in {σ : L2.St} {i : Nat} : ∀ {vs : List Nat}, i ∈ vs → i < σ.length → (wipe σ vs)[i]? = some none
  | v :: vs, hi, hl => by
    unfold wipe
    by_cases hv : v = i
    · subst hv
      rw [List.getElem?_set_self (by rw [wipe_length]; exact hl)]
    · rw [List.getElem?_set_ne hv]
      refine wipe_in ?_ hl
      rcases List.mem_cons.mp hi with e | e
      · exact absurd e.symm hv
      · exact e
theorem EnvR.wipe {ι : Io} {H : Hp} {env : Env} {σ : L2.St} (h : EnvR C ι H env σ) (vs : List Nat) : EnvR C ι H (wipeE env vs) (L2.wipe σ vs) := by
  refine ⟨by rw [wipeE_len, wipe_length]; exact h.1, fun i x q => ?_⟩
  have hi := (wipeE_at (env := env) (i := i) (vs := vs)).2 x q
  rw [(wipeE_at (env := env) (i := i) (vs := vs)).1 hi] at q
  rw [wipe_at hi]
  exact h.2 i x q
theorem wipe_but {σ σ' : L2.St} {ws vs : List Nat} (h : ButS ws (L2.wipe σ vs) σ') (hs : ∀ i ∈ ws, i ∈ vs) : L2.wipe σ' vs = L2.wipe σ vs := by
  have hl : σ'.length = σ.length := by rw [h.1, wipe_length]
  apply List.ext_getElem?
  intro i
  by_cases hi : i ∈ vs
  · by_cases hlt : i < σ.length
    · rw [wipe_in hi hlt, wipe_in hi (by rw [hl]; exact hlt)]
    · rw [List.getElem?_eq_none (by rw [wipe_length]; omega), List.getElem?_eq_none (by rw [wipe_length]; omega)]
  · rw [wipe_at hi, wipe_at hi]
    have := h.2 i fun z => hi (hs i z)
    rw [this, wipe_at hi]
theorem comp_core {mu : Bool} {t : Itv} {J : It} {g : MG} {ws : List Nat} {c : MB} {e : ME} {vs : List Nat} {ι : Io} {σ : L2.St} {H : Hp} {env : Env} {S : Sto} {Q : VK} (hw : ∀ i ∈ ws, i ∈ vs) (he : EnvR C ι H env σ) (hs : StR C ι S H) (w : WalkOk C ι H t J)
    (hp : Post C W (VR C) ι σ H ((compL t g c e S.length t.items (wipeE env vs) (S ++ [.lst []])).bind fun _ S2 => compE mu S S2) Q) :
    ∀ D, H D = none → ∃ W' : Nat → Nat → Hp → Prop, (∃ m, W' 0 m (upd H D (.lst []))) ∧ ∀ i m H, W' i m H →
      (J.stop i H ∧ Q (.ref D) H) ∨ (J.go i H ∧ ∃ Nx : Hp → Prop, (∀ H', Nx H' → ∃ m', m' < m ∧ W' (i + 1) m' H') ∧ ∀ x H', J.yld i H x H' → tMG C ws g x (L2.wipe σ vs) H' fun σ2 H2 => L2.wipe σ2 vs = L2.wipe σ vs ∧ tMB C W0 c σ2 H2 fun b H3 =>
        if b = true then tM C W0 e σ2 H3 fun y H4 => ∃ acc, H4 D = some (.lst acc) ∧ acc.length < sizeLine ∧ Nx (upd H4 D (.lst (acc ++ [y]))) else Nx H3) := by
  intro D hD
  obtain ⟨G, Y, wk, hG, hY⟩ := w
  have atD : (ι ++ [D])[S.length]? = some D := by rw [← hs.len]; simp
  refine lc_it wk (fun i H' => ∃ ι' S', Ext ι H ι' H' ∧ StR C ι' S' H' ∧ ι'[S.length]? = some D ∧
      Post C W (VR C) ι σ H ((compL t g c e S.length (t.items.drop i) (wipeE env vs) S').bind fun _ S2 => compE mu S S2) Q) ?_ ?_ ?_ ?_
  · exact ⟨ι ++ [D], S ++ [.lst []], Ext.push hs hD, hs.push (m := .lst []) hD ⟨[], upd_same, by simp only [VRs]⟩, atD, by rw [List.drop_zero]; exact hp⟩
  · rintro i H' hi ⟨ι', S', e1, s1, _, hp'⟩
    have hc : t.chk S' := by
      cases hd : t.items.drop i with
      | nil => rw [hd] at hp'; unfold compL at hp'; split at hp'; assumption; exact hp'.elim
      | cons v vs => rw [hd] at hp'; unfold compL at hp'; split at hp'; assumption; exact hp'.elim
    exact hG ι' S' H' e1 s1 hc
  · rintro i x H' H2 hi ⟨ι', S', e1, s1, hDl, hp'⟩ y
    rw [List.drop_eq_getElem_cons hi] at hp'
    unfold compL at hp'
    split at hp'
    · rename_i hc
      obtain ⟨mv, em, e2, s2, r2⟩ := hY i ι' S' H' x H2 e1 s1 hc hi y
      have : t.items[i] = mv := by rw [List.getElem?_eq_getElem hi] at em; exact Option.some.inj em
      rw [this] at hp'
      refine ⟨ι', wipeE env vs, S', mv, ((he.mono e1).wipe vs).mono e2, s2, r2, ?_⟩
      cases eg : g mv (wipeE env vs) with
      | none => rw [eg] at hp'; exact hp'
      | some en =>
        rw [eg] at hp'
        intro σ2 he2 hb2
        refine ⟨wipe_but hb2 hw, ι', en, S', he2, s2, ?_⟩
        simp only at hp'
        cases ec : c en S' with
        | bad => rw [ec] at hp'; exact hp'.elim
        | ex x S1 => rw [ec] at hp'; exact hp'.elim
        | ok b S1 =>
          rw [ec] at hp'
          intro ι1 H1 b' x1 s1' rb
          have rb : b' = b := rb
          subst rb
          cases b' with
          | false =>
            rw [if_neg Bool.false_ne_true]
            exact ⟨ι1, S1, (e1.trans e2).trans x1, s1', x1.at hDl, hp'⟩
          | true =>
            rw [if_pos rfl]
            refine ⟨ι1, en, S1, he2.mono x1, s1', ?_⟩
            simp only at hp'
            cases ee : e en S1 with
            | bad => rw [ee] at hp'; exact hp'.elim
            | ex x S1 => rw [ee] at hp'; exact hp'.elim
            | ok yv S2 =>
              rw [ee] at hp'
              intro ι2 H2' v x2 s2' rv
              simp only at hp'
              have hD2 : ι2[S.length]? = some D := x2.at (x1.at hDl)
              split at hp'
              · rename_i acc ea
                obtain ⟨vacc, hv, hr⟩ := s2'.ob _ _ D ea hD2
                split at hp'
                · rename_i hl
                  refine ⟨vacc, hv, by rw [hr.len]; exact hl, ι2, _, ?_, s2'.set hD2 (m := .lst (acc ++ [yv])) ⟨vacc ++ [v], upd_same, ?_⟩, hD2, hp'⟩
                  · exact ((e1.trans e2).trans (x1.trans x2)).trans (Ext.set hD2)
                  · exact VRs.mono (Ext.set hD2) _ _ (hr.append (by simp only [VRs]; exact ⟨v, [], rfl, rv, rfl⟩))
                · exact hp'.elim
              · exact hp'.elim
    · exact hp'.elim
  · rintro H' ⟨ι', S', e1, s1, hDl, hp'⟩
    rw [List.drop_length] at hp'
    unfold compL at hp'
    split at hp'
    · simp only [bind_ok] at hp'
      have rD : VR C ι' H' (.ref S.length) (.ref D) := by simp only [VR]; exact ⟨D, rfl, hDl⟩
      unfold compE at hp'
      split at hp'
      · exact hp' ι' H' _ e1 s1 rD
      · cases el : leaveV S S' (.ref S.length) with
        | ok y S3 =>
          rw [el] at hp'
          obtain ⟨a1, a2, a3⟩ := leaveV_ok hs e1 s1 rD el
          exact hp' ι H' _ a1 a2 a3
        | ex x S3 => unfold leaveV at el; (repeat (split at el)) <;> cases el
        | bad => rw [el] at hp'; exact hp'.elim
    · exact hp'.elim
theorem bx_blk {s : Shared} {H : Hp} {scope : Scope} {cenv : PySem.Env} {fp : List Addr} (B : Bx C W k X) : Bx C W0 k (X.blk s H scope cenv fp) :=
  ⟨B.hK, B.calm, takes0, B.room, PassesOwn.never⟩
theorem jts_nil : PTs X [] (tMB C W mYes) := ⟨fun pins s σ H Q I h => (pts_nil (X := X)).run pins s σ H Q I (by
  obtain ⟨ι, env, S, he, hs, hp⟩ := h
  exact hp ι H _ .refl hs rfl)⟩
theorem jts_one {c : Expr} {m : MB} (h : PT X c (tMB C W m)) : PTs X [c] (tMB C W m) := pts_one h
theorem lc_imp {mu : Bool} {mi : Env → Sto → Res Itv} {g : MG} {ws vs : List Nat} {c : MB} {e : ME} {σ : L2.St} {H : Hp} {Q : VK} (hw : ∀ i ∈ ws, i ∈ vs) (h : tM C W (mComp mu mi vs g c e) σ H Q) : tLc (tMI C W mi) (tMG C ws g) (tMB C W0 c) (tM C W0 e) vs σ H Q := by
  obtain ⟨ι, env, S, he, hs, hp⟩ := h
  refine ⟨ι, env, S, he, hs, Post.bind hp fun t S1 ι1 H1 J e1 s1 q1 p1 => ?_⟩
  exact comp_core hw (he.mono e1) s1 q1 p1
theorem je_lc (mu : Bool) {elt tg iter : Expr} {ifs : List Expr} {scope : Scope} {own : List (Str × Nat)} {mi : Env → Sto → Res Itv} {g : MG} {ws : List Nat} {c : MB} {e : ME} (B : Bx C W k X) (hN : X.N.Nodup) (hi : PI X tg iter (tMI C W mi)) (ok : BlkOk X.N X.env.scope scope own)
    (hg : ∀ (Y : Cx), Bx C W0 k Y → Y.N = X.N → (∃ (s : Shared) (H : Hp) (A : Addr) (cl : List (Str × Addr)) (fp : List Addr), Y = X.blk s H scope (compEnvC scope cl A X.env) fp) → PG Y tg (tMG C ws g))
    (ht : ∀ (s : Shared) (H : Hp) (A : Addr) (cl : List (Str × Addr)) (fp : List Addr), Bx C W0 k (X.blk s H scope (compEnvC scope cl A X.env) fp) → PTs (X.blk s H scope (compEnvC scope cl A X.env) fp) ifs (tMB C W0 c))
    (he : ∀ (s : Shared) (H : Hp) (A : Addr) (cl : List (Str × Addr)) (fp : List Addr), Bx C W0 k (X.blk s H scope (compEnvC scope cl A X.env) fp) → PE (X.blk s H scope (compEnvC scope cl A X.env) fp) elt (tM C W0 e)) (hw : ∀ i ∈ ws, i ∈ own.map (·.2) := by decide)
    (hs : ∀ x, foldedSetIterable iter X.env x = pure x := by intro _; rfl) :
    PE X (.ListComp elt [⟨tg, iter, ifs, 0⟩] scope pos) (tM C W (mComp mu mi (own.map (·.2)) g c e)) :=
  peImp (pe_lc B.calm hN hi ok (fun s H A cl fp => hg _ (bx_blk B) rfl ⟨s, H, A, cl, fp, rfl⟩) (fun s H A cl fp => ht s H A cl fp (bx_blk B)) (fun s H A cl fp => he s H A cl fp (bx_blk B)) hs) fun σ H Q h => lc_imp hw h
theorem js_setLc (mu : Bool) {i : Nat} {y : Str} {py : Pos} {elt tg iter : Expr} {ifs : List Expr} {scope : Scope} {own : List (Str × Nat)} {spos : Pos} {mi : Env → Sto → Res Itv} {g : MG} {ws : List Nat} {c : MB} {e : ME} (B : Bx C W k X) (hN : X.N.Nodup) (hi : PI X tg iter (tMI C W mi)) (ok : BlkOk X.N X.env.scope scope own)
    (hg : ∀ (Y : Cx), Bx C W0 k Y → Y.N = X.N → (∃ (s : Shared) (H : Hp) (A : Addr) (cl : List (Str × Addr)) (fp : List Addr), Y = X.blk s H scope (compEnvC scope cl A X.env) fp) → PG Y tg (tMG C ws g))
    (ht : ∀ (s : Shared) (H : Hp) (A : Addr) (cl : List (Str × Addr)) (fp : List Addr), Bx C W0 k (X.blk s H scope (compEnvC scope cl A X.env) fp) → PTs (X.blk s H scope (compEnvC scope cl A X.env) fp) ifs (tMB C W0 c))
    (he : ∀ (s : Shared) (H : Hp) (A : Addr) (cl : List (Str × Addr)) (fp : List Addr), Bx C W0 k (X.blk s H scope (compEnvC scope cl A X.env) fp) → PE (X.blk s H scope (compEnvC scope cl A X.env) fp) elt (tM C W0 e)) (hw : ∀ i ∈ ws, i ∈ own.map (·.2) := by decide)
    (hy : X.N[i]? = some y := by rfl) (hyl : X.env.scope.names.lookup y = some .local := by rfl)
    (hsw : swapsWith (.ListComp elt [⟨tg, iter, ifs, 0⟩] scope pos) (some (.Name y py)) spos.line X.env = pure true := by exact sw_true rfl rfl rfl (by decide +kernel)) (hs : ∀ x, foldedSetIterable iter X.env x = pure x := by intro _; rfl) :
    PS X (.Assign [.Name y py] (.ListComp elt [⟨tg, iter, ifs, 0⟩] scope pos) spos) (tMS C W (sSet i (mComp mu mi (own.map (·.2)) g c e))) :=
  psImp (ps_setLc B.calm hN hy hyl hsw hi ok (fun s H A cl fp => hg _ (bx_blk B) rfl ⟨s, H, A, cl, fp, rfl⟩) (fun s H A cl fp => ht s H A cl fp (bx_blk B)) (fun s H A cl fp => he s H A cl fp (bx_blk B)) hs) fun D σ H h => by
    have q := asg_name h
    exact lc_imp hw q
end
end Mi

namespace Mi
open PySem PySem.Spec PyProof.Rows L2 TL

/-! ### built-in functions and types called -/
def mB (f : List MV → Sto → Res MV) (as : MA) : ME := fun env S => (as env S).bind fun xs S1 => f xs S1
def CallM (C : Ct) (f : List MV → Sto → Res MV) (r : List V → Hp → VK → Prop) : Prop := ∀ (W : WX) (ι : Io) (σ : L2.St) (S : Sto) (H : Hp) (xs : List MV) (vs : List V) (Q : VK), StR C ι S H → VRs C ι H xs vs → Post C W (VR C) ι σ H (f xs S) Q → r vs H Q
section
variable {X : Cx} {C : Ct} {W : WX} {pos p : Pos} {k : Nat} {x : Str} {e : Expr} {es : List Expr} {as : MA} {bid T : String} {r : List V → Hp → VK → Prop} {f : List MV → Sto → Res MV}
theorem tCB_imp (hf : CallM C f r) {σ : L2.St} {H : Hp} {Q : VK} (h : tM C W (mB f as) σ H Q) : tCB r (tMA C W as) σ H Q := by
  obtain ⟨ι, env, S, he, hs, hp⟩ := h
  exact ⟨ι, env, S, he, hs, Post.bind hp fun xs S1 ι1 H1 vs e1 s1 q1 p1 => hf W ι1 σ S1 H1 xs vs Q s1 q1 p1⟩
theorem je_b (hc : CallR X (.builtin bid) r) (hf : CallM C f r) (hm : X.mg x = none) (hv : bootBuiltins x = some (.builtin bid)) (ha : PA X (e :: es) (tMA C W as)) (hg : Gl X x := by rfl) (hn : x ≠ "__name__" := by decide) (hdb : (x == ("__debug__" : Str)) = false := by decide)
    (he : starEach (e :: es) X.env = (false, eval e X.env) :: starEach es X.env := by rfl) (hpl : (backTo pos (starEach es X.env)).any (·.1) = false := by rfl) : PE X (.Call (.Name x p) (e :: es) [] pos) (tM C W (mB f as)) :=
  peImp (pe_callB hc hg hm hv ha hn hdb he hpl) fun _ _ _ => tCB_imp hf
theorem je_ty (hc : CallR X (.type T) r) (hf : CallM C f r) (hm : X.mg x = none) (hv : bootBuiltins x = some (.type T)) (ha : PA X (e :: es) (tMA C W as)) (hg : Gl X x := by rfl) (hn : x ≠ "__name__" := by decide) (hdb : (x == ("__debug__" : Str)) = false := by decide)
    (he : starEach (e :: es) X.env = (false, eval e X.env) :: starEach es X.env := by rfl) (hpl : (backTo pos (starEach es X.env)).any (·.1) = false := by rfl) : PE X (.Call (.Name x p) (e :: es) [] pos) (tM C W (mB f as)) :=
  peImp (pe_callTy hc hg hm hv ha hn hdb he hpl) fun _ _ _ => tCB_imp hf
theorem vrs1 {ι : Io} {H : Hp} {x : MV} {vs : List V} (h : VRs C ι H [x] vs) : ∃ v, vs = [v] ∧ VR C ι H x v := by
  simp only [VRs] at h
  obtain ⟨v, w, rfl, h1, rfl⟩ := h
  exact ⟨v, rfl, h1⟩
theorem vrs2 {ι : Io} {H : Hp} {x y : MV} {vs : List V} (h : VRs C ι H [x, y] vs) : ∃ v u, vs = [v, u] ∧ VR C ι H x v ∧ VR C ι H y u := by
  simp only [VRs] at h
  obtain ⟨v, w, rfl, h1, u, z, rfl, h2, rfl⟩ := h
  exact ⟨v, u, rfl, h1, h2⟩
/-- a built-in type as a value -/
theorem je_tyv {n : String} (hm : X.mg x = none) (hv : bootBuiltins x = some (.type n)) (hg : Gl X x := by rfl) (hn : x ≠ "__name__" := by decide) (hdb : (x == ("__debug__" : Str)) = false := by decide) : PE X (.Name x pos) (tM C W (mC (.ty n))) :=
  peImp (pe_bltn (v := .ty n) hg hm hv rfl hn hdb) fun _ _ _ => tM_c fun _ _ => by simp only [VR]

/-! ### len -/
theorem call_lenD' : CallR X (.builtin "len") (fun xs H Q => ∃ a kvs, xs = [V.ref a] ∧ Rd H a (.dK kvs) ∧ Q (.int kvs.length) H) := by
  intro pins s σ H xs us Q I r h
  obtain ⟨a, kvs, rfl, ha, q⟩ := h
  obtain ⟨u, rfl, ru⟩ := vals1 r
  cases ru
  exact d_len I ha fun t s' I' => ⟨.int kvs.length, H, I', ⟨t, rfl⟩, q⟩
def rLenM (K : PySem.W.Frag) : List V → Hp → VK → Prop := fun xs H Q => (∃ x n, xs = [x] ∧ LenV K x H n ∧ Q (.int n) H) ∨ ∃ a kvs, xs = [V.ref a] ∧ Rd H a (.dK kvs) ∧ Q (.int kvs.length) H
theorem call_lenM : CallR X (.builtin "len") (rLenM X.K) := CallR.or call_len call_lenD'
def lenM (S : Sto) (x : MV) : Option Nat := match x with
  | .str z => if z.length ≤ sizeLine then some z.length else none
  | x => match asSq S x with
    | some xs => some xs.length
    | none => (asD S x).map List.length
def fLen (xs : List MV) (S : Sto) : Res MV := match xs with
  | [x] => (match lenM S x with
    | some n => .ok (.int (n : Int)) S
    | none => .bad)
  | _ => .bad
theorem cm_len : CallM C fLen (rLenM C.K) := by
  intro W ι σ S H xs vs Q hs hr hp
  unfold fLen at hp
  split at hp
  · rename_i x
    obtain ⟨v, rfl, r⟩ := vrs1 hr
    split at hp
    · rename_i n hn
      have q := hp ι H (.int (n : Int)) .refl hs (by simp only [VR])
      unfold lenM at hn
      split at hn
      · split at hn
        · rename_i z hl
          simp only [Option.some.injEq] at hn
          simp only [VR] at r
          subst r
          exact .inl ⟨_, n, rfl, ⟨by rw [st_len]; exact hl, by rw [st_len]; exact hn.symm⟩, q⟩
        · cases hn
      · split at hn
        · rename_i ys e
          simp only [Option.some.injEq] at hn
          obtain ⟨a, ws, rfl, g1, g2⟩ := asSq_ok hs r e
          rcases g1 with g1 | g1
          · exact .inl ⟨_, n, rfl, .inl ⟨ws, g1, by rw [g2.len]; exact hn.symm⟩, q⟩
          · exact .inl ⟨_, n, rfl, .inr ⟨ws, g1, by rw [g2.len]; exact hn.symm⟩, q⟩
        · cases e : asD S x with
          | none => rw [e] at hn; cases hn
          | some kvs =>
            rw [e] at hn
            simp only [Option.map_some, Option.some.injEq] at hn
            obtain ⟨a, kx, rfl, g1, g2⟩ := asD_ok hs r e
            exact .inr ⟨a, kx, rfl, g1, by rw [g2.len, hn]; exact q⟩
    · exact hp.elim
  · exact hp.elim

/-! ### list(x), tuple(x) -/
def rListM (K : PySem.W.Frag) : List V → Hp → VK → Prop := fun xs H Q => ∃ p ys, xs = [.ref p] ∧ (SqL K H p ys ∨ SqT K H p ys) ∧ ∀ l, H l = none → Q (.ref l) (upd H l (.lst ys))
theorem call_listM : CallR X (.type "list") (rListM X.K) := call_list_of
def fList (mu : Bool) (xs : List MV) (S : Sto) : Res MV := match xs with
  | [x] => (match asSq S x with
    | some ys => mkL mu ys S
    | none => .bad)
  | _ => .bad
theorem cm_list (mu : Bool) : CallM C (fList mu) (rListM C.K) := by
  intro W ι σ S H xs vs Q hs hr hp
  unfold fList at hp
  split at hp
  · obtain ⟨v, rfl, r⟩ := vrs1 hr
    split at hp
    · rename_i ys e
      obtain ⟨a, ws, rfl, g1, g2⟩ := asSq_ok hs r e
      exact ⟨a, ws, rfl, g1, mkL_ok hs g2 hp⟩
    · exact hp.elim
  · exact hp.elim
def rTupM (K : PySem.W.Frag) : List V → Hp → VK → Prop := fun xs H Q => ∃ p ys, xs = [.ref p] ∧ ((SqL K H p ys ∧ ∀ l, H l = none → Q (.ref l) (upd H l (.tup ys))) ∨ (SqT K H p ys ∧ Q (.ref p) H))
theorem call_tupM : CallR X (.type "tuple") (rTupM X.K) := call_tuple_of
def fTuple (xs : List MV) (S : Sto) : Res MV := match xs with
  | [.tup ys] => .ok (.tup ys) S
  | [x] => (match asL S x with
    | some ys => .ok (.tup ys) S
    | none => .bad)
  | _ => .bad
theorem cm_tup : CallM C fTuple (rTupM C.K) := by
  intro W ι σ S H xs vs Q hs hr hp
  unfold fTuple at hp
  split at hp
  · obtain ⟨v, rfl, r⟩ := vrs1 hr
    have r' := r
    simp only [VR] at r
    obtain ⟨a, ws, rfl, f1, r1⟩ := r
    exact ⟨a, ws, rfl, .inr ⟨f1.sq, hp ι H _ .refl hs r'⟩⟩
  · obtain ⟨v, rfl, r⟩ := vrs1 hr
    split at hp
    · rename_i ys e
      obtain ⟨a, ws, rfl, g1, g2⟩ := asL_ok hs r e
      exact ⟨a, ws, rfl, .inl ⟨g1, mkT_ok hs g2 hp⟩⟩
    · exact hp.elim
  · exact hp.elim

/-! ### all, any, sum, max, min -/
def boolsOf : List MV → Option (List Bool)
  | [] => some []
  | .bl b :: r => (boolsOf r).map (b :: ·)
  | _ => none
theorem boolsOf_ok {ι : Io} {H : Hp} : ∀ {xs : List MV} {vs : List V} {bs : List Bool}, VRs C ι H xs vs → boolsOf xs = some bs → vs = bs.map V.bl
  | [], vs, bs, h, e => by simp only [VRs] at h; simp only [boolsOf, Option.some.injEq] at e; subst h; subst e; rfl
  | .bl b :: r, vs, bs, h, e => by
    simp only [VRs, VR] at h
    obtain ⟨v, w, rfl, rfl, h2⟩ := h
    simp only [boolsOf] at e
    cases e2 : boolsOf r with
    | none => rw [e2] at e; cases e
    | some cs =>
      rw [e2] at e
      simp only [Option.map_some, Option.some.injEq] at e
      subst e
      rw [boolsOf_ok h2 e2]
      rfl
  | .non :: _, _, _, _, e => by cases e
  | .int _ :: _, _, _, _, e => by cases e
  | .str _ :: _, _, _, _, e => by cases e
  | .ty _ :: _, _, _, _, e => by cases e
  | .tup _ :: _, _, _, _, e => by cases e
  | .lst _ :: _, _, _, _, e => by cases e
  | .rol _ :: _, _, _, _, e => by cases e
  | .dic _ :: _, _, _, _, e => by cases e
  | .ins _ _ :: _, _, _, _, e => by cases e
  | .ref _ :: _, _, _, _, e => by cases e
  | .fn _ :: _, _, _, _, e => by cases e
  | .clo _ _ :: _, _, _, _, e => by cases e
def fAll (xs : List MV) (S : Sto) : Res MV := match xs with
  | [x] => (match (asL S x).bind boolsOf with
    | some bs => .ok (.bl (bs.all id)) S
    | none => .bad)
  | _ => .bad
def fAny (xs : List MV) (S : Sto) : Res MV := match xs with
  | [x] => (match (asL S x).bind boolsOf with
    | some bs => .ok (.bl (bs.any id)) S
    | none => .bad)
  | _ => .bad
theorem cm_all : CallM C fAll (rAll C.K) := by
  intro W ι σ S H xs vs Q hs hr hp
  unfold fAll at hp
  split at hp
  · rename_i x
    obtain ⟨v, rfl, r⟩ := vrs1 hr
    cases e : asL S x with
    | none => rw [e] at hp; exact hp.elim
    | some ys =>
      rw [e] at hp
      simp only [Option.bind_some] at hp
      cases e2 : boolsOf ys with
      | none => rw [e2] at hp; exact hp.elim
      | some bs =>
        rw [e2] at hp
        obtain ⟨a, ws, rfl, g1, g2⟩ := asL_ok hs r e
        rw [boolsOf_ok g2 e2] at g1
        exact ⟨a, bs, rfl, g1, hp ι H _ .refl hs (by simp only [VR])⟩
  · exact hp.elim
theorem cm_any : CallM C fAny (rAny C.K) := by
  intro W ι σ S H xs vs Q hs hr hp
  unfold fAny at hp
  split at hp
  · rename_i x
    obtain ⟨v, rfl, r⟩ := vrs1 hr
    cases e : asL S x with
    | none => rw [e] at hp; exact hp.elim
    | some ys =>
      rw [e] at hp
      simp only [Option.bind_some] at hp
      cases e2 : boolsOf ys with
      | none => rw [e2] at hp; exact hp.elim
      | some bs =>
        rw [e2] at hp
        obtain ⟨a, ws, rfl, g1, g2⟩ := asL_ok hs r e
        rw [boolsOf_ok g2 e2] at g1
        exact ⟨a, bs, rfl, g1, hp ι H _ .refl hs (by simp only [VR])⟩
  · exact hp.elim
def rMax2' : List V → Hp → VK → Prop := fun xs H Q => ∃ i j, xs = [.int i, .int j] ∧ Q (.int (if j > i then j else i)) H
def rMin2' : List V → Hp → VK → Prop := fun xs H Q => ∃ i j, xs = [.int i, .int j] ∧ Q (.int (if j < i then j else i)) H
theorem call_max2' (hc : X.calm = true) : CallR X (.builtin "max") rMax2' := call_max2 hc
theorem call_min2' (hc : X.calm = true) : CallR X (.builtin "min") rMin2' := call_min2 hc
def fMax2 (xs : List MV) (S : Sto) : Res MV := match xs with
  | [.int i, .int j] => .ok (.int (if j > i then j else i)) S
  | _ => .bad
def fMin2 (xs : List MV) (S : Sto) : Res MV := match xs with
  | [.int i, .int j] => .ok (.int (if j < i then j else i)) S
  | _ => .bad
theorem cm_max2 : CallM C fMax2 rMax2' := by
  intro W ι σ S H xs vs Q hs hr hp
  unfold fMax2 at hp
  split at hp
  · obtain ⟨v, u, rfl, r1, r2⟩ := vrs2 hr
    simp only [VR] at r1 r2
    subst r1; subst r2
    exact ⟨_, _, rfl, hp ι H _ .refl hs (by simp only [VR])⟩
  · exact hp.elim
theorem cm_min2 : CallM C fMin2 rMin2' := by
  intro W ι σ S H xs vs Q hs hr hp
  unfold fMin2 at hp
  split at hp
  · obtain ⟨v, u, rfl, r1, r2⟩ := vrs2 hr
    simp only [VR] at r1 r2
    subst r1; subst r2
    exact ⟨_, _, rfl, hp ι H _ .refl hs (by simp only [VR])⟩
  · exact hp.elim

/-! ### isinstance of built-in types -/
def tyName (S : Sto) : MV → Option String
  | .non => some "NoneType"
  | .bl _ => some "bool"
  | .int _ => some "int"
  | .str _ => some "str"
  | .tup _ => some "tuple"
  | .lst _ => some "list"
  | .rol _ => some "list"
  | .dic _ => some "dict"
  | .ref l => match S[l]? with
    | some (.lst _) => some "list"
    | some (.dic _) => some "dict"
    | _ => none
  | _ => none
def isiB (a b : String) : Bool := a == b || (a == "bool" && b == "int")
def fIsi (xs : List MV) (S : Sto) : Res MV := match xs with
  | [x, .ty b] => (match tyName S x with
    | some a => if ["str", "int", "bool", "list", "tuple", "dict"].contains b then .ok (.bl (isiB a b)) S else .bad
    | none => .bad)
  | _ => .bad
theorem kit_isi : ∀ a ∈ ["NoneType", "bool", "int", "str", "tuple", "list", "dict"], ∀ b ∈ ["str", "int", "bool", "list", "tuple", "dict"], kitB a b = some (isiB a b) := by decide +kernel
theorem tyName_ok {ι : Io} {S : Sto} {H : Hp} {x : MV} {v : V} {a : String} (s : StR C ι S H) (r : VR C ι H x v) (h : tyName S x = some a) : a ∈ ["NoneType", "bool", "int", "str", "tuple", "list", "dict"] ∧ TyX C.K H v (.type a) := by
  have tl : ∀ {p : Addr} {ws : List V}, SqL C.K H p ws → TyX C.K H (.ref p) (.type "list") := fun {p ws} q => by
    rcases q with (q | ⟨o, q⟩) | ⟨o, its, n, q, c, _⟩
    · exact .base (.lst q)
    · exact .base (.frz q)
    · exact .kList q c
  cases x with
  | non => simp only [tyName, Option.some.injEq] at h; subst h; simp only [VR] at r; subst r; exact ⟨by decide, .base .non⟩
  | bl b => simp only [tyName, Option.some.injEq] at h; subst h; simp only [VR] at r; subst r; exact ⟨by decide, .base (.bl _)⟩
  | int b => simp only [tyName, Option.some.injEq] at h; subst h; simp only [VR] at r; subst r; exact ⟨by decide, .base (.int _)⟩
  | str b => simp only [tyName, Option.some.injEq] at h; subst h; simp only [VR] at r; subst r; exact ⟨by decide, .base (.str _)⟩
  | tup xs =>
    simp only [tyName, Option.some.injEq] at h; subst h
    simp only [VR] at r
    obtain ⟨p, ws, rfl, g, _⟩ := r
    refine ⟨by decide, ?_⟩
    rcases g.sq with (q | ⟨o, q⟩) | ⟨o, its, n, q, c, _⟩
    · exact .base (.tup q)
    · exact .fTuple q
    · exact .kTuple q c
  | lst xs =>
    simp only [tyName, Option.some.injEq] at h; subst h
    simp only [VR] at r
    obtain ⟨p, ws, rfl, _, g, _⟩ := r
    exact ⟨by decide, .base (.lst g)⟩
  | rol xs =>
    simp only [tyName, Option.some.injEq] at h; subst h
    simp only [VR] at r
    obtain ⟨p, ws, rfl, g, _⟩ := r
    exact ⟨by decide, tl g.sq⟩
  | dic kvs =>
    simp only [tyName, Option.some.injEq] at h; subst h
    simp only [VR] at r
    obtain ⟨p, ws, rfl, _, g, _⟩ := r
    refine ⟨by decide, ?_⟩
    rcases g with q | ⟨o, q⟩
    · exact .base (.dK q)
    · exact .fDict q
  | ref l =>
    simp only [tyName] at h
    simp only [VR] at r
    obtain ⟨p, rfl, hl⟩ := r
    split at h
    · rename_i xs e
      simp only [Option.some.injEq] at h; subst h
      obtain ⟨vs, h1, _⟩ := s.ob l _ p e hl
      exact ⟨by decide, .base (.lst h1)⟩
    · rename_i xs e
      simp only [Option.some.injEq] at h; subst h
      obtain ⟨vs, h1, _⟩ := s.ob l _ p e hl
      exact ⟨by decide, .base (.dK h1)⟩
    · cases h
  | _ => cases h
theorem cm_isi : CallM C fIsi (rIsi C.K) := by
  intro W ι σ S H xs vs Q hs hr hp
  unfold fIsi at hp
  split at hp
  · rename_i x b
    obtain ⟨v, u, rfl, r1, r2⟩ := vrs2 hr
    simp only [VR] at r2
    subst r2
    split at hp
    · rename_i a ha
      split at hp
      · rename_i hb
        obtain ⟨h1, h2⟩ := tyName_ok hs r1 ha
        have hb' : b ∈ ["str", "int", "bool", "list", "tuple", "dict"] := by simpa using hb
        exact ⟨v, .ty b, _, _, _, rfl, .ty b, h2, kit_ty (kit_isi a h1 b hb'), hp ι H _ .refl hs (by simp only [VR])⟩
      · exact hp.elim
    · exact hp.elim
  · exact hp.elim

/-! ### methods of built-in types -/
def tyM (T : String) (S : Sto) (x : MV) : Bool := match x with
  | .str _ => T == "str"
  | .int _ => T == "int"
  | x => T == "list" && (asL S x).isSome
theorem tyM_ok {ι : Io} {S : Sto} {H : Hp} {x : MV} {v : V} {T : String} (s : StR C ι S H) (r : VR C ι H x v) (h : tyM T S x = true) : tyV C.K T v H := by
  have key : (T == "list" && (asL S x).isSome) = true → tyV C.K T v H := fun h => by
    rw [Bool.and_eq_true] at h
    obtain ⟨h1, h2⟩ := h
    obtain ⟨xs, e⟩ := Option.isSome_iff_exists.mp h2
    obtain ⟨a, vs, rfl, g, _⟩ := asL_ok s r e
    exact .inl ⟨by simpa using h1, vs, g⟩
  cases x with
  | str z => simp only [VR] at r; subst r; exact (by simpa [tyM] using h : T = "str")
  | int z => simp only [VR] at r; subst r; exact (by simpa [tyM] using h : T = "int")
  | _ => exact key h
def mBM (T : String) (f : MV → List MV → Sto → Res MV) (o : ME) (as : MA) : ME := fun env S => (o env S).bind fun x S1 => if tyM T S1 x = true then (as env S1).bind fun xs S2 => f x xs S2 else .bad
def MethM (C : Ct) (f : MV → List MV → Sto → Res MV) (r : V → List V → Hp → VK → Prop) : Prop := ∀ (W : WX) (ι : Io) (σ : L2.St) (S : Sto) (H : Hp) (x : MV) (xs : List MV) (v : V) (vs : List V) (Q : VK), StR C ι S H → VR C ι H x v → VRs C ι H xs vs → Post C W (VR C) ι σ H (f x xs S) Q → r v vs H Q
variable {o : Expr} {mo : ME} {name : Str} {apos cpos : Pos} {rm : V → List V → Hp → VK → Prop} {fm : MV → List MV → Sto → Res MV}
theorem bm_imp (hK : X.K = C.K) (hf : MethM C fm rm) {σ : L2.St} {H : Hp} {Q : VK} (h : tM C W (mBM T fm mo as) σ H Q) : tBM X.K T rm (tM C W mo) (tMA C W as) σ H Q := by
  obtain ⟨ι, env, S, he, hs, hp⟩ := h
  refine ⟨ι, env, S, he, hs, Post.bind hp fun x S1 ι1 H1 v e1 s1 q1 p1 => ?_⟩
  split at p1
  · rename_i ht
    refine ⟨by rw [hK]; exact tyM_ok s1 q1 ht, ι1, env, S1, he.mono e1, s1, Post.bind p1 fun xs S2 ι2 H2 vs e2 s2 q2 p2 => ?_⟩
    exact hf W ι2 σ S2 H2 x xs v vs Q s2 (q1.mono e2) q2 p2
  · exact p1.elim
theorem je_bm (hK : X.K = C.K) (pa : PlainAttrs T) (slot : Slot T name bid) (hty : typeOf (.builtin bid) = pure (.type "method_descriptor")) (hm : MtR X bid rm) (hf : MethM C fm rm) (ho : PE X o (tM C W mo)) (ha : PA X (e :: es) (tMA C W as))
    (hbase : attributeBase o name X.env (eval o X.env) = eval o X.env := by rfl)
    (hfew : ((backTo cpos (starEach (e :: es) X.env)).all (fun x => !x.1) && (backToKw cpos (keywordEach [] X.env)).all (fun x => x.1.isSome)
      && decide ((e :: es).length + ([] : List Keyword).length + (if ([] : List Keyword).isEmpty then 0 else 1) < 30)) = true := by rfl)
    (hline : (apos.endLine == cpos.line) = true := by rfl) (hs : starEach (e :: es) X.env = (false, eval e X.env) :: starEach es X.env := by rfl) (hplain : (backTo cpos (starEach es X.env)).any (·.1) = false := by rfl) :
    PE X (.Call (.Attribute o name apos) (e :: es) [] cpos) (tM C W (mBM T fm mo as)) :=
  peImp (pe_bm pa slot hty hm ho ha hbase hfew hline hs hplain) fun _ _ _ => bm_imp hK hf
theorem je_bm0 (hK : X.K = C.K) (pa : PlainAttrs T) (slot : Slot T name bid) (hty : typeOf (.builtin bid) = pure (.type "method_descriptor")) (hm : MtR X bid rm) (hf : MethM C fm rm) (ho : PE X o (tM C W mo))
    (hbase : attributeBase o name X.env (eval o X.env) = eval o X.env := by rfl) (hline : (apos.endLine == cpos.line) = true := by rfl) : PE X (.Call (.Attribute o name apos) [] [] cpos) (tM C W (mBM T fm mo mNil)) :=
  peImp (pe_bm0 pa slot hty hm ho hbase hline) fun σ H Q h => by
    obtain ⟨ι, env, S, he, hs, hp⟩ := h
    refine ⟨ι, env, S, he, hs, Post.bind hp fun x S1 ι1 H1 v e1 s1 q1 p1 => ?_⟩
    split at p1
    · rename_i ht
      exact ⟨by rw [hK]; exact tyM_ok s1 q1 ht, hf W ι1 σ S1 H1 x [] v [] Q s1 q1 (by simp only [VRs]) p1⟩
    · exact p1.elim
/-- a place that holds a list -/
def onL (x : MV) (S : Sto) (g : Nat → List MV → Res MV) : Res MV := match x with
  | .ref l => (match S[l]? with
    | some (.lst xs) => g l xs
    | _ => .bad)
  | _ => .bad
theorem onL_ok {ι : Io} {σ : L2.St} {S : Sto} {H : Hp} {x : MV} {v : V} {g : Nat → List MV → Res MV} {Q : VK} (hs : StR C ι S H) (r : VR C ι H x v) (hp : Post C W (VR C) ι σ H (onL x S g) Q) :
    ∃ l a xs vs, v = .ref a ∧ ι[l]? = some a ∧ S[l]? = some (.lst xs) ∧ H a = some (.lst vs) ∧ VRs C ι H xs vs ∧ Post C W (VR C) ι σ H (g l xs) Q := by
  unfold onL at hp
  split at hp
  · rename_i l
    split at hp
    · rename_i xs e
      simp only [VR] at r
      obtain ⟨a, rfl, hl⟩ := r
      obtain ⟨vs, h1, h2⟩ := hs.ob l _ a e hl
      exact ⟨l, a, xs, vs, rfl, hl, e, h1, h2, hp⟩
    · exact hp.elim
  · exact hp.elim
theorem setL_ok {ι : Io} {σ : L2.St} {S : Sto} {H : Hp} {l : Nat} {a : Addr} {ys : List MV} {ws : List V} {z : MV} {u : V} {Q : VK} (hs : StR C ι S H) (hl : ι[l]? = some a) (r : VRs C ι H ys ws) (rz : VR C ι H z u) (hp : Post C W (VR C) ι σ H (.ok z (S.set l (.lst ys))) Q) : Q u (upd H a (.lst ws)) :=
  hp ι _ u (Ext.set hl) (hs.set hl (m := .lst ys) ⟨ws, upd_same, VRs.mono (Ext.set hl) _ _ r⟩) (rz.mono (Ext.set hl))
def fAppend (x : MV) (vs : List MV) (S : Sto) : Res MV := match vs with
  | [y] => onL x S fun l xs => if xs.length < sizeLine then .ok .non (S.set l (.lst (xs ++ [y]))) else .bad
  | _ => .bad
theorem mm_append : MethM C fAppend rAppend := by
  intro W ι σ S H x xs v vs Q hs r1 r2 hp
  unfold fAppend at hp
  split at hp
  · obtain ⟨u, rfl, r3⟩ := vrs1 r2
    obtain ⟨l, a, ys, ws, rfl, hl, _, h1, h2, hp⟩ := onL_ok hs r1 hp
    split at hp
    · rename_i hz
      exact ⟨a, ws, u, rfl, rfl, h1, by rw [h2.len]; exact hz, setL_ok hs hl (h2.append (by simp only [VRs]; exact ⟨u, [], rfl, r3, rfl⟩)) (by simp only [VR]) hp⟩
    · exact hp.elim
  · exact hp.elim
def fPop (x : MV) (vs : List MV) (S : Sto) : Res MV := match vs with
  | [] => onL x S fun l xs => (match xs[xs.length - 1]? with
    | some y => .ok y (S.set l (.lst xs.dropLast))
    | none => .bad)
  | [.int i] => onL x S fun l xs => if -(2 ^ 63) ≤ i ∧ i < 2 ^ 63 then (match seqIndex? i xs.length with
    | some k => (match xs[k]? with
      | some y => .ok y (S.set l (.lst (xs.eraseIdx k)))
      | none => .bad)
    | none => .bad) else .bad
  | _ => .bad
def rPopM : V → List V → Hp → VK → Prop := fun x vs H Q => rPop x vs H Q ∨ rPopAt x vs H Q
theorem mt_popM : MtR X "list.pop" rPopM := MtR.or mt_pop mt_popAt
theorem VRs.dropLast {ι : Io} {H : Hp} {xs : List MV} {vs : List V} (h : VRs C ι H xs vs) : VRs C ι H xs.dropLast vs.dropLast := by
  rw [List.dropLast_eq_take, List.dropLast_eq_take, h.len]
  exact h.take _
theorem mm_pop : MethM C fPop rPopM := by
  intro W ι σ S H x xs v vs Q hs r1 r2 hp
  unfold fPop at hp
  split at hp
  · simp only [VRs] at r2
    subst r2
    obtain ⟨l, a, ys, ws, rfl, hl, _, h1, h2, hp⟩ := onL_ok hs r1 hp
    split at hp
    · rename_i y hy
      obtain ⟨u, e, ru⟩ := h2.at hy
      exact .inl ⟨a, ws, u, rfl, rfl, h1, by rw [h2.len]; exact e, setL_ok hs hl h2.dropLast ru hp⟩
    · exact hp.elim
  · obtain ⟨u0, rfl, r3⟩ := vrs1 r2
    obtain ⟨l, a, ys, ws, rfl, hl, _, h1, h2, hp⟩ := onL_ok hs r1 hp
    split at hp
    · rename_i hi
      split at hp
      · rename_i kk hk
        split at hp
        · rename_i y hy
          obtain ⟨u, e, ru⟩ := h2.at hy
          simp only [VR] at r3
          subst r3
          exact .inr ⟨a, ws, _, kk, u, rfl, rfl, h1, hi.1, hi.2, by rw [h2.len]; exact hk, e, setL_ok hs hl (h2.erase kk) ru hp⟩
        · exact hp.elim
      · exact hp.elim
    · exact hp.elim
  · exact hp.elim
def rInsM : V → List V → Hp → VK → Prop := fun x vs H Q => ∃ (l : Addr) (xs : List V) (i : Int) (y : V), x = .ref l ∧ vs = [.int i, y] ∧ H l = some (.lst xs) ∧ xs.length < sizeLine ∧ 0 ≤ i ∧ i < 2 ^ 63 ∧ Q .non (upd H l (.lst (xs.take i.toNat ++ [y] ++ xs.drop i.toNat)))
theorem mt_insM : MtR X "list.insert" rInsM := mt_insert
def fInsert (x : MV) (vs : List MV) (S : Sto) : Res MV := match vs with
  | [.int i, y] => onL x S fun l xs => if xs.length < sizeLine ∧ 0 ≤ i ∧ i < 2 ^ 63 then .ok .non (S.set l (.lst (xs.take i.toNat ++ [y] ++ xs.drop i.toNat))) else .bad
  | _ => .bad
theorem mm_insert : MethM C fInsert rInsM := by
  intro W ι σ S H x xs v vs Q hs r1 r2 hp
  unfold fInsert at hp
  split at hp
  · obtain ⟨u, w, rfl, r4, r3⟩ := vrs2 r2
    obtain ⟨l, a, ys, ws, rfl, hl, _, h1, h2, hp⟩ := onL_ok hs r1 hp
    simp only [VR] at r4
    subst r4
    split at hp
    · rename_i hz
      exact ⟨a, ws, _, w, rfl, rfl, h1, by rw [h2.len]; exact hz.1, hz.2.1, hz.2.2, setL_ok hs hl (((h2.take _).append (by simp only [VRs]; exact ⟨w, [], rfl, r3, rfl⟩)).append (h2.drop _)) (by simp only [VR]) hp⟩
    · exact hp.elim
  · exact hp.elim
/-- sep.join -/
def strsOf : List MV → Option (List (List Nat))
  | [] => some []
  | .str z :: r => (strsOf r).map (z :: ·)
  | _ => none
theorem strsOf_ok {ι : Io} {H : Hp} : ∀ {xs : List MV} {vs : List V} {zs : List (List Nat)}, VRs C ι H xs vs → strsOf xs = some zs → vs = (zs.map st).map V.str
  | [], vs, bs, h, e => by simp only [VRs] at h; simp only [strsOf, Option.some.injEq] at e; subst h; subst e; rfl
  | .str b :: r, vs, bs, h, e => by
    simp only [VRs, VR] at h
    obtain ⟨v, w, rfl, rfl, h2⟩ := h
    simp only [strsOf] at e
    cases e2 : strsOf r with
    | none => rw [e2] at e; cases e
    | some cs =>
      rw [e2] at e
      simp only [Option.map_some, Option.some.injEq] at e
      subst e
      rw [strsOf_ok h2 e2]
      rfl
  | .non :: _, _, _, _, e => by cases e
  | .int _ :: _, _, _, _, e => by cases e
  | .bl _ :: _, _, _, _, e => by cases e
  | .ty _ :: _, _, _, _, e => by cases e
  | .tup _ :: _, _, _, _, e => by cases e
  | .lst _ :: _, _, _, _, e => by cases e
  | .rol _ :: _, _, _, _, e => by cases e
  | .dic _ :: _, _, _, _, e => by cases e
  | .ins _ _ :: _, _, _, _, e => by cases e
  | .ref _ :: _, _, _, _, e => by cases e
  | .fn _ :: _, _, _, _, e => by cases e
  | .clo _ _ :: _, _, _, _, e => by cases e
def rJoinM (K : PySem.W.Frag) : V → List V → Hp → VK → Prop := fun x xs H Q => ∃ a p, ∃ ys : List Str, x = .str a ∧ xs = [.ref p] ∧ (SqL K H p (ys.map V.str) ∨ SqT K H p (ys.map V.str)) ∧ (ys.map (·.length)).sum + ys.length * a.length ≤ 16777216 ∧ Q (.str (Txt.join a ys)) H
theorem mt_joinM : MtR X "str.join" (rJoinM X.K) := mt_join
def fJoin (x : MV) (vs : List MV) (S : Sto) : Res MV := match x, vs with
  | .str a, [y] => (match (asSq S y).bind strsOf with
    | some zs => if (zs.map List.length).sum + zs.length * a.length ≤ 16777216 then .ok (.str (joinL a zs)) S else .bad
    | none => .bad)
  | _, _ => .bad
theorem mm_join : MethM C fJoin (rJoinM C.K) := by
  intro W ι σ S H x xs v vs Q hs r1 r2 hp
  unfold fJoin at hp
  split at hp
  · rename_i a y
    obtain ⟨u, rfl, r3⟩ := vrs1 r2
    cases e : asSq S y with
    | none => rw [e] at hp; exact hp.elim
    | some ys =>
      rw [e] at hp
      simp only [Option.bind_some] at hp
      cases e2 : strsOf ys with
      | none => rw [e2] at hp; exact hp.elim
      | some zs =>
        rw [e2] at hp
        simp only at hp
        split at hp
        · rename_i hz
          obtain ⟨p, ws, rfl, g1, g2⟩ := asSq_ok hs r3 e
          rw [strsOf_ok g2 e2] at g1
          simp only [VR] at r1
          subst r1
          refine ⟨_, p, zs.map st, rfl, rfl, g1, ?_, hp ι H _ .refl hs (VR_str ?_)⟩
          · rw [List.map_map, List.length_map, st_len]
            have : ((fun x : Str => x.length) ∘ st) = List.length := by funext l; exact st_len l
            rw [this]
            exact hz
          · rw [join_eq, tl_join, List.map_map]
            have : (tl ∘ st) = id := by funext l; simp
            rw [this, List.map_id]
        · exact hp.elim
  · exact hp.elim

/-! ### o[i] = e -/
def sSub (o i m : ME) : MSt := fun env S => sBind (m env S) env fun y S1 => sBind (o env S1) env fun x S2 => sBind (i env S2) env fun j S3 => match x, j with
  | .ref l, .int n => (match S3[l]? with
    | some (.lst xs) => (match ixN xs.length n with
      | some q => .nx env (S3.set l (.lst (xs.set q y)))
      | none => .bad)
    | _ => .bad)
  | _, _ => .bad
theorem js_sub {oe ie ee : Expr} {pos' : Pos} {i m : ME} (ho : PE X oe (tM C W mo)) (hi : PE X ie (tM C W i)) (he : PE X ee (tM C W m)) (hs : swapsWithSole [.Subscript oe ie pos'] ee pos.line X.env = pure false := by rfl) (hw : swappedStores [.Subscript oe ie pos'] ee X.env = pure none := by rfl)
    (h1 : (assignEach [.Subscript oe ie pos'] X.env).map (·.2) = [assign (.Subscript oe ie pos') X.env] := by rfl)
    (ha : ∀ v, assign (.Subscript oe ie pos') X.env v = (do
      let ov ← holding [v] (eval oe X.env)
      let iv ← holding [v, ov] (eval ie X.env)
      standAt pos'
      holding [v, ov, iv] (setItem ov iv v)
      release [v, ov, iv] []) := by intro _; rfl) : PS X (.Assign [.Subscript oe ie pos'] ee pos) (tMS C W (sSub mo i m)) :=
  psImp (ps_asg he (pg_sub ho hi set_list ha) hs hw h1) fun D σ H h => by
    obtain ⟨ι, env, S, he, hs, hp⟩ := h
    refine ⟨ι, env, S, he, hs, SPost.bind he hp fun y S1 ι1 H1 v e1 s1 q1 p1 => ?_⟩
    refine ⟨ι1, env, S1, he.mono e1, s1, SPost.bind (he.mono e1) p1 fun x S2 ι2 H2 u e2 s2 q2 p2 => ?_⟩
    refine ⟨ι2, env, S2, (he.mono e1).mono e2, s2, SPost.bind ((he.mono e1).mono e2) p2 fun j S3 ι3 H3 w e3 s3 q3 p3 => ?_⟩
    split at p3
    · rename_i l n
      split at p3
      · rename_i xs ex
        split at p3
        · rename_i q hq
          have q2 := q2.mono e3
          simp only [VR] at q2 q3
          obtain ⟨a, rfl, hl⟩ := q2
          obtain ⟨vs, g1, g2⟩ := s3.ob l _ a ex hl
          refine ⟨a, vs, n, q, rfl, q3, g1, by rw [g2.len]; exact hq, ?_⟩
          exact p3 ι3 _ σ (Ext.set hl) (s3.set hl (m := .lst (xs.set q y)) ⟨_, upd_same, VRs.mono (Ext.set hl) _ _ (VRs.set ((q1.mono e2).mono e3) q g2)⟩) ((((he.mono e1).mono e2).mono e3).mono (Ext.set hl))
        · exact p3.elim
      · exact p3.elim
    · exact p3.elim
end
end Mi

namespace Mi
open PySem L2

/-! ### or, and, not of any values -/
section
variable {X : Cx} {C : Ct} {W : WX} {pos : Pos}
def mOrT (a b : ME) : ME := fun env S => (a env S).bind fun x S1 => match tru S1 x with
  | some k => if k = true then .ok x S1 else b env S1
  | none => .bad
def mAndT (a b : ME) : ME := fun env S => (a env S).bind fun x S1 => match tru S1 x with
  | some k => if k = true then b env S1 else .ok x S1
  | none => .bad
def mNotT (a : ME) : ME := fun env S => (a env S).bind fun x S1 => match tru S1 x with
  | some k => .ok (.bl (!k)) S1
  | none => .bad
theorem je_orT (hK : X.K = C.K) {a b : Expr} {rest : List Expr} {m n : ME} (h : PE X a (tM C W m)) (h2 : PE X (.BoolOp .Or (b :: rest) pos) (tM C W n)) : PE X (.BoolOp .Or (a :: b :: rest) pos) (tM C W (mOrT m n)) :=
  peImp (pe_orT h h2) fun σ H Q h => by
    obtain ⟨ι, env, S, he, hs, hp⟩ := h
    refine ⟨ι, env, S, he, hs, Post.bind hp fun x S1 ι1 H1 v e1 s1 q1 p1 => ?_⟩
    split at p1
    · rename_i k hk
      refine ⟨k, by rw [hK]; exact tru_ok' s1 q1 hk, ?_⟩
      cases k with
      | true => exact p1 ι1 H1 v .refl s1 q1
      | false => exact ⟨ι1, env, S1, he.mono e1, s1, p1⟩
    · exact p1.elim
theorem je_andT (hK : X.K = C.K) {a b : Expr} {rest : List Expr} {m n : ME} (h : PE X a (tM C W m)) (h2 : PE X (.BoolOp .And (b :: rest) pos) (tM C W n)) : PE X (.BoolOp .And (a :: b :: rest) pos) (tM C W (mAndT m n)) :=
  peImp (pe_andT h h2) fun σ H Q h => by
    obtain ⟨ι, env, S, he, hs, hp⟩ := h
    refine ⟨ι, env, S, he, hs, Post.bind hp fun x S1 ι1 H1 v e1 s1 q1 p1 => ?_⟩
    split at p1
    · rename_i k hk
      refine ⟨k, by rw [hK]; exact tru_ok' s1 q1 hk, ?_⟩
      cases k with
      | false => exact p1 ι1 H1 v .refl s1 q1
      | true => exact ⟨ι1, env, S1, he.mono e1, s1, p1⟩
    · exact p1.elim
theorem je_notT (hK : X.K = C.K) {a : Expr} {m : ME} (h : PE X a (tM C W m)) : PE X (.UnaryOp .Not a pos) (tM C W (mNotT m)) :=
  peImp (pe_notT h) fun σ H Q h => by
    obtain ⟨ι, env, S, he, hs, hp⟩ := h
    refine ⟨ι, env, S, he, hs, Post.bind hp fun x S1 ι1 H1 v e1 s1 q1 p1 => ?_⟩
    split at p1
    · rename_i k hk
      exact ⟨k, by rw [hK]; exact tru_ok' s1 q1 hk, p1 ι1 H1 _ .refl s1 (by simp only [VR])⟩
    · exact p1.elim

/-! ### dicts written -/
def putKM (kvs : List (MV × MV)) (k x : MV) : List (MV × MV) :=
  if (kvs.any fun p => keyB p.1 k) = true then kvs.map (fun p => if keyB p.1 k = true then (p.1, x) else p) else kvs ++ [(k, x)]
def mergeKM (kvs more : List (MV × MV)) : List (MV × MV) := more.foldl (fun acc p => putKM acc p.1 p.2) kvs
theorem KRs.any {ι : Io} {H : Hp} {y : MV} (hy : isKey y = true) : ∀ {kvs : List (MV × MV)} {kx : List (Key × V)}, KRs C ι H kvs kx → (kx.any fun kv => decide (kv.1 = keyOf y)) = (kvs.any fun p => keyB p.1 y)
  | [], kx, h => by simp only [KRs] at h; subst h; rfl
  | (k, z) :: r, kx, h => by
    simp only [KRs] at h
    obtain ⟨⟨key, v⟩, w, rfl, h1, h2⟩ := h
    simp only [KR] at h1
    obtain ⟨hk, rfl⟩ := keyR_eq h1.1
    rw [List.any_cons, List.any_cons, KRs.any hy h2, keyB_ok hk hy]
theorem KRs.mapPut {ι : Io} {H : Hp} {y x : MV} {u : V} (hy : isKey y = true) (r : VR C ι H x u) : ∀ {kvs : List (MV × MV)} {kx : List (Key × V)}, KRs C ι H kvs kx → KRs C ι H (kvs.map (fun p => if keyB p.1 y = true then (p.1, x) else p)) (kx.map (fun kv => if kv.1 = keyOf y then (kv.1, u) else kv))
  | [], kx, h => by simp only [KRs] at h; subst h; simp only [List.map_nil, KRs]
  | (k, z) :: rr, kx, h => by
    simp only [KRs] at h
    obtain ⟨⟨key, v⟩, w, rfl, h1, h2⟩ := h
    simp only [KR] at h1
    obtain ⟨hk, e⟩ := keyR_eq h1.1
    rw [List.map_cons, List.map_cons]
    simp only [KRs]
    refine ⟨_, _, rfl, ?_, KRs.mapPut hy r h2⟩
    subst e
    have eb := keyB_ok hk hy
    by_cases hb : keyOf k = keyOf y
    · rw [decide_eq_true hb] at eb
      simp only [eb, if_true, hb, KR]
      rw [← hb]
      exact ⟨h1.1, r⟩
    · rw [decide_eq_false hb] at eb
      simp only [eb, hb, if_false, KR, Bool.false_eq_true]
      exact h1
theorem KRs.snoc {ι : Io} {H : Hp} {p : MV × MV} {q : Key × V} (r : KR C ι H p q) : ∀ {kvs : List (MV × MV)} {kx : List (Key × V)}, KRs C ι H kvs kx → KRs C ι H (kvs ++ [p]) (kx ++ [q])
  | [], kx, h => by simp only [KRs] at h; subst h; simp only [List.nil_append, KRs]; exact ⟨_, _, rfl, r, rfl⟩
  | z :: rr, kx, h => by
    simp only [KRs] at h
    obtain ⟨v, w, rfl, h1, h2⟩ := h
    simp only [List.cons_append, KRs]
    exact ⟨_, _, rfl, h1, KRs.snoc r h2⟩
theorem keyR_of {x : MV} (h : isKey x = true) : KeyR x (keyOf x) := by
  cases x <;> first | rfl | cases h
theorem KRs.put {ι : Io} {H : Hp} {y x : MV} {u : V} (hy : isKey y = true) (r : VR C ι H x u) {kvs : List (MV × MV)} {kx : List (Key × V)} (h : KRs C ι H kvs kx) : KRs C ι H (putKM kvs y x) (putK kx (keyOf y) u) := by
  unfold putKM putK
  rw [KRs.any hy h]
  split
  · exact KRs.mapPut hy r h
  · exact KRs.snoc (by simp only [KR]; exact ⟨keyR_of hy, r⟩) h
theorem KRs.merge {ι : Io} {H : Hp} : ∀ {more : List (MV × MV)} {mx : List (Key × V)} {kvs : List (MV × MV)} {kx : List (Key × V)}, KRs C ι H more mx → KRs C ι H kvs kx → KRs C ι H (mergeKM kvs more) (mergeK kx mx)
  | [], mx, kvs, kx, h, h2 => by simp only [KRs] at h; subst h; exact h2
  | (k, z) :: rr, mx, kvs, kx, h, h2 => by
    simp only [KRs] at h
    obtain ⟨⟨key, v⟩, w, rfl, h1, h3⟩ := h
    simp only [KR] at h1
    obtain ⟨hk, e⟩ := keyR_eq h1.1
    obtain rfl : key = keyOf k := e
    show KRs C ι H (mergeKM (putKM kvs k z) rr) (mergeK (putK kx (keyOf k) v) w)
    exact KRs.merge h3 (KRs.put hk h1.2 h2)
def mPrs : List (ME × ME) → Env → Sto → Res (List (MV × MV))
  | [], _, S => .ok [] S
  | (k, v) :: r, env, S => (k env S).bind fun x S1 => (v env S1).bind fun y S2 => if isKey x = true then (mPrs r env S2).bind fun ps S3 => .ok ((x, y) :: ps) S3 else .bad
def RPs (C : Ct) (ι : Io) (H : Hp) (kv : List (MV × MV)) (vs : List (V × V)) : Prop := ∃ kx : List (Key × V), vs = kx.map (fun p => (kV p.1, p.2)) ∧ KRs C ι H kv kx
theorem prs_ok : ∀ (ps : List (ME × ME)) {ι : Io} {env : Env} {S : Sto} {σ : L2.St} {H : Hp} {Q : List (V × V) → Hp → Prop}, EnvR C ι H env σ → StR C ι S H → Post C W (RPs C) ι σ H (mPrs ps env S) Q →
    tPairs (ps.map fun p => (tM C W p.1, tM C W p.2)) σ H Q
  | [], ι, env, S, σ, H, Q, he, hs, hp => hp ι H [] .refl hs ⟨[], rfl, by simp only [KRs]⟩
  | (k, v) :: r, ι, env, S, σ, H, Q, he, hs, hp => by
    refine ⟨ι, env, S, he, hs, Post.bind hp fun x S1 ι1 H1 vx e1 s1 q1 p1 => ?_⟩
    refine ⟨ι1, env, S1, he.mono e1, s1, Post.bind p1 fun y S2 ι2 H2 vy e2 s2 q2 p2 => ?_⟩
    split at p2
    · rename_i hk
      refine prs_ok r ((he.mono e1).mono e2) s2 (Post.bind p2 fun kv S3 ι3 H3 vs e3 s3 q3 p3 => ?_)
      obtain ⟨kx, rfl, h3⟩ := q3
      refine p3 ι3 H3 _ .refl s3 ⟨(keyOf x, vy) :: kx, ?_, ?_⟩
      · rw [List.map_cons, keyOf_ok q1 hk]
      · simp only [KRs]
        exact ⟨_, _, rfl, by simp only [KR]; exact ⟨keyR_of hk, q2.mono e3⟩, h3⟩
    · exact p2.elim
noncomputable def mDic (mu : Bool) (ps : List (ME × ME)) : ME := fun env S => (mPrs ps env (S ++ [.dic []])).bind fun kvs S1 => match S1[S.length]? with
  | some (.dic []) => if kvs.length ≤ 15 then compE mu S (S1.set S.length (.dic (mergeKM [] kvs))) else .bad
  | _ => .bad
theorem je_dic (mu : Bool) {keys : List (Option Expr)} {values : List Expr} (ps : List (ME × ME)) (h : PPs X pos keys values (ps.map fun p => (tM C W p.1, tM C W p.2))) (hall : keys.all (·.isSome) = true := by rfl) (hl : keys.length = values.length := by rfl) (h0 : keys ≠ [] := by exact fun z => by cases z)
    (h15 : keys.length ≤ 15 := by decide) : PE X (.Dict keys values pos) (tM C W (mDic mu ps)) :=
  peImp (pe_disp h hall hl h0 h15) fun σ H Q h => by
    obtain ⟨ι, env, S, he, hs, hp⟩ := h
    intro p hn
    have e0 := Ext.push (o := .dK []) hs hn
    have s0 : StR C (ι ++ [p]) (S ++ [.dic []]) (upd H p (.dK [])) := hs.push hn ⟨[], upd_same, by simp only [KRs]⟩
    have hx0 : ∀ {x : MX} {S2 : Sto}, mPrs ps env (S ++ [.dic []]) = .ex x S2 → mDic mu ps env S = .ex x S2 := fun e => by unfold mDic; rw [e]; rfl
    refine prs_ok ps (he.mono e0) s0 ?_
    unfold mDic at hp
    cases e : mPrs ps env (S ++ [.dic []]) with
    | bad => rw [e] at hp; exact hp.elim
    | ex x S2 =>
      rw [e] at hp
      intro ι1 H1 cls d e1 s1 r1
      exact hp ι1 H1 cls d (e0.trans e1) s1 r1
    | ok kvs S1 =>
      rw [e] at hp
      simp only [bind_ok] at hp
      intro ι1 H1 vs e1 s1 q1
      obtain ⟨kx, rfl, hkr⟩ := q1
      have hpi : ι1[S.length]? = some p := e1.at (by rw [← hs.len]; simp)
      split at hp
      · rename_i hS
        obtain ⟨kx0, hp0, hk0⟩ := s1.ob _ _ _ hS hpi
        simp only [KRs] at hk0
        subst hk0
        split at hp
        · rename_i h15
          refine ⟨hp0, kx, rfl, by rw [hkr.len]; exact h15, ?_⟩
          have ex : Ext ι1 H1 ι1 (upd H1 p (.dK (mergeK [] kx))) := Ext.set hpi
          have hm : KRs C ι1 (upd H1 p (.dK (mergeK [] kx))) (mergeKM [] kvs) (mergeK [] kx) := KRs.mono ex _ _ (KRs.merge hkr (by simp only [KRs]))
          have sF : StR C ι1 (S1.set S.length (.dic (mergeKM [] kvs))) (upd H1 p (.dK (mergeK [] kx))) := s1.set hpi ⟨_, upd_same, hm⟩
          have eF := (e0.trans e1).trans ex
          have rD : VR C ι1 (upd H1 p (.dK (mergeK [] kx))) (.ref S.length) (.ref p) := by simp only [VR]; exact ⟨p, rfl, hpi⟩
          cases mu with
          | true => exact hp ι1 _ _ eF sF rD
          | false =>
            cases el : leaveV S (S1.set S.length (.dic (mergeKM [] kvs))) (.ref S.length) with
            | ok y S3 =>
              simp only [compE, el] at hp
              obtain ⟨a1, a2, a3⟩ := leaveV_ok hs eF sF rD el
              exact hp ι _ _ a1 a2 a3
            | ex x S3 => unfold leaveV at el; (repeat (split at el)) <;> cases el
            | bad => simp only [compE, el] at hp; exact hp.elim
        · exact hp.elim
      · exact hp.elim
end
end Mi

namespace Mi
open PySem L2

/-! ### a def as its callers see it -/
structure FnIn (P : Program) (w : World) (C : Ct) (mg : Str → Option Value) (base : Heap) (x : Str) (k n : Nat) (g : List MV → Sto → Res MV) (ms : List MV) : Prop where
  ex : ∃ (f : Addr) (fd : FuncData) (ps : List Str) (dvs : List V) (ds : List Value), mg x = some (.ref f) ∧ PySem.W.keepIn C.K (.ref f) = true ∧ Binds C.K fd ps ds ∧ Vals dvs ds ∧ CstR ms dvs ∧ FnOk P w C.K mg base (L2.CX P w) k f fd ps (spM C n g)
section
variable {X : Cx} {C : Ct} {W : WX} {k j n : Nat} {x : Str} {p pos : Pos} {e : Expr} {es : List Expr} {ms : List MV} {g : List MV → Sto → Res MV} {as : MA}
theorem je_f (B : Bx C W j X) (G : FnIn X.prog X.w C X.mg X.base x k n g ms) (ha : PA X (e :: es) (tMA C W as)) (hkj : k ≤ j := by decide) (hg : Gl X x := by rfl) (hdb : (x == ("__debug__" : Str)) = false := by decide)
    (he : starEach (e :: es) X.env = (false, eval e X.env) :: starEach es X.env := by rfl) (hpl : (backTo pos (starEach es X.env)).any (·.1) = false := by rfl) :
    PE X (.Call (.Name x p) (e :: es) [] pos) (tM C W (mCall n g ms as)) := by
  obtain ⟨f, fd, ps, dvs, ds, h1, h2, h3, h4, h5, h6⟩ := G.ex
  rw [← B.hK] at h2 h3 h6
  exact je_call B h6 h1 h2 h3 h4 h5 ha hkj hg hdb he hpl
theorem je_f0 (B : Bx C W j X) (G : FnIn X.prog X.w C X.mg X.base x k n g ms) (hkj : k ≤ j := by decide) (hg : Gl X x := by rfl) (hdb : (x == ("__debug__" : Str)) = false := by decide) :
    PE X (.Call (.Name x p) [] [] pos) (tM C W (mCall n g ms mNil)) := by
  obtain ⟨f, fd, ps, dvs, ds, h1, h2, h3, h4, h5, h6⟩ := G.ex
  rw [← B.hK] at h2 h3 h6
  exact je_call0 B h6 h1 h2 h3 h4 h5 hkj hg hdb
end
/-! ### the end -/
theorem cx_none {P : Program} {w : World} {H : Hp} {s : Shared} {e : Value} {s' : Shared} (h : L2.CX P w [] H s (fun _ _ _ => False) e s') : False := by
  unfold L2.CX at h
  obtain ⟨_, _, _, _, _, _, _, _, _, _, _, _, h⟩ := h
  exact h

def spE (K : PySem.W.Frag) : Sp := fun vs H Q _ => ∃ (a : Addr) (ns : List Int), vs = [.ref a] ∧ ns.length ≤ 63 ∧ SqL K H a (ns.map V.int) ∧ ∀ H', Q (.bl true) H'
theorem law_sp {C : Ct} {g : List MV → Sto → Res MV} (h : ∀ ns : List Int, ns.length ≤ 63 → ∃ S, g [.rol (ns.map MV.int)] [] = .ok (.bl true) S) (vs : List V) (H : Hp) (Q : VK) (E : XK) (hs : spE C.K vs H Q E) : spM C 1 g vs H Q E := by
  obtain ⟨a, ns, rfl, hl, hS, hQ⟩ := hs
  obtain ⟨S', h⟩ := h ns hl
  refine ⟨rfl, [], [], [.rol (ns.map MV.int)], ⟨rfl, by simp, fun l o a h => by simp at h⟩, ?_, ?_⟩
  · have hv : ∀ ns : List Int, VRs C [] H (ns.map MV.int) (ns.map V.int) := by
      intro ns
      induction ns with
      | nil => simp only [List.map_nil, VRs]
      | cons i r ih => simp only [List.map_cons, VRs]; exact ⟨_, _, rfl, by simp only [VR], ih⟩
    simp only [VRs, VR]
    refine ⟨_, _, rfl, ⟨a, _, rfl, ?_, hv ns⟩, rfl⟩
    rcases hS with hS | hS
    · exact .inl ⟨by simp, hS⟩
    · exact .inr hS
  · rw [h]
    intro ι1 H1 v e1 s1 r1
    have r2 : v = .bl true := by simpa only [VR] using r1
    rw [r2]
    exact hQ H1
theorem law_walk {l : PySem.W.OpenLaw} {k : Nat} {q : Program} {loose : List Str} {XP : (Str → Option Value) → Heap → Prop} {YP : World → Heap → Prop} {d : DefRec} {K : Params → PySem.W.Frag} {x : Str} {g : List MV → Sto → Res MV} (hn : l.most = some 63) (hdf : d.params.defaults = [])
    (hr : Room k callerA) (hY : ∀ (w : World) (h : Heap), YP w h → (K w.params).In h) (hg : ∀ ns : List Int, ns.length ≤ 63 → ∃ S, g [.rol (ns.map MV.int)] [] = .ok (.bl true) S)
    (F : ∀ (w : World) (mg : Str → Option Value) (fa : Addr) (h : Heap), (K w.params).In h → h.Ns mainGlobals mg → mg d.name = some (.ref fa) →
      ∃ fd : FuncData, (∀ (s : Shared) (u : Value), BindsTo s fd ⟨[u], []⟩ [(x, u)]) ∧ ∃ C : Ct, C.K = K w.params ∧ ∀ base : Heap, (K w.params).In base → base.Ns mainGlobals mg → FnOk l.prog w C.K mg base (L2.CX l.prog w) k fa fd [x] (spM C 1 g)) :
    PySem.W.WalkO q loose XP YP l.row.toRowW d [] (fun f vs => PySem.call f vs) := by
  refine L2.walk_of (n := 63) (k := k) (x := x) (CX := fun w => L2.CX l.prog w) (sp := fun w => spE (K w.params)) hn (by decide) hdf hr hY ?_ ?_ ?_
  · intro w mg fa h hK hG hmg
    obtain ⟨fd, hb, C, hC, hF⟩ := F w mg fa h hK hG hmg
    refine ⟨fd, hb, fun base h1 h2 => ?_⟩
    have q := (hF base h1 h2).imp (law_sp hg)
    rw [hC] at q
    exact q
  · intro w H a ns hl _ hS
    exact ⟨a, ns, rfl, hl, hS, fun _ => rfl⟩
  · intro w H s e s' h
    exact cx_none h
end Mi

namespace Mi
open PySem L2

/-! ### plain: leaving a def -/
theorem leaveV_cl {S S' : Sto} {v : MV} (k : Keeps S S') (h : Cl S.length v) : leaveV S S' v = .ok v (S'.take S.length) := by
  unfold leaveV
  rw [if_pos k, fz_cl h]
theorem keeps_refl (S : Sto) : Keeps S S := ⟨Nat.le_refl _, fun l _ => .inl rfl⟩
theorem keeps_app {S S' : Sto} (T : Sto) (k : Keeps S S') : Keeps S (S' ++ T) := by
  refine ⟨by rw [List.length_append]; have := k.1; omega, fun l hl => ?_⟩
  have h2 : l < S'.length := by have := k.1; omega
  rw [List.getElem?_append_left h2]
  exact k.2 l hl
theorem keeps_set {S S' : Sto} {l : Nat} {o : MO} (k : Keeps S S') (h : ClO S.length o) : Keeps S (S'.set l o) := by
  refine ⟨by rw [List.length_set]; exact k.1, fun j hj => ?_⟩
  by_cases e : l = j
  · subst e
    have h2 : l < S'.length := by have := k.1; omega
    exact .inr ⟨o, by rw [List.getElem?_set_self h2], h⟩
  · rw [List.getElem?_set_ne e]
    exact k.2 j hj
theorem leaveR_push {S : Sto} {o : MO} (h : ClO S.length o) : leaveR S (S ++ [o]) (.ref S.length) = .ok (.ref S.length) (S ++ [o]) := by
  unfold leaveR
  rw [if_pos (keeps_app _ (keeps_refl S))]
  simp [h]

/-! ### plain: draws -/
abbrev dr (a b c : Int) : MO := .lst [.int a, .int b, .int c]
theorem dr_cl (n : Nat) (a b c : Int) : ClO n (dr a b c) := by simp [ClO, ClL, Cl]
def HasDr (l n : Nat) (S : Sto) : Prop := ∃ a b c : Int, S[l]? = some (dr a b c) ∧ 0 ≤ c ∧ c ≤ n
def Draws (l q : Nat) (S S' : Sto) : Prop := ∃ a b c a' c' : Int, S[l]? = some (dr a b c) ∧ S' = S.set l (dr a' b c') ∧ c ≤ c' ∧ c' ≤ c + q
theorem HasDr.lt {l n : Nat} {S : Sto} (h : HasDr l n S) : l < S.length := by
  obtain ⟨a, b, c, h, _⟩ := h
  exact (List.getElem?_eq_some_iff.mp h).1
theorem HasDr.draws {l n q : Nat} {S S' : Sto} (h : HasDr l n S) (d : Draws l q S S') : HasDr l (n + q) S' := by
  have hl := h.lt
  obtain ⟨a, b, c, h, h1, h2⟩ := h
  obtain ⟨a1, b1, c1, a', c', g, rfl, g2, g3⟩ := d
  rw [h] at g; cases g
  exact ⟨a', b, c', by rw [List.getElem?_set_self hl], by omega, by omega⟩
theorem HasDr.mono {l n m : Nat} {S : Sto} (h : HasDr l n S) (k : n ≤ m) : HasDr l m S := by
  obtain ⟨a, b, c, h, h1, h2⟩ := h
  exact ⟨a, b, c, h, h1, by omega⟩
theorem Draws.trans {l q r : Nat} {S S1 S2 : Sto} (d : Draws l q S S1) (e : Draws l r S1 S2) : Draws l (q + r) S S2 := by
  obtain ⟨a, b, c, a', c', g, rfl, g2, g3⟩ := d
  have hl := (List.getElem?_eq_some_iff.mp g).1
  obtain ⟨a1, b1, c1, a2, c2, h, rfl, h2, h3⟩ := e
  rw [List.getElem?_set_self hl] at h; cases h
  exact ⟨a, b, c, a2, c2, g, by rw [List.set_set], by omega, by omega⟩
theorem Draws.mono {l q r : Nat} {S S1 : Sto} (d : Draws l q S S1) (h : q ≤ r) : Draws l r S S1 := by
  obtain ⟨a, b, c, a', c', g, e, g2, g3⟩ := d
  exact ⟨a, b, c, a', c', g, e, g2, by omega⟩
theorem Draws.len {l q : Nat} {S S1 : Sto} (d : Draws l q S S1) : S1.length = S.length := by
  obtain ⟨a, b, c, a', c', g, rfl, g2, g3⟩ := d
  simp
theorem Draws.zero {l n : Nat} {S : Sto} (h : HasDr l n S) : Draws l 0 S S := by
  obtain ⟨a, b, c, h, h1, h2⟩ := h
  refine ⟨a, b, c, a, c, h, ?_, by omega, by omega⟩
  obtain ⟨h3, h4⟩ := List.getElem?_eq_some_iff.mp h
  rw [← h4]; simp
theorem Draws.ne {l q j : Nat} {S S1 : Sto} (d : Draws l q S S1) (h : l ≠ j) : S1[j]? = S[j]? := by
  obtain ⟨a, b, c, a', c', g, rfl, g2, g3⟩ := d
  rw [List.getElem?_set_ne h]
theorem Draws.keeps {l q : Nat} {S S1 : Sto} (d : Draws l q S S1) : Keeps S S1 := by
  obtain ⟨a, b, c, a', c', g, rfl, g2, g3⟩ := d
  exact keeps_set (keeps_refl S) (dr_cl _ _ _ _)
theorem Draws.leave {l q : Nat} {S S1 : Sto} {v : MV} (d : Draws l q S S1) (h : Cl S.length v) : leaveV S S1 v = .ok v S1 := by
  rw [leaveV_cl d.keeps h, ← d.len, List.take_length]
/-- behind new places of the def's own -/
theorem Draws.app {l q : Nat} {S S1 : Sto} {T : Sto} (d : Draws l q (S ++ T) S1) (h : l < S.length) : ∃ S2, S1 = S2 ++ T ∧ Draws l q S S2 := by
  obtain ⟨a, b, c, a', c', g, rfl, g2, g3⟩ := d
  rw [List.getElem?_append_left h] at g
  exact ⟨S.set l (dr a' b c'), by rw [List.set_append_left _ _ h], a, b, c, a', c', g, rfl, g2, g3⟩
theorem HasDr.app {l n : Nat} {S : Sto} (T : Sto) (h : HasDr l n S) : HasDr l n (S ++ T) := by
  have hl := h.lt
  obtain ⟨a, b, c, h, h1⟩ := h
  exact ⟨a, b, c, by rw [List.getElem?_append_left hl]; exact h, h1⟩
theorem ix_dr {l : Nat} {S : Sto} {a b c : Int} (h : S[l]? = some (dr a b c)) : fIx (.ref l) (.int 0) S = .ok (.int a) S ∧ fIx (.ref l) (.int 1) S = .ok (.int b) S ∧ fIx (.ref l) (.int 2) S = .ok (.int c) S := by
  refine ⟨?_, ?_, ?_⟩ <;> simp [fIx, asSq, asU, asL, h, L2.atI, ixN]

/-! ### plain: comprehensions -/
theorem cl_mono {n m : Nat} (h : n ≤ m) : True := trivial
theorem optL_cl {S : Sto} {n d : Nat} : ∀ {xs : List MV}, ClL n xs → optL (fz S n d) xs = some xs
  | [], _ => rfl
  | x :: r, h => by
    simp only [ClL] at h
    simp only [optL, fz_cl h.1, optL_cl h.2, Option.bind_some, Option.map_some]
theorem leaveV_new {S S1 : Sto} {xs : List MV} (k : Keeps S S1) (hl : S1.length = S.length) (h : ClL S.length xs) : leaveV S (S1 ++ [.lst xs]) (.ref S.length) = .ok (.lst xs) S1 := by
  unfold leaveV
  rw [if_pos (keeps_app _ k)]
  have e : (S1 ++ [MO.lst xs])[S.length]? = some (.lst xs) := by rw [← hl]; simp
  have f : fz (S1 ++ [MO.lst xs]) S.length 6 (.ref S.length) = some (.lst xs) := by
    unfold fz
    rw [if_neg (by simp [Cl])]
    simp only [e, optL_cl h, Option.map_some]
  rw [f]
  simp only [← hl]
  rw [List.take_left]
theorem clL_app {n : Nat} : ∀ {xs ys : List MV}, ClL n xs → ClL n ys → ClL n (xs ++ ys)
  | [], _, _, h => h
  | x :: r, ys, h, g => by simp only [ClL] at h; simp only [List.cons_append, ClL]; exact ⟨h.1, clL_app h.2 g⟩
theorem chk_nil {t : Itv} (h : t.deps = []) (S : Sto) : t.chk S := by
  unfold Itv.chk; rw [h]; intro p hp; cases hp
theorem compL_pure {t : Itv} {g : MG} {c : MB} {e : ME} {env : Env} {S0 : Sto} {p : MV → Bool} {F : MV → MV} (ht : ∀ acc, t.chk (S0 ++ [.lst acc])) :
    ∀ (items acc : List MV), (∀ v ∈ items, ∃ env1, g v env = some env1 ∧ ∀ acc, c env1 (S0 ++ [.lst acc]) = .ok (p v) (S0 ++ [.lst acc]) ∧ (p v = true → e env1 (S0 ++ [.lst acc]) = .ok (F v) (S0 ++ [.lst acc]))) → acc.length + items.length ≤ sizeLine →
    compL t g c e S0.length items env (S0 ++ [.lst acc]) = .ok () (S0 ++ [.lst (acc ++ (items.filter p).map F)])
  | [], acc, _, _ => by unfold compL; rw [if_pos (ht _)]; simp
  | v :: r, acc, h, hs => by
    obtain ⟨env1, h1, h2⟩ := h v (by simp)
    obtain ⟨h3, h4⟩ := h2 acc
    have hr : ∀ u ∈ r, _ := fun u hu => h u (List.mem_cons_of_mem _ hu)
    unfold compL
    rw [if_pos (ht _)]
    simp only [h1, h3]
    rw [List.length_cons] at hs
    cases hp : p v with
    | true =>
      have e1 : (S0 ++ [MO.lst acc])[S0.length]? = some (.lst acc) := by simp
      have e2 : (S0 ++ [MO.lst acc]).set S0.length (.lst (acc ++ [F v])) = S0 ++ [.lst (acc ++ [F v])] := by simp
      simp only [h4 hp, e1, e2]
      rw [if_pos (by omega), compL_pure ht r (acc ++ [F v]) hr (by rw [List.length_append]; simp; omega)]
      simp [List.filter_cons, hp]
    | false =>
      simp only []
      rw [compL_pure ht r acc hr (by omega)]
      simp [List.filter_cons, hp]
theorem mComp_pure {mu : Bool} {mi : Env → Sto → Res Itv} {vs : List Nat} {g : MG} {c : MB} {e : ME} {env : Env} {S : Sto} {t : Itv} {p : MV → Bool} {F : MV → MV} (hi : mi env S = .ok t S) (ht : ∀ acc, t.chk (S ++ [.lst acc]))
    (h : ∀ v ∈ t.items, ∃ env1, g v (wipeE env vs) = some env1 ∧ ∀ acc, c env1 (S ++ [.lst acc]) = .ok (p v) (S ++ [.lst acc]) ∧ (p v = true → e env1 (S ++ [.lst acc]) = .ok (F v) (S ++ [.lst acc]))) (hs : t.items.length ≤ sizeLine) (hc : ClL S.length ((t.items.filter p).map F)) :
    mComp mu mi vs g c e env S = if mu = true then .ok (.ref S.length) (S ++ [.lst ((t.items.filter p).map F)]) else .ok (.lst ((t.items.filter p).map F)) S := by
  unfold mComp
  have q := compL_pure (t := t) (g := g) (c := c) (e := e) (env := wipeE env vs) (S0 := S) (p := p) (F := F) ht t.items [] h (by simpa using hs)
  simp only [List.nil_append] at q
  simp only [hi, bind_ok, q, compE]
  cases mu with
  | true => rfl
  | false => simp only [Bool.false_eq_true, if_false]; exact leaveV_new (keeps_refl S) rfl hc
theorem compL_draws {t : Itv} {g : MG} {e : ME} {P : MV → Prop} {l m q : Nat} {env : Env} (ht : t.deps = []) (hlm : l ≠ m) {N : Nat} :
    ∀ (items : List MV) (n : Nat) (S : Sto) (acc : List MV), (∀ v ∈ items, ∃ env1, g v env = some env1 ∧ ∀ (n : Nat) (S : Sto), n + q ≤ N → m < S.length → HasDr l n S → ∃ y S1, e env1 S = .ok y S1 ∧ Draws l q S S1 ∧ P y) →
      HasDr l n S → n + q * items.length ≤ N → S[m]? = some (.lst acc) → acc.length + items.length ≤ sizeLine →
      ∃ S1 ys, compL t g mYes e m items env S = .ok () (S1.set m (.lst (acc ++ ys))) ∧ ys.length = items.length ∧ (∀ y ∈ ys, P y) ∧ Draws l (q * items.length) S S1
  | [], n, S, acc, _, hd, _, hm, _ => by
    refine ⟨S, [], ?_, rfl, by simp, (Draws.zero hd).mono (by omega)⟩
    unfold compL
    rw [if_pos (chk_nil ht S), List.append_nil]
    obtain ⟨h1, h2⟩ := List.getElem?_eq_some_iff.mp hm
    congr 1
    rw [← h2]; simp
  | v :: r, n, S, acc, h, hd, hn, hm, hs => by
    rw [List.length_cons, Nat.mul_add, Nat.mul_one] at hn
    rw [List.length_cons] at hs
    obtain ⟨env1, h1, h2⟩ := h v (by simp)
    have hml : m < S.length := (List.getElem?_eq_some_iff.mp hm).1
    obtain ⟨y, S1, e1, d1, py⟩ := h2 n S (by omega) hml hd
    have hm1 : S1[m]? = some (.lst acc) := by rw [d1.ne hlm]; exact hm
    have hml1 : m < S1.length := by rw [d1.len]; exact hml
    have hd1 := hd.draws d1
    have hd2 : HasDr l (n + q) (S1.set m (.lst (acc ++ [y]))) := by
      obtain ⟨a, b, c, g1, g2⟩ := hd1
      exact ⟨a, b, c, by rw [List.getElem?_set_ne (Ne.symm hlm)]; exact g1, g2⟩
    obtain ⟨S3, ys, e3, l3, p3, d3⟩ := compL_draws ht hlm r (n + q) (S1.set m (.lst (acc ++ [y]))) (acc ++ [y]) (fun u hu => h u (List.mem_cons_of_mem _ hu)) hd2 (by omega) (by rw [List.getElem?_set_self hml1]) (by rw [List.length_append]; simp; omega)
    obtain ⟨a, b, c, a', c', g1, rfl, g3, g4⟩ := d3
    rw [List.getElem?_set_ne (Ne.symm hlm)] at g1
    have d4 : Draws l (q * r.length) S1 (S1.set l (dr a' b c')) := ⟨a, b, c, a', c', g1, rfl, g3, g4⟩
    refine ⟨S1.set l (dr a' b c'), y :: ys, ?_, by simp [l3], ?_, (d1.trans d4).mono (by rw [List.length_cons, Nat.mul_add, Nat.mul_one]; omega)⟩
    · unfold compL
      rw [if_pos (chk_nil ht S)]
      simp only [h1, mYes, e1, hm1]
      rw [if_pos (by omega)]
      rw [e3, List.set_comm _ _ (Ne.symm hlm), List.set_set, List.append_assoc]
      try rfl
    · intro u hu
      rcases List.mem_cons.mp hu with rfl | hu
      · exact py
      · exact p3 u hu
/-- a comprehension whose turns draw -/
theorem mComp_draws {mu : Bool} {mi : Env → Sto → Res Itv} {vs : List Nat} {g : MG} {e : ME} {env : Env} {S S1 : Sto} {t : Itv} {P : MV → Prop} {l n q k N : Nat} (hi : mi env S = .ok t S1) (hd : HasDr l n S) (d0 : Draws l k S S1) (ht : t.deps = [])
    (h : ∀ v ∈ t.items, ∃ env1, g v (wipeE env vs) = some env1 ∧ ∀ (n : Nat) (S' : Sto), n + q ≤ N → S.length < S'.length → HasDr l n S' → ∃ y S2, e env1 S' = .ok y S2 ∧ Draws l q S' S2 ∧ P y) (hn : n + k + q * t.items.length ≤ N) (hs : t.items.length ≤ sizeLine) (hc : ∀ y, P y → Cl S.length y) :
    ∃ S2 ys, mComp mu mi vs g mYes e env S = (if mu = true then .ok (.ref S.length) (S2 ++ [.lst ys]) else .ok (.lst ys) S2) ∧ ys.length = t.items.length ∧ (∀ y ∈ ys, P y) ∧ Draws l (k + q * t.items.length) S S2 := by
  have hd1 := hd.draws d0
  have hl1 := hd1.lt
  have hne : l ≠ S1.length := by omega
  obtain ⟨S3, ys, e3, l3, p3, d3⟩ := compL_draws (t := t) (g := g) (e := e) (P := P) (l := l) (m := S1.length) (q := q) (env := wipeE env vs) (N := N) ht hne t.items (n + k) (S1 ++ [.lst []]) [] (by
    rw [d0.len]
    exact h) (hd1.app _) (by omega) (by simp) (by simpa using hs)
  obtain ⟨S4, rfl, d4⟩ := d3.app hl1
  have h4 := d4.len
  have hcl : ClL S.length ys := by
    clear e3 l3 d3
    induction ys with
    | nil => simp only [ClL]
    | cons a b ih => simp only [ClL]; exact ⟨hc a (p3 a (by simp)), ih fun y hy => p3 y (List.mem_cons_of_mem _ hy)⟩
  refine ⟨S4, ys, ?_, l3, p3, d0.trans d4⟩
  unfold mComp
  have e5 : (S4 ++ [MO.lst []]).set S1.length (.lst ([] ++ ys)) = S4 ++ [.lst ys] := by rw [← h4]; simp
  rw [e5] at e3
  simp only [hi, bind_ok, e3, compE]
  cases mu with
  | true => simp only [if_true, d0.len]
  | false =>
    simp only [Bool.false_eq_true, if_false]
    exact leaveV_new d4.keeps h4 (by rw [d0.len]; exact hcl)

/-! ### plain: equality of flat values, dicts written -/
theorem deq_flat {n : Nat} {x y : MV} (h : flat x = true) (g : flat y = true) : deq n x y = some (eqF x y) := by
  cases n <;> (unfold deq; rw [h, g]; rfl)
theorem fEq_flat {x y : MV} {S : Sto} (h : flat x = true) (g : flat y = true) (hx : view S x = x) (hy : view S y = y) : fEq x y S = .ok (.bl (eqF x y)) S := by
  unfold fEq; rw [hx, hy, deq_flat h g]
theorem fNe_flat {x y : MV} {S : Sto} (h : flat x = true) (g : flat y = true) (hx : view S x = x) (hy : view S y = y) : fNe x y S = .ok (.bl (!eqF x y)) S := by
  unfold fNe; rw [hx, hy, deq_flat h g]
theorem fEq_int (i j : Int) (S : Sto) : fEq (.int i) (.int j) S = .ok (.bl (decide (i = j))) S := by
  rw [fEq_flat rfl rfl rfl rfl]; first | rfl | (congr 2; by_cases h : i = j <;> simp [eqF, h])
theorem fNe_int (i j : Int) (S : Sto) : fNe (.int i) (.int j) S = .ok (.bl (!decide (i = j))) S := by
  rw [fNe_flat rfl rfl rfl rfl]; first | rfl | (congr 3; by_cases h : i = j <;> simp [eqF, h])
theorem fEq_bl (i j : Bool) (S : Sto) : fEq (.bl i) (.bl j) S = .ok (.bl (decide (i = j))) S := by
  rw [fEq_flat rfl rfl rfl rfl]; cases i <;> cases j <;> rfl
theorem fNe_bl (i j : Bool) (S : Sto) : fNe (.bl i) (.bl j) S = .ok (.bl (!decide (i = j))) S := by
  rw [fNe_flat rfl rfl rfl rfl]; cases i <;> cases j <;> rfl
theorem fEq_str (i j : List Nat) (S : Sto) : fEq (.str i) (.str j) S = .ok (.bl (decide (i = j))) S := by
  rw [fEq_flat rfl rfl rfl rfl]; first | rfl | (congr 2; by_cases h : i = j <;> simp [eqF, h])
theorem fNe_str (i j : List Nat) (S : Sto) : fNe (.str i) (.str j) S = .ok (.bl (!decide (i = j))) S := by
  rw [fNe_flat rfl rfl rfl rfl]; first | rfl | (congr 3; by_cases h : i = j <;> simp [eqF, h])
theorem optL_clk {S : Sto} {n d : Nat} : ∀ {kvs : List (MV × MV)}, Clk n kvs → optL (fun p => (fz S n d p.2).map fun y => (p.1, y)) kvs = some kvs
  | [], _ => rfl
  | (k, v) :: r, h => by
    simp only [Clk, Clp] at h
    have h1 := optL_clk (S := S) (d := d) h.2
    simp only [optL, h1]
    rw [fz_cl h.1]
    rfl
theorem mDic_lit {ps : List (ME × ME)} {env : Env} {S : Sto} {kvs : List (MV × MV)} (h : mPrs ps env (S ++ [.dic []]) = .ok kvs (S ++ [.dic []])) (h15 : kvs.length ≤ 15) (hc : Clk S.length (mergeKM [] kvs)) :
    mDic false ps env S = .ok (.dic (mergeKM [] kvs)) S := by
  have e1 : (S ++ [MO.dic []])[S.length]? = some (.dic []) := by simp
  have e2 : (S ++ [MO.dic []]).set S.length (.dic (mergeKM [] kvs)) = S ++ [.dic (mergeKM [] kvs)] := by simp
  unfold mDic
  simp only [h, bind_ok, e1, if_pos h15, e2, compE, Bool.false_eq_true, if_false]
  unfold leaveV
  rw [if_pos (keeps_app _ (keeps_refl S))]
  have e : (S ++ [MO.dic (mergeKM [] kvs)])[S.length]? = some (.dic (mergeKM [] kvs)) := by simp
  have f : fz (S ++ [MO.dic (mergeKM [] kvs)]) S.length 6 (.ref S.length) = some (.dic (mergeKM [] kvs)) := by
    unfold fz
    rw [if_neg (by simp [Cl])]
    simp only [e, optL_clk hc, Option.map_some]
  rw [f]
  simp

/-! ### plain: walks -/
theorem forL_inv {t : Itv} {g : MG} {mb : MSt} (ht : t.deps = []) (Inv : Nat → Env → Sto → Prop) : ∀ (items : List MV) (i : Nat) (env : Env) (S : Sto), Inv i env S →
    (∀ (j : Nat) (v : MV), items[j]? = some v → ∀ env S, Inv (i + j) env S → ∃ e1, g v env = some e1 ∧ ∃ e2 S2, (mb e1 S = .nx e2 S2 ∨ mb e1 S = .ct e2 S2) ∧ Inv (i + j + 1) e2 S2) →
    ∃ e2 S2, forL t g mb items env S = .nx e2 S2 ∧ Inv (i + items.length) e2 S2
  | [], i, env, S, h, _ => ⟨env, S, by unfold forL; rw [if_pos (chk_nil ht S)], h⟩
  | v :: r, i, env, S, h, hv => by
    obtain ⟨e1, h1, e2, S2, h2, h3⟩ := hv 0 v rfl env S h
    obtain ⟨e3, S3, h4, h5⟩ := forL_inv ht Inv r (i + 1) e2 S2 h3 fun j u hj env S hI => by
      obtain ⟨e1, h1, e2, S2, h2, h3⟩ := hv (j + 1) u (by simpa using hj) env S (by rw [show i + (j + 1) = i + 1 + j by omega]; exact hI)
      exact ⟨e1, h1, e2, S2, h2, by rw [show i + 1 + j + 1 = i + (j + 1) + 1 by omega]; exact h3⟩
    refine ⟨e3, S3, ?_, by rw [List.length_cons, show i + (r.length + 1) = i + 1 + r.length by omega]; exact h5⟩
    unfold forL
    rw [if_pos (chk_nil ht S)]
    simp only [h1]
    rcases h2 with h2 | h2 <;> (rw [h2]; exact h4)
theorem lt1 (c d : Nat) : decide ([c] < [d]) = decide (c < d) := by
  simp [List.cons_lt_cons_iff]
theorem leave_top {S' : Sto} (b : Bool) : leaveV [] S' (.bl b) = .ok (.bl b) [] := by
  rw [leaveV_cl ⟨Nat.zero_le _, fun l hl => by simp at hl⟩ (by simp [Cl])]
  simp
/-- the script's first so many numbers -/
theorem cut_none {α : Type} (xs : List α) (n : Nat) : cutL xs none (some (n : Int)) = xs.take n := by
  unfold cutL
  rw [HT.sIx_none, HT.sIx_nat, List.drop_zero, Nat.sub_zero, List.take_eq_take_iff]
  omega
theorem head_ok {ns d : List Int} {k : Nat} {env : Env} {S : Sto} {a : ME} (h0 : env[0]? = some (some (.rol (ns.map MV.int)))) (ha : a env S = .ok (.lst (d.map MV.int)) S) : mSl false (mOrT (mV 0) a) mNoPart (mPart (mC (.int k))) env S = .ok (.lst (((if ns = [] then d else ns).take k).map MV.int)) S := by
  simp only [mSl, mOrT, mV, h0, bind_ok, tru]
  cases ns with
  | nil => simp only [List.map_nil, List.isEmpty_nil, Bool.not_true, Bool.false_eq_true, if_false, ha, bind_ok, mNoPart, mPart, mC, fSl, asL, mkL, cut_none, if_true, List.map_take]
  | cons x r => simp only [List.map_cons, List.isEmpty_cons, Bool.not_false, if_true, bind_ok, mNoPart, mPart, mC, fSl, asL, mkL, cut_none, Bool.false_eq_true, if_false, List.map_take, reduceCtorEq]
theorem enu_at {xs : List MV} {j : Nat} {v : MV} (h : (enuL xs)[j]? = some v) : ∃ x, xs[j]? = some x ∧ v = .tup [.int (j : Int), x] := by
  unfold enuL at h
  rw [List.getElem?_map] at h
  by_cases hj : j < xs.length
  · rw [List.getElem?_range hj] at h
    simp only [Option.map_some, Option.some.injEq] at h
    exact ⟨xs[j], by simp [hj], by rw [← h]; simp [List.getD, hj]⟩
  · have : (List.range xs.length)[j]? = none := by simp; omega
    rw [this] at h; cases h
theorem ints_at {xs : List Int} {j : Nat} {x : MV} (h : (xs.map MV.int)[j]? = some x) : j < xs.length ∧ ∃ c, x = .int c := by
  rw [List.getElem?_map] at h
  cases e : xs[j]? with
  | none => rw [e] at h; cases h
  | some c => rw [e] at h; exact ⟨(List.getElem?_eq_some_iff.mp e).1, c, by simpa using h.symm⟩
def NxP (P : Env → Sto → Prop) : SRes → Prop
  | .nx e S => P e S
  | .ct e S => P e S
  | _ => False
theorem NxP.ex {P : Env → Sto → Prop} {r : SRes} (h : NxP P r) : ∃ e S, (r = .nx e S ∨ r = .ct e S) ∧ P e S := by
  cases r with
  | nx e S => exact ⟨e, S, .inl rfl, h⟩
  | ct e S => exact ⟨e, S, .inr rfl, h⟩
  | _ => exact h.elim
theorem env9 {e : Env} (h : e.length = 9) : ∃ x0 x1 x2 x3 x4 x5 x6 x7 x8, e = [x0, x1, x2, x3, x4, x5, x6, x7, x8] := by
  match e, h with
  | [x0, x1, x2, x3, x4, x5, x6, x7, x8], _ => exact ⟨_, _, _, _, _, _, _, _, _, rfl⟩
end Mi

namespace Mi
open PySem L2 PyProof.Rows

/-! ### len(set(texts)) -/
/-- the texts, each once, in their order -/
def once (xs : List Str) : List Str := xs.foldl (fun acc x => if x ∈ acc then acc else acc ++ [x]) []
theorem once_snoc (xs : List Str) (x : Str) : once (xs ++ [x]) = if x ∈ once xs then once xs else once xs ++ [x] := by
  unfold once; rw [List.foldl_append]; rfl
theorem once_le (n : Nat) : ∀ xs : List Str, xs.length = n → (once xs).length ≤ n := by
  induction n with
  | zero => intro xs h; have : xs = [] := List.length_eq_zero_iff.mp h; subst this; exact Nat.le_refl 0
  | succ n ih =>
    intro xs h
    rcases List.eq_nil_or_concat xs with rfl | ⟨ys, y, rfl⟩
    · simp at h
    · rw [List.concat_eq_append] at h ⊢
      have hy : ys.length = n := by simpa using h
      have := ih ys hy
      rw [once_snoc]
      split
      · omega
      · simp; omega
section
variable {prog : Program} {w : World} {A : Around} {R : Result → Shared → Prop} {I : Addr} {fp wr : List Addr} {G : Array GenState → Array GenState → Prop} {n : Nat} {P : Nat → Value → Prop} {St : Nat → Shared → Prop}
abbrev Holds (prog : Program) (w : World) (h : Heap) (a : Addr) (xs : List Str) : Prop := h.SetOf (PySem.strKind prog w) a (fun k => decide (k ∈ once xs)) (once xs).length
theorem Holds.moved {s s' : Shared} {a : Addr} {xs : List Str} {wr : List Addr} {G : Array GenState → Array GenState → Prop} (h : Holds prog w s.heap a xs) (m : Moved wr G s s') (ha : a ∉ wr) : Holds prog w s'.heap a xs := by
  obtain ⟨ob, es, ep, tb, h1, h2⟩ := h
  exact ⟨ob, es, ep, tb, m.heap a _ ha h1, h2⟩
theorem Holds.next {h : Heap} {a : Addr} {xs : List Str} {x : Str}
    (g : h.SetOf (PySem.strKind prog w) a (fun k => decide (k ∈ once xs) || decide (k = x)) (if decide (x ∈ once xs) = true then (once xs).length else (once xs).length + 1)) : Holds prog w h a (xs ++ [x]) := by
  refine SetOf_congr g (fun k => ?_) ?_
  · rw [once_snoc]
    by_cases e : x ∈ once xs
    · rw [if_pos e]
      by_cases f : k = x
      · subst f; simp [e]
      · simp [f]
    · rw [if_neg e]
      by_cases f : k = x
      · subst f; simp
      · simp [f]
  · rw [once_snoc]
    by_cases e : x ∈ once xs <;> simp [e]
theorem set_turns (W : WalksS prog w A.in1 I fp wr G n P St) (a : Addr) (ha : a ∉ fp) (xs : List Str) (hx : xs.length = n) (hv : ∀ i v, P i v → ∃ t, v = .str (xs.getD i Str.empty) t) (hn : n + 1 < scanBound) (k : Nat) :
    ∀ (i : Nat) (s : Shared), i + k = n → St i s → Holds prog w s.heap a (xs.take i) →
      (∀ s', Moved (a :: wr) G s s' → Holds prog w s'.heap a xs → R (.ok (.ret .none)) s') → codeAny (model prog w) A (.builtin "set.update.loop" ⟨[.ref a, .ref I], []⟩) R s := by
  have haw : a ∉ wr := fun z => ha (W.sub _ z)
  have up : ∀ b ∈ wr, b ∈ a :: wr := fun b z => List.mem_cons_of_mem _ z
  induction k with
  | zero =>
    intro i s hi st hS fin
    have e : xs.take i = xs := List.take_of_length_le (by omega)
    have ei : i = n := by omega
    subst ei
    rw [e] at hS
    refine codeAny_builtin PyProof.Rows.F.entry_set_update_loop ?_
    rw [Around.under_plainId PyProof.Rows.F.plain_set_update_loop _]
    exact wpAny_bind (W.done s _ _ st fun s2 m => wpAny_pure (fin s2 (m.mono up) (hS.moved m haw)))
  | succ k ih =>
    intro i s hi st hS fin
    have il : i < n := by omega
    refine codeAny_builtin PyProof.Rows.F.entry_set_update_loop ?_
    rw [Around.under_plainId PyProof.Rows.F.plain_set_update_loop _]
    refine wpAny_bind (W.item i s _ _ il st fun v s2 hP st2 m => ?_)
    obtain ⟨t, rfl⟩ := hv i v hP
    have hS2 := hS.moved m haw
    show wpAny _ A.in1 (holding [Value.str (xs.getD i Str.empty) t] (setAdd a (.str (xs.getD i Str.empty) t)) >>= _) _ _ s2
    refine wpAny_bind (wpAny_holding ?_)
    unfold setAdd
    refine wpAny_holding (wpAny_bind ((PySem.strKind prog w).pyHash (k := xs.getD i Str.empty) (strKind_is _ _ _ _) ?_))
    have room : (once (xs.take i)).length + 1 < scanBound := by
      have := once_le i (xs.take i) (by rw [List.length_take]; omega)
      omega
    refine wpAny_setAddHashed_of (knd := PySem.strKind prog w) (s := { s2 with toks := s2.toks + 1 }) (strKind_is _ _ _ _) rfl hS2 room fun h' same hS3 => ?_
    have e : xs.take (i + 1) = xs.take i ++ [xs.getD i Str.empty] := by
      rw [List.take_add_one, List.getD_eq_getElem?_getD, List.getElem?_eq_getElem (by omega)]; rfl
    have hS4 : Holds prog w h' a (xs.take (i + 1)) := by rw [e]; exact Holds.next hS3
    refine wpAny_pure ⟨plainId_quiet PyProof.Rows.F.plain_set_update_loop _, ih (i + 1) _ (by omega) (W.frame _ s2 _ _ st2 (Nat.le_succ _) fun b hb o q => ?_) hS4 fun s3 m3 hS5 => ?_⟩
    · rw [same.2 b (fun z : b = a => ha (by rw [← z]; exact hb))]; exact q
    · refine fin s3 (Moved.trans W.gtrans ((m.mono up).then_heap (Nat.le_succ _) fun b o hb q => ?_) m3) hS5
      rw [same.2 b (fun z : b = a => hb (by rw [z]; exact List.mem_cons_self))]; exact q
end
section
variable {prog : Program} {w : World} {A : Around} {E : Value → Shared → Prop} {s : Shared}
abbrev newSet (led : Bool) : Obj := { cls := .type "set", dict := none, data := .set #[] 0 (.fresh 0 0 led) }
theorem set_of_texts {l : Addr} {items : Array Value} {xs : List Str} {Q : Value → Shared → Prop} (hh : A.handled = none) (hl : s.heap.IsList l items) (hx : StrsAre items.toList xs) (hn : xs.length + 1 < scanBound)
    (fin : ∀ (h' : Heap) (tk : Nat), Holds prog w h' s.heap.objs.size xs → (∀ b o, b < s.heap.objs.size → s.heap.get? b = some o → h'.get? b = some o) → Q (.ref s.heap.objs.size) { s with heap := h', toks := tk }) :
    wpAny (model prog w) A (call (.type "set") [.ref l]) Q E s := by
  have q1 := PySem.F.called_set.mro
  obtain ⟨mc, ml, q1⟩ := q1
  have q2 := PySem.F.called_set.made
  have q3 := PySem.F.called_set.sub
  have q4 := PySem.F.called_set.notType
  have q5 := PySem.F.called_set.canCreate
  have q6 := PySem.F.typeCall_set_1 (.ref l)
  refine wpAny_call (codeAny_of_tree ?_)
  show wpAny _ _ (callAny (.type "set") _) _ _ _
  refine wpAny_pure ⟨Code.quiet_builtin _ (by decide +kernel), codeAny_builtin PySem.F.entry_type_call ?_⟩
  rw [Around.under_plain (weight_type_call_type "set" [.ref l] []) rfl]
  repeat any_goals first | assumption | wp_step
  refine codeAny_mono (code_set_new_1 (.ref l) (E := E) (Q₁ := fun ob z => ∃ led : Bool, ob = .ref s.heap.objs.size ∧ z = { s with heap := s.heap.push (newSet led) }) fun led => ⟨led, rfl, rfl⟩) fun r z hr => ?_
  rcases r with u | fl
  · exact hr
  cases fl with
  | next => exact hr.elim
  | brk => exact hr.elim
  | cont => exact hr.elim
  | ret ob =>
    obtain ⟨led, rfl, rfl⟩ := hr
    have here : (s.heap.push (newSet led)).get? s.heap.objs.size = some (newSet led) := Heap.get?_push_size _ rfl
    have isSet : Shared.TypeIs { s with heap := s.heap.push (newSet led) } (.ref s.heap.objs.size) "set" := ⟨_, here, rfl⟩
    have q7 := PySem.F.called_set.init.lookup
    have q8 := PySem.F.called_set.init.bind (.ref s.heap.objs.size)
    repeat any_goals first | assumption | wp_step
    refine codeAny_mono (codeAny_call_builtin (R := wants (fun r z => r = .none ∧ ∃ h' tk, z = { s with heap := h', toks := tk } ∧ Holds prog w h' s.heap.objs.size xs ∧ (∀ b o, b < s.heap.objs.size → s.heap.get? b = some o → h'.get? b = some o)) E)
      PySem.F.called_set.init.plain PySem.F.entry_set_init (check_set_init_1 isSet ?_)) fun r z hz => ?_
    rotate_left
    · rcases r with u | fl
      · exact hz
      cases fl with
      | ret y =>
        obtain ⟨rfl, h', tk, rfl, g1, g2⟩ := hz
        repeat any_goals first | assumption | wp_step
        exact fin _ _ g1 g2
      | next => exact hz.elim
      | brk => exact hz.elim
      | cont => exact hz.elim
    · obtain ⟨ol, hol, hcl, nl, hdl⟩ := hl
      obtain ⟨ocls, odict, odata, oslots⟩ := ol
      simp only at hcl hdl
      subst hcl
      subst hdl
      have hol1 : (s.heap.push (newSet led)).get? l = some { cls := .type "list", dict := odict, data := .seq items nl, slots := oslots } := Heap.get?_push_of_some _ hol
      have q9 := PySem.F.sub_list_set
      have q10 := PySem.F.sub_list_frozenset
      have q11 : (Value.type "list" == Value.type "dict") = false := by decide
      have hl1 : (s.heap.push (newSet led)).IsList l items := ⟨_, hol1, rfl, nl, rfl⟩
      unfold Builtin.«set.__init__» noKeywords Builtin.Frozenset.updateFrom
      generalize hit : pyIter = IT
      wp_walk
      subst hit
      refine wpAny_pyIter_list hl1 (wpAny_bind (wpAny_runValue ?_))
      have ll : l < s.heap.objs.size := Heap.lt_size hol
      have calm : A.in1.in1.in1.handled = none := by simp [hh]
      have sz : (s.heap.push (newSet led)).objs.size = s.heap.objs.size + 1 := Heap.size_push _ _
      have n1 : l ≠ (s.heap.push (newSet led)).objs.size := by rw [sz]; exact Nat.ne_of_lt (Nat.lt_succ_of_lt ll)
      have n2 : s.heap.objs.size ∉ [(s.heap.push (newSet led)).objs.size, l] := by
        rw [sz]
        intro z
        simp only [List.mem_cons, List.not_mem_nil, or_false] at z
        exact z.elim (Nat.ne_of_lt (Nat.lt_succ_self _)) (Nat.ne_of_gt ll)
      have len : xs.length = items.size := by rw [← StrsAre.len_eq hx, Array.length_toList]
      refine set_turns ((Walks.list calm _ l n1 items).toS) s.heap.objs.size n2 xs len (fun i v hv => SS.strs_at hx i v (by rw [Array.getElem?_toList]; exact hv)) (by rw [← len]; exact hn) items.size 0 _ (by omega)
        ⟨⟨_, Heap.get?_push_size _ rfl, rfl, rfl⟩, (hl1.push _)⟩ ?first ?last
      case first =>
        have there := Heap.get?_push_of_some { cls := .type "list_iterator", data := .fields #[.ref l, .int 0 0] } here
        exact SetOf_congr ((setObjOf_fresh (knd := PySem.strKind prog w) led).setOf there (by unfold scanBound; omega)) (fun _ => rfl) rfl
      case last =>
        rintro ⟨h', g', d', tk', os'⟩ m hS
        obtain rfl : g' = s.gens := m.gens
        obtain rfl : d' = s.drawn := m.drawn
        obtain rfl : os' = s.os := m.os
        show wpAny _ _ _ _ _ _
        refine wpAny_pure ?_
        show wpAny _ _ (ret Value.none) _ _ _
        refine wpAny_pure ⟨rfl, h', tk', rfl, hS, fun b o hb q => ?_⟩
        refine m.heap b o (fun z => ?_) (Heap.get?_push_of_some _ (Heap.get?_push_of_some _ q))
        rw [sz] at z
        simp only [List.mem_cons, List.not_mem_nil, or_false] at z
        exact z.elim (Nat.ne_of_lt hb) (Nat.ne_of_lt (Nat.lt_succ_of_lt hb))
end
/-! ### the layer's word for it -/
section
variable {X : Cx} {C : Ct} {W : WX} {pos p p2 q : Pos}
def tLenOnce (K : PySem.W.Frag) (ta : TE) : TE := fun σ H Q => ta σ H fun x H1 => ∃ l, ∃ xs : List Str, x = .ref l ∧ SqL K H1 l (xs.map V.str) ∧ xs.length ≤ 4000 ∧ Q (.int (once xs).length) H1
theorem pe_lenOnce {a : Expr} {ta : TE} (hc : X.calm = true) (hg : Gl X "len") (hm : X.mg "len" = none) (hg2 : Gl X "set") (hm2 : X.mg "set" = none) (ha : PE X a ta)
    (na : starEach [a] X.env = (false, eval a X.env) :: starEach [] X.env) : PE X (.Call (.Name "len" p) [.Call (.Name "set" p2) [a] [] q] [] pos) (tLenOnce X.K ta) := by
  refine ⟨fun pins s σ H Q I h => Call_ (ld_blt I hg hm boot_len (callWith_builtin1 (args_cons ?_ rfl) rfl rfl))⟩
  refine Call_ (ld_blt I hg2 hm2 boot_set (callWith_type1 (args_cons (thn (ha.run pins s σ H _ I h) fun v s1 z => args_nil ?_) na) na rfl))
  obtain ⟨x, H1, I1, r1, l, xs, rfl, hq, h1, q1⟩ := z
  cases r1
  obtain ⟨its, r, pl, hz⟩ := I1.list hq
  refine set_of_texts (I1.ok.hd hc) pl.isList (by simpa using strsAre_of r) (by unfold scanBound; omega) fun h' tk hS hk => args_nil ?_
  obtain ⟨o, es, ep, t, ho, hex, hd, _, _, _, hf, hn⟩ := hS
  have I2 : Inv X pins σ H1 { s1 with heap := h', toks := tk } := I1.kept fun b o e => hk b o (Heap.lt_size e) e
  have le := once_le _ xs rfl
  exact call_len_set ho hex hd hf (by rw [hn]; omega) ⟨.int (once xs).length, H1, I2.tok _, ⟨_, by rw [hn]⟩, q1⟩
def onceM (zs : List (List Nat)) : List (List Nat) := zs.foldl (fun acc x => if x ∈ acc then acc else acc ++ [x]) []
end
end Mi

namespace Mi
open PySem L2

/-! ### a dict's value, locked and let go -/
structure Lk (d : Addr) (kx : List (Key × V)) (H H' : Hp) : Prop where
  ne : ∀ a, a ≠ d → H' a = H a
  at1 : Rd H d (.dK kx)
  at2 : Rd H' d (.dK kx)
theorem Rd.uniq {H : Hp} {a : Addr} {u o : HO} (h : Rd H a u) (g : Rd H a o) (hu : ∀ ob w, u ≠ .frz ob w) (ho : ∀ ob w, o ≠ .frz ob w) : u = o := by
  rcases h with h | ⟨x, h⟩ <;> rcases g with g | ⟨y, g⟩ <;> rw [h] at g <;> cases g
  · rfl
  · exact absurd rfl (hu _ _)
  · exact absurd rfl (ho _ _)
  · rfl
section
variable {C : Ct} {ι : Io} {H H' : Hp} {d : Addr} {kx : List (Key × V)}
theorem Lk.rd (l : Lk d kx H H') {a : Addr} {o : HO} (h : Rd H a o) (ho : ∀ ob w, o ≠ .frz ob w) : Rd H' a o := by
  by_cases e : a = d
  · subst e
    rw [Rd.uniq h l.at1 ho (fun _ _ z => nomatch z)]
    exact l.at2
  · rcases h with h | ⟨x, h⟩
    · exact .inl (by rw [l.ne a e]; exact h)
    · exact .inr ⟨x, by rw [l.ne a e]; exact h⟩
theorem Lk.same (l : Lk d kx H H') {a : Addr} {o : HO} (h : H a = some o) (ho : ∀ ob w, o ≠ .frz ob w) (hd : ∀ k, o ≠ .dK k) : H' a = some o := by
  rw [l.ne a ?_]; exact h
  intro e
  subst e
  exact hd _ (Rd.uniq (.inl h) l.at1 ho (fun _ _ z => nomatch z))
mutual
theorem VR.lk (l : Lk d kx H H') : ∀ (x : MV) (v : V), VR C ι H x v → VR C ι H' x v
  | .non, v, h => by simp only [VR] at h ⊢; exact h
  | .bl _, v, h => by simp only [VR] at h ⊢; exact h
  | .int _, v, h => by simp only [VR] at h ⊢; exact h
  | .str _, v, h => by simp only [VR] at h ⊢; exact h
  | .ty _, v, h => by simp only [VR] at h ⊢; exact h
  | .tup xs, v, h => by
    simp only [VR] at h ⊢
    obtain ⟨a, vs, rfl, h1, h2⟩ := h
    exact ⟨a, vs, rfl, h1.imp (fun z => ⟨z.1, l.rd z.2 (fun _ _ z => nomatch z)⟩) id, VRs.lk l xs vs h2⟩
  | .lst xs, v, h => by
    simp only [VR] at h ⊢
    obtain ⟨a, vs, rfl, h0, h1, h2⟩ := h
    exact ⟨a, vs, rfl, h0, l.same h1 (fun _ _ z => nomatch z) (fun _ z => nomatch z), VRs.lk l xs vs h2⟩
  | .rol xs, v, h => by
    simp only [VR] at h ⊢
    obtain ⟨a, vs, rfl, h1, h2⟩ := h
    exact ⟨a, vs, rfl, h1.imp (fun z => ⟨z.1, l.rd z.2 (fun _ _ z => nomatch z)⟩) id, VRs.lk l xs vs h2⟩
  | .dic kvs, v, h => by
    simp only [VR] at h ⊢
    obtain ⟨a, vs, rfl, h0, h1, h2⟩ := h
    exact ⟨a, vs, rfl, h0, l.rd h1 (fun _ _ z => nomatch z), KRs.lk l kvs vs h2⟩
  | .ins c fs, v, h => by
    simp only [VR] at h ⊢
    obtain ⟨a, dx, vs, rfl, h0, h1, h2⟩ := h
    exact ⟨a, dx, vs, rfl, h0, l.same h1 (fun _ _ z => nomatch z) (fun _ z => nomatch z), FRs.lk l fs vs h2⟩
  | .ref _, v, h => by simp only [VR] at h ⊢; exact h
  | .fn _, v, h => by simp only [VR] at h ⊢; exact h
  | .clo _ _, v, h => by simp only [VR] at h
theorem VRs.lk (l : Lk d kx H H') : ∀ (x : List MV) (v : List V), VRs C ι H x v → VRs C ι H' x v
  | [], v, h => by simpa only [VRs] using h
  | x :: r, v, h => by
    simp only [VRs] at h ⊢
    obtain ⟨u, w, h1, h2, h3⟩ := h
    exact ⟨u, w, h1, VR.lk l x u h2, VRs.lk l r w h3⟩
theorem KRs.lk (l : Lk d kx H H') : ∀ (x : List (MV × MV)) (v : List (Key × V)), KRs C ι H x v → KRs C ι H' x v
  | [], v, h => by simpa only [KRs] using h
  | x :: r, v, h => by
    simp only [KRs] at h ⊢
    obtain ⟨u, w, h1, h2, h3⟩ := h
    exact ⟨u, w, h1, KR.lk l x u h2, KRs.lk l r w h3⟩
theorem KR.lk (l : Lk d kx H H') : ∀ (x : MV × MV) (v : Key × V), KR C ι H x v → KR C ι H' x v
  | (k, x), v, h => by
    simp only [KR] at h ⊢
    exact ⟨h.1, VR.lk l x v.2 h.2⟩
theorem FRs.lk (l : Lk d kx H H') : ∀ (x : List (Str × MV)) (v : List (Str × V)), FRs C ι H x v → FRs C ι H' x v
  | [], v, h => by simpa only [FRs] using h
  | x :: r, v, h => by
    simp only [FRs] at h ⊢
    obtain ⟨u, w, h1, h2, h3⟩ := h
    exact ⟨u, w, h1, FR.lk l x u h2, FRs.lk l r w h3⟩
theorem FR.lk (l : Lk d kx H H') : ∀ (x : Str × MV) (v : Str × V), FR C ι H x v → FR C ι H' x v
  | (k, x), v, h => by
    simp only [FR] at h ⊢
    exact ⟨h.1, VR.lk l x v.2 h.2⟩
end
theorem EnvR.lk (l : Lk d kx H H') {env : Env} {σ : L2.St} (h : EnvR C ι H env σ) : EnvR C ι H' env σ :=
  ⟨h.1, fun i x q => by
    obtain ⟨v, h1, h2⟩ := h.2 i x q
    exact ⟨v, h1, VR.lk l _ _ h2⟩⟩
theorem StR.lk (l : Lk d kx H H') {S : Sto} (hd : d ∉ ι) (h : StR C ι S H) : StR C ι S H' := by
  refine ⟨h.len, h.nd, fun k o a e1 e2 => ?_⟩
  have q := h.ob k o a e1 e2
  have ne : a ≠ d := fun z => hd (by rw [← z]; exact List.mem_of_getElem? e2)
  cases o with
  | lst xs => obtain ⟨vs, h1, h2⟩ := q; exact ⟨vs, by rw [l.ne a ne]; exact h1, VRs.lk l _ _ h2⟩
  | dic xs => obtain ⟨vs, h1, h2⟩ := q; exact ⟨vs, by rw [l.ne a ne]; exact h1, KRs.lk l _ _ h2⟩
  | ins c xs => obtain ⟨dx, vs, h1, h2⟩ := q; exact ⟨dx, vs, by rw [l.ne a ne]; exact h1, FRs.lk l _ _ h2⟩
theorem lk_on {od : Obj} (h : H d = some (.dK kx)) : Lk d kx H (upd H d (.frz od (.dK kx))) :=
  ⟨fun a e => upd_ne e, .inl h, .inr ⟨od, upd_same⟩⟩
theorem lk_off {od : Obj} (h : H d = some (.frz od (.dK kx))) : Lk d kx H (upd H d (.dK kx)) :=
  ⟨fun a e => upd_ne e, .inr ⟨od, h⟩, .inl upd_same⟩
theorem Ext.unlock {ι' : Io} {od : Obj} (h : H d = some (.dK kx)) (hd : d ∉ ι) (e : Ext ι (L2.upd H d (.frz od (.dK kx))) ι' H') : d ∉ ι' ∧ H' d = some (.frz od (.dK kx)) ∧ Ext ι H ι' (L2.upd H' d (.dK kx)) := by
  have h2 := e.old d _ upd_same hd
  refine ⟨e.notin hd upd_same, h2, e.pre, fun a ha => ?_, fun a o q ha => ?_⟩
  · rcases e.new a ha with z | z
    · exact .inl z
    · right
      by_cases ed : a = d
      · subst ed; rw [upd_same] at z; cases z
      · rw [upd_ne ed] at z; exact z
  · by_cases ed : a = d
    · subst ed; rw [h] at q; cases q; exact upd_same
    · rw [upd_ne ed]
      exact e.old a o (by rw [upd_ne ed]; exact q) ha
end
/-! ### a dict walked -/
def itemsM (n : Nat) (kvs : List (MV × MV)) : List MV := match n with
  | 0 => kvs.map fun p => .tup [p.1, p.2]
  | 1 => kvs.map fun p => p.2
  | _ => kvs.map fun p => p.1
theorem KRs.at {C : Ct} {ι : Io} {H : Hp} : ∀ {kvs : List (MV × MV)} {kx : List (Key × V)} {i : Nat} {k : Key} {v : V}, KRs C ι H kvs kx → kx[i]? = some (k, v) → ∃ p, kvs[i]? = some p ∧ KR C ι H p (k, v)
  | [], kx, i, k, v, h, e => by simp only [KRs] at h; subst h; simp at e
  | p :: r, kx, i, k, v, h, e => by
    simp only [KRs] at h
    obtain ⟨q, w, rfl, h1, h2⟩ := h
    cases i with
    | zero => simp at e; subst e; exact ⟨p, rfl, h1⟩
    | succ i => obtain ⟨p', e1, e2⟩ := KRs.at h2 (by simpa using e); exact ⟨p', by simpa using e1, e2⟩
theorem kr_key {C : Ct} {ι : Io} {H : Hp} {p : MV × MV} {k : Key} {v : V} (h : KR C ι H p (k, v)) : VR C ι H p.1 (kV k) := by
  obtain ⟨a, b⟩ := p
  simp only [KR] at h
  obtain ⟨h1, e⟩ := keyR_eq h.1
  subst e
  cases a with
  | int i => simp only [VR, keyOf, kV]
  | str i => simp only [VR, keyOf, kV]
  | _ => cases h1
theorem kr_val {C : Ct} {ι : Io} {H : Hp} {p : MV × MV} {k : Key} {v : V} (h : KR C ι H p (k, v)) : VR C ι H p.2 v := by
  obtain ⟨a, b⟩ := p
  simp only [KR] at h
  exact h.2
theorem itemsM_len (n : Nat) (kvs : List (MV × MV)) : (itemsM n kvs).length = kvs.length := by
  unfold itemsM; split <;> simp
def ItD (n : Nat) (d : Addr) (o : Obj) (kx : List (Key × V)) : It := match n with
  | 0 => Iti d o kx
  | 1 => Itd d o kx
  | _ => Itk d o kx
theorem walkD {C : Ct} {ι : Io} {H : Hp} {d : Addr} {o : Obj} {kvs : List (MV × MV)} {kx : List (Key × V)} (n : Nat) (hd : d ∉ ι) (h : H d = some (.frz o (.dK kx))) (r : KRs C ι H kvs kx) : WalkOk C ι H ⟨itemsM n kvs, []⟩ (ItD n d o kx) := by
  have hl : (itemsM n kvs).length = kx.length := by rw [itemsM_len, r.len]
  have hG : ∀ ι' S' H', Ext ι H ι' H' → StR C ι' S' H' → (Itv.mk (itemsM n kvs) []).chk S' → H' d = some (.frz o (.dK kx)) := fun ι' S' H' e _ _ => e.old d _ h hd
  match n with
  | 0 =>
    refine ⟨fun H => H d = some (.frz o (.dK kx)), fun i H x H' => ∃ T k v, kx[i]? = some (k, v) ∧ x = .ref T ∧ H T = none ∧ H' = upd H T (.tup [kV k, v]), ?_, hG, ?_⟩
    · show Walk (Iti d o kx) (itemsM 0 kvs).length _ _
      rw [hl]
      exact ⟨fun _ _ hi q => ⟨q, hi⟩, fun _ q => ⟨q, Nat.le_refl _⟩, fun _ _ _ _ _ _ y => y⟩
    · rintro i ι' S' H1 x H2 e s' c hi ⟨T, k, v, h1, rfl, h3, rfl⟩
      obtain ⟨p, e1, e2⟩ := (KRs.mono e _ _ r).at h1
      obtain ⟨x1, x2, x3⟩ := pairNew s' h3 (kr_key e2) (kr_val e2)
      exact ⟨.tup [p.1, p.2], by simp [itemsM, e1], x1, x2, x3⟩
  | 1 =>
    refine ⟨fun H => H d = some (.frz o (.dK kx)), fun i H x H' => H' = H ∧ ∃ k, kx[i]? = some (k, x), ?_, hG, ?_⟩
    · show Walk (Itd d o kx) (itemsM 1 kvs).length _ _
      rw [hl]
      exact walk_values
    · rintro i ι' S' H1 x H2 e s' c hi ⟨rfl, k, h1⟩
      obtain ⟨p, e1, e2⟩ := (KRs.mono e _ _ r).at h1
      exact ⟨p.2, by simp [itemsM, e1], .refl, s', kr_val e2⟩
  | n + 2 =>
    refine ⟨fun H => H d = some (.frz o (.dK kx)), fun i H x H' => H' = H ∧ ∃ k v, kx[i]? = some (k, v) ∧ x = kV k, ?_, hG, ?_⟩
    · show Walk (Itk d o kx) (itemsM (n + 2) kvs).length _ _
      rw [hl]
      exact walk_keys
    · rintro i ι' S' H1 x H2 e s' c hi ⟨rfl, k, v, h1, rfl⟩
      obtain ⟨p, e1, e2⟩ := (KRs.mono e _ _ r).at h1
      exact ⟨p.1, by simp [itemsM, e1], .refl, s', kr_key e2⟩
theorem peOr {X : Cx} {e : Expr} {t t' : TE} (h : PE X e t) (g : PE X e t') : PE X e (fun σ H Q => t σ H Q ∨ t' σ H Q) :=
  ⟨fun pins s σ H Q I q => q.elim (h.run pins s σ H Q I) (g.run pins s σ H Q I)⟩
/-- a comprehension over the dict that a local holds: 0 items, 1 values, 2 keys -/
noncomputable def mCompD (mu : Bool) (n i : Nat) (vs : List Nat) (g : MG) (c : MB) (e : ME) : ME := fun env S => match env[i]? with
  | some (some (.dic kvs)) => noX ((compL ⟨itemsM n kvs, []⟩ g c e S.length (itemsM n kvs) (wipeE env vs) (S ++ [.lst []])).bind fun _ S2 => compE mu S S2)
  | _ => .bad
section
variable {X : Cx} {C : Ct} {W : WX} {k : Nat} {pos apos cpos p : Pos}
theorem compD_imp {mu : Bool} {n i : Nat} {g : MG} {ws vs : List Nat} {c : MB} {e : ME} {tI : TE → TI} {σ : L2.St} {H : Hp} {Q : VK} (hw : ∀ i ∈ ws, i ∈ vs)
    (hI : ∀ (σ : L2.St) (H : Hp) (R : It → Hp → Prop) (d : Addr) (o : Obj) (kx : List (Key × V)), σ[i]? = some (some (.ref d)) → H d = some (.frz o (.dK kx)) → R (ItD n d o kx) H → tI (tVar i) σ H R)
    (h : tM C W (mCompD mu n i vs g c e) σ H Q) :
    tLockE (tLc (tI (tVar i)) (tMG C ws g) (tMB C W0 c) (tM C W0 e) vs) σ H Q ∨ tLc (tI (tVar i)) (tMG C ws g) (tMB C W0 c) (tM C W0 e) vs σ H Q := by
  obtain ⟨ι, env, S, he, hs, hp⟩ := h
  unfold mCompD at hp
  split at hp
  · rename_i kvs ei
    obtain ⟨v, hv, r⟩ := he.2 i _ (by rw [ei])
    simp only [VR] at r
    obtain ⟨d, kx, rfl, hd, hrd, hkr⟩ := r
    generalize er : ((compL ⟨itemsM n kvs, []⟩ g c e S.length (itemsM n kvs) (wipeE env vs) (S ++ [.lst []])).bind fun _ S2 => compE mu S S2) = rr at hp
    cases rr with
    | bad => exact hp.elim
    | ex x S2 => exact hp.elim
    | ok y S2 =>
      rcases hrd with h0 | ⟨o, h0⟩
      · left
        refine ⟨d, .dK kx, h0, trivial, fun od => ?_⟩
        have l := lk_on (od := od) h0
        have wk := walkD (C := C) n hd (upd_same (H := H) (a := d) (o := .frz od (.dK kx))) (KRs.lk l _ _ hkr)
        refine hI _ _ _ d od kx hv upd_same ?_
        refine comp_core (W := W) (mu := mu) (t := ⟨itemsM n kvs, []⟩) (g := g) (c := c) (e := e) (Q := fun v H' => H' d = some (.frz od (.dK kx)) ∧ Q v (upd H' d (.dK kx))) hw (he.lk l) (hs.lk l hd) wk ?_
        show Post C W (VR C) ι σ _ ((compL ⟨itemsM n kvs, []⟩ g c e S.length (itemsM n kvs) (wipeE env vs) (S ++ [.lst []])).bind fun _ S2 => compE mu S S2) _
        rw [er]
        intro ι2 H2 u e2 s2 r2
        obtain ⟨z1, z2, z3⟩ := Ext.unlock h0 hd e2
        exact ⟨z2, hp ι2 _ u z3 (s2.lk (lk_off z2) z1) (VR.lk (lk_off z2) _ _ r2)⟩
      · right
        refine hI _ _ _ d o kx hv h0 ?_
        refine comp_core (W := W) (mu := mu) (t := ⟨itemsM n kvs, []⟩) (g := g) (c := c) (e := e) (Q := Q) hw he hs (walkD (C := C) n hd h0 hkr) ?_
        show Post C W (VR C) ι σ _ ((compL ⟨itemsM n kvs, []⟩ g c e S.length (itemsM n kvs) (wipeE env vs) (S ++ [.lst []])).bind fun _ S2 => compE mu S S2) _
        rw [er]
        exact hp
  · exact hp.elim
theorem je_lcItems (mu : Bool) {i : Nat} {x : Str} {elt : Expr} {elts : List Expr} {kk : Nat} {tpos : Pos} {ifs : List Expr} {scope : Scope} {own : List (Str × Nat)} {g : MG} {ws : List Nat} {c : MB} {e : ME} (B : Bx C W k X) (hN : X.N.Nodup) (ok : BlkOk X.N X.env.scope scope own)
    (hg : ∀ (Y : Cx), Bx C W0 k Y → Y.N = X.N → (∃ (s : Shared) (H : Hp) (A : Addr) (cl : List (Str × Addr)) (fp : List Addr), Y = X.blk s H scope (compEnvC scope cl A X.env) fp) → PG Y (.Tuple elts kk tpos) (tMG C ws g))
    (ht : ∀ (s : Shared) (H : Hp) (A : Addr) (cl : List (Str × Addr)) (fp : List Addr), Bx C W0 k (X.blk s H scope (compEnvC scope cl A X.env) fp) → PTs (X.blk s H scope (compEnvC scope cl A X.env) fp) ifs (tMB C W0 c))
    (hel : ∀ (s : Shared) (H : Hp) (A : Addr) (cl : List (Str × Addr)) (fp : List Addr), Bx C W0 k (X.blk s H scope (compEnvC scope cl A X.env) fp) → PE (X.blk s H scope (compEnvC scope cl A X.env) fp) elt (tM C W0 e)) (hi : X.N[i]? = some x := by rfl) (hv : Vis X.env.scope x := by first | exact Or.inl rfl | exact Or.inr (Or.inl rfl) | exact Or.inr (Or.inr rfl)) (hdb : (x == ("__debug__" : Str)) = false := by decide) (hcd : (x == ("__classdict__" : Str)) = false := by decide)
    (hw : ∀ i ∈ ws, i ∈ own.map (·.2) := by decide) (hbase : attributeBase (.Name x p) "items" X.env (eval (.Name x p) X.env) = eval (.Name x p) X.env := by rfl) (hline : (apos.endLine == cpos.line) = true := by rfl)
    (hs : ∀ y, foldedSetIterable (.Call (.Attribute (.Name x p) "items" apos) [] [] cpos) X.env y = pure y := by intro _; rfl) :
    PE X (.ListComp elt [⟨.Tuple elts kk tpos, .Call (.Attribute (.Name x p) "items" apos) [] [] cpos, ifs, 0⟩] scope pos) (tM C W (mCompD mu 0 i (own.map (·.2)) g c e)) := by
  have base := pe_lc (pos := pos) B.calm hN (pi_items (tpos := tpos) (elts := elts) (kk := kk) (pv (pos := p) i hi hv hdb hcd) hbase hline) ok (fun s H A cl fp => hg _ (bx_blk B) rfl ⟨s, H, A, cl, fp, rfl⟩) (fun s H A cl fp => ht s H A cl fp (bx_blk B)) (fun s H A cl fp => hel s H A cl fp (bx_blk B)) hs
  exact peImp (peOr (pe_lock base) base) fun σ H Q h => compD_imp (n := 0) (tI := iItems) hw (fun σ H R d o kx h1 h2 h3 => ⟨.ref d, h1, d, o, kx, rfl, h2, h3⟩) h
end
end Mi

namespace Mi
open PySem L2 TL

section
variable {X : Cx} {C : Ct} {W : WX} {pos p p2 q : Pos} {k : Nat}
/-! ### -x -/
def mNeg (a : ME) : ME := fun env S => (a env S).bind fun x S1 => match x with
  | .int i => .ok (.int (-i)) S1
  | _ => .bad
theorem je_neg {e : Expr} {a : ME} (h : PE X e (tM C W a)) : PE X (.UnaryOp .USub e pos) (tM C W (mNeg a)) :=
  peImp (pe_un un_neg h) fun σ H Q h => by
    obtain ⟨ι, env, S, he, hs, hp⟩ := h
    refine ⟨ι, env, S, he, hs, Post.bind hp fun x S1 ι1 H1 v e1 s1 q1 p1 => ?_⟩
    split at p1
    · simp only [VR] at q1
      exact ⟨_, q1, p1 ι1 H1 _ .refl s1 (by simp only [VR])⟩
    · exact p1.elim
/-! ### a text of the module -/
structure GlS (mg : Str → Option Value) (x : Str) (l : List Nat) : Prop where
  ex : ∃ t, mg x = some (.str (st l) t)
theorem je_glS {x : Str} {l : List Nat} (g : GlS X.mg x l) (hg : Gl X x := by rfl) (hd : (x == ("__debug__" : Str)) = false := by decide) : PE X (.Name x pos) (tM C W (mC (.str l))) := by
  obtain ⟨t, e⟩ := g.ex
  exact peImp (pe_glob (v := .str (st l)) hg e ⟨t, rfl⟩ hd) fun _ _ _ => tM_c fun _ _ => by simp only [VR]
/-! ### new dicts -/
def mkD (mu : Bool) (kvs : List (MV × MV)) (S : Sto) : Res MV := if mu then .ok (.ref S.length) (S ++ [.dic kvs]) else .ok (.dic kvs) S
theorem mkD_ok {mu : Bool} {kvs : List (MV × MV)} {kx : List (Key × V)} {ι : Io} {σ : L2.St} {S : Sto} {H : Hp} {Q : VK} (hs : StR C ι S H) (r : KRs C ι H kvs kx) (hp : Post C W (VR C) ι σ H (mkD mu kvs S) Q) : ∀ p, H p = none → Q (.ref p) (upd H p (.dK kx)) := by
  intro p hn
  cases mu with
  | true =>
    have e := Ext.push (o := .dK kx) hs hn
    refine hp (ι ++ [p]) _ _ e (hs.push hn ⟨kx, upd_same, KRs.mono e _ _ r⟩) ?_
    simp only [VR]
    exact ⟨p, rfl, by rw [← hs.len]; simp⟩
  | false =>
    have e := Ext.upd (o := .dK kx) hs hn
    refine hp ι _ _ e (hs.upd hn) ?_
    simp only [VR]
    exact ⟨p, kx, rfl, hs.fresh hn, .inl upd_same, KRs.mono e _ _ r⟩
def mDic0 (mu : Bool) : ME := fun _ S => mkD mu [] S
theorem je_dic0 (mu : Bool) : PE X (.Dict [] [] pos) (tM C W (mDic0 mu)) := peImp pe_dnewK fun σ H Q h => by
  obtain ⟨ι, env, S, he, hs, hp⟩ := h
  exact mkD_ok hs (by simp only [KRs]) hp
/-- dict(d), dict(pairs) -/
def pairsOf : List MV → Option (List (MV × MV))
  | [] => some []
  | .tup [x, y] :: r => if isKey x = true then (pairsOf r).map ((x, y) :: ·) else none
  | _ => none
def fDict (mu : Bool) (xs : List MV) (S : Sto) : Res MV := match xs with
  | [x] => (match asD S x with
    | some kvs => mkD mu kvs S
    | none => match (asL S x).bind pairsOf with
      | some kvs => mkD mu (mergeKM [] kvs) S
      | none => .bad)
  | _ => .bad
def rDictD : List V → Hp → VK → Prop := fun xs H Q => ∃ (a : Addr) (kvs : List (Key × V)), xs = [.ref a] ∧ Rd H a (.dK kvs) ∧ ∀ p, H p = none → Q (.ref p) (upd H p (.dK kvs))
def rDictP (K : PySem.W.Frag) : List V → Hp → VK → Prop := fun xs H Q => ∃ (a : Addr) (ps : List Addr) (kvs : List (Key × V)), xs = [.ref a] ∧ SqL K H a (ps.map V.ref) ∧ Paired (fun p kv => SqT K H p [kV kv.1, kv.2]) ps kvs ∧
    ∀ p, H p = none → Q (.ref p) (upd H p (.dK (mergeK [] kvs)))
theorem call_dictM (hc : X.calm = true) : CallR X (.type "dict") (fun xs H Q => rDictD xs H Q ∨ rDictP X.K xs H Q) := CallR.or call_dictD (call_dictP hc)
theorem pairsOf_ok {ι : Io} {H : Hp} : ∀ {xs : List MV} {vs : List V} {kvs : List (MV × MV)}, VRs C ι H xs vs → pairsOf xs = some kvs → ∃ (ps : List Addr) (kx : List (Key × V)), vs = ps.map V.ref ∧ Paired (fun p kv => SqT C.K H p [kV kv.1, kv.2]) ps kx ∧ KRs C ι H kvs kx
  | [], vs, kvs, r, h => by
    simp only [VRs] at r
    simp only [pairsOf, Option.some.injEq] at h
    subst r; subst h
    exact ⟨[], [], rfl, .nil, by simp only [KRs]⟩
  | .tup [x, y] :: r, vs, kvs, rr, h => by
    simp only [VRs, VR] at rr
    obtain ⟨v, w, rfl, ⟨a, us, rfl, h1, h2⟩, h3⟩ := rr
    obtain ⟨ux, w2, rfl, rx, uy, w3, rfl, ry, rfl⟩ := h2
    simp only [pairsOf] at h
    split at h
    · rename_i hk
      cases e : pairsOf r with
      | none => rw [e] at h; cases h
      | some ks =>
        rw [e] at h
        simp only [Option.map_some, Option.some.injEq] at h
        subst h
        obtain ⟨ps, kx, rfl, g1, g2⟩ := pairsOf_ok h3 e
        have ek := keyOf_ok rx hk
        refine ⟨a :: ps, (keyOf x, uy) :: kx, rfl, .cons (by rw [← ek]; exact h1.sq) g1, ?_⟩
        simp only [KRs]
        exact ⟨_, _, rfl, by simp only [KR]; exact ⟨keyR_of hk, ry⟩, g2⟩
    · cases h
  | .non :: _, _, _, _, h => by simp [pairsOf] at h
  | .bl _ :: _, _, _, _, h => by simp [pairsOf] at h
  | .int _ :: _, _, _, _, h => by simp [pairsOf] at h
  | .str _ :: _, _, _, _, h => by simp [pairsOf] at h
  | .ty _ :: _, _, _, _, h => by simp [pairsOf] at h
  | .lst _ :: _, _, _, _, h => by simp [pairsOf] at h
  | .rol _ :: _, _, _, _, h => by simp [pairsOf] at h
  | .dic _ :: _, _, _, _, h => by simp [pairsOf] at h
  | .ins _ _ :: _, _, _, _, h => by simp [pairsOf] at h
  | .ref _ :: _, _, _, _, h => by simp [pairsOf] at h
  | .fn _ :: _, _, _, _, h => by simp [pairsOf] at h
  | .clo _ _ :: _, _, _, _, h => by simp [pairsOf] at h
  | .tup [] :: _, _, _, _, h => by simp [pairsOf] at h
  | .tup [_] :: _, _, _, _, h => by simp [pairsOf] at h
  | .tup (_ :: _ :: _ :: _) :: _, _, _, _, h => by simp [pairsOf] at h
theorem cm_dict (mu : Bool) : CallM C (fDict mu) (fun xs H Q => rDictD xs H Q ∨ rDictP C.K xs H Q) := by
  intro W ι σ S H xs vs Q hs hr hp
  unfold fDict at hp
  split at hp
  · obtain ⟨v, rfl, r⟩ := vrs1 hr
    split at hp
    · rename_i kvs e
      obtain ⟨a, kx, rfl, g1, g2⟩ := asD_ok hs r e
      exact .inl ⟨a, kx, rfl, g1, mkD_ok hs g2 hp⟩
    · split at hp
      · rename_i kvs e
        cases el : asL S _ with
        | none => rw [el] at e; cases e
        | some ys =>
          rw [el] at e
          obtain ⟨a, ws, rfl, g1, g2⟩ := asL_ok hs r el
          obtain ⟨ps, kx, rfl, g3, g4⟩ := pairsOf_ok g2 e
          exact .inr ⟨a, ps, kx, rfl, g1, g3, mkD_ok hs (KRs.merge g4 (by simp only [KRs])) hp⟩
      · exact hp.elim
  · exact hp.elim
/-- list(x): of a dict its keys -/
def fListA (mu : Bool) (xs : List MV) (S : Sto) : Res MV := match xs with
  | [x] => (match asD S x with
    | some kvs => mkL mu (kvs.map fun p => p.1) S
    | none => match asSq S x with
      | some ys => mkL mu ys S
      | none => .bad)
  | _ => .bad
def rListK : List V → Hp → VK → Prop := fun xs H Q => ∃ (a : Addr) (kvs : List (Key × V)), xs = [.ref a] ∧ Rd H a (.dK kvs) ∧ ∀ p, H p = none → Q (.ref p) (upd H p (.lst (kvs.map fun kv => kV kv.1)))
theorem call_listA (hc : X.calm = true) : CallR X (.type "list") (fun xs H Q => rListK xs H Q ∨ rListM X.K xs H Q) := CallR.or (call_listD hc) call_listM
theorem KRs.keys {ι : Io} {H : Hp} : ∀ {kvs : List (MV × MV)} {kx : List (Key × V)}, KRs C ι H kvs kx → VRs C ι H (kvs.map fun p => p.1) (kx.map fun kv => kV kv.1)
  | [], kx, h => by simp only [KRs] at h; subst h; simp only [List.map_nil, VRs]
  | p :: r, kx, h => by
    simp only [KRs] at h
    obtain ⟨⟨key, v⟩, w, rfl, h1, h2⟩ := h
    simp only [List.map_cons, VRs]
    exact ⟨_, _, rfl, kr_key h1, KRs.keys h2⟩
theorem cm_listA (mu : Bool) : CallM C (fListA mu) (fun xs H Q => rListK xs H Q ∨ rListM C.K xs H Q) := by
  intro W ι σ S H xs vs Q hs hr hp
  unfold fListA at hp
  split at hp
  · obtain ⟨v, rfl, r⟩ := vrs1 hr
    split at hp
    · rename_i kvs e
      obtain ⟨a, kx, rfl, g1, g2⟩ := asD_ok hs r e
      exact .inl ⟨a, kx, rfl, g1, mkL_ok hs g2.keys hp⟩
    · split at hp
      · rename_i ys e
        obtain ⟨a, ws, rfl, g1, g2⟩ := asSq_ok hs r e
        exact .inr ⟨a, ws, rfl, g1, mkL_ok hs g2 hp⟩
      · exact hp.elim
  · exact hp.elim
/-! ### d[k] = v -/
def sDPutM (o i m : ME) : MSt := fun env S => sBind (m env S) env fun y S1 => sBind (o env S1) env fun x S2 => sBind (i env S2) env fun j S3 => match x with
  | .ref l => (match S3[l]? with
    | some (.dic kvs) => if isKey j = true ∧ kvs.length < sizeLine then .nx env (S3.set l (.dic (putKM kvs j y))) else .bad
    | _ => .bad)
  | _ => .bad
theorem js_dput {oe ie ee : Expr} {pos' : Pos} {o i m : ME} (B : Bx C W k X) (ho : PE X oe (tM C W o)) (hi : PE X ie (tM C W i)) (he : PE X ee (tM C W m)) (hs : swapsWith ee (some (.Subscript oe ie pos')) pos.line X.env = pure false := by rfl) :
    PS X (.Assign [.Subscript oe ie pos'] ee pos) (tMS C W (sDPutM o i m)) :=
  psImp (ps_dput B.u1 ho hi he hs) fun D σ H h => by
    obtain ⟨ι, env, S, he, hs, hp⟩ := h
    refine ⟨ι, env, S, he, hs, SPost.bind he hp fun y S1 ι1 H1 u e1 s1 q1 p1 => ?_⟩
    refine ⟨ι1, env, S1, he.mono e1, s1, SPost.bind (he.mono e1) p1 fun x S2 ι2 H2 v e2 s2 q2 p2 => ?_⟩
    refine ⟨ι2, env, S2, (he.mono e1).mono e2, s2, SPost.bind ((he.mono e1).mono e2) p2 fun j S3 ι3 H3 w e3 s3 q3 p3 => ?_⟩
    split at p3
    · rename_i l
      split at p3
      · rename_i kvs ek
        split at p3
        · rename_i hh
          have q2 := q2.mono e3
          simp only [VR] at q2
          obtain ⟨a, rfl, hl⟩ := q2
          obtain ⟨kx, g1, g2⟩ := s3.ob l _ a ek hl
          refine ⟨a, _, rfl, .inl ⟨kx, keyOf j, g1, keyOf_ok q3 hh.1, by rw [g2.len]; exact hh.2, rfl⟩, ?_⟩
          have ex : Ext ι3 H3 ι3 (upd H3 a (.dK (putK kx (keyOf j) u))) := Ext.set hl
          exact p3 ι3 _ σ ex (s3.set hl (m := .dic (putKM kvs j y)) ⟨_, upd_same, KRs.mono ex _ _ (KRs.put hh.1 ((q1.mono e2).mono e3) g2)⟩) ((((he.mono e1).mono e2).mono e3).mono ex)
        · exact p3.elim
      · exact p3.elim
    · exact p3.elim
/-! ### len(set(texts)) -/
def mLenOnce (a : ME) : ME := fun env S => (a env S).bind fun x S1 => match (asL S1 x).bind strsOf with
  | some zs => if zs.length ≤ 4000 then .ok (.int (onceM zs).length) S1 else .bad
  | none => .bad
theorem once_map (zs : List (List Nat)) : once (zs.map st) = (onceM zs).map st := by
  have key : ∀ (zs acc : List (List Nat)), List.foldl (fun acc x => if x ∈ acc then acc else acc ++ [x]) (acc.map st) (zs.map st) = (List.foldl (fun acc x => if x ∈ acc then acc else acc ++ [x]) acc zs).map st := by
    intro zs
    induction zs with
    | nil => intro acc; rfl
    | cons z r ih =>
      intro acc
      simp only [List.map_cons, List.foldl_cons]
      have hm : st z ∈ acc.map st ↔ z ∈ acc := ⟨fun h => by obtain ⟨y, h1, h2⟩ := List.mem_map.mp h; rw [← st_inj h2]; exact h1, fun h => List.mem_map.mpr ⟨z, h, rfl⟩⟩
      by_cases e : z ∈ acc
      · rw [if_pos (hm.mpr e), if_pos e, ih]
      · rw [if_neg (fun z => e (hm.mp z)), if_neg e, ← ih]
        simp
  exact key zs []
theorem je_lenOnce {e : Expr} {a : ME} (B : Bx C W k X) (hm : X.mg "len" = none) (hm2 : X.mg "set" = none) (h : PE X e (tM C W a)) (hg : Gl X "len" := by rfl) (hg2 : Gl X "set" := by rfl) (na : starEach [e] X.env = (false, eval e X.env) :: starEach [] X.env := by rfl) : PE X (.Call (.Name "len" p) [.Call (.Name "set" p2) [e] [] q] [] pos) (tM C W (mLenOnce a)) :=
  peImp (pe_lenOnce B.calm hg hm hg2 hm2 h na) fun σ H Q h => by
    obtain ⟨ι, env, S, he, hs, hp⟩ := h
    refine ⟨ι, env, S, he, hs, Post.bind hp fun x S1 ι1 H1 v e1 s1 q1 p1 => ?_⟩
    split at p1
    · rename_i zs ez
      split at p1
      · rename_i hl
        cases el : asL S1 x with
        | none => rw [el] at ez; cases ez
        | some ys =>
          rw [el] at ez
          obtain ⟨a, ws, rfl, g1, g2⟩ := asL_ok s1 q1 el
          have := strsOf_ok g2 ez
          subst this
          refine ⟨a, zs.map st, rfl, by rw [B.hK]; exact g1, by rw [List.length_map]; exact hl, ?_⟩
          rw [once_map, List.length_map]
          exact p1 ι1 H1 _ .refl s1 (by simp only [VR])
      · exact p1.elim
    · exact p1.elim
/-! ### more methods -/
def fReverse (x : MV) (vs : List MV) (S : Sto) : Res MV := match vs with
  | [] => onL x S fun l xs => .ok .non (S.set l (.lst xs.reverse))
  | _ => .bad
theorem mm_reverse : MethM C fReverse rReverse := by
  intro W ι σ S H x xs v vs Q hs r1 r2 hp
  unfold fReverse at hp
  split at hp
  · simp only [VRs] at r2
    subst r2
    obtain ⟨l, a, ys, ws, rfl, hl, _, h1, h2, hp⟩ := onL_ok hs r1 hp
    exact ⟨a, ws, rfl, rfl, h1, setL_ok hs hl h2.rev (by simp only [VR]) hp⟩
  · exact hp.elim
def fClear (x : MV) (vs : List MV) (S : Sto) : Res MV := match vs with
  | [] => onL x S fun l xs => .ok .non (S.set l (.lst []))
  | _ => .bad
theorem mm_clear : MethM C fClear rClear := by
  intro W ι σ S H x xs v vs Q hs r1 r2 hp
  unfold fClear at hp
  split at hp
  · simp only [VRs] at r2
    subst r2
    obtain ⟨l, a, ys, ws, rfl, hl, _, h1, h2, hp⟩ := onL_ok hs r1 hp
    exact ⟨a, ws, rfl, rfl, h1, setL_ok hs hl (ys := []) (ws := []) (z := .non) (u := .non) (by simp only [VRs]) (by simp only [VR]) hp⟩
  · exact hp.elim
/-- s.split(sep) -/
def fSplit (mu : Bool) (x : MV) (vs : List MV) (S : Sto) : Res MV := match x, vs with
  | .str a, [.str b] => if b ≠ [] ∧ a.length + 2 ≤ sizeLine then mkL mu ((Txt.split (st a) (st b)).map fun z => .str (tl z)) S else .bad
  | _, _ => .bad
def rSplitM : V → List V → Hp → VK → Prop := fun x xs H Q => ∃ a b, x = .str a ∧ xs = [.str b] ∧ (b.length == 0) = false ∧ a.length + 2 ≤ sizeLine ∧ rNewStrs (Txt.split a b) H Q
theorem mt_splitM : MtR X "str.split" rSplitM := mt_split
theorem vrs_strs {ι : Io} {H : Hp} : ∀ zs : List Str, VRs C ι H (zs.map fun z => .str (tl z)) (zs.map V.str)
  | [] => by simp only [List.map_nil, VRs]
  | z :: r => by
    simp only [List.map_cons, VRs]
    exact ⟨_, _, rfl, by simp only [VR, mk_tl], vrs_strs r⟩
theorem mm_split (mu : Bool) : MethM C (fSplit mu) rSplitM := by
  intro W ι σ S H x xs v vs Q hs r1 r2 hp
  unfold fSplit at hp
  split at hp
  · rename_i a b
    obtain ⟨u, rfl, r3⟩ := vrs1 r2
    simp only [VR] at r1 r3
    subst r1; subst r3
    split at hp
    · rename_i hh
      refine ⟨_, _, rfl, rfl, ?_, by rw [st_len]; exact hh.2, mkL_ok hs (vrs_strs _) hp⟩
      rw [st_len]
      cases b with
      | nil => exact absurd rfl hh.1
      | cons _ _ => rfl
    · exact hp.elim
  · exact hp.elim
end
end Mi

namespace Mi
open PySem L2

/-! ### new instances of own classes -/
section
variable {X : Cx} {C : Ct} {W : WX} {CX : CXT} {k j n : Nat} {f cl : Addr} {fd : FuncData} {ps : List Str} {sp : Sp} {dvs : List V} {ds : List Value} {x : Str} {p pos apos : Pos} {e o : Expr} {es : List Expr} {t : TA}
theorem makeAt {pins : List (Addr × Obj)} {σ : L2.St} {H : Hp} {s : Shared} {Q : VK} {us : List Value} {vs : List V} {E : XK} (M : Mk X.K cl f) (F : FnOk X.prog X.w X.K X.mg X.base CX k f fd ps sp) (hr : Room (k + 1) X.A) (hb : Binds X.K fd ps ds) (hd : Vals dvs ds) (hx : PassesAt CX X σ E)
    (I : Inv X pins σ H s) (r : Vals vs us) (h : ∀ x dx, H x = none → H dx = none → dx ≠ x → sp (.ref x :: (vs ++ dvs)) (upd (upd H dx (.own x)) x (.ins cl dx [])) (fun v H2 => v = .non ∧ Q (.ref x) H2) E) :
    wpAny (model X.prog X.w) X.A (call (.ref cl) us) (EP X pins σ Q) X.xe s := by
  have want := h (s.heap.objs.size + 1) s.heap.objs.size (I.hok.fresh (Nat.le_succ _)) (I.hok.fresh (Nat.le_refl _)) (Nat.ne_of_lt (Nat.lt_succ_self _))
  have J := Inv.made (C := cl) I
  have rr : Vals (V.ref (s.heap.objs.size + 1) :: (vs ++ dvs)) (Value.ref (s.heap.objs.size + 1) :: (us ++ ds)) := .cons rfl (r.append hd)
  have len : (Value.ref (s.heap.objs.size + 1) :: us ++ ds).length = ps.length := by
    have q := rr.length
    rw [F.len _ _ _ _ want] at q
    exact q.symm
  have run := F.run _ X.stack _ _ ⟨Value.ref (s.heap.objs.size + 1) :: us, []⟩ (Value.ref (s.heap.objs.size + 1) :: (us ++ ds)) _ _ E (hr.make cl us []) (J.env0.make cl us []) (hb _ (Value.ref (s.heap.objs.size + 1) :: us) J.kIn len) rr want
  refine wpAny_call (make_map (f := f) I.kIn M.makes M.init (beq_iff_eq.mp M.fn) (codeAny_mono run fun z s' hz => ?_))
  rcases z with u | fl
  · exact hx pins _ _ u s' J hz
  cases fl with
  | ret u =>
    obtain ⟨v, H', I3, rv, ev, q3⟩ := J.after hz
    subst ev
    exact ⟨rv, ⟨V.ref (s.heap.objs.size + 1), H', I3, rfl, q3⟩⟩
  | next => exact hz.elim
  | brk => exact hz.elim
  | cont => exact hz.elim
def tMakeA (cl : Addr) (sp : Sp) (dvs : List V) (E : L2.St → XK) (t : TA) : TE := fun σ H Q => t σ H fun vs H1 => ∀ x dx, H1 x = none → H1 dx = none → dx ≠ x →
  sp (.ref x :: (vs ++ dvs)) (upd (upd H1 dx (.own x)) x (.ins cl dx [])) (fun v H2 => v = .non ∧ Q (.ref x) H2) (E σ)
theorem pe_makeA {E : L2.St → XK} (M : Mk X.K cl f) (F : FnOk X.prog X.w X.K X.mg X.base CX k f fd ps sp) (hr : Room (k + 1) X.A) (hg : Gl X x) (hm : X.mg x = some (.ref cl)) (hb : Binds X.K fd ps ds) (hd : Vals dvs ds) (hx : ∀ σ, PassesAt CX X σ (E σ))
    (ha : PA X (e :: es) t) (hdb : (x == ("__debug__" : Str)) = false) (he : starEach (e :: es) X.env = (false, eval e X.env) :: starEach es X.env) (hpl : (backTo pos (starEach es X.env)).any (·.1) = false) :
    PE X (.Call (.Name x p) (e :: es) [] pos) (tMakeA cl sp dvs E t) := by
  refine ⟨fun pins s σ H Q I h => wpAny_Call_Name_kw (ld_glob I hg hm ?_ hdb)⟩
  refine PySem.W.callWith_K (h₀ := X.base) I.ok.mod.kin M.kp (thn (ha.run pos pins s σ H _ I h) fun us s1 ⟨vs, H1, I1, r, z⟩ => ⟨I1.kIn, makeAt M F hr hb hd (hx σ) I1 r z⟩) he hpl
noncomputable def mMake (mu : Bool) (c n : Nat) (g : List MV → Sto → Res MV) (ms : List MV) (as : MA) : ME := fun env S => (as env S).bind fun vs S1 => if (MV.ref S1.length :: (vs ++ ms)).length = n then (match g (.ref S1.length :: (vs ++ ms)) (S1 ++ [.ins c []]) with
  | .ok .non S2 => compE mu S1 S2
  | .ex x S2 => leaveX S1 S2 x
  | _ => .bad) else .bad
theorem make_imp {mu : Bool} {c : Nat} {ms : List MV} {g : List MV → Sto → Res MV} {as : MA} {σ : L2.St} {H : Hp} {Q : VK} (hcl : C.cA c = cl) (hc : CstR ms dvs) (h : tM C W (mMake mu c n g ms as) σ H Q) : tMakeA cl (spM C n g) dvs (WE W) (tMA C W as) σ H Q := by
  obtain ⟨ι, env, S, he, hs, hp⟩ := h
  refine ⟨ι, env, S, he, hs, Post.bind hp fun vs S1 ι1 H1 us e1 s1 q1 p1 => ?_⟩
  intro x dx nx ndx ne
  split at p1
  · rename_i hl
    have e0 : Ext ι1 H1 ι1 (upd H1 dx (.own x)) := Ext.upd s1 ndx
    have s0 : StR C ι1 S1 (upd H1 dx (.own x)) := s1.upd ndx
    have nx0 : (upd H1 dx (.own x)) x = none := by rw [upd_ne (Ne.symm ne)]; exact nx
    have e2 := Ext.push (o := .ins cl dx []) s0 nx0
    have s2 : StR C (ι1 ++ [x]) (S1 ++ [.ins c []]) (upd (upd H1 dx (.own x)) x (.ins cl dx [])) := s0.push nx0 ⟨dx, [], by rw [upd_same, hcl], by simp only [FRs]⟩
    have e3 := e0.trans e2
    have hx : (ι1 ++ [x])[S1.length]? = some x := by rw [← s1.len]; simp
    refine ⟨?_, ι1 ++ [x], S1 ++ [.ins c []], .ref S1.length :: (vs ++ ms), s2, ?_, ?_⟩
    · have w := (q1.append hc.vrs).len
      rw [List.length_cons] at hl ⊢
      rw [w]; exact hl
    · simp only [VRs, VR]
      exact ⟨_, _, rfl, ⟨x, rfl, hx⟩, (VRs.mono e3 _ _ q1).append hc.vrs⟩
    · cases eg : g (.ref S1.length :: (vs ++ ms)) (S1 ++ [.ins c []]) with
      | bad => rw [eg] at p1; exact p1.elim
      | ex y S2 =>
        rw [eg] at p1
        intro ι3 H3 cls d f3 t3 xr
        rcases leaveX_ok (α := MV) s1 (e3.trans f3) t3 xr rfl with z | ⟨S4, z, a1, a2, a3⟩
        · simp only [z] at p1; exact p1.elim
        · simp only [z] at p1; exact p1 ι1 H3 cls d a1 a2 a3
      | ok y S2 =>
        rw [eg] at p1
        intro ι3 H3 v f3 t3 r3
        cases y with
        | non =>
          simp only [VR] at r3
          have e4 := e3.trans f3
          have rD : VR C ι3 H3 (.ref S1.length) (.ref x) := by simp only [VR]; exact ⟨x, rfl, f3.at hx⟩
          refine ⟨r3, ?_⟩
          cases mu with
          | true => exact p1 ι3 H3 _ e4 t3 rD
          | false =>
            cases el : leaveV S1 S2 (.ref S1.length) with
            | ok z S3 =>
              simp only [compE, el] at p1
              obtain ⟨a1, a2, a3⟩ := leaveV_ok s1 e4 t3 rD el
              exact p1 ι1 H3 _ a1 a2 a3
            | ex z S3 => unfold leaveV at el; (repeat (split at el)) <;> cases el
            | bad => simp only [compE, el] at p1; exact p1.elim
        | _ => exact p1.elim
  · exact p1.elim
structure MkIn (P : Program) (w : World) (C : Ct) (mg : Str → Option Value) (base : Heap) (x : Str) (c k n : Nat) (g : List MV → Sto → Res MV) (ms : List MV) : Prop where
  ex : ∃ (f : Addr) (fd : FuncData) (ps : List Str) (dvs : List V) (ds : List Value), mg x = some (.ref (C.cA c)) ∧ Mk C.K (C.cA c) f ∧ Binds C.K fd ps ds ∧ Vals dvs ds ∧ CstR ms dvs ∧ FnOk P w C.K mg base (L2.CX P w) k f fd ps (spM C n g)
theorem je_mk (mu : Bool) {c : Nat} {ms : List MV} {g : List MV → Sto → Res MV} {as : MA} (B : Bx C W j X) (G : MkIn X.prog X.w C X.mg X.base x c k n g ms) (ha : PA X (e :: es) (tMA C W as)) (hkj : k + 1 ≤ j := by decide) (hg : Gl X x := by rfl) (hdb : (x == ("__debug__" : Str)) = false := by decide)
    (he : starEach (e :: es) X.env = (false, eval e X.env) :: starEach es X.env := by rfl) (hpl : (backTo pos (starEach es X.env)).any (·.1) = false := by rfl) : PE X (.Call (.Name x p) (e :: es) [] pos) (tM C W (mMake mu c n g ms as)) := by
  obtain ⟨f, fd, ps, dvs, ds, h1, h2, h3, h4, h5, h6⟩ := G.ex
  rw [← B.hK] at h2 h3 h6
  exact peImp (pe_makeA h2 h6 (B.room.mono hkj) hg h1 h3 h4 (fun σ => passAt B.tk σ) ha hdb he hpl) fun σ H Q h => make_imp rfl h5 h
/-! ### methods as their callers see them -/
structure MethIn (P : Program) (w : World) (C : Ct) (mg : Str → Option Value) (base : Heap) (c : Nat) (m : Str) (k n : Nat) (g : List MV → Sto → Res MV) (ms : List MV) : Prop where
  ex : ∃ (f : Addr) (fd : FuncData) (ps : List Str) (dvs : List V) (ds : List Value), Cls C.K (C.cA c) ∧ Meth C.K (C.cA c) m f ∧ Binds C.K fd ps ds ∧ Vals dvs ds ∧ CstR ms dvs ∧ FnOk P w C.K mg base (L2.CX P w) k f fd ps (spM C n g)
theorem je_me {c : Nat} {m : Str} {pl : Sem Bool} {ms : List MV} {g : List MV → Sto → Res MV} {mo : ME} {as : MA} (B : Bx C W j X) (G : MethIn X.prog X.w C X.mg X.base c m k n g ms) (ho : PE X o (tM C W mo)) (ha : PA X (e :: es) (tMA C W as)) (hkj : k ≤ j := by decide)
    (hst : starEach (e :: es) X.env = (false, eval e X.env) :: starEach es X.env := by rfl) (hpl : (backTo pos (starEach es X.env)).any (·.1) = false := by rfl)
    (ht : eval (.Call (.Attribute o m apos) (e :: es) [] pos) X.env = (do
      let ov ← eval o X.env
      standAt apos.atName
      let (f, first) ← holding [ov] (getMethod ov m pl)
      callWith pos f first (backTo pos (starEach (e :: es) X.env)) (backToKw pos (keywordEach [] X.env))) := by rfl) :
    PE X (.Call (.Attribute o m apos) (e :: es) [] pos) (tM C W (mMeth c n m g ms mo as)) := by
  obtain ⟨f, fd, ps, dvs, ds, h1, h2, h3, h4, h5, h6⟩ := G.ex
  rw [← B.hK] at h1 h2 h3 h6
  exact je_meth B rfl ho h1 h2 h6 h3 h4 h5 ha hkj hst hpl ht
theorem je_me0 {c : Nat} {m : Str} {pl : Sem Bool} {ms : List MV} {g : List MV → Sto → Res MV} {mo : ME} (B : Bx C W j X) (G : MethIn X.prog X.w C X.mg X.base c m k n g ms) (ho : PE X o (tM C W mo)) (hkj : k ≤ j := by decide)
    (ht : eval (.Call (.Attribute o m apos) [] [] pos) X.env = (do
      let ov ← eval o X.env
      standAt apos.atName
      let (f, first) ← holding [ov] (getMethod ov m pl)
      callWith pos f first (backTo pos (starEach [] X.env)) (backToKw pos (keywordEach [] X.env))) := by rfl) :
    PE X (.Call (.Attribute o m apos) [] [] pos) (tM C W (mMeth c n m g ms mo mNil)) := by
  obtain ⟨f, fd, ps, dvs, ds, h1, h2, h3, h4, h5, h6⟩ := G.ex
  rw [← B.hK] at h1 h2 h3 h6
  exact je_meth0 B rfl ho h1 h2 h6 h3 h4 h5 hkj ht
/-- a field of an own class -/
structure FldIn (C : Ct) (c : Nat) (f : Str) : Prop where
  cls : Cls C.K (C.cA c)
  no : NoAttr C.K (C.cA c) f
theorem je_fd {c : Nat} {fl : Str} {mo : ME} (B : Bx C W j X) (G : FldIn C c fl) (ho : PE X o (tM C W mo)) (hb : attributeBase o fl X.env (eval o X.env) = eval o X.env := by rfl) : PE X (.Attribute o fl pos) (tM C W (mFld c fl mo)) := by
  have h1 := G.cls
  have h2 := G.no
  rw [← B.hK] at h1 h2
  exact je_fld rfl ho h1 h2 hb
theorem js_fd {c : Nat} {fl : Str} {pos' : Pos} {mo m : ME} (B : Bx C W j X) (G : FldIn C c fl) (ho : PE X o (tM C W mo)) (hv : PE X e (tM C W m)) (hs : swapsWith e (some (.Attribute o fl pos')) pos.line X.env = pure false := by rfl) : PS X (.Assign [.Attribute o fl pos'] e pos) (tMS C W (sFldM c fl mo m)) := by
  have h1 := G.cls
  have h2 := G.no
  rw [← B.hK] at h1 h2
  exact js_fld rfl ho h1 h2 hv hs
/-! ### defs that call themselves -/
theorem fnok_bad {P : Program} {w : World} {K : PySem.W.Frag} {mg : Str → Option Value} {base : Heap} {k m : Nat} {f : Addr} {fd : FuncData} {ps : List Str} : FnOk P w K mg base CX k f fd ps (spM C m fun _ _ => .bad) :=
  ⟨fun vs H Q E h => by obtain ⟨_, ι, S, args, _, _, h⟩ := h; exact h.elim, fun A outer s H args us vs Q E _ _ _ _ h => by obtain ⟨_, ι, S, args, _, _, h⟩ := h; exact h.elim⟩
/-! ### a list turned about -/
def mRevL (mu : Bool) (a : ME) : ME := fun env S => (a env S).bind fun x S1 => match asL S1 x with
  | some xs => mkL mu xs.reverse S1
  | none => .bad
theorem je_revL (mu : Bool) (hK : X.K = C.K) {j0 : Nat} {p1 p2 p3 : Pos} {a : ME} (h : PE X e (tM C W a)) : PE X (.Subscript e (.Slice none none (some (.UnaryOp .USub (.Constant (.int 1) j0 p1) p2)) p3) pos) (tM C W (mRevL mu a)) :=
  peImp (pe_revL h) fun σ H Q h => by
    obtain ⟨ι, env, S, he, hs, hp⟩ := h
    refine ⟨ι, env, S, he, hs, Post.bind hp fun x S1 ι1 H1 v e1 s1 q1 p1 => ?_⟩
    split at p1
    · rename_i xs el
      obtain ⟨b, ws, rfl, g1, g2⟩ := asL_ok s1 q1 el
      exact ⟨b, ws, rfl, by rw [hK]; exact g1, mkL_ok s1 g2.rev p1⟩
    · exact p1.elim
end
/-! ### a, b, c = x, y, z -/
def sPar3 (i j l : Nat) (a b c : ME) : MSt := fun env S => sBind (a env S) env fun x S1 => sBind (b env S1) env fun y S2 => sBind (c env S2) env fun z S3 => .nx (((env.set i (some x)).set j (some y)).set l (some z)) S3
section
variable {X : Cx} {C : Ct} {W : WX} {pos : Pos}
theorem js_par3 {i j l : Nat} {x y z : Str} {a b c : Expr} {ma mb mc : ME} {px py pz pt : Pos} {kt k2 pt2} (hc : X.calm = true) (hN : X.N.Nodup) (ha : PE X a (tM C W ma)) (hb : PE X b (tM C W mb)) (hcc : PE X c (tM C W mc)) (hi : X.N[i]? = some x := by rfl) (hj : X.N[j]? = some y := by rfl) (hl : X.N[l]? = some z := by rfl)
    (hij : i ≠ j := by decide) (hil : i ≠ l := by decide) (hjl : j ≠ l := by decide) (hx : X.env.scope.names.lookup x = some .local := by rfl) (hy : X.env.scope.names.lookup y = some .local := by rfl) (hz : X.env.scope.names.lookup z = some .local := by rfl)
    (hw : swappedStores [.Tuple [.Name x px, .Name y py, .Name z pz] kt pt] (.Tuple [a, b, c] k2 pt2) X.env = pure (some [x, y, z]) := by rfl) (hs : swapsWithSole [.Tuple [.Name x px, .Name y py, .Name z pz] kt pt] (.Tuple [a, b, c] k2 pt2) pos.line X.env = pure false := by rfl)
    (h1 : starEach [a, b, c] X.env = (false, eval a X.env) :: starEach [b, c] X.env := by rfl) (h2 : starEach [b, c] X.env = (false, eval b X.env) :: starEach [c] X.env := by rfl) (h3 : starEach [c] X.env = (false, eval c X.env) :: starEach [] X.env := by rfl) :
    PS X (.Assign [.Tuple [.Name x px, .Name y py, .Name z pz] kt pt] (.Tuple [a, b, c] k2 pt2) pos) (tMS C W (sPar3 i j l ma mb mc)) :=
  psImp (ps_par3 hc hN hi hj hl hij hil hjl hx hy hz (pa_cons ha (pa_cons hb (pa_cons hcc pa_nil h3) h2) h1) hw hs) fun D σ H h => by
    obtain ⟨ι, env, S, he, hs, hp⟩ := h
    refine ⟨ι, env, S, he, hs, SPost.bind he hp fun x S1 ι1 H1 v e1 s1 q1 p1 => ?_⟩
    refine ⟨ι1, env, S1, he.mono e1, s1, SPost.bind (he.mono e1) p1 fun y S2 ι2 H2 u e2 s2 q2 p2 => ?_⟩
    refine ⟨ι2, env, S2, (he.mono e1).mono e2, s2, SPost.bind ((he.mono e1).mono e2) p2 fun z S3 ι3 H3 w e3 s3 q3 p3 => ?_⟩
    exact ⟨v, u, w, rfl, p3 ι3 H3 _ .refl s3 ((((((he.mono e1).mono e2).mono e3).set ((q1.mono e2).mono e3) i).set (q2.mono e3) j).set q3 l)⟩
end
/-! ### defs with defaults -/
section
variable {P : Program} {w : World} {K : PySem.W.Frag} {mg : Str → Option Value} {base : Heap} {C : Ct}
theorem def_okD {x qual : Str} {st : Stmt} {f : Addr} {fd : FuncData} {N ps : List Str} {dvs : List V} {k n m : Nat} {b : MSt} {g : List MV → Sto → Res MV} (F : FunD K x qual (defArgs st) (defBody st) (defScope st) dvs [] f fd) (Sc : FnScope N ps (defScope st)) (hg : g = mDef n b ∨ g = mDefR n b)
    (hb : ∀ (cdv : Value) (A : Around) (outer : List PySem.Env) (s : Shared) (H : Hp) (E : XK) (X : Cx), X = cxOf (L2.CX P w) P w K mg base N qual (defScope st) f cdv A outer s H E → Room k X.A →
      PSs X (defBody st) (tMS C (fun cls d _ H' => E cls d H') b)) (hn : N.length = n := by rfl) (hm : ps.length = m := by rfl) :
    FnOk P w K mg base (L2.CX P w) (k + 1) f fd ps (spM C m g) :=
  F.ok Sc (fun vs H Q E h => h.1.trans hm.symm) fun cdv A outer s H vs Q E hr h => ⟨_, hb cdv A outer s H E _ rfl hr, def_core hn hg h⟩
theorem funD_mk {x qual : Str} {st : Stmt} {f T : Addr} {oc toc : Value} {od an tod : Option Addr} {osl tsl : Array (Option Value)} {kV doc pm cdv ct : Value} {its : List Value} {tn : Nat} {dvs : List V} (l : K.lookup f = some ⟨oc, od, .func (PySem.W.fnOf x qual (defArgs st) (defBody st) (defScope st) (.ref T) kV doc pm an cdv ct), osl⟩)
    (c : PySem.W.codeIn K cdv qual = true) (k : PySem.W.keepIn K (.ref f) = true) (t : K.lookup T = some ⟨toc, tod, .seq its.toArray tn, tsl⟩) (hd : dvs ≠ []) (hv : Vals dvs its) :
    FunD K x qual (defArgs st) (defBody st) (defScope st) dvs [] f (PySem.W.fnOf x qual (defArgs st) (defBody st) (defScope st) (.ref T) kV doc pm an cdv ct) :=
  ⟨⟨oc, od, .ref T, kV, doc, pm, an, cdv, ct, osl, rfl, l, c, .inr ⟨hd, T, _, its, tn, rfl, t, rfl, hv⟩, .inl rfl⟩, k⟩
end
end Mi

namespace Mi
namespace Sh
open PySem L2
noncomputable def b_law_begun : MSt :=
  (sRet (mLst true (mCons (mB fMax2 (mCons (mC (.int 0)) (mCons (mBin fSub (mV 0) (mBin fPow (mC (.int 10)) (mC (.int 18)))) mNil))) (mCons (mBin (fAdd false) (mV 0) (mBin (fMul false) (mC (.int 977)) (mV 1))) (mCons (mC (.int 0)) mNil)))))
noncomputable def m_law_begun : List MV → Sto → Res MV := mDefR 2 b_law_begun
noncomputable def b_law_next : MSt :=
  (sSeq (sIf (asB (mBin fGt (mBin fIx (mV 0) (mC (.int 0))) (mC (.int 0)))) (sSeq (sSet 2 (mBin fMod (mBin fIx (mV 0) (mC (.int 0))) (mV 1)))
    (sSeq (sSub (mV 0) (mC (.int 0)) (mBin fDiv (mBin fIx (mV 0) (mC (.int 0))) (mV 1)))
    (sRet (mV 2)))) sNext)
  (sSeq (sSub (mV 0) (mC (.int 2)) (mBin (fAdd false) (mBin fIx (mV 0) (mC (.int 2))) (mC (.int 1))))
  (sSeq (sSet 2 (mBin (fAdd false) (mBin fMod (mBin fIx (mV 0) (mC (.int 1))) (mC (.int 2147483629))) (mBin (fMul false) (mC (.int 104729)) (mBin fIx (mV 0) (mC (.int 2))))))
  (sSeq (sSet 2 (mBin (fMul false) (mV 2) (mBin (fAdd false) (mBin (fAdd false) (mBin fMod (mBin fIx (mV 0) (mC (.int 1))) (mC (.int 2147483587))) (mBin (fMul false) (mBin (fMul false) (mC (.int 7919)) (mBin fIx (mV 0) (mC (.int 2)))) (mBin fIx (mV 0) (mC (.int 2))))) (mC (.int 11)))))
  (sRet (mBin fMod (mBin fDiv (mBin fMod (mBin fPow (mV 2) (mC (.int 3))) (mC (.int 2147483647))) (mC (.int 11))) (mV 1)))))))
noncomputable def m_law_next : List MV → Sto → Res MV := mDef 3 b_law_next
noncomputable def b_law_pick : MSt :=
  (sRet (mBin fIx (mV 1) (mCall 2 m_law_next [] (mCons (mV 0) (mCons (mB fLen (mCons (mV 1) mNil)) mNil)))))
noncomputable def m_law_pick : List MV → Sto → Res MV := mDef 2 b_law_pick
/-! ### sizes -/
def Bd (x : Int) (k : Nat) : Prop := x.natAbs < 2 ^ k
theorem Bd.lg {x : Int} {k : Nat} (h : Bd x k) (hk : 0 < k) : x.natAbs.log2 < k := by
  unfold Bd at h
  by_cases e : x.natAbs = 0
  · rw [e]; simpa using hk
  · exact (Nat.log2_lt e).mpr h
theorem Bd.mul {x y : Int} {i j : Nat} (h : Bd x i) (g : Bd y j) : Bd (x * y) (i + j) := by
  unfold Bd at *
  rw [Int.natAbs_mul, Nat.pow_add]
  exact Nat.mul_lt_mul'' h g
theorem Bd.add {x y : Int} {i : Nat} (h : Bd x i) (g : Bd y i) : Bd (x + y) (i + 1) := by
  unfold Bd at *
  have := Int.natAbs_add_le x y
  rw [Nat.pow_succ]; omega
theorem Bd.mono {x : Int} {i j : Nat} (h : Bd x i) (g : i ≤ j) : Bd x j :=
  Nat.lt_of_lt_of_le h (Nat.pow_le_pow_right (by decide) g)
theorem Bd.mod {x y : Int} {i : Nat} (h : Bd y i) (g : 0 < y) : Bd (x % y) i := by
  unfold Bd at *
  have h1 := Int.emod_nonneg x (by omega : y ≠ 0)
  have h2 := Int.emod_lt_of_pos x g
  omega
theorem Bd.bits {x : Int} {k : Nat} (h : Bd x k) (hk : 0 < k) : Builtin.Int.intBits x ≤ k := by
  have q := h.lg hk
  have : Builtin.Int.intBits x ≤ x.natAbs.log2 + 1 := by
    unfold Builtin.Int.intBits
    split <;> omega
  omega
theorem begun_ok (c k : Int) (S : Sto) (hk : Bd k 60) : m_law_begun [.int c, .int k] S = .ok (.ref S.length) (S ++ [dr (if c - 10 ^ 18 > 0 then c - 10 ^ 18 else 0) (c + 977 * k) 0]) := by
  have e1 : (977 : Int).natAbs.log2 + k.natAbs.log2 < 1000000 := by
    have h1 : (977 : Int).natAbs.log2 = 9 := by decide +kernel
    have h2 := hk.lg (by decide)
    omega
  have e2 : (0 : Int) ≤ 18 ∧ (Builtin.Int.intBits 10 : Int) * 18 ≤ 2 ^ 27 := by decide +kernel
  have e3 : ((10 : Int) ^ (18 : Int).toNat) = 10 ^ 18 := rfl
  have hl := leaveR_push (dr_cl S.length (if c - 10 ^ 18 > 0 then c - 10 ^ 18 else 0) (c + 977 * k) 0)
  unfold m_law_begun mDefR b_law_begun
  simp only [env0, sRet, sBind, sSeq, sIf, sSet, sSub, sNext, sRetN, sDrop, mLst, mTup, mCons, mB, mBin, mV, mC, mNil, mCall, asB, asT, bind_ok, List.map_cons, List.map_nil, List.length_cons, List.length_nil, List.cons_append, List.nil_append, List.append_nil, List.getElem?_cons_zero, List.getElem?_cons_succ, List.set_cons_zero, List.set_cons_succ, List.replicate_zero, List.replicate_succ, List.replicate_one, if_true, if_false, Bool.false_eq_true, Nat.reduceSub, Nat.reduceAdd, Nat.sub_self, fMax2, fSub, fPow, fAdd, fMul, e1, e2, e3, mkL, sizeLine, and_self, reduceIte]
  simp (decide := true) only [reduceIte, hl]
theorem next_ok {l n : Nat} {S : Sto} {sz : Int} (h : HasDr l n S) (hn : n < 2 ^ 20) (h0 : 0 < sz) (h1 : Bd sz 60) : ∃ (r : Int) (S' : Sto), m_law_next [.ref l, .int sz] S = .ok (.int r) S' ∧ Draws l 1 S S' ∧ 0 ≤ r ∧ r < sz := by
  have hl := h.lt
  obtain ⟨a, b, c, h, hc, hcn⟩ := h
  obtain ⟨i0, i1, i2⟩ := ix_dr h
  have hlg : sz.natAbs.log2 < 9000 := Nat.lt_of_lt_of_le (h1.lg (by decide)) (by decide)
  have h3 : ∀ v : MV, ([MV.int a, .int b, .int c].set 0 v) = [v, .int b, .int c] := fun v => rfl
  have h4 : ∀ v : MV, ([MV.int a, .int b, .int c].set 2 v) = [.int a, .int b, v] := fun v => rfl
  have x0 : ixN 3 0 = some 0 := by decide
  have x2 : ixN 3 2 = some 2 := by decide
  unfold m_law_next mDef b_law_next
  by_cases ha : 0 < a
  · have d : Draws l 1 S (S.set l (dr (a / sz) b c)) := ⟨a, b, c, _, c, h, rfl, by omega, by omega⟩
    refine ⟨a % sz, _, ?_, d, Int.emod_nonneg a (by omega), Int.emod_lt_of_pos a h0⟩
    have dl := d.leave (v := .int (a % sz)) (by simp [Cl])
    simp only [env0, sRet, sBind, sSeq, sIf, sSet, sSub, sNext, sRetN, sDrop, mLst, mTup, mCons, mB, mBin, mV, mC, mNil, mCall, asB, asT, bind_ok, List.map_cons, List.map_nil, List.length_cons, List.length_nil, List.cons_append, List.nil_append, List.append_nil, List.getElem?_cons_zero, List.getElem?_cons_succ, List.set_cons_zero, List.set_cons_succ, List.replicate_zero, List.replicate_succ, List.replicate_one, if_true, if_false, Bool.false_eq_true, Nat.reduceSub, Nat.reduceAdd, Nat.sub_self, i0, fGt, ha, decide_true, fMod, h0, fDiv, hlg, and_self, h, x0, h3, dl]
  · have hc2 : Bd (c + 1) 21 := by unfold Bd; have : (2:Nat)^20 = 1048576 := rfl; have : (2:Nat)^21 = 2097152 := rfl; omega
    have k1 : Bd 104729 17 := by unfold Bd; decide
    have k2 : Bd 7919 13 := by unfold Bd; decide
    have k3 : Bd 11 47 := by unfold Bd; decide
    have m1 : Bd (b % 2147483629) 38 := (Bd.mod (i := 31) (by unfold Bd; decide) (by decide)).mono (by decide)
    have m2 : Bd (b % 2147483587) 55 := (Bd.mod (i := 31) (by unfold Bd; decide) (by decide)).mono (by decide)
    have t1 : Bd (104729 * (c + 1)) 38 := k1.mul hc2
    have t2 : Bd (7919 * (c + 1)) 34 := k2.mul hc2
    have t3 : Bd (7919 * (c + 1) * (c + 1)) 55 := t2.mul hc2
    have f1 := m1.add t1
    have f2 := (m2.add t3).add (k3.mono (j := 56) (by decide))
    have f3 := f1.mul f2
    have l1 : (104729 : Int).natAbs.log2 + (c + 1).natAbs.log2 < 1000000 := by have := k1.lg (by decide); have := hc2.lg (by decide); omega
    have l2 : (7919 : Int).natAbs.log2 + (c + 1).natAbs.log2 < 1000000 := by have := k2.lg (by decide); have := hc2.lg (by decide); omega
    have l3 : (7919 * (c + 1)).natAbs.log2 + (c + 1).natAbs.log2 < 1000000 := by have := t2.lg (by decide); have := hc2.lg (by decide); omega
    have l4 : (b % 2147483629 + 104729 * (c + 1)).natAbs.log2 + (b % 2147483587 + 7919 * (c + 1) * (c + 1) + 11).natAbs.log2 < 1000000 := by have := f1.lg (by decide); have := f2.lg (by decide); omega
    have l5 : (0 : Int) ≤ 3 ∧ (Builtin.Int.intBits ((b % 2147483629 + 104729 * (c + 1)) * (b % 2147483587 + 7919 * (c + 1) * (c + 1) + 11)) : Int) * 3 ≤ 2 ^ 27 := by
      have := f3.bits (by decide)
      refine ⟨by decide, ?_⟩
      have : (2 : Int) ^ 27 = 134217728 := rfl
      omega
    have l6 : (0 : Int) < 11 ∧ (11 : Int).natAbs.log2 < 9000 := by decide +kernel
    have d : Draws l 1 S (S.set l (dr a b (c + 1))) := ⟨a, b, c, a, c + 1, h, rfl, by omega, by omega⟩
    obtain ⟨j0, j1, j2⟩ := ix_dr (S := S.set l (dr a b (c + 1))) (by rw [List.getElem?_set_self hl])
    refine ⟨((b % 2147483629 + 104729 * (c + 1)) * (b % 2147483587 + 7919 * (c + 1) * (c + 1) + 11)) ^ 3 % 2147483647 / 11 % sz, _, ?_, d, Int.emod_nonneg _ (by omega), Int.emod_lt_of_pos _ h0⟩
    have dl : ∀ x : Int, leaveV S (S.set l (dr a b (c + 1))) (.int x) = .ok (.int x) (S.set l (dr a b (c + 1))) := fun x => d.leave (by simp [Cl])
    have p3 : (3 : Int).toNat = 3 := rfl
    simp only [env0, sRet, sBind, sSeq, sIf, sSet, sSub, sNext, sRetN, sDrop, mLst, mTup, mCons, mB, mBin, mV, mC, mNil, mCall, asB, asT, bind_ok, List.map_cons, List.map_nil, List.length_cons, List.length_nil, List.cons_append, List.nil_append, List.append_nil, List.getElem?_cons_zero, List.getElem?_cons_succ, List.set_cons_zero, List.set_cons_succ, List.replicate_zero, List.replicate_succ, List.replicate_one, if_true, if_false, Bool.false_eq_true, Nat.reduceSub, Nat.reduceAdd, Nat.sub_self, i0, i2, fGt, ha, decide_false, fAdd, h, x2, h4]
    simp only [env0, sRet, sBind, sSeq, sIf, sSet, sSub, sNext, sRetN, sDrop, mLst, mTup, mCons, mB, mBin, mV, mC, mNil, mCall, asB, asT, bind_ok, List.map_cons, List.map_nil, List.length_cons, List.length_nil, List.cons_append, List.nil_append, List.append_nil, List.getElem?_cons_zero, List.getElem?_cons_succ, List.set_cons_zero, List.set_cons_succ, List.replicate_zero, List.replicate_succ, List.replicate_one, if_true, if_false, Bool.false_eq_true, Nat.reduceSub, Nat.reduceAdd, Nat.sub_self, j0, j1, j2, fMod, (by decide : (0:Int) < 2147483629), (by decide : (0:Int) < 2147483587), (by decide : (0:Int) < 2147483647), fMul, fAdd, l1, l2, l3, l4, l5, l6, fPow, fDiv, h0, p3, dl, and_self]
theorem pick_gen {l n N : Nat} {S : Sto} {x : MV} {P : MV → Prop} (h : HasDr l n S) (hn : n < 2 ^ 20) (hL : lenM S x = some N) (h0 : 0 < N) (h1 : N < 2 ^ 60)
    (hI : ∀ (r : Int) (S' : Sto), 0 ≤ r → r < N → Draws l 1 S S' → ∃ v, fIx x (.int r) S' = .ok v S' ∧ Cl S.length v ∧ P v) :
    ∃ (v : MV) (S' : Sto), m_law_pick [.ref l, x] S = .ok v S' ∧ Draws l 1 S S' ∧ P v := by
  obtain ⟨r, S1, e1, d1, r0, r1⟩ := next_ok (sz := (N : Int)) h hn (by omega) (by unfold Bd; omega)
  obtain ⟨v, e2, cv, pv⟩ := hI r S1 r0 r1 d1
  refine ⟨v, S1, ?_, d1, pv⟩
  unfold m_law_pick mDef b_law_pick
  simp only [env0, sRet, sBind, sSeq, sIf, sSet, sSub, sNext, sRetN, sDrop, mLst, mTup, mCons, mB, mBin, mV, mC, mNil, mCall, asB, asT, bind_ok, List.map_cons, List.map_nil, List.length_cons, List.length_nil, List.cons_append, List.nil_append, List.append_nil, List.getElem?_cons_zero, List.getElem?_cons_succ, List.set_cons_zero, List.set_cons_succ, List.replicate_zero, List.replicate_succ, List.replicate_one, if_true, if_false, Bool.false_eq_true, Nat.reduceSub, Nat.reduceAdd, Nat.sub_self, fLen, hL, e1, e2, d1.leave cv]
theorem pick_at {xs : List MV} {r : Int} (r0 : 0 ≤ r) (r1 : r < xs.length) : ∃ v, L2.atI xs r = some v ∧ v ∈ xs := by
  have h2 : r.toNat < xs.length := by omega
  refine ⟨xs[r.toNat], ?_, List.getElem_mem h2⟩
  unfold L2.atI L2.ixN
  simp [r0, r1, h2]
theorem clL_mem {n : Nat} : ∀ {xs : List MV} {x : MV}, ClL n xs → x ∈ xs → Cl n x
  | y :: r, x, h, hm => by
    simp only [ClL] at h
    rcases List.mem_cons.mp hm with e | e
    · rw [e]; exact h.1
    · exact clL_mem h.2 e
/-- one of a written list -/
theorem pick_lst {l n : Nat} {S : Sto} {xs : List MV} (h : HasDr l n S) (hn : n < 2 ^ 20) (h0 : xs ≠ []) (h1 : xs.length < 2 ^ 60) (hc : ClL S.length xs) :
    ∃ (v : MV) (S' : Sto), m_law_pick [.ref l, .lst xs] S = .ok v S' ∧ Draws l 1 S S' ∧ v ∈ xs := by
  refine pick_gen h hn (N := xs.length) rfl (List.length_pos_iff.mpr h0) h1 fun r S' r0 r1 _ => ?_
  obtain ⟨v, e, m⟩ := pick_at r0 r1
  exact ⟨v, by simp only [fIx, asSq, asU, asL, e], clL_mem hc m, m⟩
theorem pick_tup {l n : Nat} {S : Sto} {xs : List MV} (h : HasDr l n S) (hn : n < 2 ^ 20) (h0 : xs ≠ []) (h1 : xs.length < 2 ^ 60) (hc : ClL S.length xs) :
    ∃ (v : MV) (S' : Sto), m_law_pick [.ref l, .tup xs] S = .ok v S' ∧ Draws l 1 S S' ∧ v ∈ xs := by
  refine pick_gen h hn (N := xs.length) rfl (List.length_pos_iff.mpr h0) h1 fun r S' r0 r1 _ => ?_
  obtain ⟨v, e, m⟩ := pick_at r0 r1
  exact ⟨v, by simp only [fIx, asSq, asU, e], clL_mem hc m, m⟩
theorem pick_str {l n : Nat} {S : Sto} {z : List Nat} (h : HasDr l n S) (hn : n < 2 ^ 20) (h0 : z ≠ []) (h1 : z.length ≤ sizeLine) :
    ∃ (v : MV) (S' : Sto), m_law_pick [.ref l, .str z] S = .ok v S' ∧ Draws l 1 S S' ∧ ∃ c ∈ z, v = .str [c] := by
  refine pick_gen h hn (N := z.length) (by simp only [lenM, if_pos h1]) (List.length_pos_iff.mpr h0) (Nat.lt_of_le_of_lt h1 (by decide)) fun r S' r0 r1 _ => ?_
  have h2 : r.toNat < z.length := by omega
  refine ⟨.str [z[r.toNat]], ?_, by simp [Cl], z[r.toNat], List.getElem_mem h2, rfl⟩
  have e : L2.atI z r = some z[r.toNat] := by unfold L2.atI L2.ixN; simp [r0, r1, h2]
  simp only [fIx, if_pos h1, e]
end Sh
end Mi

namespace Mi
namespace Sh
open PySem L2 TL
noncomputable def b_law_name_c1 : ME :=
  (mComp false (mItR1 (mCons (mBin (fAdd false) (mC (.int 1)) (mCall 2 m_law_next [] (mCons (mV 0) (mCons (mC (.int 8)) mNil)))) mNil)) [4] (gN 4) mYes (mCall 2 m_law_pick [] (mCons (mV 0) (mCons (mC (.str [101, 116, 97, 111, 105, 110, 115, 104, 114, 100, 108, 99, 117, 109, 119, 102, 103, 121, 112, 98, 118, 107, 106, 120, 113, 122])) mNil))))
noncomputable def b_law_name_c2 : ME :=
  (mComp false (mItT (mC (.str [97, 98, 99, 100, 101, 102, 103, 104, 105, 106, 107, 108, 109, 110, 111, 112, 113, 114, 115, 116, 117, 118, 119, 120, 121, 122]))) [5] (gN 5) (asB (mBin fNotIn (mBin (fAdd false) (mSl false (mV 3) mNoPart (mPart (mC (.int 7)))) (mV 5)) (mV 1))) (mBin (fAdd false) (mSl false (mV 3) mNoPart (mPart (mC (.int 7)))) (mV 5)))
noncomputable def b_law_name : MSt :=
  (sSeq (sSet 2 (mC (.str [97, 115, 107, 32, 112, 117, 116, 32, 111, 110, 32, 116, 111, 32, 115, 116, 111, 112, 32, 115, 101, 101, 110, 32, 104, 105, 100, 100, 101, 110, 32, 100, 101, 101, 100, 32, 100, 111, 32, 105, 102, 32, 116, 104, 101, 110, 32, 101, 108, 115, 101, 32, 111, 112, 32, 109, 101, 97, 110, 115, 32, 106, 117, 109, 112, 32, 109, 111, 118, 101, 32, 110, 111, 110, 101, 32, 99, 97, 115, 101, 32, 98, 101, 108, 108, 32, 103, 111, 101, 115])))
  (sSeq (sIf (asB (mBin fEq (mCall 2 m_law_next [] (mCons (mV 0) (mCons (mC (.int 3)) mNil))) (mC (.int 0)))) (sSet 3 (mCall 2 m_law_pick [] (mCons (mV 0) (mCons (mBM "str" (fSplit false) (mV 2) (mCons (mC (.str [32])) mNil)) mNil)))) (sSet 3 (mBM "str" fJoin (mC (.str [])) (mCons b_law_name_c1 mNil))))
  (sSeq (sIf (mOrB (asB (mBin fIn (mV 3) (mV 1))) (asB (mBin fIn (mV 3) (mTup (mCons (mC (.str [112])) (mCons (mC (.str [113])) mNil)))))) (sSet 3 (mBin fIx b_law_name_c2 (mC (.int 0)))) sNext)
  (sRet (mV 3)))))
noncomputable def m_law_name : List MV → Sto → Res MV := mDef 6 b_law_name
noncomputable def b_law_names_l1 : MSt :=
  (sDrop (mBM "list" fAppend (mV 3) (mCons (mCall 2 m_law_name [] (mCons (mV 0) (mCons (mBin (fAdd false) (mV 2) (mV 3)) mNil))) mNil)))
noncomputable def b_law_names : MSt :=
  (sSeq (sSet 3 (mLst true mNil))
  (sSeq (sFor (mItR1 (mCons (mV 1) mNil)) (gN 4) b_law_names_l1)
  (sRet (mV 3))))
noncomputable def m_law_names : List MV → Sto → Res MV := mDef 5 b_law_names
noncomputable def b_Gear_deeds : MSt :=
  (sRet (mB (fDict false) (mCons (mFld 0 "makers" (mV 0)) mNil)))
noncomputable def m_Gear_deeds : List MV → Sto → Res MV := mDef 1 b_Gear_deeds
noncomputable def b_is_name_c1 : ME :=
  (mComp false (mItT (mV 0)) [1] (gN 1) mYes (mBin fIn (mV 1) (mC (.str [97, 98, 99, 100, 101, 102, 103, 104, 105, 106, 107, 108, 109, 110, 111, 112, 113, 114, 115, 116, 117, 118, 119, 120, 121, 122]))))
noncomputable def b_is_name : MSt :=
  (sSeq (sIf (mOrB (mNotB (asT (mB fIsi (mCons (mV 0) (mCons (mC (.ty "str")) mNil))))) (mNotB (asB (mChain fLe fLe (mC (.int 1)) (mB fLen (mCons (mV 0) mNil)) (mC (.int 8)))))) (sRet (mC (.bl false))) sNext)
  (sRet (mB fAll (mCons b_is_name_c1 mNil))))
noncomputable def m_is_name : List MV → Sto → Res MV := mDef 2 b_is_name
noncomputable def b_is_named_c1 : ME :=
  (mComp false (mItS (mV 0)) [2] (gN 2) mYes (mCall 1 m_is_name [] (mCons (mV 2) mNil)))
noncomputable def b_is_named : MSt :=
  (sSeq (sIf (mOrB (mNotB (asT (mB fIsi (mCons (mV 0) (mCons (mC (.ty "list")) mNil))))) (mNotB (asB (mChain fLe fLe (mV 1) (mB fLen (mCons (mV 0) mNil)) (mC (.int 4)))))) (sRet (mC (.bl false))) sNext)
  (sRet (mB fAll (mCons b_is_named_c1 mNil))))
noncomputable def m_is_named : List MV → Sto → Res MV := mDef 3 b_is_named
noncomputable def b_is_number : MSt :=
  (sRet (mAndT (mB fIsi (mCons (mV 0) (mCons (mC (.ty "int")) mNil))) (mAndT (mNotT (mB fIsi (mCons (mV 0) (mCons (mC (.ty "bool")) mNil)))) (mChain fLe fLe (mV 1) (mV 0) (mV 2)))))
noncomputable def m_is_number : List MV → Sto → Res MV := mDef 3 b_is_number
noncomputable def b_is_counted_c1 : ME :=
  (mCompD false 0 0 [2, 3] (gT 2 (gCs (gN 2) (gCs (gN 3) gNl))) mYes (mAndT (mCall 1 m_is_name [] (mCons (mV 2) mNil)) (mCall 3 m_is_number [] (mCons (mV 3) (mCons (mV 1) (mCons (mC (.int 2)) mNil))))))
noncomputable def b_is_counted : MSt :=
  (sSeq (sIf (mOrB (mNotB (asT (mB fIsi (mCons (mV 0) (mCons (mC (.ty "dict")) mNil))))) (asB (mBin fGt (mB fLen (mCons (mV 0) mNil)) (mC (.int 6))))) (sRet (mC (.bl false))) sNext)
  (sRet (mB fAll (mCons b_is_counted_c1 mNil))))
noncomputable def m_is_counted : List MV → Sto → Res MV := mDef 4 b_is_counted
noncomputable def b_Gear_init : MSt :=
  (sSeq (sSet 5 (mIf (asB (mIsN (mV 2))) (mLst false mNil) (mV 2)))
  (sSeq (sSet 6 (mIf (asB (mIsN (mV 3))) (mDic0 false) (mV 3)))
  (sSeq (sSet 7 (mIf (asB (mIsN (mV 4))) (mDic0 false) (mV 4)))
  (sSeq (sIf (mOrB (mNotB (asT (mCall 2 m_is_named [] (mCons (mV 1) (mCons (mC (.int 1)) mNil))))) (mNotB (asT (mCall 2 m_is_named [] (mCons (mV 5) (mCons (mC (.int 0)) mNil)))))) sBad sNext)
  (sSeq (sIf (mOrB (mNotB (asT (mCall 2 m_is_counted [] (mCons (mV 6) (mCons (mC (.int 0)) mNil))))) (mNotB (asT (mCall 2 m_is_counted [] (mCons (mV 7) (mCons (mC (.int 1)) mNil)))))) sBad sNext)
  (sSeq (sSet 8 (mBin (fAdd false) (mBin (fAdd false) (mBin (fAdd false) (mV 1) (mV 5)) (mB (fListA false) (mCons (mV 6) mNil))) (mB (fListA false) (mCons (mV 7) mNil))))
  (sSeq (sIf (mOrB (asB (mBin fNe (mLenOnce (mV 8)) (mB fLen (mCons (mV 8) mNil)))) (mOrB (asB (mBin fIn (mC (.str [112])) (mV 8))) (asB (mBin fIn (mC (.str [113])) (mV 8))))) sBad sNext)
  (sSeq (sFldM 0 "upper" (mV 0) (mB (fListA false) (mCons (mV 1) mNil)))
  (sSeq (sFldM 0 "lower" (mV 0) (mB (fListA false) (mCons (mV 5) mNil)))
  (sSeq (sFldM 0 "makers" (mV 0) (mB (fDict false) (mCons (mV 6) mNil)))
  (sFldM 0 "tellers" (mV 0) (mB (fDict false) (mCons (mV 7) mNil)))))))))))))
noncomputable def m_Gear_init : List MV → Sto → Res MV := mDef 9 b_Gear_init
/-! ### names -/
abbrev abc : List Nat := [97, 98, 99, 100, 101, 102, 103, 104, 105, 106, 107, 108, 109, 110, 111, 112, 113, 114, 115, 116, 117, 118, 119, 120, 121, 122]
abbrev freq : List Nat := [101, 116, 97, 111, 105, 110, 115, 104, 114, 100, 108, 99, 117, 109, 119, 102, 103, 121, 112, 98, 118, 107, 106, 120, 113, 122]
structure Nm (z : List Nat) : Prop where
  pos : 1 ≤ z.length
  le : z.length ≤ 8
  abc : ∀ c ∈ z, 97 ≤ c ∧ c ≤ 122
  np : z ≠ [112]
  nq : z ≠ [113]
theorem ones {ys : List MV} {P : Nat → Prop} (h : ∀ y ∈ ys, ∃ c, P c ∧ y = .str [c]) : ∃ cs : List Nat, ys = (cs.map fun c => MV.str [c]) ∧ ∀ c ∈ cs, P c := by
  induction ys with
  | nil => exact ⟨[], rfl, by simp⟩
  | cons y r ih =>
    obtain ⟨c, hc, rfl⟩ := h y (by simp)
    obtain ⟨cs, rfl, hs⟩ := ih fun y hy => h y (List.mem_cons_of_mem _ hy)
    exact ⟨c :: cs, rfl, by simpa using ⟨hc, hs⟩⟩
theorem strs_ones : ∀ cs : List Nat, strsOf (cs.map fun c => MV.str [c]) = some (cs.map fun c => [c])
  | [] => rfl
  | c :: r => by simp only [List.map_cons, strsOf, strs_ones r, Option.map_some]
theorem strs_map : ∀ zs : List (List Nat), strsOf (zs.map MV.str) = some zs
  | [] => rfl
  | c :: r => by simp only [List.map_cons, strsOf, strs_map r, Option.map_some]
theorem join_ones : ∀ cs : List Nat, TL.joinL [] (cs.map fun c => [c]) = cs
  | [] => rfl
  | [c] => rfl
  | c :: d :: r => by
    have := join_ones (d :: r)
    simp only [List.map_cons] at this ⊢
    simp only [TL.joinL, this]
    simp
theorem sum_ones (cs : List Nat) : (List.map List.length (List.map (fun c => [c]) cs)).sum = cs.length := by
  induction cs with
  | nil => rfl
  | cons a r ih => simp only [List.map_cons, List.sum_cons, ih, List.length_cons, List.length_nil]; omega
theorem join_lst {S : Sto} {cs : List Nat} (hl : cs.length ≤ 2 ^ 20) : fJoin (.str []) [.lst (cs.map fun c => .str [c])] S = .ok (.str cs) S := by
  have e1 : asSq S (.lst (cs.map fun c => .str [c])) = some (cs.map fun c => .str [c]) := rfl
  simp only [fJoin, e1, Option.bind_some, strs_ones, join_ones]
  rw [if_pos]
  rw [sum_ones]; simp; omega
theorem clL_strs (n : Nat) : ∀ zs : List (List Nat), ClL n (zs.map MV.str)
  | [] => by simp only [List.map_nil, ClL]
  | z :: r => by simp only [List.map_cons, ClL]; exact ⟨by simp only [Cl], clL_strs n r⟩
theorem flat_strs : ∀ zs : List (List Nat), (zs.map MV.str).all flat = true
  | [] => rfl
  | z :: r => by simp only [List.map_cons, List.all_cons, flat_strs r]; rfl
theorem any_strs (z : List Nat) : ∀ F : List (List Nat), ((F.map MV.str).any fun y => eqF y (.str z)) = decide (z ∈ F)
  | [] => by simp
  | y :: r => by
    rw [List.map_cons, List.any_cons, any_strs z r]
    by_cases e : z = y
    · subst e; simp [eqF]
    · have : (y == z) = false := by simpa using fun h => e h.symm
      simp [eqF, this, e]
theorem in_strs {S : Sto} {x : MV} {z : List Nat} {F : List (List Nat)} (h : asSq S x = some (F.map MV.str)) (hx : ∀ s, x ≠ .str s) : isIn S (.str z) x = some (decide (z ∈ F)) := by
  have hf : (flat (.str z) && (F.map MV.str).all flat) = true := by rw [flat_strs]; rfl
  unfold isIn
  split
  · exact absurd rfl (hx _)
  · rename_i heq _ _ _
    rw [h]
    simp only [hf, if_true, any_strs]
/-- more things than places -/
theorem pigeon {α : Type} [DecidableEq α] : ∀ (xs F : List α), xs.Nodup → (∀ x ∈ xs, x ∈ F) → xs.length ≤ F.length
  | [], F, _, _ => Nat.zero_le _
  | x :: r, F, nd, h => by
    rw [List.nodup_cons] at nd
    have hx := h x (by simp)
    have := pigeon r (F.erase x) nd.2 fun y hy => (List.mem_erase_of_ne (fun e => nd.1 (by rw [← e]; exact hy))).mpr (h y (List.mem_cons_of_mem _ hy))
    rw [List.length_erase_of_mem hx] at this
    have : 0 < F.length := List.length_pos_of_mem hx
    rw [List.length_cons]; omega
theorem fresh_sign (z : List Nat) (F : List (List Nat)) (hF : F.length ≤ 25) : abc.filter (fun c => !decide (z ++ [c] ∈ F)) ≠ [] := by
  intro h
  have all : ∀ c ∈ abc, z ++ [c] ∈ F := fun c hc => by
    by_cases e : z ++ [c] ∈ F
    · exact e
    · have : c ∈ abc.filter (fun c => !decide (z ++ [c] ∈ F)) := List.mem_filter.mpr ⟨hc, by simp [e]⟩
      rw [h] at this; cases this
  have nd : (abc.map fun c => z ++ [c]).Nodup := by
    have n0 : abc.Nodup := by decide
    rw [List.nodup_iff_pairwise_ne, List.pairwise_map]
    exact (List.nodup_iff_pairwise_ne.mp n0).imp fun hab e => hab (by simpa using e)
  have := pigeon _ F nd fun x hx => by
    obtain ⟨c, hc, rfl⟩ := List.mem_map.mp hx
    exact all c hc
  rw [List.length_map] at this
  have e26 : abc.length = 26 := rfl
  omega
abbrev ownT : List Nat := [97, 115, 107, 32, 112, 117, 116, 32, 111, 110, 32, 116, 111, 32, 115, 116, 111, 112, 32, 115, 101, 101, 110, 32, 104, 105, 100, 100, 101, 110, 32, 100, 101, 101, 100, 32, 100, 111, 32, 105, 102, 32, 116, 104, 101, 110, 32, 101, 108, 115, 101, 32, 111, 112, 32, 109, 101, 97, 110, 115, 32, 106, 117, 109, 112, 32, 109, 111, 118, 101, 32, 110, 111, 110, 101, 32, 99, 97, 115, 101, 32, 98, 101, 108, 108, 32, 103, 111, 101, 115]
abbrev words : List (List Nat) := [[97, 115, 107], [112, 117, 116], [111, 110], [116, 111], [115, 116, 111, 112], [115, 101, 101, 110], [104, 105, 100, 100, 101, 110], [100, 101, 101, 100], [100, 111], [105, 102], [116, 104, 101, 110], [101, 108, 115, 101], [111, 112], [109, 101, 97, 110, 115], [106, 117, 109, 112], [109, 111, 118, 101], [110, 111, 110, 101], [99, 97, 115, 101], [98, 101, 108, 108], [103, 111, 101, 115]]
theorem split_own : (Txt.split (st ownT) (st [32])).map (fun z => MV.str (tl z)) = words.map MV.str := by
  have h : (Txt.split (st ownT) (st [32])).map tl = words := by decide +kernel
  rw [← h, List.map_map]
  rfl
theorem words_nm : ∀ z ∈ words, Nm z := by
  have h : ∀ z ∈ words, (1 ≤ z.length ∧ z.length ≤ 8) ∧ (∀ c ∈ z, 97 ≤ c ∧ c ≤ 122) ∧ z ≠ [112] ∧ z ≠ [113] := by decide +kernel
  intro z hz
  obtain ⟨h1, h2, h3, h4⟩ := h z hz
  exact ⟨h1.1, h1.2, h2, h3, h4⟩
theorem freq_abc : ∀ c ∈ freq, 97 ≤ c ∧ c ≤ 122 := by decide +kernel
theorem cut7 (z : List Nat) : cutL z none (some 7) = z.take 7 := cut_none z 7
/-- letters one by one -/
theorem letters_ok {l n : Nat} {S : Sto} {x1 x2 x3 x4 x5 : Option MV} (h : HasDr l n S) (hn : n + 10 ≤ 2 ^ 20) : ∃ (cs : List Nat) (S' : Sto), b_law_name_c1 [some (.ref l), x1, x2, x3, x4, x5] S = .ok (.lst (cs.map fun c => .str [c])) S' ∧ Draws l 9 S S' ∧ (1 ≤ cs.length ∧ cs.length ≤ 8) ∧ ∀ c ∈ cs, 97 ≤ c ∧ c ≤ 122 := by
  obtain ⟨r, S1, e1, d1, r0, r1⟩ := next_ok (sz := 8) h (by omega) (by decide) (by unfold Bd; decide)
  have hi : mItR1 (mCons (mBin (fAdd false) (mC (.int 1)) (mCall 2 m_law_next [] (mCons (mV 0) (mCons (mC (.int 8)) mNil)))) mNil) [some (.ref l), x1, x2, x3, x4, x5] S = .ok ⟨rngL 0 (1 + r).toNat, []⟩ S1 := by
    unfold mItR1
    simp (decide := true) only [env0, sRet, sBind, sSeq, sIf, sSet, sSub, sNext, sRetN, sDrop, mLst, mTup, mCons, mB, mBin, mV, mC, mNil, mCall, asB, asT, bind_ok, List.map_cons, List.map_nil, List.length_cons, List.length_nil, List.cons_append, List.nil_append, List.append_nil, List.getElem?_cons_zero, List.getElem?_cons_succ, List.set_cons_zero, List.set_cons_succ, List.replicate_zero, List.replicate_succ, List.replicate_one, if_true, if_false, Bool.false_eq_true, Nat.reduceSub, Nat.reduceAdd, Nat.sub_self, fAdd, reduceIte, e1]
    exact if_pos ⟨by omega, by omega⟩
  obtain ⟨S2, ys, e2, l2, p2, d2⟩ := mComp_draws (mu := false) (vs := [4]) (g := gN 4) (e := mCall 2 m_law_pick [] (mCons (mV 0) (mCons (mC (.str freq)) mNil))) (P := fun y => ∃ c, (97 ≤ c ∧ c ≤ 122) ∧ y = .str [c]) (q := 1) (N := 2 ^ 20 - 1) hi h d1 rfl (by
      intro v hv
      refine ⟨_, rfl, fun n S' hn hl hd => ?_⟩
      obtain ⟨y, S3, e3, d3, c, hc, rfl⟩ := pick_str (z := freq) hd (by omega) (by decide) (by decide)
      refine ⟨_, S3, ?_, d3, c, freq_abc c hc, rfl⟩
      simp (decide := true) only [env0, sRet, sBind, sSeq, sIf, sSet, sSub, sNext, sRetN, sDrop, mLst, mTup, mCons, mB, mBin, mV, mC, mNil, mCall, asB, asT, bind_ok, List.map_cons, List.map_nil, List.length_cons, List.length_nil, List.cons_append, List.nil_append, List.append_nil, List.getElem?_cons_zero, List.getElem?_cons_succ, List.set_cons_zero, List.set_cons_succ, List.replicate_zero, List.replicate_succ, List.replicate_one, if_true, if_false, Bool.false_eq_true, Nat.reduceSub, Nat.reduceAdd, Nat.sub_self, reduceIte, wipeE, e3]) (by simp [rngL]; omega) (by simp [rngL]; unfold sizeLine; omega) (by rintro y ⟨c, _, rfl⟩; simp [Cl])
  obtain ⟨cs, rfl, hcs⟩ := ones p2
  rw [List.length_map] at l2
  refine ⟨cs, S2, by unfold b_law_name_c1; simpa using e2, d2.mono (by simp [rngL]; omega), ?_, hcs⟩
  simp [rngL] at l2
  omega
/-- the way out: the name's first seven signs and a letter -/
theorem fresh_ok {S : Sto} {F : List (List Nat)} {z : List Nat} {x0 x2 x4 x5 : Option MV} (hz : z.length ≤ 2 ^ 20) :
    b_law_name_c2 [x0, some (.lst (F.map MV.str)), x2, some (.str z), x4, x5] S = .ok (.lst ((abc.filter fun c => !decide (z.take 7 ++ [c] ∈ F)).map fun c => .str (z.take 7 ++ [c]))) S := by
  have hz2 : z.length ≤ sizeLine := by unfold sizeLine; omega
  have hz3 : (z.take 7).length + ([0] : List Nat).length ≤ sizeLine := by rw [List.length_take]; unfold sizeLine; simp; omega
  unfold b_law_name_c2
  have ev : ∀ (c : Nat) (S' : Sto), mBin (fAdd false) (mSl false (mV 3) mNoPart (mPart (mC (.int 7)))) (mV 5) [x0, some (.lst (F.map MV.str)), x2, some (.str z), x4, some (.str [c])] S' = .ok (.str (z.take 7 ++ [c])) S' := by
    intro c S'
    have : (z.take 7).length + [c].length ≤ sizeLine := by simpa using hz3
    simp only [env0, sRet, sBind, sSeq, sIf, sSet, sSub, sNext, sRetN, sDrop, mLst, mTup, mCons, mB, mBin, mV, mC, mNil, mCall, asB, asT, bind_ok, List.map_cons, List.map_nil, List.length_cons, List.length_nil, List.cons_append, List.nil_append, List.append_nil, List.getElem?_cons_zero, List.getElem?_cons_succ, List.set_cons_zero, List.set_cons_succ, List.replicate_zero, List.replicate_succ, List.replicate_one, if_true, if_false, Bool.false_eq_true, Nat.reduceSub, Nat.reduceAdd, Nat.sub_self, mSl, mNoPart, mPart, fSl, if_pos hz2, cut7, fAdd]
    simp only [List.length_cons, List.length_nil] at this
    rw [if_pos this]
  have w := mComp_pure (mu := false) (mi := mItT (mC (.str abc))) (vs := [5]) (g := gN 5) (c := asB (mBin fNotIn (mBin (fAdd false) (mSl false (mV 3) mNoPart (mPart (mC (.int 7)))) (mV 5)) (mV 1))) (e := mBin (fAdd false) (mSl false (mV 3) mNoPart (mPart (mC (.int 7)))) (mV 5)) (env := [x0, some (.lst (F.map MV.str)), x2, some (.str z), x4, x5]) (S := S) (t := ⟨abc.map fun c => .str [c], []⟩)
    (p := fun v => match v with | .str [c] => !decide (z.take 7 ++ [c] ∈ F) | _ => false) (F := fun v => match v with | .str [c] => .str (z.take 7 ++ [c]) | _ => .non)
    (by simp only [env0, sRet, sBind, sSeq, sIf, sSet, sSub, sNext, sRetN, sDrop, mLst, mTup, mCons, mB, mBin, mV, mC, mNil, mCall, asB, asT, bind_ok, List.map_cons, List.map_nil, List.length_cons, List.length_nil, List.cons_append, List.nil_append, List.append_nil, List.getElem?_cons_zero, List.getElem?_cons_succ, List.set_cons_zero, List.set_cons_succ, List.replicate_zero, List.replicate_succ, List.replicate_one, if_true, if_false, Bool.false_eq_true, Nat.reduceSub, Nat.reduceAdd, Nat.sub_self, mItT]) (fun acc => chk_nil rfl _) (by
      intro v hv
      obtain ⟨c, _, rfl⟩ := List.mem_map.mp hv
      refine ⟨_, rfl, fun acc => ⟨?_, fun _ => ?_⟩⟩
      · have i := in_strs (S := S ++ [.lst acc]) (x := .lst (F.map MV.str)) (z := z.take 7 ++ [c]) (F := F) rfl (fun s => by simp)
        show asB (mBin fNotIn _ (mV 1)) [x0, some (.lst (F.map MV.str)), x2, some (.str z), x4, some (.str [c])] _ = _
        unfold asB
        rw [mBin, ev]
        simp only [env0, sRet, sBind, sSeq, sIf, sSet, sSub, sNext, sRetN, sDrop, mLst, mTup, mCons, mB, mBin, mV, mC, mNil, mCall, asB, asT, bind_ok, List.map_cons, List.map_nil, List.length_cons, List.length_nil, List.cons_append, List.nil_append, List.append_nil, List.getElem?_cons_zero, List.getElem?_cons_succ, List.set_cons_zero, List.set_cons_succ, List.replicate_zero, List.replicate_succ, List.replicate_one, if_true, if_false, Bool.false_eq_true, Nat.reduceSub, Nat.reduceAdd, Nat.sub_self, fNotIn, i]
      · exact ev c _) (by simp; unfold sizeLine; omega) (by
      have : ∀ xs : List MV, (∀ x ∈ xs, ∃ s, x = .str s) → ClL S.length xs := by
        intro xs
        induction xs with
        | nil => intro _; simp only [ClL]
        | cons a r ih => intro h; obtain ⟨c, rfl⟩ := h a (by simp); simp only [ClL]; exact ⟨by simp only [Cl], ih fun x hx => h x (List.mem_cons_of_mem _ hx)⟩
      refine this _ fun x hx => ?_
      obtain ⟨y, hy, rfl⟩ := List.mem_map.mp hx
      obtain ⟨c, _, rfl⟩ := List.mem_map.mp (List.mem_filter.mp hy).1
      exact ⟨_, rfl⟩)
  rw [w]
  simp only [Bool.false_eq_true, if_false, List.filter_map, List.map_map]
  rfl
theorem seq_nx {a b : MSt} {env e : Env} {S S1 : Sto} (h : a env S = .nx e S1) : sSeq a b env S = b e S1 := by
  unfold sSeq; rw [h]
theorem name_ok {l n : Nat} {S : Sto} {F : List (List Nat)} (h : HasDr l n S) (hn : n + 12 ≤ 2 ^ 20) (hF : F.length ≤ 25) : ∃ (z : List Nat) (S' : Sto), m_law_name [.ref l, .lst (F.map MV.str)] S = .ok (.str z) S' ∧ Draws l 12 S S' ∧ Nm z ∧ z ∉ F := by
  obtain ⟨r, S1, e1, d1, r0, r1⟩ := next_ok (sz := 3) h (by omega) (by decide) (by unfold Bd; decide)
  have h1 := h.draws d1
  -- the drawn name, before it is held against the found ones
  have drawn : ∃ (z : List Nat) (S2 : Sto), (1 ≤ z.length ∧ z.length ≤ 8) ∧ (∀ c ∈ z, 97 ≤ c ∧ c ≤ 122) ∧ Draws l 9 S1 S2 ∧
      sIf (asB (mBin fEq (mCall 2 m_law_next [] (mCons (mV 0) (mCons (mC (.int 3)) mNil))) (mC (.int 0)))) (sSet 3 (mCall 2 m_law_pick [] (mCons (mV 0) (mCons (mBM "str" (fSplit false) (mV 2) (mCons (mC (.str [32])) mNil)) mNil)))) (sSet 3 (mBM "str" fJoin (mC (.str [])) (mCons b_law_name_c1 mNil)))
        [some (.ref l), some (.lst (F.map MV.str)), some (.str ownT), none, none, none] S = .nx [some (.ref l), some (.lst (F.map MV.str)), some (.str ownT), some (.str z), none, none] S2 := by
    by_cases hr : r = 0
    · obtain ⟨v, S2, e2, d2, m2⟩ := pick_lst (xs := words.map MV.str) h1 (by omega) (by simp) (by decide) (clL_strs _ _)
      obtain ⟨z, hz, rfl⟩ := List.mem_map.mp m2
      have nz := words_nm z hz
      refine ⟨z, S2, ⟨nz.pos, nz.le⟩, nz.abc, d2.mono (by omega), ?_⟩
      have sp : fSplit false (.str ownT) [.str [32]] S1 = .ok (.lst (words.map MV.str)) S1 := by
        show (if ([32] : List Nat) ≠ [] ∧ ownT.length + 2 ≤ sizeLine then mkL false ((Txt.split (st ownT) (st [32])).map fun z => .str (tl z)) S1 else .bad) = _
        rw [if_pos (by decide), split_own]
        rfl
      generalize words.map MV.str = WW at sp e2
      simp (decide := true) only [env0, sRet, sBind, sSeq, sIf, sSet, sSub, sNext, sRetN, sDrop, mLst, mTup, mCons, mB, mBin, mV, mC, mNil, mCall, asB, asT, bind_ok, List.map_cons, List.map_nil, List.length_cons, List.length_nil, List.cons_append, List.nil_append, List.append_nil, List.getElem?_cons_zero, List.getElem?_cons_succ, List.set_cons_zero, List.set_cons_succ, List.replicate_zero, List.replicate_succ, List.replicate_one, if_true, if_false, Bool.false_eq_true, Nat.reduceSub, Nat.reduceAdd, Nat.sub_self, e1, fEq_int, hr, reduceIte, mBM, tyM, sp, e2]
    · obtain ⟨cs, S2, e2, d2, l2, a2⟩ := letters_ok (x1 := some (.lst (F.map MV.str))) (x2 := some (.str ownT)) (x3 := none) (x4 := none) (x5 := none) h1 (by omega)
      refine ⟨cs, S2, l2, a2, d2, ?_⟩
      have j := join_lst (S := S2) (cs := cs) (by omega)
      simp (decide := true) only [env0, sRet, sBind, sSeq, sIf, sSet, sSub, sNext, sRetN, sDrop, mLst, mTup, mCons, mB, mBin, mV, mC, mNil, mCall, asB, asT, bind_ok, List.map_cons, List.map_nil, List.length_cons, List.length_nil, List.cons_append, List.nil_append, List.append_nil, List.getElem?_cons_zero, List.getElem?_cons_succ, List.set_cons_zero, List.set_cons_succ, List.replicate_zero, List.replicate_succ, List.replicate_one, if_true, if_false, Bool.false_eq_true, Nat.reduceSub, Nat.reduceAdd, Nat.sub_self, e1, fEq_int, hr, reduceIte, mBM, tyM, e2, j, decide_false]
  obtain ⟨z, S2, lz, az, d2, e2⟩ := drawn
  have hz2 : z.length ≤ 2 ^ 20 := by omega
  have d3 : Draws l 12 S S2 := (d1.trans d2).mono (by omega)
  have ip : isIn S2 (.str z) (.tup [.str [112], .str [113]]) = some (decide (z ∈ [[112], [113]])) := in_strs (F := [[112], [113]]) rfl (fun s => by simp)
  have iF : isIn S2 (.str z) (.lst (F.map MV.str)) = some (decide (z ∈ F)) := in_strs rfl (fun s => by simp)
  have pq : (.str [112] : MV) = .str [112] := rfl
  have fin : ∀ y : List Nat, leaveV S S2 (.str y) = .ok (.str y) S2 := fun y => d3.leave (by simp [Cl])
  by_cases bad : z ∈ F ∨ z ∈ [[112], [113]]
  · have fr := fresh_ok (S := S2) (F := F) (z := z) (x0 := some (.ref l)) (x2 := some (.str ownT)) (x4 := none) (x5 := none) hz2
    have ne := fresh_sign (z.take 7) F hF
    cases hfil : abc.filter fun c => !decide (z.take 7 ++ [c] ∈ F) with
    | nil => exact absurd hfil ne
    | cons c rest =>
      rw [hfil] at fr
      have hc : c ∈ abc.filter fun c => !decide (z.take 7 ++ [c] ∈ F) := by rw [hfil]; simp
      obtain ⟨hc1, hc2⟩ := List.mem_filter.mp hc
      have l7 : (z.take 7).length = min 7 z.length := List.length_take
      refine ⟨z.take 7 ++ [c], S2, ?_, d3, ⟨by simp, by simp; omega, ?_, ?_, ?_⟩, by simpa using hc2⟩
      · have x0 : fIx (.lst ((c :: rest).map fun c => MV.str (z.take 7 ++ [c]))) (.int 0) S2 = .ok (.str (z.take 7 ++ [c])) S2 := by
          simp [fIx, asSq, asU, asL, L2.atI, ixN]
        generalize (c :: rest).map (fun c => MV.str (z.take 7 ++ [c])) = YY at fr x0
        have test : sIf (mOrB (asB (mBin fIn (mV 3) (mV 1))) (asB (mBin fIn (mV 3) (mTup (mCons (mC (.str [112])) (mCons (mC (.str [113])) mNil)))))) (sSet 3 (mBin fIx b_law_name_c2 (mC (.int 0)))) sNext [some (.ref l), some (.lst (F.map MV.str)), some (.str ownT), some (.str z), none, none] S2 =
            .nx [some (.ref l), some (.lst (F.map MV.str)), some (.str ownT), some (.str (z.take 7 ++ [c])), none, none] S2 := by
          by_cases b1 : z ∈ F
          · simp (decide := true) only [env0, sRet, sBind, sSeq, sIf, sSet, sSub, sNext, sRetN, sDrop, mLst, mTup, mCons, mB, mBin, mV, mC, mNil, mCall, asB, asT, bind_ok, List.map_cons, List.map_nil, List.length_cons, List.length_nil, List.cons_append, List.nil_append, List.append_nil, List.getElem?_cons_zero, List.getElem?_cons_succ, List.set_cons_zero, List.set_cons_succ, List.replicate_zero, List.replicate_succ, List.replicate_one, if_true, if_false, Bool.false_eq_true, Nat.reduceSub, Nat.reduceAdd, Nat.sub_self, mOrB, fIn, iF, b1, decide_true, reduceIte, fr, x0]
          · have b2 : z ∈ [[112], [113]] := bad.resolve_left b1
            simp (decide := true) only [env0, sRet, sBind, sSeq, sIf, sSet, sSub, sNext, sRetN, sDrop, mLst, mTup, mCons, mB, mBin, mV, mC, mNil, mCall, asB, asT, bind_ok, List.map_cons, List.map_nil, List.length_cons, List.length_nil, List.cons_append, List.nil_append, List.append_nil, List.getElem?_cons_zero, List.getElem?_cons_succ, List.set_cons_zero, List.set_cons_succ, List.replicate_zero, List.replicate_succ, List.replicate_one, if_true, if_false, Bool.false_eq_true, Nat.reduceSub, Nat.reduceAdd, Nat.sub_self, mOrB, fIn, iF, ip, b1, b2, decide_true, decide_false, reduceIte, fr, x0]
        have hb : b_law_name (env0 6 [.ref l, .lst (F.map MV.str)]) S = .rt (.str (z.take 7 ++ [c])) S2 := by
          refine Eq.trans (seq_nx (S1 := S) (e := [some (.ref l), some (.lst (F.map MV.str)), some (.str ownT), none, none, none]) rfl) ?_
          exact Eq.trans (seq_nx e2) (Eq.trans (seq_nx test) rfl)
        simp only [m_law_name, mDef, hb, fin]
      · intro d hd
        rcases List.mem_append.mp hd with hd | hd
        · exact az d (List.mem_of_mem_take hd)
        · have : d = c := by simpa using hd
          subst this
          have : ∀ c ∈ abc, 97 ≤ c ∧ c ≤ 122 := by decide +kernel
          exact this d hc1
      · intro e
        have q := congrArg List.length e
        rw [List.length_append, l7] at q
        simp only [List.length_cons, List.length_nil] at q
        omega
      · intro e
        have q := congrArg List.length e
        rw [List.length_append, l7] at q
        simp only [List.length_cons, List.length_nil] at q
        omega
  · have b1 : z ∉ F := fun q => bad (.inl q)
    have b2 : z ∉ [[112], [113]] := fun q => bad (.inr q)
    refine ⟨z, S2, ?_, d3, ⟨lz.1, lz.2, az, fun e => b2 (by simp [e]), fun e => b2 (by simp [e])⟩, b1⟩
    have test : sIf (mOrB (asB (mBin fIn (mV 3) (mV 1))) (asB (mBin fIn (mV 3) (mTup (mCons (mC (.str [112])) (mCons (mC (.str [113])) mNil)))))) (sSet 3 (mBin fIx b_law_name_c2 (mC (.int 0)))) sNext [some (.ref l), some (.lst (F.map MV.str)), some (.str ownT), some (.str z), none, none] S2 =
        .nx [some (.ref l), some (.lst (F.map MV.str)), some (.str ownT), some (.str z), none, none] S2 := by
      simp (decide := true) only [env0, sRet, sBind, sSeq, sIf, sSet, sSub, sNext, sRetN, sDrop, mLst, mTup, mCons, mB, mBin, mV, mC, mNil, mCall, asB, asT, bind_ok, List.map_cons, List.map_nil, List.length_cons, List.length_nil, List.cons_append, List.nil_append, List.append_nil, List.getElem?_cons_zero, List.getElem?_cons_succ, List.set_cons_zero, List.set_cons_succ, List.replicate_zero, List.replicate_succ, List.replicate_one, if_true, if_false, Bool.false_eq_true, Nat.reduceSub, Nat.reduceAdd, Nat.sub_self, mOrB, fIn, iF, ip, b1, b2, decide_false, reduceIte]
    have hb : b_law_name (env0 6 [.ref l, .lst (F.map MV.str)]) S = .rt (.str z) S2 := by
      refine Eq.trans (seq_nx (S1 := S) (e := [some (.ref l), some (.lst (F.map MV.str)), some (.str ownT), none, none, none]) rfl) ?_
      exact Eq.trans (seq_nx e2) (Eq.trans (seq_nx test) rfl)
    simp only [m_law_name, mDef, hb, fin]
theorem names_turn {l n : Nat} {S2 : Sto} {p : Nat} {F zs : List (List Nat)} {x1 v : Option MV} (h2 : HasDr l n S2) (hn : n + 12 ≤ 2 ^ 20) (hF : F.length + zs.length < 25) (hp : S2.length = p) :
    ∃ (z : List Nat) (S5 : Sto), b_law_names_l1 [some (.ref l), x1, some (.lst (F.map MV.str)), some (.ref p), v] (S2 ++ [.lst (zs.map MV.str)]) = .nx [some (.ref l), x1, some (.lst (F.map MV.str)), some (.ref p), v] (S5 ++ [.lst ((zs ++ [z]).map MV.str)]) ∧ Draws l 12 S2 S5 ∧ Nm z ∧ z ∉ F ++ zs := by
  obtain ⟨z, S4, e4, d4, n4, f4⟩ := name_ok (F := F ++ zs) (h2.app [.lst (zs.map MV.str)]) hn (by rw [List.length_append]; omega)
  obtain ⟨S5, rfl, d5⟩ := d4.app h2.lt
  have l5 : S5.length = p := by rw [d5.len, hp]
  have g2 : (S2 ++ [MO.lst (zs.map MV.str)])[p]? = some (.lst (zs.map MV.str)) := by rw [← hp]; simp
  have g5 : (S5 ++ [MO.lst (zs.map MV.str)])[p]? = some (.lst (zs.map MV.str)) := by rw [← l5]; simp
  have s5 : ∀ o, (S5 ++ [MO.lst (zs.map MV.str)]).set p o = S5 ++ [o] := fun o => by rw [← l5]; simp
  have c1 : (F.map MV.str).length + (zs.map MV.str).length ≤ sizeLine := by rw [List.length_map, List.length_map]; unfold sizeLine; omega
  have c2 : (zs.map MV.str).length < sizeLine := by rw [List.length_map]; unfold sizeLine; omega
  rw [List.map_append] at e4
  refine ⟨z, S5, ?_, d5, n4, f4⟩
  unfold b_law_names_l1
  simp only [env0, sRet, sBind, sSeq, sIf, sSet, sSub, sNext, sRetN, sDrop, mLst, mTup, mCons, mB, mBin, mV, mC, mNil, mCall, asB, asT, bind_ok, List.map_cons, List.map_nil, List.length_cons, List.length_nil, List.cons_append, List.nil_append, List.append_nil, List.getElem?_cons_zero, List.getElem?_cons_succ, List.set_cons_zero, List.set_cons_succ, List.replicate_zero, List.replicate_succ, List.replicate_one, if_true, if_false, Bool.false_eq_true, Nat.reduceSub, Nat.reduceAdd, Nat.sub_self, mBM, tyM, asL, g2, Option.isSome_some, Bool.and_true, fAdd, asH, if_pos c1, mkL, e4, fAppend, onL, g5, if_pos c2, s5, List.map_append, beq_self_eq_true]
theorem range1_int {j : Int} {S : Sto} (c : -(2 ^ 62) ≤ j ∧ j < 2 ^ 62) {as : MA} {env : Env} {S1 : Sto} (h : as env S = .ok [.int j] S1) : mItR1 as env S = .ok ⟨rngL 0 j.toNat, []⟩ S1 := by
  unfold mItR1
  simp only [h, bind_ok, if_pos c]
theorem range1_ok {m : Nat} {S : Sto} (hm : m ≤ 25) {x0 x2 x3 x4 : Option MV} : mItR1 (mCons (mV 1) mNil) [x0, some (.int m), x2, x3, x4] S = .ok ⟨rngL 0 m, []⟩ S := by
  have c1 : -(2 ^ 62) ≤ (m : Int) := Int.le_trans (by decide) (Int.natCast_nonneg m)
  have c2 : (m : Int) < 2 ^ 62 := Int.lt_of_le_of_lt (Int.ofNat_le.mpr hm) (by decide)
  have q := range1_int (S := S) (S1 := S) (as := mCons (mV 1) mNil) (env := [x0, some (.int m), x2, x3, x4]) ⟨c1, c2⟩ (by simp only [env0, sRet, sBind, sSeq, sIf, sSet, sSub, sNext, sRetN, sDrop, mLst, mTup, mCons, mB, mBin, mV, mC, mNil, mCall, asB, asT, bind_ok, List.map_cons, List.map_nil, List.length_cons, List.length_nil, List.cons_append, List.nil_append, List.append_nil, List.getElem?_cons_zero, List.getElem?_cons_succ, List.set_cons_zero, List.set_cons_succ, List.replicate_zero, List.replicate_succ, List.replicate_one, if_true, if_false, Bool.false_eq_true, Nat.reduceSub, Nat.reduceAdd, Nat.sub_self])
  rw [Int.toNat_natCast] at q
  exact q
theorem mDef_rt {n : Nat} {b : MSt} {args : List MV} {S S1 : Sto} {v : MV} {r : Res MV} (h : b (env0 n args) S = .rt v S1) (f : leaveV S S1 v = r) : mDef n b args S = r := by
  unfold mDef; rw [h]; exact f
theorem set_new {x0 x1 x2 x3 x4 : Option MV} {S : Sto} : sSet 3 (mLst true mNil) [x0, x1, x2, x3, x4] S = .nx [x0, x1, x2, some (.ref S.length), x4] (S ++ [.lst []]) := by
  have c0 : ([] : List MV).length ≤ sizeLine := Nat.zero_le _
  simp only [sSet, mLst, mNil, bind_ok, if_pos c0, mkL, if_true, sBind, List.set_cons_succ, List.set_cons_zero]
theorem for_step {mi : Env → Sto → Res Itv} {g : MG} {mb : MSt} {env : Env} {S S1 : Sto} {t : Itv} {r : SRes} (h : mi env S = .ok t S1) (f : forL t g mb t.items env S1 = r) : sFor mi g mb env S = r := by
  unfold sFor; rw [h]; exact f
theorem names_ok {l n : Nat} {S : Sto} {F : List (List Nat)} {m : Nat} (h : HasDr l n S) (hn : n + 12 * m + 12 ≤ 2 ^ 20) (hF : F.length + m ≤ 25) :
    ∃ (zs : List (List Nat)) (S' : Sto), m_law_names [.ref l, .int m, .lst (F.map MV.str)] S = .ok (.lst (zs.map MV.str)) S' ∧ Draws l (12 * m) S S' ∧ zs.length = m ∧ (∀ z ∈ zs, Nm z ∧ z ∉ F) ∧ zs.Nodup := by
  have lr : (rngL 0 m).length = m := by simp [rngL]
  have walk := forL_inv (t := ⟨rngL 0 m, []⟩) (g := gN 4) (mb := b_law_names_l1) rfl (fun i env S' => ∃ (zs : List (List Nat)) (S2 : Sto) (x4 : Option MV), env = [some (.ref l), some (.int m), some (.lst (F.map MV.str)), some (.ref S.length), x4] ∧ S' = S2 ++ [.lst (zs.map MV.str)] ∧ Draws l (12 * i) S S2 ∧ zs.length = i ∧ (∀ z ∈ zs, Nm z ∧ z ∉ F) ∧ zs.Nodup)
    (rngL 0 m) 0 [some (.ref l), some (.int m), some (.lst (F.map MV.str)), some (.ref S.length), none] (S ++ [.lst []]) ⟨[], S, none, rfl, rfl, Draws.zero h, rfl, by simp, List.nodup_nil⟩
  have turn : ∀ (j : Nat) (v : MV), (rngL 0 m)[j]? = some v → ∀ (env : Env) (S' : Sto), (∃ (zs : List (List Nat)) (S2 : Sto) (x4 : Option MV), env = [some (.ref l), some (.int m), some (.lst (F.map MV.str)), some (.ref S.length), x4] ∧ S' = S2 ++ [.lst (zs.map MV.str)] ∧ Draws l (12 * (0 + j)) S S2 ∧ zs.length = 0 + j ∧ (∀ z ∈ zs, Nm z ∧ z ∉ F) ∧ zs.Nodup) →
      ∃ e1, gN 4 v env = some e1 ∧ ∃ e2 S2, (b_law_names_l1 e1 S' = .nx e2 S2 ∨ b_law_names_l1 e1 S' = .ct e2 S2) ∧ (∃ (zs : List (List Nat)) (S3 : Sto) (x4 : Option MV), e2 = [some (.ref l), some (.int m), some (.lst (F.map MV.str)), some (.ref S.length), x4] ∧ S2 = S3 ++ [.lst (zs.map MV.str)] ∧ Draws l (12 * (0 + j + 1)) S S3 ∧ zs.length = 0 + j + 1 ∧ (∀ z ∈ zs, Nm z ∧ z ∉ F) ∧ zs.Nodup) := by
    rintro j v hv env S' ⟨zs, S2, x4, rfl, rfl, d2, lz, hN, hnd⟩
    have hj : j < m := by
      have := (List.getElem?_eq_some_iff.mp hv).1
      rwa [lr] at this
    have h2 := h.draws d2
    obtain ⟨z, S5, e5, d5, n4, f4⟩ := names_turn (x1 := some (.int m)) (v := some v) (zs := zs) (F := F) h2 (by omega) (by omega) d2.len
    refine ⟨_, rfl, _, _, .inl e5, zs ++ [z], S5, some v, rfl, rfl, (d2.trans d5).mono (by omega), by rw [List.length_append, lz]; rfl, ?_, ?_⟩
    · intro y hy
      rcases List.mem_append.mp hy with hy | hy
      · exact hN y hy
      · rw [List.mem_singleton.mp hy]
        exact ⟨n4, fun q => f4 (List.mem_append_left _ q)⟩
    · rw [List.nodup_append]
      refine ⟨hnd, by simp, fun a ha b hb e => ?_⟩
      rw [List.mem_singleton.mp hb] at e
      exact f4 (List.mem_append_right _ (by rw [← e]; exact ha))
  obtain ⟨e2, S2, h1, zs, S3, x4, he, hS, hd, hz, hN, hnd⟩ := walk turn
  have hk : 0 + (rngL 0 m).length = m := by rw [lr, Nat.zero_add]
  replace hz : zs.length = m := hz.trans hk
  replace hd : Draws l (12 * m) S S3 := Draws.mono hd (Nat.le_of_eq (congrArg (fun x => 12 * x) hk))
  clear walk turn
  subst he; subst hS
  refine ⟨zs, S3, ?_, hd, hz, hN, hnd⟩
  have hm25 : m ≤ 25 := Nat.le_trans (Nat.le_add_left _ _) hF
  have hi : mItR1 (mCons (mV 1) mNil) [some (.ref l), some (.int m), some (.lst (F.map MV.str)), some (.ref S.length), none] (S ++ [.lst []]) = .ok ⟨rngL 0 m, []⟩ (S ++ [.lst []]) := by
    exact range1_ok hm25
  have fin := leaveV_new (S := S) (S1 := S3) (xs := zs.map MV.str) hd.keeps hd.len (clL_strs _ _)
  have c0 : (0 : Nat) ≤ sizeLine := Nat.zero_le _
  have hb : b_law_names (env0 5 [.ref l, .int m, .lst (F.map MV.str)]) S = .rt (.ref S.length) (S3 ++ [.lst (zs.map MV.str)]) := by
    refine Eq.trans (seq_nx (S1 := S ++ [.lst []]) (e := [some (.ref l), some (.int m), some (.lst (F.map MV.str)), some (.ref S.length), none]) ?_) (Eq.trans (seq_nx (S1 := S3 ++ [.lst (zs.map MV.str)]) (e := [some (.ref l), some (.int m), some (.lst (F.map MV.str)), some (.ref S.length), x4]) ?_) ?_)
    · exact set_new
    · exact for_step hi h1
    · rfl
  exact mDef_rt (n := 5) (b := b_law_names) hb fin
/-! ### Gear -/
def isAbc (c : Nat) : Bool := decide (97 ≤ c ∧ c ≤ 122)
theorem abc_iff (c : Nat) : decide (c ∈ abc) = isAbc c := by
  unfold isAbc
  simp only [List.mem_cons, List.not_mem_nil, or_false, decide_eq_decide]
  omega
theorem boolsOf_map (f : Nat → Bool) : ∀ z : List Nat, boolsOf (z.map fun c => MV.bl (f c)) = some (z.map f)
  | [] => rfl
  | c :: r => by simp only [List.map_cons, boolsOf, boolsOf_map f r, Option.map_some]
theorem clL_bools (n : Nat) (f : Nat → Bool) : ∀ z : List Nat, ClL n (z.map fun c => MV.bl (f c))
  | [] => by simp only [List.map_nil, ClL]
  | c :: r => by simp only [List.map_cons, ClL]; exact ⟨by simp only [Cl], clL_bools n f r⟩
def codeOf : MV → Nat
  | .str [c] => c
  | _ => 0
theorem is_name_str (z : List Nat) (S : Sto) (hz : z.length ≤ 2 ^ 20) : m_is_name [.str z] S = .ok (.bl (decide (1 ≤ z.length ∧ z.length ≤ 8) && z.all isAbc)) S := by
  have q : ∀ b : Bool, leaveV S S (.bl b) = .ok (.bl b) S := fun b => by rw [leaveV_cl (keeps_refl S) (by simp [Cl]), List.take_length]
  have hz2 : z.length ≤ sizeLine := by unfold sizeLine; omega
  have hc : b_is_name_c1 [some (.str z), none] S = .ok (.lst (z.map fun c => .bl (isAbc c))) S := by
    have w := mComp_pure (mu := false) (mi := mItT (mV 0)) (vs := [1]) (g := gN 1) (c := mYes) (e := mBin fIn (mV 1) (mC (.str [97, 98, 99, 100, 101, 102, 103, 104, 105, 106, 107, 108, 109, 110, 111, 112, 113, 114, 115, 116, 117, 118, 119, 120, 121, 122]))) (env := [some (.str z), none]) (S := S) (t := ⟨z.map fun c => .str [c], []⟩) (p := fun _ => true) (F := fun v => .bl (isAbc (codeOf v)))
      (by simp only [env0, sRet, sBind, sSeq, sIf, sSet, sSub, sNext, sRetN, sDrop, mLst, mTup, mCons, mB, mBin, mV, mC, mNil, mCall, asB, asT, bind_ok, List.map_cons, List.map_nil, List.length_cons, List.length_nil, List.cons_append, List.nil_append, List.append_nil, List.getElem?_cons_zero, List.getElem?_cons_succ, List.set_cons_zero, List.set_cons_succ, List.replicate_zero, List.replicate_succ, List.replicate_one, if_true, if_false, Bool.false_eq_true, Nat.reduceSub, Nat.reduceAdd, Nat.sub_self, mItT]) (fun acc => chk_nil rfl _) (by
        intro v hv
        obtain ⟨c, _, rfl⟩ := List.mem_map.mp hv
        refine ⟨_, rfl, fun acc => ⟨rfl, fun _ => ?_⟩⟩
        have := abc_iff c
        simp (decide := true) only [env0, sRet, sBind, sSeq, sIf, sSet, sSub, sNext, sRetN, sDrop, mLst, mTup, mCons, mB, mBin, mV, mC, mNil, mCall, asB, asT, bind_ok, List.map_cons, List.map_nil, List.length_cons, List.length_nil, List.cons_append, List.nil_append, List.append_nil, List.getElem?_cons_zero, List.getElem?_cons_succ, List.set_cons_zero, List.set_cons_succ, List.replicate_zero, List.replicate_succ, List.replicate_one, if_true, if_false, Bool.false_eq_true, Nat.reduceSub, Nat.reduceAdd, Nat.sub_self, wipeE, fIn, isIn, codeOf, this]) (by simpa using hz2) (by
        rw [List.filter_eq_self.mpr (by simp), List.map_map]
        exact clL_bools _ _ z)
    unfold b_is_name_c1
    rw [w]
    simp only [Bool.false_eq_true, if_false]
    rw [List.filter_eq_self.mpr (by simp), List.map_map]
    rfl
  unfold m_is_name mDef b_is_name
  by_cases h : 1 ≤ z.length ∧ z.length ≤ 8
  · have h1 : (1 : Int) ≤ (z.length : Int) := by omega
    have h2 : (z.length : Int) ≤ 8 := by omega
    simp (decide := true) only [env0, sRet, sBind, sSeq, sIf, sSet, sSub, sNext, sRetN, sDrop, mLst, mTup, mCons, mB, mBin, mV, mC, mNil, mCall, asB, asT, bind_ok, List.map_cons, List.map_nil, List.length_cons, List.length_nil, List.cons_append, List.nil_append, List.append_nil, List.getElem?_cons_zero, List.getElem?_cons_succ, List.set_cons_zero, List.set_cons_succ, List.replicate_zero, List.replicate_succ, List.replicate_one, if_true, if_false, Bool.false_eq_true, Nat.reduceSub, Nat.reduceAdd, Nat.sub_self, mOrB, mNotB, fIsi, tyName, isiB, tru, mChain, fLe, fLen, lenM, if_pos hz2, h1, h2, decide_true, reduceIte, hc, fAll, asL, Option.bind_some, boolsOf_map, q, h, and_self, Bool.true_and, List.all_map, Function.comp_def, id]
  · by_cases h1 : 1 ≤ z.length
    · have h1' : (1 : Int) ≤ (z.length : Int) := by omega
      have h2 : ¬ (z.length : Int) ≤ 8 := by omega
      simp (decide := true) only [env0, sRet, sBind, sSeq, sIf, sSet, sSub, sNext, sRetN, sDrop, mLst, mTup, mCons, mB, mBin, mV, mC, mNil, mCall, asB, asT, bind_ok, List.map_cons, List.map_nil, List.length_cons, List.length_nil, List.cons_append, List.nil_append, List.append_nil, List.getElem?_cons_zero, List.getElem?_cons_succ, List.set_cons_zero, List.set_cons_succ, List.replicate_zero, List.replicate_succ, List.replicate_one, if_true, if_false, Bool.false_eq_true, Nat.reduceSub, Nat.reduceAdd, Nat.sub_self, mOrB, mNotB, fIsi, tyName, isiB, tru, mChain, fLe, fLen, lenM, if_pos hz2, h1', h2, decide_true, decide_false, reduceIte, q, h, Bool.false_and, Bool.not_true, Bool.not_false]
    · have h1' : ¬ (1 : Int) ≤ (z.length : Int) := by omega
      simp (decide := true) only [env0, sRet, sBind, sSeq, sIf, sSet, sSub, sNext, sRetN, sDrop, mLst, mTup, mCons, mB, mBin, mV, mC, mNil, mCall, asB, asT, bind_ok, List.map_cons, List.map_nil, List.length_cons, List.length_nil, List.cons_append, List.nil_append, List.append_nil, List.getElem?_cons_zero, List.getElem?_cons_succ, List.set_cons_zero, List.set_cons_succ, List.replicate_zero, List.replicate_succ, List.replicate_one, if_true, if_false, Bool.false_eq_true, Nat.reduceSub, Nat.reduceAdd, Nat.sub_self, mOrB, mNotB, fIsi, tyName, isiB, tru, mChain, fLe, fLen, lenM, if_pos hz2, h1', decide_true, decide_false, reduceIte, q, h, Bool.false_and, Bool.not_true, Bool.not_false]
theorem is_name_nm {z : List Nat} (h : Nm z) (S : Sto) : m_is_name [.str z] S = .ok (.bl true) S := by
  rw [is_name_str z S (Nat.le_trans h.le (by decide))]
  have e1 : decide (1 ≤ z.length ∧ z.length ≤ 8) = true := decide_eq_true ⟨h.pos, h.le⟩
  have e2 : z.all isAbc = true := List.all_eq_true.mpr fun c hc => decide_eq_true (h.abc c hc)
  rw [e1, e2]
  rfl
theorem boolsOf_true : ∀ n : Nat, boolsOf (List.replicate n (MV.bl true)) = some (List.replicate n true)
  | 0 => rfl
  | n + 1 => by simp only [List.replicate_succ, boolsOf, boolsOf_true n, Option.map_some]
theorem clL_true (m : Nat) : ∀ n : Nat, ClL m (List.replicate n (MV.bl true))
  | 0 => by simp only [List.replicate_zero, ClL]
  | n + 1 => by simp only [List.replicate_succ, ClL]; exact ⟨by simp only [Cl], clL_true m n⟩
theorem all_true (n : Nat) (S : Sto) : fAll [.lst (List.replicate n (MV.bl true))] S = .ok (.bl true) S := by
  simp only [fAll, asL, Option.bind_some, boolsOf_true]
  congr 2
  exact List.all_eq_true.mpr fun b hb => by rw [List.eq_of_mem_replicate hb]; rfl
theorem leave_bl (S : Sto) (b : Bool) : leaveV S S (.bl b) = .ok (.bl b) S := by
  rw [leaveV_cl (keeps_refl S) (by simp [Cl]), List.take_length]
theorem is_named_ok {zs : List (List Nat)} {least : Int} {S : Sto} (h1 : least ≤ zs.length) (h2 : zs.length ≤ 4) (hz : ∀ z ∈ zs, Nm z) : m_is_named [.lst (zs.map MV.str), .int least] S = .ok (.bl true) S := by
  have hc : b_is_named_c1 [some (.lst (zs.map MV.str)), some (.int least), none] S = .ok (.lst (List.replicate zs.length (MV.bl true))) S := by
    have w := mComp_pure (mu := false) (mi := mItS (mV 0)) (vs := [2]) (g := gN 2) (c := mYes) (e := mCall 1 m_is_name [] (mCons (mV 2) mNil)) (env := [some (.lst (zs.map MV.str)), some (.int least), none]) (S := S) (t := ⟨zs.map MV.str, []⟩) (p := fun _ => true) (F := fun _ => .bl true)
      (by simp only [mItS, mV, List.getElem?_cons_zero, bind_ok, itL, asU, asL, depsOf, Option.map_some]) (fun acc => chk_nil rfl _) (by
        intro v hv
        obtain ⟨z, hm, rfl⟩ := List.mem_map.mp hv
        refine ⟨_, rfl, fun acc => ⟨rfl, fun _ => ?_⟩⟩
        have q := is_name_nm (hz z hm) (S ++ [.lst acc])
        simp only [env0, sRet, sBind, sSeq, sIf, sSet, sSub, sNext, sRetN, sDrop, mLst, mTup, mCons, mB, mBin, mV, mC, mNil, mCall, asB, asT, bind_ok, List.map_cons, List.map_nil, List.length_cons, List.length_nil, List.cons_append, List.nil_append, List.append_nil, List.getElem?_cons_zero, List.getElem?_cons_succ, List.set_cons_zero, List.set_cons_succ, List.replicate_zero, List.replicate_succ, List.replicate_one, if_true, if_false, Bool.false_eq_true, Nat.reduceSub, Nat.reduceAdd, Nat.sub_self, wipeE, q, reduceIte]) (by simp; unfold sizeLine; omega) (by
        rw [List.filter_eq_self.mpr (by simp), List.map_const']
        exact clL_true _ _)
    unfold b_is_named_c1
    rw [w]
    simp only [Bool.false_eq_true, if_false]
    rw [List.filter_eq_self.mpr (by simp), List.map_const', List.length_map]
  have c2 : (zs.length : Int) ≤ 4 := by omega
  have al := all_true zs.length S
  have lv := leave_bl S true
  generalize List.replicate zs.length (MV.bl true) = TT at hc al
  unfold m_is_named mDef b_is_named
  simp (decide := true) only [env0, sRet, sBind, sSeq, sIf, sSet, sSub, sNext, sRetN, sDrop, mLst, mTup, mCons, mB, mBin, mV, mC, mNil, mCall, asB, asT, bind_ok, List.map_cons, List.map_nil, List.length_cons, List.length_nil, List.cons_append, List.nil_append, List.append_nil, List.getElem?_cons_zero, List.getElem?_cons_succ, List.set_cons_zero, List.set_cons_succ, List.replicate_zero, List.replicate_succ, List.replicate_one, if_true, if_false, Bool.false_eq_true, Nat.reduceSub, Nat.reduceAdd, Nat.sub_self, mOrB, mNotB, fIsi, tyName, isiB, tru, mChain, fLe, fLen, lenM, asSq, asU, asL, List.length_map, h1, c2, decide_true, reduceIte, hc, al, lv]
theorem is_number_ok {i a b : Int} {S : Sto} : m_is_number [.int i, .int a, .int b] S = .ok (.bl (decide (a ≤ i) && decide (i ≤ b))) S := by
  unfold m_is_number mDef b_is_number
  by_cases h : a ≤ i
  · simp (decide := true) only [env0, sRet, sBind, sSeq, sIf, sSet, sSub, sNext, sRetN, sDrop, mLst, mTup, mCons, mB, mBin, mV, mC, mNil, mCall, asB, asT, bind_ok, List.map_cons, List.map_nil, List.length_cons, List.length_nil, List.cons_append, List.nil_append, List.append_nil, List.getElem?_cons_zero, List.getElem?_cons_succ, List.set_cons_zero, List.set_cons_succ, List.replicate_zero, List.replicate_succ, List.replicate_one, if_true, if_false, Bool.false_eq_true, Nat.reduceSub, Nat.reduceAdd, Nat.sub_self, mAndT, mNotT, fIsi, tyName, isiB, tru, mChain, fLe, h, decide_true, reduceIte, Bool.true_and, leave_bl]
  · simp (decide := true) only [env0, sRet, sBind, sSeq, sIf, sSet, sSub, sNext, sRetN, sDrop, mLst, mTup, mCons, mB, mBin, mV, mC, mNil, mCall, asB, asT, bind_ok, List.map_cons, List.map_nil, List.length_cons, List.length_nil, List.cons_append, List.nil_append, List.append_nil, List.getElem?_cons_zero, List.getElem?_cons_succ, List.set_cons_zero, List.set_cons_succ, List.replicate_zero, List.replicate_succ, List.replicate_one, if_true, if_false, Bool.false_eq_true, Nat.reduceSub, Nat.reduceAdd, Nat.sub_self, mAndT, mNotT, fIsi, tyName, isiB, tru, mChain, fLe, h, decide_false, reduceIte, Bool.false_and, leave_bl]
abbrev kvOf (ps : List (List Nat × Int)) : List (MV × MV) := ps.map fun p => (.str p.1, .int p.2)
theorem is_counted_ok {ps : List (List Nat × Int)} {least : Int} {S : Sto} (h2 : ps.length ≤ 6) (hz : ∀ p ∈ ps, Nm p.1 ∧ least ≤ p.2 ∧ p.2 ≤ 2) : m_is_counted [.dic (kvOf ps), .int least] S = .ok (.bl true) S := by
  have hc : b_is_counted_c1 [some (.dic (kvOf ps)), some (.int least), none, none] S = .ok (.lst (List.replicate ps.length (MV.bl true))) S := by
    unfold b_is_counted_c1 mCompD
    have q := compL_pure (t := ⟨itemsM 0 (kvOf ps), []⟩) (g := gT 2 (gCs (gN 2) (gCs (gN 3) gNl))) (c := mYes) (e := mAndT (mCall 1 m_is_name [] (mCons (mV 2) mNil)) (mCall 3 m_is_number [] (mCons (mV 3) (mCons (mV 1) (mCons (mC (.int 2)) mNil))))) (env := wipeE [some (.dic (kvOf ps)), some (.int least), none, none] [2, 3]) (S0 := S) (p := fun _ => true) (F := fun _ => .bl true) (fun acc => chk_nil rfl _) (itemsM 0 (kvOf ps)) [] (by
      intro v hv
      simp only [itemsM, kvOf, List.map_map] at hv
      obtain ⟨p, hm, rfl⟩ := List.mem_map.mp hv
      obtain ⟨n1, n2, n3⟩ := hz p hm
      refine ⟨[some (.dic (kvOf ps)), some (.int least), some (.str p.1), some (.int p.2)], rfl, fun acc => ⟨rfl, fun _ => ?_⟩⟩
      have q1 := is_name_nm n1 (S ++ [.lst acc])
      have q2 := is_number_ok (i := p.2) (a := least) (b := 2) (S := S ++ [.lst acc])
      rw [decide_eq_true n2, decide_eq_true n3] at q2
      simp only [env0, sRet, sBind, sSeq, sIf, sSet, sSub, sNext, sRetN, sDrop, mLst, mTup, mCons, mB, mBin, mV, mC, mNil, mCall, asB, asT, bind_ok, List.map_cons, List.map_nil, List.length_cons, List.length_nil, List.cons_append, List.nil_append, List.append_nil, List.getElem?_cons_zero, List.getElem?_cons_succ, List.set_cons_zero, List.set_cons_succ, List.replicate_zero, List.replicate_succ, List.replicate_one, if_true, if_false, Bool.false_eq_true, Nat.reduceSub, Nat.reduceAdd, Nat.sub_self, mAndT, q1, tru, q2, reduceIte, Bool.and_true]) (by simp [itemsM]; unfold sizeLine; omega)
    simp only [List.nil_append] at q
    rw [List.filter_eq_self.mpr (by simp), List.map_const'] at q
    have ln : (itemsM 0 (kvOf ps)).length = ps.length := by simp [itemsM]
    rw [ln] at q
    have lv := leaveV_new (S := S) (S1 := S) (keeps_refl S) rfl (clL_true S.length ps.length)
    simp only [List.getElem?_cons_zero, q, bind_ok, compE, Bool.false_eq_true, if_false, lv, noX]
  have c2 : ¬ (ps.length : Int) > 6 := by omega
  have al := all_true ps.length S
  have lv := leave_bl S true
  generalize List.replicate ps.length (MV.bl true) = TT at hc al
  have e0 : env0 4 [.dic (kvOf ps), .int least] = [some (.dic (kvOf ps)), some (.int least), none, none] := rfl
  have f0 : fIsi [.dic (kvOf ps), .ty "dict"] S = .ok (.bl true) S := rfl
  have f1 : fLen [.dic (kvOf ps)] S = .ok (.int (ps.length : Int)) S := by simp [fLen, lenM, asSq, asU, asL, asD]
  refine mDef_rt (n := 4) (b := b_is_counted) (S1 := S) (v := .bl true) ?_ lv
  rw [e0]
  generalize kvOf ps = KV at hc f0 f1
  unfold b_is_counted
  simp (decide := true) only [env0, sRet, sBind, sSeq, sIf, sSet, sSub, sNext, sRetN, sDrop, mLst, mTup, mCons, mB, mBin, mV, mC, mNil, mCall, asB, asT, bind_ok, List.map_cons, List.map_nil, List.length_cons, List.length_nil, List.cons_append, List.nil_append, List.append_nil, List.getElem?_cons_zero, List.getElem?_cons_succ, List.set_cons_zero, List.set_cons_succ, List.replicate_zero, List.replicate_succ, List.replicate_one, if_true, if_false, Bool.false_eq_true, Nat.reduceSub, Nat.reduceAdd, Nat.sub_self, mOrB, mNotB, f0, f1, tru, fGt, gt_iff_lt, c2, decide_false, reduceIte, hc, al, Bool.not_true]
def gearFs (u b d t : MV) : List (Str × MV) := [("upper", u), ("lower", b), ("makers", d), ("tellers", t)]
theorem put_up (y : MV) : putM "upper" y [] = ([("upper", y)] : List (Str × MV)) := rfl
theorem put_lo (u y : MV) : putM "lower" y ([("upper", u)] : List (Str × MV)) = ([("upper", u), ("lower", y)] : List (Str × MV)) := by
  simp only [putM, if_neg (by decide +kernel : ¬ ("upper" : Str) = "lower")]
theorem put_ma (u b y : MV) : putM "makers" y ([("upper", u), ("lower", b)] : List (Str × MV)) = ([("upper", u), ("lower", b), ("makers", y)] : List (Str × MV)) := by
  simp only [putM, if_neg (by decide +kernel : ¬ ("upper" : Str) = "makers"), if_neg (by decide +kernel : ¬ ("lower" : Str) = "makers")]
theorem put_te (u b d y : MV) : putM "tellers" y ([("upper", u), ("lower", b), ("makers", d)] : List (Str × MV)) = gearFs u b d y := by
  simp only [putM, gearFs, if_neg (by decide +kernel : ¬ ("upper" : Str) = "tellers"), if_neg (by decide +kernel : ¬ ("lower" : Str) = "tellers"), if_neg (by decide +kernel : ¬ ("makers" : Str) = "tellers")]
/-- o.f = e on the new place -/
theorem fld_new {c : Nat} {f : Str} {m : ME} {env : Env} {S : Sto} {y : MV} {fs : List (Str × MV)} (h0 : env[0]? = some (some (.ref S.length))) (hm : m env (S ++ [.ins c fs]) = .ok y (S ++ [.ins c fs])) (hl : fs.length < 1000) : sFldM c f (mV 0) m env (S ++ [.ins c fs]) = .nx env (S ++ [.ins c (putM f y fs)]) := by
  have g : (S ++ [MO.ins c fs])[S.length]? = some (.ins c fs) := by simp
  have st : (S ++ [MO.ins c fs]).set S.length (.ins c (putM f y fs)) = S ++ [.ins c (putM f y fs)] := by simp
  simp only [sFldM, hm, sBind, mV, h0, g, hl, and_self, if_true, st]
theorem fIsN (x : MV) (env : Env) (S : Sto) (i : Nat) (h : env[i]? = some (some x)) : asB (mIsN (mV i)) env S = .ok (isN x) S := by
  simp only [asB, mIsN, mV, h, bind_ok]
theorem gear_run {u b d t hid dee ask ub ubd ev dk tk : MV} {zs : List (List Nat)} {S : Sto}
    (o1 : hid = b ∧ isN b = false ∨ hid = .non ∧ b = .lst []) (o2 : dee = d ∧ isN d = false ∨ dee = .non ∧ d = .dic []) (o3 : ask = t ∧ isN t = false ∨ ask = .non ∧ t = .dic [])
    (n1 : ∀ S, m_is_named [u, .int 1] S = .ok (.bl true) S) (n2 : ∀ S, m_is_named [b, .int 0] S = .ok (.bl true) S) (n3 : ∀ S, m_is_counted [d, .int 0] S = .ok (.bl true) S) (n4 : ∀ S, m_is_counted [t, .int 1] S = .ok (.bl true) S)
    (a1 : ∀ S, fAdd false u b S = .ok ub S) (k1 : ∀ S, fListA false [d] S = .ok dk S) (a2 : ∀ S, fAdd false ub dk S = .ok ubd S) (k2 : ∀ S, fListA false [t] S = .ok tk S) (a3 : ∀ S, fAdd false ubd tk S = .ok ev S)
    (z1 : ∀ S, (asL S ev).bind strsOf = some zs) (z2 : zs.length ≤ 4000) (z3 : (onceM zs).length = zs.length) (z4 : ∀ S, fLen [ev] S = .ok (.int (zs.length : Int)) S) (z5 : ∀ S, fIn (.str [112]) ev S = .ok (.bl false) S) (z6 : ∀ S, fIn (.str [113]) ev S = .ok (.bl false) S)
    (l1 : ∀ S, fListA false [u] S = .ok u S) (l2 : ∀ S, fListA false [b] S = .ok b S) (l3 : ∀ S, fDict false [d] S = .ok d S) (l4 : ∀ S, fDict false [t] S = .ok t S) (cl : ∀ n, Clf n (gearFs u b d t)) :
    m_Gear_init [.ref S.length, u, hid, dee, ask] (S ++ [.ins 0 []]) = .ok .non (S ++ [.ins 0 (gearFs u b d t)]) := by
  have run : b_Gear_init (env0 9 [.ref S.length, u, hid, dee, ask]) (S ++ [.ins 0 []]) = .nx [some (.ref S.length), some u, some hid, some dee, some ask, some b, some d, some t, some ev] (S ++ [.ins 0 (gearFs u b d t)]) := by
    have s1 : sSet 5 (mIf (asB (mIsN (mV 2))) (mLst false mNil) (mV 2)) (env0 9 [.ref S.length, u, hid, dee, ask]) (S ++ [.ins 0 []]) = .nx [some (.ref S.length), some u, some hid, some dee, some ask, some b, none, none, none] (S ++ [.ins 0 []]) := by
      rcases o1 with ⟨rfl, h⟩ | ⟨rfl, rfl⟩
      · simp only [sSet, mIf, fIsN hid (env0 9 [.ref S.length, u, hid, dee, ask]) (S ++ [.ins 0 []]) 2 rfl, h, bind_ok, Bool.false_eq_true, if_false, sBind]
        rfl
      · rfl
    have s2 : sSet 6 (mIf (asB (mIsN (mV 3))) (mDic0 false) (mV 3)) [some (.ref S.length), some u, some hid, some dee, some ask, some b, none, none, none] (S ++ [.ins 0 []]) = .nx [some (.ref S.length), some u, some hid, some dee, some ask, some b, some d, none, none] (S ++ [.ins 0 []]) := by
      rcases o2 with ⟨rfl, h⟩ | ⟨rfl, rfl⟩
      · simp only [sSet, mIf, fIsN dee [some (.ref S.length), some u, some hid, some dee, some ask, some b, none, none, none] (S ++ [.ins 0 []]) 3 rfl, h, bind_ok, Bool.false_eq_true, if_false, sBind]
        rfl
      · rfl
    have s3 : sSet 7 (mIf (asB (mIsN (mV 4))) (mDic0 false) (mV 4)) [some (.ref S.length), some u, some hid, some dee, some ask, some b, some d, none, none] (S ++ [.ins 0 []]) = .nx [some (.ref S.length), some u, some hid, some dee, some ask, some b, some d, some t, none] (S ++ [.ins 0 []]) := by
      rcases o3 with ⟨rfl, h⟩ | ⟨rfl, rfl⟩
      · simp only [sSet, mIf, fIsN ask [some (.ref S.length), some u, some hid, some dee, some ask, some b, some d, none, none] (S ++ [.ins 0 []]) 4 rfl, h, bind_ok, Bool.false_eq_true, if_false, sBind]
        rfl
      · rfl
    refine Eq.trans (seq_nx s1) (Eq.trans (seq_nx s2) (Eq.trans (seq_nx s3) ?_))
    refine Eq.trans (seq_nx (S1 := S ++ [.ins 0 []]) (e := [some (.ref S.length), some u, some hid, some dee, some ask, some b, some d, some t, none]) (by simp only [env0, sRet, sBind, sSeq, sIf, sSet, sSub, sNext, sRetN, sDrop, mLst, mTup, mCons, mB, mBin, mV, mC, mNil, mCall, asB, asT, bind_ok, List.map_cons, List.map_nil, List.length_cons, List.length_nil, List.cons_append, List.nil_append, List.append_nil, List.getElem?_cons_zero, List.getElem?_cons_succ, List.set_cons_zero, List.set_cons_succ, List.replicate_zero, List.replicate_succ, List.replicate_one, if_true, if_false, Bool.false_eq_true, Nat.reduceSub, Nat.reduceAdd, Nat.sub_self, mOrB, mNotB, n1, n2, tru, Bool.not_true])) ?_
    refine Eq.trans (seq_nx (S1 := S ++ [.ins 0 []]) (e := [some (.ref S.length), some u, some hid, some dee, some ask, some b, some d, some t, none]) (by simp only [env0, sRet, sBind, sSeq, sIf, sSet, sSub, sNext, sRetN, sDrop, mLst, mTup, mCons, mB, mBin, mV, mC, mNil, mCall, asB, asT, bind_ok, List.map_cons, List.map_nil, List.length_cons, List.length_nil, List.cons_append, List.nil_append, List.append_nil, List.getElem?_cons_zero, List.getElem?_cons_succ, List.set_cons_zero, List.set_cons_succ, List.replicate_zero, List.replicate_succ, List.replicate_one, if_true, if_false, Bool.false_eq_true, Nat.reduceSub, Nat.reduceAdd, Nat.sub_self, mOrB, mNotB, n3, n4, tru, Bool.not_true])) ?_
    refine Eq.trans (seq_nx (S1 := S ++ [.ins 0 []]) (e := [some (.ref S.length), some u, some hid, some dee, some ask, some b, some d, some t, some ev]) (by simp only [env0, sRet, sBind, sSeq, sIf, sSet, sSub, sNext, sRetN, sDrop, mLst, mTup, mCons, mB, mBin, mV, mC, mNil, mCall, asB, asT, bind_ok, List.map_cons, List.map_nil, List.length_cons, List.length_nil, List.cons_append, List.nil_append, List.append_nil, List.getElem?_cons_zero, List.getElem?_cons_succ, List.set_cons_zero, List.set_cons_succ, List.replicate_zero, List.replicate_succ, List.replicate_one, if_true, if_false, Bool.false_eq_true, Nat.reduceSub, Nat.reduceAdd, Nat.sub_self, a1, k1, a2, k2, a3])) ?_
    refine Eq.trans (seq_nx (S1 := S ++ [.ins 0 []]) (e := [some (.ref S.length), some u, some hid, some dee, some ask, some b, some d, some t, some ev]) (by simp only [env0, sRet, sBind, sSeq, sIf, sSet, sSub, sNext, sRetN, sDrop, mLst, mTup, mCons, mB, mBin, mV, mC, mNil, mCall, asB, asT, bind_ok, List.map_cons, List.map_nil, List.length_cons, List.length_nil, List.cons_append, List.nil_append, List.append_nil, List.getElem?_cons_zero, List.getElem?_cons_succ, List.set_cons_zero, List.set_cons_succ, List.replicate_zero, List.replicate_succ, List.replicate_one, if_true, if_false, Bool.false_eq_true, Nat.reduceSub, Nat.reduceAdd, Nat.sub_self, mOrB, mLenOnce, z1, if_pos z2, z3, z4, z5, z6, fNe_int, decide_true, Bool.not_true])) ?_
    refine Eq.trans (seq_nx (fld_new (y := u) rfl (by simp only [env0, sRet, sBind, sSeq, sIf, sSet, sSub, sNext, sRetN, sDrop, mLst, mTup, mCons, mB, mBin, mV, mC, mNil, mCall, asB, asT, bind_ok, List.map_cons, List.map_nil, List.length_cons, List.length_nil, List.cons_append, List.nil_append, List.append_nil, List.getElem?_cons_zero, List.getElem?_cons_succ, List.set_cons_zero, List.set_cons_succ, List.replicate_zero, List.replicate_succ, List.replicate_one, if_true, if_false, Bool.false_eq_true, Nat.reduceSub, Nat.reduceAdd, Nat.sub_self, l1]) (by decide))) ?_
    rw [put_up]
    refine Eq.trans (seq_nx (fld_new (y := b) rfl (by simp only [env0, sRet, sBind, sSeq, sIf, sSet, sSub, sNext, sRetN, sDrop, mLst, mTup, mCons, mB, mBin, mV, mC, mNil, mCall, asB, asT, bind_ok, List.map_cons, List.map_nil, List.length_cons, List.length_nil, List.cons_append, List.nil_append, List.append_nil, List.getElem?_cons_zero, List.getElem?_cons_succ, List.set_cons_zero, List.set_cons_succ, List.replicate_zero, List.replicate_succ, List.replicate_one, if_true, if_false, Bool.false_eq_true, Nat.reduceSub, Nat.reduceAdd, Nat.sub_self, l2]) (by simp))) ?_
    rw [put_lo]
    refine Eq.trans (seq_nx (fld_new (y := d) rfl (by simp only [env0, sRet, sBind, sSeq, sIf, sSet, sSub, sNext, sRetN, sDrop, mLst, mTup, mCons, mB, mBin, mV, mC, mNil, mCall, asB, asT, bind_ok, List.map_cons, List.map_nil, List.length_cons, List.length_nil, List.cons_append, List.nil_append, List.append_nil, List.getElem?_cons_zero, List.getElem?_cons_succ, List.set_cons_zero, List.set_cons_succ, List.replicate_zero, List.replicate_succ, List.replicate_one, if_true, if_false, Bool.false_eq_true, Nat.reduceSub, Nat.reduceAdd, Nat.sub_self, l3]) (by simp))) ?_
    rw [put_ma]
    refine Eq.trans (fld_new (y := t) rfl (by simp only [env0, sRet, sBind, sSeq, sIf, sSet, sSub, sNext, sRetN, sDrop, mLst, mTup, mCons, mB, mBin, mV, mC, mNil, mCall, asB, asT, bind_ok, List.map_cons, List.map_nil, List.length_cons, List.length_nil, List.cons_append, List.nil_append, List.append_nil, List.getElem?_cons_zero, List.getElem?_cons_succ, List.set_cons_zero, List.set_cons_succ, List.replicate_zero, List.replicate_succ, List.replicate_one, if_true, if_false, Bool.false_eq_true, Nat.reduceSub, Nat.reduceAdd, Nat.sub_self, l4]) (by simp)) ?_
    rw [put_te]
  have keep : Keeps (S ++ [MO.ins 0 []]) (S ++ [MO.ins 0 (gearFs u b d t)]) := by
    have e : S ++ [MO.ins 0 (gearFs u b d t)] = (S ++ [MO.ins 0 []]).set S.length (.ins 0 (gearFs u b d t)) := by simp
    rw [e]
    refine keeps_set (keeps_refl _) ?_
    exact cl _
  have lv : leaveV (S ++ [MO.ins 0 []]) (S ++ [MO.ins 0 (gearFs u b d t)]) .non = .ok .non (S ++ [.ins 0 (gearFs u b d t)]) := by
    rw [leaveV_cl keep (by simp [Cl])]
    congr 1
    rw [List.take_of_length_le (by simp)]
  unfold m_Gear_init mDef
  rw [run]
  exact lv
theorem clf_gear {n : Nat} {u b d t : MV} (h1 : Cl n u) (h2 : Cl n b) (h3 : Cl n d) (h4 : Cl n t) : Clf n (gearFs u b d t) := by
  simp only [gearFs, Clf, Clg]; exact ⟨h1, h2, h3, h4, trivial⟩
theorem clk_kv (n : Nat) : ∀ ps : List (List Nat × Int), Clk n (kvOf ps)
  | [] => by simp only [kvOf, List.map_nil, Clk]
  | p :: r => by simp only [kvOf, List.map_cons, Clk, Clp]; exact ⟨by simp only [Cl], clk_kv n r⟩
theorem once_nodup : ∀ zs : List (List Nat), zs.Nodup → onceM zs = zs := by
  have key : ∀ (zs acc : List (List Nat)), (acc ++ zs).Nodup → zs.foldl (fun acc x => if x ∈ acc then acc else acc ++ [x]) acc = acc ++ zs := by
    intro zs
    induction zs with
    | nil => intro acc _; simp
    | cons z r ih =>
      intro acc h
      have hz : z ∉ acc := by
        rw [List.nodup_append] at h
        exact fun q => h.2.2 z q z (by simp) rfl
      rw [List.foldl_cons, if_neg hz, ih _ (by simpa using h)]
      simp
  intro zs h
  exact (key zs [] (by simpa using h)).trans (List.nil_append zs)
/-- a gear of good names -/
structure GearOk (U L : List (List Nat)) (D T : List (List Nat × Int)) : Prop where
  u1 : 1 ≤ U.length
  u4 : U.length ≤ 4
  l4 : L.length ≤ 4
  d6 : D.length ≤ 6
  t6 : T.length ≤ 6
  nU : ∀ z ∈ U, Nm z
  nL : ∀ z ∈ L, Nm z
  nD : ∀ p ∈ D, Nm p.1 ∧ 0 ≤ p.2 ∧ p.2 ≤ 2
  nT : ∀ p ∈ T, Nm p.1 ∧ 1 ≤ p.2 ∧ p.2 ≤ 2
  nd : (U ++ L ++ D.map (·.1) ++ T.map (·.1)).Nodup
theorem kv_keys (ps : List (List Nat × Int)) : (kvOf ps).map (fun p => p.1) = (ps.map (·.1)).map MV.str := by
  simp only [kvOf, List.map_map]; rfl
theorem gear_init_ok {U L : List (List Nat)} {D T : List (List Nat × Int)} {hid dee ask : MV} {S : Sto} (g : GearOk U L D T) (o1 : hid = .lst (L.map MV.str) ∨ hid = .non ∧ L = []) (o2 : dee = .dic (kvOf D) ∨ dee = .non ∧ D = []) (o3 : ask = .dic (kvOf T) ∨ ask = .non ∧ T = []) :
    m_Gear_init [.ref S.length, .lst (U.map MV.str), hid, dee, ask] (S ++ [.ins 0 []]) = .ok .non (S ++ [.ins 0 (gearFs (.lst (U.map MV.str)) (.lst (L.map MV.str)) (.dic (kvOf D)) (.dic (kvOf T)))]) := by
  have add : ∀ (A B : List (List Nat)) (S : Sto), A.length + B.length ≤ 40 → fAdd false (.lst (A.map MV.str)) (.lst (B.map MV.str)) S = .ok (.lst ((A ++ B).map MV.str)) S := fun A B S h => by
    have c : (A.map MV.str).length + (B.map MV.str).length ≤ sizeLine := by rw [List.length_map, List.length_map]; unfold sizeLine; omega
    simp only [fAdd, asH, if_pos c, mkL, Bool.false_eq_true, if_false, List.map_append]
  have lst : ∀ (A : List (List Nat)) (S : Sto), fListA false [.lst (A.map MV.str)] S = .ok (.lst (A.map MV.str)) S := fun A S => rfl
  have keys : ∀ (ps : List (List Nat × Int)) (S : Sto), fListA false [.dic (kvOf ps)] S = .ok (.lst ((ps.map (·.1)).map MV.str)) S := fun ps S => by
    rw [← kv_keys]; rfl
  have dic : ∀ (ps : List (List Nat × Int)) (S : Sto), fDict false [.dic (kvOf ps)] S = .ok (.dic (kvOf ps)) S := fun ps S => rfl
  have len : (U ++ L ++ D.map (·.1) ++ T.map (·.1)).length ≤ 20 := by
    have := g.u4; have := g.l4; have := g.d6; have := g.t6
    simp only [List.length_append, List.length_map]; omega
  have notin : ∀ q : List Nat, (∀ z, Nm z → z ≠ q) → q ∉ U ++ L ++ D.map (·.1) ++ T.map (·.1) := by
    intro q hq hm
    rcases List.mem_append.mp hm with hm | hm
    · rcases List.mem_append.mp hm with hm | hm
      · rcases List.mem_append.mp hm with hm | hm
        · exact hq q (g.nU q hm) rfl
        · exact hq q (g.nL q hm) rfl
      · obtain ⟨p, hp, rfl⟩ := List.mem_map.mp hm
        exact hq _ (g.nD p hp).1 rfl
    · obtain ⟨p, hp, rfl⟩ := List.mem_map.mp hm
      exact hq _ (g.nT p hp).1 rfl
  have isin : ∀ (q : List Nat) (S : Sto), (∀ z, Nm z → z ≠ q) → fIn (.str q) (.lst ((U ++ L ++ D.map (·.1) ++ T.map (·.1)).map MV.str)) S = .ok (.bl false) S := fun q S hq => by
    simp only [fIn, in_strs (S := S) (x := .lst ((U ++ L ++ D.map (·.1) ++ T.map (·.1)).map MV.str)) (F := U ++ L ++ D.map (·.1) ++ T.map (·.1)) rfl (fun s => by simp), decide_eq_false (notin q hq)]
  refine gear_run (b := .lst (L.map MV.str)) (d := .dic (kvOf D)) (t := .dic (kvOf T)) (zs := U ++ L ++ D.map (·.1) ++ T.map (·.1)) ?_ ?_ ?_ (fun S => is_named_ok (by have := g.u1; omega) g.u4 g.nU) (fun S => is_named_ok (by omega) g.l4 g.nL) (fun S => is_counted_ok g.d6 g.nD) (fun S => is_counted_ok g.t6 g.nT)
    (fun S => add U L S (by have := g.u4; have := g.l4; omega)) (fun S => keys D S) (fun S => add (U ++ L) (D.map (·.1)) S ?_) (fun S => keys T S) (fun S => add (U ++ L ++ D.map (·.1)) (T.map (·.1)) S ?_) (fun S => ?_) (by omega) (by rw [once_nodup _ g.nd]) (fun S => ?_) (fun S => isin _ S fun z h => h.np) (fun S => isin _ S fun z h => h.nq) (fun S => lst U S) (fun S => lst L S) (fun S => dic D S) (fun S => dic T S) (fun n => clf_gear (by simp only [Cl]; exact clL_strs _ _) (by simp only [Cl]; exact clL_strs _ _) (by simp only [Cl]; exact clk_kv _ _) (by simp only [Cl]; exact clk_kv _ _))
  · rcases o1 with h | ⟨h, rfl⟩
    · exact .inl ⟨h, rfl⟩
    · exact .inr ⟨h, rfl⟩
  · rcases o2 with h | ⟨h, rfl⟩
    · exact .inl ⟨h, rfl⟩
    · exact .inr ⟨h, rfl⟩
  · rcases o3 with h | ⟨h, rfl⟩
    · exact .inl ⟨h, rfl⟩
    · exact .inr ⟨h, rfl⟩
  · have := g.u4; have := g.l4; have := g.d6
    simp only [List.length_append, List.length_map]; omega
  · have := g.u4; have := g.l4; have := g.d6; have := g.t6
    simp only [List.length_append, List.length_map]; omega
  · show ((some ((U ++ L ++ D.map (·.1) ++ T.map (·.1)).map MV.str)).bind strsOf) = _
    rw [Option.bind_some, strs_map]
  · have e : lenM S (.lst ((U ++ L ++ D.map (·.1) ++ T.map (·.1)).map MV.str)) = some ((U ++ L ++ D.map (·.1) ++ T.map (·.1)).map MV.str).length := rfl
    simp only [fLen, e, List.length_map]
theorem optL_clf {S : Sto} {n d : Nat} : ∀ {fs : List (Str × MV)}, Clf n fs → optL (fun p => (fz S n d p.2).map fun y => (p.1, y)) fs = some fs
  | [], _ => rfl
  | (k, v) :: r, h => by
    simp only [Clf, Clg] at h
    have h1 := optL_clf (S := S) (d := d) h.2
    simp only [optL, h1]
    rw [fz_cl h.1]
    rfl
theorem leaveV_newI {S S1 : Sto} {c : Nat} {fs : List (Str × MV)} (k : Keeps S S1) (hl : S1.length = S.length) (h : Clf S.length fs) : leaveV S (S1 ++ [.ins c fs]) (.ref S.length) = .ok (.ins c fs) S1 := by
  unfold leaveV
  rw [if_pos (keeps_app _ k)]
  have e : (S1 ++ [MO.ins c fs])[S.length]? = some (.ins c fs) := by rw [← hl]; simp
  have f : fz (S1 ++ [MO.ins c fs]) S.length 6 (.ref S.length) = some (.ins c fs) := by
    unfold fz
    rw [if_neg (by simp [Cl])]
    simp only [e, optL_clf h, Option.map_some]
  rw [f]
  simp only [← hl]
  rw [List.take_left]
/-- a gear as a value -/
abbrev gearM (U L : List (List Nat)) (D T : List (List Nat × Int)) : MV := .ins 0 (gearFs (.lst (U.map MV.str)) (.lst (L.map MV.str)) (.dic (kvOf D)) (.dic (kvOf T)))
theorem gear_cl (U L : List (List Nat)) (D T : List (List Nat × Int)) (n : Nat) : Clf n (gearFs (.lst (U.map MV.str)) (.lst (L.map MV.str)) (.dic (kvOf D)) (.dic (kvOf T))) :=
  clf_gear (by simp only [Cl]; exact clL_strs _ _) (by simp only [Cl]; exact clL_strs _ _) (by simp only [Cl]; exact clk_kv _ _) (by simp only [Cl]; exact clk_kv _ _)
theorem gear_made {U L : List (List Nat)} {D T : List (List Nat × Int)} {hid dee ask : MV} {S S1 : Sto} {env : Env} {as : MA} {vs ms : List MV} (g : GearOk U L D T) (ha : as env S = .ok vs S1) (hv : vs ++ ms = [.lst (U.map MV.str), hid, dee, ask])
    (o1 : hid = .lst (L.map MV.str) ∨ hid = .non ∧ L = []) (o2 : dee = .dic (kvOf D) ∨ dee = .non ∧ D = []) (o3 : ask = .dic (kvOf T) ∨ ask = .non ∧ T = []) : mMake false 0 5 m_Gear_init ms as env S = .ok (gearM U L D T) S1 := by
  have q := gear_init_ok (S := S1) g o1 o2 o3
  have lv := leaveV_newI (S := S1) (S1 := S1) (c := 0) (keeps_refl S1) rfl (gear_cl U L D T S1.length)
  unfold mMake
  simp only [ha, bind_ok, hv]
  rw [if_pos (show [MV.ref S1.length, MV.lst (U.map MV.str), hid, dee, ask].length = 5 from rfl), q]
  simp only [compE, Bool.false_eq_true, if_false, lv]
theorem look_up (u b d t : MV) : (gearFs u b d t).lookup ("upper" : Str) = some u ∧ (gearFs u b d t).lookup ("lower" : Str) = some b ∧ (gearFs u b d t).lookup ("makers" : Str) = some d ∧ (gearFs u b d t).lookup ("tellers" : Str) = some t := by
  have e1 : (("lower" : Str) == "upper") = false := by decide +kernel
  have e2 : (("makers" : Str) == "upper") = false := by decide +kernel
  have e3 : (("makers" : Str) == "lower") = false := by decide +kernel
  have e4 : (("tellers" : Str) == "upper") = false := by decide +kernel
  have e5 : (("tellers" : Str) == "lower") = false := by decide +kernel
  have e6 : (("tellers" : Str) == "makers") = false := by decide +kernel
  simp only [gearFs, List.lookup_cons, beq_self_eq_true, e1, e2, e3, e4, e5, e6, and_self]
theorem gear_deeds_ok {U L : List (List Nat)} {D T : List (List Nat × Int)} {S : Sto} : m_Gear_deeds [gearM U L D T] S = .ok (.dic (kvOf D)) S := by
  have lv : leaveV S S (.dic (kvOf D)) = .ok (.dic (kvOf D)) S := by
    rw [leaveV_cl (keeps_refl S) (by simp only [Cl]; exact clk_kv _ _), List.take_length]
  have lk := (look_up (.lst (U.map MV.str)) (.lst (L.map MV.str)) (.dic (kvOf D)) (.dic (kvOf T))).2.2.1
  have fd : fDict false [.dic (kvOf D)] S = .ok (.dic (kvOf D)) S := rfl
  have m1 : mFld 0 "makers" (mV 0) [some (gearM U L D T)] S = .ok (.dic (kvOf D)) S := by
    simp only [mFld, mV, List.getElem?_cons_zero, bind_ok, insOf, if_true, lk]
  refine mDef_rt (n := 1) (b := b_Gear_deeds) (S1 := S) (v := .dic (kvOf D)) ?_ lv
  show b_Gear_deeds [some (gearM U L D T)] S = _
  unfold b_Gear_deeds
  simp only [sRet, mB, mCons, mNil, m1, bind_ok, fd, sBind]
/-! ### draws beside other places -/
theorem compL_drawsK {Kp : Sto → Prop} {t : Itv} {g : MG} {e : ME} {P : MV → Prop} {l m q : Nat} {env : Env} (ht : t.deps = []) (hlm : l ≠ m) {N : Nat} (k1 : ∀ S S1 q, Kp S → Draws l q S S1 → Kp S1) (k2 : ∀ S o, Kp S → Kp (S.set m o)) :
    ∀ (items : List MV) (n : Nat) (S : Sto) (acc : List MV), (∀ v ∈ items, ∃ env1, g v env = some env1 ∧ ∀ (n : Nat) (S : Sto), n + q ≤ N → m < S.length → HasDr l n S → Kp S → ∃ y S1, e env1 S = .ok y S1 ∧ Draws l q S S1 ∧ P y) →
      HasDr l n S → Kp S → n + q * items.length ≤ N → S[m]? = some (.lst acc) → acc.length + items.length ≤ sizeLine →
      ∃ S1 ys, compL t g mYes e m items env S = .ok () (S1.set m (.lst (acc ++ ys))) ∧ ys.length = items.length ∧ (∀ y ∈ ys, P y) ∧ Draws l (q * items.length) S S1
  | [], n, S, acc, _, hd, _, _, hm, _ => by
    refine ⟨S, [], ?_, rfl, by simp, (Draws.zero hd).mono (by omega)⟩
    unfold compL
    rw [if_pos (chk_nil ht S), List.append_nil]
    obtain ⟨h1, h2⟩ := List.getElem?_eq_some_iff.mp hm
    congr 1
    rw [← h2]; simp
  | v :: r, n, S, acc, h, hd, hkp, hn, hm, hs => by
    rw [List.length_cons, Nat.mul_add, Nat.mul_one] at hn
    rw [List.length_cons] at hs
    obtain ⟨env1, h1, h2⟩ := h v (by simp)
    have hml : m < S.length := (List.getElem?_eq_some_iff.mp hm).1
    obtain ⟨y, S1, e1, d1, py⟩ := h2 n S (by omega) hml hd hkp
    have hm1 : S1[m]? = some (.lst acc) := by rw [d1.ne hlm]; exact hm
    have hml1 : m < S1.length := by rw [d1.len]; exact hml
    have hd1 := hd.draws d1
    have hd2 : HasDr l (n + q) (S1.set m (.lst (acc ++ [y]))) := by
      obtain ⟨a, b, c, g1, g2⟩ := hd1
      exact ⟨a, b, c, by rw [List.getElem?_set_ne (Ne.symm hlm)]; exact g1, g2⟩
    obtain ⟨S3, ys, e3, l3, p3, d3⟩ := compL_drawsK ht hlm k1 k2 r (n + q) (S1.set m (.lst (acc ++ [y]))) (acc ++ [y]) (fun u hu => h u (List.mem_cons_of_mem _ hu)) hd2 (k2 _ _ (k1 _ _ _ hkp d1)) (by omega) (by rw [List.getElem?_set_self hml1]) (by rw [List.length_append]; simp; omega)
    obtain ⟨a, b, c, a', c', g1, rfl, g3, g4⟩ := d3
    rw [List.getElem?_set_ne (Ne.symm hlm)] at g1
    have d4 : Draws l (q * r.length) S1 (S1.set l (dr a' b c')) := ⟨a, b, c, a', c', g1, rfl, g3, g4⟩
    refine ⟨S1.set l (dr a' b c'), y :: ys, ?_, by simp [l3], ?_, (d1.trans d4).mono (by rw [List.length_cons, Nat.mul_add, Nat.mul_one]; omega)⟩
    · unfold compL
      rw [if_pos (chk_nil ht S)]
      simp only [h1, mYes, e1, hm1]
      rw [if_pos (by omega)]
      rw [e3, List.set_comm _ _ (Ne.symm hlm), List.set_set, List.append_assoc]
      try rfl
    · intro u hu
      rcases List.mem_cons.mp hu with rfl | hu
      · exact py
      · exact p3 u hu
theorem mComp_drawsK {mu : Bool} {mi : Env → Sto → Res Itv} {vs : List Nat} {g : MG} {e : ME} {env : Env} {S S1 : Sto} {t : Itv} {P : MV → Prop} {l n q k N : Nat} (hi : mi env S = .ok t S1) (hd : HasDr l n S) (d0 : Draws l k S S1) (ht : t.deps = [])
    (h : ∀ v ∈ t.items, ∃ env1, g v (wipeE env vs) = some env1 ∧ ∀ (n : Nat) (S' : Sto), n + q ≤ N → S.length < S'.length → HasDr l n S' → (∀ j, j < S.length → j ≠ l → S'[j]? = S[j]?) → ∃ y S2, e env1 S' = .ok y S2 ∧ Draws l q S' S2 ∧ P y) (hn : n + k + q * t.items.length ≤ N) (hs : t.items.length ≤ sizeLine) (hc : ∀ y, P y → Cl S.length y) :
    ∃ S2 ys, mComp mu mi vs g mYes e env S = (if mu = true then .ok (.ref S.length) (S2 ++ [.lst ys]) else .ok (.lst ys) S2) ∧ ys.length = t.items.length ∧ (∀ y ∈ ys, P y) ∧ Draws l (k + q * t.items.length) S S2 := by
  have hd1 := hd.draws d0
  have hl1 := hd1.lt
  have hne : l ≠ S1.length := by omega
  obtain ⟨S3, ys, e3, l3, p3, d3⟩ := compL_drawsK (Kp := fun S' => ∀ j, j < S.length → j ≠ l → S'[j]? = S[j]?) (t := t) (g := g) (e := e) (P := P) (l := l) (m := S1.length) (q := q) (env := wipeE env vs) (N := N) ht hne (fun S' S2 q hK d j h1 h2 => by rw [d.ne (Ne.symm h2)]; exact hK j h1 h2) (fun S' o hK j h1 h2 => by rw [List.getElem?_set_ne (by rw [d0.len]; omega)]; exact hK j h1 h2) t.items (n + k) (S1 ++ [.lst []]) [] (by
    rw [d0.len]
    exact h) (hd1.app _) (fun j h1 h2 => by rw [List.getElem?_append_left (by rw [d0.len]; exact h1)]; exact d0.ne (Ne.symm h2)) (by omega) (by simp) (by simpa using hs)
  obtain ⟨S4, rfl, d4⟩ := d3.app hl1
  have h4 := d4.len
  have hcl : ClL S.length ys := by
    clear e3 l3 d3
    induction ys with
    | nil => simp only [ClL]
    | cons a b ih => simp only [ClL]; exact ⟨hc a (p3 a (by simp)), ih fun y hy => p3 y (List.mem_cons_of_mem _ hy)⟩
  refine ⟨S4, ys, ?_, l3, p3, d0.trans d4⟩
  unfold mComp
  have e5 : (S4 ++ [MO.lst []]).set S1.length (.lst ([] ++ ys)) = S4 ++ [.lst ys] := by rw [← h4]; simp
  rw [e5] at e3
  simp only [hi, bind_ok, e3, compE]
  cases mu with
  | true => simp only [if_true, d0.len]
  | false =>
    simp only [Bool.false_eq_true, if_false]
    exact leaveV_new d4.keeps h4 (by rw [d0.len]; exact hcl)
end Sh
end Mi

namespace Mi
open PySem L2 Sh

/-! ### what is wanted behind a run of the mirror -/
def Wp {α : Type} (r : Res α) (Q : α → Sto → Prop) (E : MX → Sto → Prop) : Prop := match r with
  | .ok a S => Q a S
  | .ex x S => E x S
  | .bad => False
abbrev EE := MX → Env → Sto → Prop
def Get {α : Type} (o : Option α) (q : α → Prop) : Prop := match o with
  | some a => q a
  | none => False
def An (p q : Prop) : Prop := p ∧ q
theorem get {α : Type} {o : Option α} {q : α → Prop} {a : α} (h : o = some a) (k : q a) : Get o q := by subst h; exact k
theorem Get.ex {α : Type} {o : Option α} {q : α → Prop} (h : Get o q) : ∃ a, o = some a ∧ q a := by
  cases o with
  | none => exact h.elim
  | some a => exact ⟨a, rfl, h⟩
theorem an {p q : Prop} (h : p) (k : q) : An p q := ⟨h, k⟩
def intOf : MV → Option Int
  | .int i => some i
  | _ => none
def int1 : List MV → Option Int
  | [.int i] => some i
  | _ => none
def int2 : List MV → Option (Int × Int)
  | [.int i, .int j] => some (i, j)
  | _ => none
def strOf : MV → Option (List Nat)
  | .str z => some z
  | _ => none
def one1 : List MV → Option MV
  | [x] => some x
  | _ => none
def two2 : List MV → Option (MV × MV)
  | [x, y] => some (x, y)
  | _ => none
theorem intOf_eq {x : MV} {i : Int} (h : intOf x = some i) : x = .int i := by
  cases x <;> simp [intOf] at h; rw [h]
theorem strOf_eq {x : MV} {i : List Nat} (h : strOf x = some i) : x = .str i := by
  cases x <;> simp [strOf] at h; rw [h]
theorem int1_eq {xs : List MV} {i : Int} (h : int1 xs = some i) : xs = [.int i] := by
  unfold int1 at h; split at h
  · cases h; rfl
  · cases h
theorem int2_eq {xs : List MV} {p : Int × Int} (h : int2 xs = some p) : xs = [.int p.1, .int p.2] := by
  unfold int2 at h; split at h
  · cases h; rfl
  · cases h
theorem one1_eq {xs : List MV} {i : MV} (h : one1 xs = some i) : xs = [i] := by
  unfold one1 at h; split at h
  · cases h; rfl
  · cases h
theorem two2_eq {xs : List MV} {p : MV × MV} (h : two2 xs = some p) : xs = [p.1, p.2] := by
  unfold two2 at h; split at h
  · cases h; rfl
  · cases h
def Ws (r : SRes) (N : Env → Sto → Prop) (R : MV → Sto → Prop) (B C : Env → Sto → Prop) (E : EE) : Prop := match r with
  | .nx e S => N e S
  | .rt v S => R v S
  | .bk e S => B e S
  | .ct e S => C e S
  | .ex x e S => E x e S
  | .bad => False
section
variable {α β : Type} {Q Q' : α → Sto → Prop} {E E' : MX → Sto → Prop} {N N' : Env → Sto → Prop} {R R' : MV → Sto → Prop} {B B' C C' : Env → Sto → Prop} {X X' : EE} {env : Env} {S S1 : Sto}
theorem wp_eq {r : Res α} {v : α} (h : r = .ok v S) (q : Q v S) : Wp r Q E := by rw [h]; exact q
theorem wp_mono {r : Res α} (h : Wp r Q E) (q : ∀ v S, Q v S → Q' v S) (e : ∀ x S, E x S → E' x S) : Wp r Q' E' := by
  cases r with
  | ok a S => exact q _ _ h
  | ex x S => exact e _ _ h
  | bad => exact h
theorem wp_imp {r : Res α} (h : Wp r Q (fun _ _ => False)) (q : ∀ v S, Q v S → Q' v S) : Wp r Q' E := wp_mono h q fun _ _ z => z.elim
theorem wp_ex {r : Res α} (h : Wp r Q (fun _ _ => False)) : ∃ v S, r = .ok v S ∧ Q v S := by
  cases r with
  | ok a S => exact ⟨a, S, rfl, h⟩
  | ex x S => exact h.elim
  | bad => exact h.elim
theorem wp_bind {r : Res α} {k : α → Sto → Res β} {Q : β → Sto → Prop} (h : Wp r (fun v S => Wp (k v S) Q E) E) : Wp (r.bind k) Q E := by
  cases r with
  | ok a S => exact h
  | ex x S => exact h
  | bad => exact h
theorem ws_bind {r : Res α} {k : α → Sto → SRes} (h : Wp r (fun v S => Ws (k v S) N R B C X) (fun x S => X x env S)) : Ws (sBind r env k) N R B C X := by
  cases r with
  | ok a S => exact h
  | ex x S => exact h
  | bad => exact h
theorem ws_mono {r : SRes} (h : Ws r N R B C X) (n : ∀ e S, N e S → N' e S) (q : ∀ v S, R v S → R' v S) (b : ∀ e S, B e S → B' e S) (c : ∀ e S, C e S → C' e S) (x : ∀ y e S, X y e S → X' y e S) : Ws r N' R' B' C' X' := by
  cases r with
  | nx e S => exact n _ _ h
  | rt e S => exact q _ _ h
  | bk e S => exact b _ _ h
  | ct e S => exact c _ _ h
  | ex y e S => exact x _ _ _ h
  | bad => exact h
/-! statements -/
theorem ws_seq {a b : MSt} (h : Ws (a env S) (fun e S1 => Ws (b e S1) N R B C X) R B C X) : Ws (sSeq a b env S) N R B C X := by
  unfold sSeq
  cases e : a env S <;> rw [e] at h <;> exact h
theorem ws_next (h : N env S) : Ws (sNext env S) N R B C X := h
theorem ws_break (h : B env S) : Ws (sBreak env S) N R B C X := h
theorem ws_cont (h : C env S) : Ws (sCont env S) N R B C X := h
theorem ws_retN (h : R .non S) : Ws (sRetN env S) N R B C X := h
theorem ws_ret {m : ME} (h : Wp (m env S) R (fun x S => X x env S)) : Ws (sRet m env S) N R B C X := ws_bind h
theorem ws_drop {m : ME} (h : Wp (m env S) (fun _ S1 => N env S1) (fun x S => X x env S)) : Ws (sDrop m env S) N R B C X := ws_bind h
theorem ws_set {i : Nat} {m : ME} (h : Wp (m env S) (fun v S1 => N (env.set i (some v)) S1) (fun x S => X x env S)) : Ws (sSet i m env S) N R B C X := ws_bind h
theorem ws_asg {g : MG} {m : ME} (h : Wp (m env S) (fun v S1 => Get (g v env) fun e => N e S1) (fun x S => X x env S)) : Ws (sAsg g m env S) N R B C X := by
  refine ws_bind (wp_mono h (fun v S1 q => ?_) fun _ _ z => z)
  obtain ⟨e, h1, h2⟩ := q.ex
  show Ws (match g v env with | some e => _ | none => _) N R B C X
  rw [h1]; exact h2
theorem ws_if {c : MB} {a b : MSt} (h : Wp (c env S) (fun x S1 => if x = true then Ws (a env S1) N R B C X else Ws (b env S1) N R B C X) (fun x S => X x env S)) : Ws (sIf c a b env S) N R B C X := by
  refine ws_bind (wp_mono h (fun v S1 q => ?_) fun _ _ z => z)
  cases v
  · exact q
  · exact q
theorem ws_par {i j : Nat} {a b : ME} (h : Wp (a env S) (fun x S1 => Wp (b env S1) (fun y S2 => N ((env.set i (some x)).set j (some y)) S2) (fun x S => X x env S)) (fun x S => X x env S)) : Ws (sPar i j a b env S) N R B C X := by
  refine ws_bind (wp_mono h (fun v S1 q => ?_) fun _ _ z => z)
  exact ws_bind q
theorem ws_par3 {i j l : Nat} {a b c : ME} (h : Wp (a env S) (fun x S1 => Wp (b env S1) (fun y S2 => Wp (c env S2) (fun z S3 => N (((env.set i (some x)).set j (some y)).set l (some z)) S3) (fun x S => X x env S)) (fun x S => X x env S)) (fun x S => X x env S)) : Ws (sPar3 i j l a b c env S) N R B C X := by
  refine ws_bind (wp_mono h (fun v S1 q => ?_) fun _ _ z => z)
  refine ws_bind (wp_mono q (fun v S1 q => ?_) fun _ _ z => z)
  exact ws_bind q
theorem ite_t {p q : Prop} (h : p) : if true = true then p else q := h
theorem ite_f {p q : Prop} (h : q) : if false = true then p else q := h
theorem ite_dt {p q d : Prop} [Decidable d] (c : d) (h : p) : if decide d = true then p else q := by rw [if_pos (decide_eq_true c)]; exact h
theorem ite_df {p q d : Prop} [Decidable d] (c : ¬ d) (h : q) : if decide d = true then p else q := by rw [if_neg (by simpa using c)]; exact h
theorem ite_nt {p q d : Prop} [Decidable d] (c : ¬ d) (h : p) : if (!decide d) = true then p else q := by rw [if_pos (by simpa using c)]; exact h
theorem ite_nf {p q d : Prop} [Decidable d] (c : d) (h : q) : if (!decide d) = true then p else q := by rw [if_neg (by simpa using c)]; exact h
theorem ite_rt {p q : Prop} {b : Bool} (e : b = true) (h : p) : if b = true then p else q := by rw [if_pos e]; exact h
theorem ite_rf {p q : Prop} {b : Bool} (e : b = false) (h : q) : if b = true then p else q := by rw [if_neg (by rw [e]; simp)]; exact h
theorem ite_by {p q d : Prop} [Decidable d] (h1 : d → p) (h2 : ¬ d → q) : if decide d = true then p else q := by
  by_cases c : d
  · exact ite_dt c (h1 c)
  · exact ite_df c (h2 c)
theorem ite_nby {p q d : Prop} [Decidable d] (h1 : ¬ d → p) (h2 : d → q) : if (!decide d) = true then p else q := by
  by_cases c : d
  · exact ite_nf c (h2 c)
  · exact ite_nt c (h1 c)
theorem ite_bb {p q : Prop} {b : Bool} (h1 : b = true → p) (h2 : b = false → q) : if b = true then p else q := by
  cases b
  · exact h2 rfl
  · exact h1 rfl
/-! expressions -/
theorem wp_v {i : Nat} {v : MV} {Q : MV → Sto → Prop} (h : env[i]? = some (some v)) (q : Q v S) : Wp (mV i env S) Q E := by
  unfold mV; rw [h]; exact q
theorem wp_c {v : MV} {Q : MV → Sto → Prop} (q : Q v S) : Wp (mC v env S) Q E := q
theorem wp_bin {f : MV → MV → Sto → Res MV} {a b : ME} {Q : MV → Sto → Prop} (h : Wp (a env S) (fun x S1 => Wp (b env S1) (fun y S2 => Wp (f x y S2) Q E) E) E) : Wp (mBin f a b env S) Q E :=
  wp_bind (wp_mono h (fun _ _ q => wp_bind q) fun _ _ z => z)
theorem wp_nil {Q : List MV → Sto → Prop} (q : Q [] S) : Wp (mNil env S) Q E := q
theorem wp_cons {a : ME} {r : MA} {Q : List MV → Sto → Prop} (h : Wp (a env S) (fun x S1 => Wp (r env S1) (fun xs S2 => Q (x :: xs) S2) E) E) : Wp (mCons a r env S) Q E :=
  wp_bind (wp_mono h (fun _ _ q => wp_bind (wp_mono q (fun _ _ z => z) fun _ _ z => z)) fun _ _ z => z)
theorem wp_b {f : List MV → Sto → Res MV} {as : MA} {Q : MV → Sto → Prop} (h : Wp (as env S) (fun xs S1 => Wp (f xs S1) Q E) E) : Wp (mB f as env S) Q E := wp_bind h
theorem wp_bm {T : String} {f : MV → List MV → Sto → Res MV} {o : ME} {as : MA} {Q : MV → Sto → Prop} (h : Wp (o env S) (fun x S1 => An (tyM T S1 x = true) (Wp (as env S1) (fun xs S2 => Wp (f x xs S2) Q E) E)) E) : Wp (mBM T f o as env S) Q E := by
  refine wp_bind (wp_mono h (fun x S1 q => ?_) fun _ _ z => z)
  show Wp (if _ then _ else _) Q E
  rw [if_pos q.1]
  exact wp_bind q.2
theorem wp_call {n : Nat} {g : List MV → Sto → Res MV} {as : MA} {Q : MV → Sto → Prop} (h : Wp (as env S) (fun vs S1 => An (vs.length = n) (Wp (g vs S1) Q E)) E) : Wp (mCall n g [] as env S) Q E := by
  refine wp_bind (wp_mono h (fun x S1 q => ?_) fun _ _ z => z)
  rw [List.append_nil, if_pos q.1]
  exact q.2
theorem wp_calld {n : Nat} {g : List MV → Sto → Res MV} {as : MA} {ms : List MV} {Q : MV → Sto → Prop} (h : Wp (as env S) (fun vs S1 => An ((vs ++ ms).length = n) (Wp (g (vs ++ ms) S1) Q E)) E) : Wp (mCall n g ms as env S) Q E := by
  refine wp_bind (wp_mono h (fun x S1 q => ?_) fun _ _ z => z)
  rw [if_pos q.1]
  exact q.2
def WB (x : MV) (Q : Bool → Prop) : Prop := match x with
  | .bl b => Q b
  | _ => False
theorem wb {b : Bool} {Q : Bool → Prop} (h : Q b) : WB (.bl b) Q := h
theorem wp_asB {m : ME} {Q : Bool → Sto → Prop} (h : Wp (m env S) (fun x S1 => WB x fun b => Q b S1) E) : Wp (asB m env S) Q E := by
  refine wp_bind (wp_mono h (fun x S1 q => ?_) fun _ _ z => z)
  cases x <;> first | exact q | exact q.elim
def WT (S : Sto) (x : MV) (Q : Bool → Prop) : Prop := match tru S x with
  | some b => Q b
  | none => False
theorem wt {x : MV} {b : Bool} {Q : Bool → Prop} (t : tru S x = some b) (h : Q b) : WT S x Q := by unfold WT; rw [t]; exact h
theorem wt_bl {b : Bool} {Q : Bool → Prop} (h : Q b) : WT S (.bl b) Q := h
theorem wp_asT {m : ME} {Q : Bool → Sto → Prop} (h : Wp (m env S) (fun x S1 => WT S1 x fun b => Q b S1) E) : Wp (asT m env S) Q E := by
  refine wp_bind (wp_mono h (fun x S1 q => ?_) fun _ _ z => z)
  unfold WT at q
  cases e : tru S1 x <;> rw [e] at q <;> exact q
theorem wp_notB {m : MB} {Q : Bool → Sto → Prop} (h : Wp (m env S) (fun b S1 => Q (!b) S1) E) : Wp (mNotB m env S) Q E := wp_bind h
theorem wp_andB {a b : MB} {Q : Bool → Sto → Prop} (h : Wp (a env S) (fun x S1 => if x = true then Wp (b env S1) Q E else Q false S1) E) : Wp (mAndB a b env S) Q E := by
  refine wp_bind (wp_mono h (fun x S1 q => ?_) fun _ _ z => z)
  cases x <;> exact q
theorem wp_orB {a b : MB} {Q : Bool → Sto → Prop} (h : Wp (a env S) (fun x S1 => if x = true then Q true S1 else Wp (b env S1) Q E) E) : Wp (mOrB a b env S) Q E := by
  refine wp_bind (wp_mono h (fun x S1 q => ?_) fun _ _ z => z)
  cases x <;> exact q
theorem wp_notT {m : ME} {Q : MV → Sto → Prop} (h : Wp (m env S) (fun x S1 => WT S1 x fun b => Q (.bl (!b)) S1) E) : Wp (mNotT m env S) Q E := by
  refine wp_bind (wp_mono h (fun x S1 q => ?_) fun _ _ z => z)
  unfold WT at q
  cases e : tru S1 x <;> rw [e] at q <;> exact q
theorem wp_andT {a b : ME} {Q : MV → Sto → Prop} (h : Wp (a env S) (fun x S1 => WT S1 x fun k => if k = true then Wp (b env S1) Q E else Q x S1) E) : Wp (mAndT a b env S) Q E := by
  refine wp_bind (wp_mono h (fun x S1 q => ?_) fun _ _ z => z)
  unfold WT at q
  cases e : tru S1 x with
  | none => rw [e] at q; exact q
  | some k => rw [e] at q; cases k <;> exact q
theorem wp_orT {a b : ME} {Q : MV → Sto → Prop} (h : Wp (a env S) (fun x S1 => WT S1 x fun k => if k = true then Q x S1 else Wp (b env S1) Q E) E) : Wp (mOrT a b env S) Q E := by
  refine wp_bind (wp_mono h (fun x S1 q => ?_) fun _ _ z => z)
  unfold WT at q
  cases e : tru S1 x with
  | none => rw [e] at q; exact q
  | some k => rw [e] at q; cases k <;> exact q
theorem wp_if {c : MB} {a b : Env → Sto → Res α} (h : Wp (c env S) (fun x S1 => if x = true then Wp (a env S1) Q E else Wp (b env S1) Q E) E) : Wp (mIf c a b env S) Q E := by
  refine wp_bind (wp_mono h (fun x S1 q => ?_) fun _ _ z => z)
  cases x <;> exact q
theorem wp_isn {m : ME} {Q : MV → Sto → Prop} (h : Wp (m env S) (fun x S1 => Q (.bl (isN x)) S1) E) : Wp (mIsN m env S) Q E := wp_bind h
theorem wp_notn {m : ME} {Q : MV → Sto → Prop} (h : Wp (m env S) (fun x S1 => Q (.bl (!isN x)) S1) E) : Wp (mNotN m env S) Q E := wp_bind h
theorem wp_neg {m : ME} {Q : MV → Sto → Prop} (h : Wp (m env S) (fun x S1 => Get (intOf x) fun i => Q (.int (-i)) S1) E) : Wp (mNeg m env S) Q E := by
  refine wp_bind (wp_mono h (fun x S1 q => ?_) fun _ _ z => z)
  obtain ⟨i, hi, q⟩ := q.ex
  rw [intOf_eq hi]; exact q
theorem wp_chain {f g : MV → MV → Sto → Res MV} {a b c : ME} {Q : MV → Sto → Prop} (h : Wp (a env S) (fun x S1 => Wp (b env S1) (fun y S2 => Wp (f x y S2) (fun z S3 => WB z fun k => if k = true then Wp (c env S3) (fun w S4 => Wp (g y w S4) Q E) E else Q (.bl false) S3) E) E) E) : Wp (mChain f g a b c env S) Q E := by
  refine wp_bind (wp_mono h (fun x S1 q => ?_) fun _ _ z => z)
  refine wp_bind (wp_mono q (fun y S2 q => ?_) fun _ _ z => z)
  refine wp_bind (wp_mono q (fun z S3 q => ?_) fun _ _ z => z)
  cases z with
  | bl k => cases k with
    | true => exact wp_bind q
    | false => exact q
  | _ => exact q.elim
theorem wp_yes {Q : Bool → Sto → Prop} (q : Q true S) : Wp (mYes env S) Q E := q
theorem wp_nopart {Q : Option Int → Sto → Prop} (q : Q none S) : Wp (mNoPart env S) Q E := q
theorem wp_part {m : ME} {Q : Option Int → Sto → Prop} (h : Wp (m env S) (fun x S1 => Get (intOf x) fun i => Q (some i) S1) E) : Wp (mPart m env S) Q E := by
  refine wp_bind (wp_mono h (fun x S1 q => ?_) fun _ _ z => z)
  obtain ⟨i, hi, q⟩ := q.ex
  rw [intOf_eq hi]; exact q
theorem wp_sl {mu : Bool} {a : ME} {lo hi : MO'} {Q : MV → Sto → Prop} (h : Wp (a env S) (fun x S1 => Wp (lo env S1) (fun l S2 => Wp (hi env S2) (fun h S3 => Wp (fSl mu x l h S3) Q E) E) E) E) : Wp (mSl mu a lo hi env S) Q E := by
  refine wp_bind (wp_mono h (fun x S1 q => ?_) fun _ _ z => z)
  refine wp_bind (wp_mono q (fun y S2 q => ?_) fun _ _ z => z)
  exact wp_bind q
theorem wp_tup {as : MA} {Q : MV → Sto → Prop} (h : Wp (as env S) (fun xs S1 => An (xs.length ≤ sizeLine) (Q (.tup xs) S1)) E) : Wp (mTup as env S) Q E := by
  refine wp_bind (wp_mono h (fun x S1 q => ?_) fun _ _ z => z)
  show Wp (if _ then _ else _) Q E
  rw [if_pos q.1]; exact q.2
theorem wp_lst {mu : Bool} {as : MA} {Q : MV → Sto → Prop} (h : Wp (as env S) (fun xs S1 => An (xs.length ≤ sizeLine) (Wp (mkL mu xs S1) Q E)) E) : Wp (mLst mu as env S) Q E := by
  refine wp_bind (wp_mono h (fun x S1 q => ?_) fun _ _ z => z)
  show Wp (if _ then _ else _) Q E
  rw [if_pos q.1]; exact q.2
theorem wp_mkL {xs : List MV} {Q : MV → Sto → Prop} (q : Q (.lst xs) S) : Wp (mkL false xs S) Q E := q
theorem wp_mkLn {xs : List MV} {Q : MV → Sto → Prop} (q : Q (.ref S.length) (S ++ [.lst xs])) : Wp (mkL true xs S) Q E := q
theorem wp_dic0 {mu : Bool} {Q : MV → Sto → Prop} (q : Wp (mkD mu [] S) Q E) : Wp (mDic0 mu env S) Q E := q
theorem wp_mkD {xs : List (MV × MV)} {Q : MV → Sto → Prop} (q : Q (.dic xs) S) : Wp (mkD false xs S) Q E := q
theorem wp_mkDn {xs : List (MV × MV)} {Q : MV → Sto → Prop} (q : Q (.ref S.length) (S ++ [.dic xs])) : Wp (mkD true xs S) Q E := q
theorem wp_revL {mu : Bool} {a : ME} {Q : MV → Sto → Prop} (h : Wp (a env S) (fun x S1 => Get (asL S1 x) fun xs => Wp (mkL mu xs.reverse S1) Q E) E) : Wp (mRevL mu a env S) Q E := by
  refine wp_bind (wp_mono h (fun x S1 q => ?_) fun _ _ z => z)
  obtain ⟨xs, h1, q⟩ := q.ex
  show Wp (match asL S1 x with | some xs => _ | none => _) Q E
  rw [h1]; exact q
theorem wp_meth {c n : Nat} {m : Str} {g : List MV → Sto → Res MV} {ms : List MV} {o : ME} {as : MA} {Q : MV → Sto → Prop} (h : Wp (mMeth c n m g ms o as env S) Q E) : Wp (mMeth c n m g ms o as env S) Q E := h
/-! loops -/
theorem ws_for {mi : Env → Sto → Res Itv} {g : MG} {mb : MSt} (h : Wp (mi env S) (fun t S1 => Ws (forL t g mb t.items env S1) N R B C X) (fun x S => X x env S)) : Ws (sFor mi g mb env S) N R B C X := ws_bind h
theorem wp_itS {m : ME} {Q : Itv → Sto → Prop} (h : Wp (m env S) (fun x S1 => Get (itL S1 x) fun t => Q t S1) E) : Wp (mItS m env S) Q E := by
  refine wp_bind (wp_mono h (fun x S1 q => ?_) fun _ _ z => z)
  obtain ⟨t, h1, q⟩ := q.ex
  show Wp (match itL S1 x with | some t => _ | none => _) Q E
  rw [h1]; exact q
theorem wp_itR1 {as : MA} {Q : Itv → Sto → Prop} (h : Wp (as env S) (fun xs S1 => Get (int1 xs) fun j => An (-(2 ^ 62) ≤ j ∧ j < 2 ^ 62) (Q ⟨rngL 0 j.toNat, []⟩ S1)) E) : Wp (mItR1 as env S) Q E := by
  refine wp_bind (wp_mono h (fun x S1 q => ?_) fun _ _ z => z)
  obtain ⟨j, h1, h2, q⟩ := q.ex
  rw [int1_eq h1]
  show Wp (if _ then _ else _) Q E
  rw [if_pos h2]; exact q
theorem wp_itR2 {as : MA} {Q : Itv → Sto → Prop} (h : Wp (as env S) (fun xs S1 => Get (int2 xs) fun p => An (-(2 ^ 62) ≤ p.1 ∧ p.1 < 2 ^ 62 ∧ -(2 ^ 62) ≤ p.2 ∧ p.2 < 2 ^ 62) (Q ⟨rngL p.1 (p.2 - p.1).toNat, []⟩ S1)) E) : Wp (mItR2 as env S) Q E := by
  refine wp_bind (wp_mono h (fun x S1 q => ?_) fun _ _ z => z)
  obtain ⟨p, h1, h2, q⟩ := q.ex
  rw [int2_eq h1]
  show Wp (if _ then _ else _) Q E
  rw [if_pos h2]; exact q
theorem wp_itT {m : ME} {Q : Itv → Sto → Prop} (h : Wp (m env S) (fun x S1 => Get (strOf x) fun z => Q ⟨z.map fun c => .str [c], []⟩ S1) E) : Wp (mItT m env S) Q E := by
  refine wp_bind (wp_mono h (fun x S1 q => ?_) fun _ _ z => z)
  obtain ⟨t, h1, q⟩ := q.ex
  rw [strOf_eq h1]; exact q
theorem wp_itE {as : MA} {Q : Itv → Sto → Prop} (h : Wp (as env S) (fun xs S1 => Get (one1 xs) fun x => Get (asL S1 x) fun ys => Q ⟨enuL ys, depsOf x ys⟩ S1) E) : Wp (mItE as env S) Q E := by
  refine wp_bind (wp_mono h (fun xs S1 q => ?_) fun _ _ z => z)
  obtain ⟨x, h1, q⟩ := q.ex
  obtain ⟨ys, h2, q⟩ := q.ex
  rw [one1_eq h1]
  show Wp (match asL S1 x with | some t => _ | none => _) Q E
  rw [h2]; exact q
theorem wp_itZ {as : MA} {Q : Itv → Sto → Prop} (h : Wp (as env S) (fun xs S1 => Get (two2 xs) fun p => Get (asL S1 p.1) fun a => Get (asL S1 p.2) fun b => Q ⟨zipL a b, depsOf p.1 a ++ depsOf p.2 b⟩ S1) E) : Wp (mItZ as env S) Q E := by
  refine wp_bind (wp_mono h (fun xs S1 q => ?_) fun _ _ z => z)
  obtain ⟨p, h1, q⟩ := q.ex
  obtain ⟨a, h2, q⟩ := q.ex
  obtain ⟨b, h3, q⟩ := q.ex
  rw [two2_eq h1]
  show Wp (match asL S1 p.1, asL S1 p.2 with | some a, some b => _ | _, _ => _) Q E
  rw [h2, h3]; exact q
theorem forL_wp {t : Itv} {g : MG} {mb : MSt} (I : List MV → Env → Sto → Prop) : ∀ (items : List MV) (env : Env) (S : Sto), I items env S →
    (∀ items env S, I items env S → t.chk S) →
    (∀ v rest env S, I (v :: rest) env S → ∃ e1, g v env = some e1 ∧ Ws (mb e1 S) (fun e S2 => I rest e S2) R N (fun e S2 => I rest e S2) X) →
    (∀ env S, I [] env S → N env S) → Ws (forL t g mb items env S) N R B C X
  | [], env, S, h, hc, st, fin => by
    unfold forL
    rw [if_pos (hc _ _ _ h)]
    exact fin _ _ h
  | v :: rest, env, S, h, hc, st, fin => by
    unfold forL
    rw [if_pos (hc _ _ _ h)]
    obtain ⟨e1, h1, h2⟩ := st v rest env S h
    rw [h1]
    show Ws (match mb e1 S with
      | .nx e2 S2 => forL t g mb rest e2 S2
      | .ct e2 S2 => forL t g mb rest e2 S2
      | .bk e2 S2 => .nx e2 S2
      | .rt v S2 => .rt v S2
      | .ex x e2 S2 => .ex x e2 S2
      | .bad => .bad) N R B C X
    cases e : mb e1 S with
    | nx e2 S2 => rw [e] at h2; exact forL_wp I rest e2 S2 h2 hc st fin
    | ct e2 S2 => rw [e] at h2; exact forL_wp I rest e2 S2 h2 hc st fin
    | bk e2 S2 => rw [e] at h2; exact h2
    | rt v S2 => rw [e] at h2; exact h2
    | ex x e2 S2 => rw [e] at h2; exact h2
    | bad => rw [e] at h2; exact h2
/-- a for over what no store holds -/
theorem for_wp {items : List MV} {g : MG} {mb : MSt} (I : List MV → Env → Sto → Prop) (h : I items env S)
    (st : ∀ v rest env S, I (v :: rest) env S → ∃ e1, g v env = some e1 ∧ Ws (mb e1 S) (fun e S2 => I rest e S2) R N (fun e S2 => I rest e S2) X)
    (fin : ∀ env S, I [] env S → N env S) : Ws (forL ⟨items, []⟩ g mb items env S) N R B C X :=
  forL_wp I items env S h (fun _ _ S _ => chk_nil rfl S) st fin
theorem while_wp {c : MB} {mb : MSt} (I : Nat → Env → Sto → Prop) (step : ∀ n env S, I n env S → Wp (c env S) (fun x S1 => if x = true then Ws (mb env S1) (fun e S2 => ∃ m, m < n ∧ I m e S2) R N (fun e S2 => ∃ m, m < n ∧ I m e S2) X else N env S1) (fun x S => X x env S)) :
    ∀ (n : Nat) (env : Env) (S : Sto), I n env S → ∀ k, n < k → Ws (whileL c mb k env S) N R B C X := by
  intro n
  induction n using Nat.strongRecOn with
  | _ n ih =>
    intro env S h k hk
    obtain ⟨k, rfl⟩ : ∃ j, k = j + 1 := ⟨k - 1, by omega⟩
    unfold whileL
    refine ws_bind (wp_mono (step n env S h) (fun x S1 q => ?_) fun _ _ z => z)
    cases x with
    | false => exact q
    | true =>
      have q : Ws (mb env S1) (fun e S2 => ∃ m, m < n ∧ I m e S2) R N (fun e S2 => ∃ m, m < n ∧ I m e S2) X := q
      show Ws (match mb env S1 with
        | .nx e2 S2 => whileL c mb k e2 S2
        | .ct e2 S2 => whileL c mb k e2 S2
        | .bk e2 S2 => .nx e2 S2
        | .rt v S2 => .rt v S2
        | .ex x e2 S2 => .ex x e2 S2
        | .bad => .bad) N R B C X
      cases e : mb env S1 with
      | nx e2 S2 => rw [e] at q; obtain ⟨m, h1, h2⟩ := q; exact ih m h1 e2 S2 h2 k (by omega)
      | ct e2 S2 => rw [e] at q; obtain ⟨m, h1, h2⟩ := q; exact ih m h1 e2 S2 h2 k (by omega)
      | bk e2 S2 => rw [e] at q; exact q
      | rt v S2 => rw [e] at q; exact q
      | ex x e2 S2 => rw [e] at q; exact q
      | bad => rw [e] at q; exact q
theorem ws_not_bad {r : SRes} (h : Ws r N R B C X) : r ≠ .bad := by
  intro e; rw [e] at h; exact h
theorem ws_while {c : MB} {mb : MSt} (I : Nat → Env → Sto → Prop) (n : Nat) (h : I n env S) (step : ∀ n env S, I n env S → Wp (c env S) (fun x S1 => if x = true then Ws (mb env S1) (fun e S2 => ∃ m, m < n ∧ I m e S2) R N (fun e S2 => ∃ m, m < n ∧ I m e S2) X else N env S1) (fun x S => X x env S)) :
    Ws (sWhile c mb env S) N R B C X := by
  have q := while_wp (B := B) (C := C) I step n env S h (n + 1) (by omega)
  rw [sWhile_eq (n + 1) (ws_not_bad q)]
  exact q
/-! leaving a def -/
theorem wp_def {n : Nat} {b : MSt} {args : List MV} {Q : MV → Sto → Prop} (h : Ws (b (env0 n args) S) (fun _ S1 => Wp (leaveV S S1 .non) Q E) (fun v S1 => Wp (leaveV S S1 v) Q E) (fun _ _ => False) (fun _ _ => False) (fun x _ S1 => Wp (leaveX (α := MV) S S1 x) Q E)) : Wp (mDef n b args S) Q E := by
  unfold mDef
  cases e : b (env0 n args) S <;> rw [e] at h <;> first | exact h | exact h.elim
theorem wp_defR {n : Nat} {b : MSt} {args : List MV} {Q : MV → Sto → Prop} (h : Ws (b (env0 n args) S) (fun _ S1 => False) (fun v S1 => Wp (leaveR S S1 v) Q E) (fun _ _ => False) (fun _ _ => False) (fun x _ S1 => Wp (leaveX (α := MV) S S1 x) Q E)) : Wp (mDefR n b args S) Q E := by
  unfold mDefR
  cases e : b (env0 n args) S <;> rw [e] at h <;> first | exact h | exact h.elim
theorem wp_leave0 {v : MV} {Q : MV → Sto → Prop} (c : Cl S.length v) (q : Q v S) : Wp (leaveV S S v) Q E := by
  refine wp_eq ?_ q
  rw [leaveV_cl (keeps_refl S) c, List.take_length]
theorem wp_leave {S1 T : Sto} {v : MV} {Q : MV → Sto → Prop} (k : Keeps S S1) (hl : S1.length = S.length) (c : Cl S.length v) (q : Q v S1) : Wp (leaveV S (S1 ++ T) v) Q E := by
  refine wp_eq ?_ q
  rw [leaveV_cl (keeps_app _ k) c, ← hl, List.take_left]
theorem wp_leave1 {S1 : Sto} {v : MV} {Q : MV → Sto → Prop} (k : Keeps S S1) (hl : S1.length = S.length) (c : Cl S.length v) (q : Q v S1) : Wp (leaveV S S1 v) Q E := by
  refine wp_eq ?_ q
  rw [leaveV_cl k c, ← hl, List.take_length]
theorem wp_leaveL {S1 : Sto} {xs : List MV} {Q : MV → Sto → Prop} (k : Keeps S S1) (hl : S1.length = S.length) (c : ClL S.length xs) (q : Q (.lst xs) S1) : Wp (leaveV S (S1 ++ [.lst xs]) (.ref S.length)) Q E :=
  wp_eq (leaveV_new k hl c) q
/-! operations -/
section
variable {Q : MV → Sto → Prop} {mu : Bool}
theorem wp_addI {a b : Int} (q : Q (.int (a + b)) S) : Wp (fAdd mu (.int a) (.int b) S) Q E := q
theorem wp_addS {a b : List Nat} (q : Q (.str (a ++ b)) S) (h : a.length + b.length ≤ sizeLine) : Wp (fAdd mu (.str a) (.str b) S) Q E := by
  unfold fAdd; simp only []; rw [if_pos h]; exact q
theorem wp_addT {a b : List MV} (q : Q (.tup (a ++ b)) S) (h : a.length + b.length ≤ sizeLine) : Wp (fAdd mu (.tup a) (.tup b) S) Q E := by
  unfold fAdd; simp only []; rw [if_pos h]; exact q
theorem wp_addL {x y : MV} {a b : List MV} (hx : asH S x = some a) (hy : asH S y = some b) (q : Wp (mkL mu (a ++ b) S) Q E) (h : a.length + b.length ≤ sizeLine) : Wp (fAdd mu x y S) Q E := by
  unfold fAdd
  split
  · cases hx
  · cases hx
  · cases hx
  · rw [hx, hy]; simp only []; rw [if_pos h]; exact q
theorem wp_addLL {a b : List MV} (q : Wp (mkL mu (a ++ b) S) Q E) (h : a.length + b.length ≤ sizeLine) : Wp (fAdd mu (.lst a) (.lst b) S) Q E := wp_addL rfl rfl q h
theorem wp_sub {a b : Int} (q : Q (.int (a - b)) S) : Wp (fSub (.int a) (.int b) S) Q E := q
theorem wp_mod {a b : Int} (q : Q (.int (a % b)) S) (h : 0 < b) : Wp (fMod (.int a) (.int b) S) Q E := by
  unfold fMod; simp only []; rw [if_pos h]; exact q
theorem wp_div {a b : Int} (q : Q (.int (a / b)) S) (h : 0 < b ∧ b.natAbs.log2 < 9000) : Wp (fDiv (.int a) (.int b) S) Q E := by
  unfold fDiv; simp only []; rw [if_pos h]; exact q
theorem wp_lt {a b : Int} (q : Q (.bl (decide (a < b))) S) : Wp (fLt (.int a) (.int b) S) Q E := q
theorem wp_le {a b : Int} (q : Q (.bl (decide (a ≤ b))) S) : Wp (fLe (.int a) (.int b) S) Q E := q
theorem wp_gt {a b : Int} (q : Q (.bl (decide (b < a))) S) : Wp (fGt (.int a) (.int b) S) Q E := q
theorem wp_ge {a b : Int} (q : Q (.bl (decide (b ≤ a))) S) : Wp (fGe (.int a) (.int b) S) Q E := q
theorem wp_eqI {a b : Int} (q : Q (.bl (decide (a = b))) S) : Wp (fEq (.int a) (.int b) S) Q E := wp_eq (fEq_int a b S) q
theorem wp_neI {a b : Int} (q : Q (.bl (!decide (a = b))) S) : Wp (fNe (.int a) (.int b) S) Q E := wp_eq (fNe_int a b S) q
theorem wp_eqS {a b : List Nat} (q : Q (.bl (decide (a = b))) S) : Wp (fEq (.str a) (.str b) S) Q E := wp_eq (fEq_str a b S) q
theorem wp_neS {a b : List Nat} (q : Q (.bl (!decide (a = b))) S) : Wp (fNe (.str a) (.str b) S) Q E := wp_eq (fNe_str a b S) q
theorem wp_eqB {a b : Bool} (q : Q (.bl (decide (a = b))) S) : Wp (fEq (.bl a) (.bl b) S) Q E := wp_eq (fEq_bl a b S) q
theorem wp_neB {a b : Bool} (q : Q (.bl (!decide (a = b))) S) : Wp (fNe (.bl a) (.bl b) S) Q E := wp_eq (fNe_bl a b S) q
theorem wp_inQ {x y : MV} {b : Bool} (h : isIn S x y = some b) (q : Q (.bl b) S) : Wp (fIn x y S) Q E := by
  unfold fIn; rw [h]; exact q
theorem wp_ninQ {x y : MV} {b : Bool} (h : isIn S x y = some b) (q : Q (.bl (!b)) S) : Wp (fNotIn x y S) Q E := by
  unfold fNotIn; rw [h]; exact q
theorem wp_inL {z : List Nat} {F : List (List Nat)} (q : Q (.bl (decide (z ∈ F))) S) : Wp (fIn (.str z) (.lst (F.map MV.str)) S) Q E := wp_inQ (in_strs rfl fun _ => by simp) q
theorem wp_ninL {z : List Nat} {F : List (List Nat)} (q : Q (.bl (!decide (z ∈ F))) S) : Wp (fNotIn (.str z) (.lst (F.map MV.str)) S) Q E := wp_ninQ (in_strs rfl fun _ => by simp) q
theorem wp_len {x : MV} {n : Nat} (h : lenM S x = some n) (q : Q (.int (n : Int)) S) : Wp (fLen [x] S) Q E := by
  unfold fLen; simp only []; rw [h]; exact q
theorem wp_lenL {xs : List MV} (q : Q (.int (xs.length : Int)) S) : Wp (fLen [.lst xs] S) Q E := q
theorem wp_lenT {xs : List MV} (q : Q (.int (xs.length : Int)) S) : Wp (fLen [.tup xs] S) Q E := q
theorem wp_lenD {xs : List (MV × MV)} (q : Q (.int (xs.length : Int)) S) : Wp (fLen [.dic xs] S) Q E := q
theorem wp_lenS {z : List Nat} (q : Q (.int (z.length : Int)) S) (h : z.length ≤ sizeLine) : Wp (fLen [.str z] S) Q E := wp_len (by unfold lenM; simp only []; rw [if_pos h]) q
theorem wp_lenR {l : Nat} {xs : List MV} (h : S[l]? = some (.lst xs)) (q : Q (.int (xs.length : Int)) S) : Wp (fLen [.ref l] S) Q E := wp_len (n := xs.length) (by simp only [lenM, asSq, asU, asL, h]) q
theorem wp_ixT {xs : List MV} {i : Int} {v : MV} (h : atI xs i = some v) (q : Q v S) : Wp (fIx (.tup xs) (.int i) S) Q E := by
  have e : fIx (.tup xs) (.int i) S = .ok v S := by simp only [fIx, asSq, asU, h]
  exact wp_eq e q
theorem wp_ixL {xs : List MV} {i : Int} {v : MV} (h : atI xs i = some v) (q : Q v S) : Wp (fIx (.lst xs) (.int i) S) Q E := by
  have e : fIx (.lst xs) (.int i) S = .ok v S := by simp only [fIx, asSq, asU, asL, h]
  exact wp_eq e q
theorem wp_ixR {l : Nat} {xs : List MV} {i : Int} {v : MV} (hl : S[l]? = some (.lst xs)) (h : atI xs i = some v) (q : Q v S) : Wp (fIx (.ref l) (.int i) S) Q E := by
  have e : fIx (.ref l) (.int i) S = .ok v S := by simp only [fIx, asSq, asU, asL, hl, h]
  exact wp_eq e q
theorem wp_slS {z : List Nat} {lo hi : Option Int} (q : Q (.str (cutL z lo hi)) S) (h : z.length ≤ sizeLine) : Wp (fSl mu (.str z) lo hi S) Q E := by
  unfold fSl; simp only []; rw [if_pos h]; exact q
theorem wp_slT {z : List MV} {lo hi : Option Int} (q : Q (.tup (cutL z lo hi)) S) : Wp (fSl mu (.tup z) lo hi S) Q E := q
theorem wp_slL {z : List MV} {lo hi : Option Int} (q : Wp (mkL mu (cutL z lo hi) S) Q E) : Wp (fSl mu (.lst z) lo hi S) Q E := q
theorem wp_listL {z : List MV} (q : Wp (mkL mu z S) Q E) : Wp (fListA mu [.lst z] S) Q E := q
theorem wp_listT {z : List MV} (q : Wp (mkL mu z S) Q E) : Wp (fListA mu [.tup z] S) Q E := q
theorem wp_listD {z : List (MV × MV)} (q : Wp (mkL mu (z.map fun p => p.1) S) Q E) : Wp (fListA mu [.dic z] S) Q E := q
theorem wp_listR {l : Nat} {z : List MV} (h : S[l]? = some (.lst z)) (q : Wp (mkL mu z S) Q E) : Wp (fListA mu [.ref l] S) Q E := by
  have e : fListA mu [.ref l] S = mkL mu z S := by simp only [fListA, asD, asSq, asU, asL, h]
  rw [e]; exact q
theorem wp_tupL {z : List MV} (q : Q (.tup z) S) : Wp (fTuple [.lst z] S) Q E := q
theorem wp_tupT {z : List MV} (q : Q (.tup z) S) : Wp (fTuple [.tup z] S) Q E := q
theorem wp_isi {x : MV} {a b : String} (h : tyName S x = some a) (c : ["str", "int", "bool", "list", "tuple", "dict"].contains b = true) (q : Q (.bl (isiB a b)) S) : Wp (fIsi [x, .ty b] S) Q E := by
  have e : fIsi [x, .ty b] S = .ok (.bl (isiB a b)) S := by simp only [fIsi, h, c, if_true]
  exact wp_eq e q
theorem wp_isiT {x : MV} {b : String} (h : fIsi [x, .ty b] S = .ok (.bl true) S) (q : Q (.bl true) S) : Wp (fIsi [x, .ty b] S) Q E := wp_eq h q
theorem wp_isiF {x : MV} {b : String} (h : fIsi [x, .ty b] S = .ok (.bl false) S) (q : Q (.bl false) S) : Wp (fIsi [x, .ty b] S) Q E := wp_eq h q
theorem wp_max {a b : Int} (q : Q (.int (if b > a then b else a)) S) : Wp (fMax2 [.int a, .int b] S) Q E := q
theorem wp_min {a b : Int} (q : Q (.int (if b < a then b else a)) S) : Wp (fMin2 [.int a, .int b] S) Q E := q
theorem wp_all {x : MV} {bs : List Bool} (h : (asL S x).bind boolsOf = some bs) (q : Q (.bl (bs.all id)) S) : Wp (fAll [x] S) Q E := by
  unfold fAll; simp only []; rw [h]; exact q
theorem wp_any {x : MV} {bs : List Bool} (h : (asL S x).bind boolsOf = some bs) (q : Q (.bl (bs.any id)) S) : Wp (fAny [x] S) Q E := by
  unfold fAny; simp only []; rw [h]; exact q
theorem wp_append {l : Nat} {xs : List MV} {y : MV} (h : S[l]? = some (.lst xs)) (q : Q .non (S.set l (.lst (xs ++ [y])))) (c : xs.length < sizeLine) : Wp (fAppend (.ref l) [y] S) Q E := by
  have e : fAppend (.ref l) [y] S = .ok .non (S.set l (.lst (xs ++ [y]))) := by simp only [fAppend, onL, h, if_pos c]
  exact wp_eq e q
theorem wp_popI {l k : Nat} {xs : List MV} {i : Int} {y : MV} (h : S[l]? = some (.lst xs)) (hi : seqIndex? i xs.length = some k) (hk : xs[k]? = some y) (q : Q y (S.set l (.lst (xs.eraseIdx k)))) (c : -(2 ^ 63) ≤ i ∧ i < 2 ^ 63) : Wp (fPop (.ref l) [.int i] S) Q E := by
  have e : fPop (.ref l) [.int i] S = .ok y (S.set l (.lst (xs.eraseIdx k))) := by simp only [fPop, onL, h, if_pos c, hi, hk]
  exact wp_eq e q
theorem wp_dictD {kvs : List (MV × MV)} (q : Wp (mkD mu kvs S) Q E) : Wp (fDict mu [.dic kvs] S) Q E := q
theorem wp_dictL {xs : List MV} {kvs : List (MV × MV)} (h : pairsOf xs = some kvs) (q : Wp (mkD mu (mergeKM [] kvs) S) Q E) : Wp (fDict mu [.lst xs] S) Q E := by
  have e : fDict mu [.lst xs] S = mkD mu (mergeKM [] kvs) S := by simp only [fDict, asD, asL, Option.bind_some, h]
  rw [e]; exact q
end
/-! texts in lists held against each other -/
theorem all2_strs (d : Nat) : ∀ A B : List (List Nat), A.length = B.length → all2 (deq d) (A.map MV.str) (B.map MV.str) = some (decide (A = B))
  | [], [], _ => rfl
  | a :: A, b :: B, h => by
    have e : deq d (.str a) (.str b) = some (decide (a = b)) := by
      rw [deq_flat rfl rfl]; simp only [eqF, Option.some.injEq]; rw [Bool.eq_iff_iff]; simp
    simp only [List.map_cons, all2, e, all2_strs d A B (by simpa using h), List.cons.injEq, Bool.decide_and]
  | [], b :: B, h => by simp at h
  | a :: A, [], h => by simp at h
theorem deq_strs (d : Nat) (A B : List (List Nat)) : deq (d + 1) (.lst (A.map MV.str)) (.lst (B.map MV.str)) = some (decide (A = B)) := by
  unfold deq
  simp only [flat, Bool.false_and, Bool.false_eq_true, if_false, List.length_map]
  split
  · rename_i h; exact all2_strs d A B h
  · rename_i h
    congr 1; symm; apply decide_eq_false; intro e; exact h (by rw [e])
theorem wp_eqL {x y : MV} {A B : List (List Nat)} {Q : MV → Sto → Prop} (hx : view S x = .lst (A.map MV.str)) (hy : view S y = .lst (B.map MV.str)) (q : Q (.bl (decide (A = B))) S) : Wp (fEq x y S) Q E := by
  unfold fEq; rw [hx, hy, deq_strs]; exact q
theorem wp_neL {x y : MV} {A B : List (List Nat)} {Q : MV → Sto → Prop} (hx : view S x = .lst (A.map MV.str)) (hy : view S y = .lst (B.map MV.str)) (q : Q (.bl (!decide (A = B))) S) : Wp (fNe x y S) Q E := by
  unfold fNe; rw [hx, hy, deq_strs]; exact q
theorem view_ref {l : Nat} {xs : List MV} (h : S[l]? = some (.lst xs)) : view S (.ref l) = .lst xs := by
  unfold view; simp only []; rw [h]
theorem cutL_le {α : Type} (xs : List α) (lo hi : Option Int) : (cutL xs lo hi).length ≤ xs.length := by
  unfold cutL; rw [List.length_take, List.length_drop]; omega
theorem cut_lo {α : Type} {r : Int} (xs : List α) (h : 0 ≤ r) : cutL xs (some r) none = xs.drop r.toNat := by
  obtain ⟨m, rfl⟩ := Int.eq_ofNat_of_zero_le h
  unfold cutL
  rw [HT.sIx_none, HT.sIx_nat, Int.toNat_natCast]
  by_cases h1 : m ≤ xs.length
  · rw [Nat.min_eq_left h1]
    exact List.take_of_length_le (by rw [List.length_drop]; omega)
  · rw [Nat.min_eq_right (by omega), List.drop_of_length_le (Nat.le_refl _), List.drop_of_length_le (by omega)]
    simp
theorem cut_hi {α : Type} {r : Int} (xs : List α) (h : 0 ≤ r) : cutL xs none (some r) = xs.take r.toNat := by
  obtain ⟨m, rfl⟩ := Int.eq_ofNat_of_zero_le h
  rw [cut_none, Int.toNat_natCast]
theorem cutL_map {α β : Type} (f : α → β) (xs : List α) (lo hi : Option Int) : cutL (xs.map f) lo hi = (cutL xs lo hi).map f := by
  unfold cutL; rw [List.length_map, List.map_take, List.map_drop]
/-! draws -/
section
variable {l n : Nat} {Q : MV → Sto → Prop} {T : Sto}
theorem next_wp {sz : Int} (h : HasDr l n S) (hn : n < 2 ^ 20) (h0 : 0 < sz) (h1 : Bd sz 60) (q : ∀ r S', Draws l 1 S S' → 0 ≤ r → r < sz → Q (.int r) S') : Wp (m_law_next [.ref l, .int sz] S) Q E := by
  obtain ⟨r, S', e, d, r0, r1⟩ := next_ok h hn h0 h1
  exact wp_eq e (q r S' d r0 r1)
theorem next_wpT {sz : Int} (h : HasDr l n S) (hn : n < 2 ^ 20) (h0 : 0 < sz) (h1 : Bd sz 60) (q : ∀ r S', Draws l 1 S S' → 0 ≤ r → r < sz → Q (.int r) (S' ++ T)) : Wp (m_law_next [.ref l, .int sz] (S ++ T)) Q E := by
  refine next_wp (h.app T) hn h0 h1 fun r S1 d r0 r1 => ?_
  obtain ⟨S2, rfl, d2⟩ := d.app h.lt
  exact q r S2 d2 r0 r1
theorem pick_wpL {xs : List MV} (h : HasDr l n S) (hn : n < 2 ^ 20) (h0 : xs ≠ []) (h1 : xs.length < 2 ^ 60) (hc : ClL S.length xs) (q : ∀ v S', Draws l 1 S S' → v ∈ xs → Q v S') : Wp (m_law_pick [.ref l, .lst xs] S) Q E := by
  obtain ⟨v, S', e, d, m⟩ := pick_lst h hn h0 h1 hc
  exact wp_eq e (q v S' d m)
theorem pick_wpTu {xs : List MV} (h : HasDr l n S) (hn : n < 2 ^ 20) (h0 : xs ≠ []) (h1 : xs.length < 2 ^ 60) (hc : ClL S.length xs) (q : ∀ v S', Draws l 1 S S' → v ∈ xs → Q v S') : Wp (m_law_pick [.ref l, .tup xs] S) Q E := by
  obtain ⟨v, S', e, d, m⟩ := pick_tup h hn h0 h1 hc
  exact wp_eq e (q v S' d m)
theorem pick_wpS {z : List Nat} (h : HasDr l n S) (hn : n < 2 ^ 20) (h0 : z ≠ []) (h1 : z.length ≤ sizeLine) (q : ∀ c S', Draws l 1 S S' → c ∈ z → Q (.str [c]) S') : Wp (m_law_pick [.ref l, .str z] S) Q E := by
  obtain ⟨v, S', e, d, c, hc, rfl⟩ := pick_str h hn h0 h1
  exact wp_eq e (q c S' d hc)
theorem names_wp {F : List (List Nat)} {m : Nat} (h : HasDr l n S) (hn : n + 12 * m + 12 ≤ 2 ^ 20) (hF : F.length + m ≤ 25) (q : ∀ (zs : List (List Nat)) S', Draws l (12 * m) S S' → zs.length = m → (∀ z ∈ zs, Nm z ∧ z ∉ F) → zs.Nodup → Q (.lst (zs.map MV.str)) S') : Wp (m_law_names [.ref l, .int m, .lst (F.map MV.str)] S) Q E := by
  have w := @names_ok l n S F m h hn hF
  clear hn hF h
  generalize m_law_names [.ref l, .int m, .lst (F.map MV.str)] S = r at w ⊢
  obtain ⟨zs, S', e, d, h1, h2, h3⟩ := w
  exact wp_eq e (q zs S' d h1 h2 h3)
theorem names_wpI {F : List (List Nat)} {k : Int} (h : HasDr l n S) (k0 : 0 ≤ k) (k1 : k ≤ 25) (hn : n + 400 ≤ 2 ^ 20) (hF : (F.length : Int) + k ≤ 25) (q : ∀ (zs : List (List Nat)) S', Draws l (12 * k.toNat) S S' → (zs.length : Int) = k → (∀ z ∈ zs, Nm z ∧ z ∉ F) → zs.Nodup → Q (.lst (zs.map MV.str)) S') : Wp (m_law_names [.ref l, .int k, .lst (F.map MV.str)] S) Q E := by
  obtain ⟨m, rfl⟩ := Int.eq_ofNat_of_zero_le k0
  have m1 : m ≤ 25 := by omega
  have q2 : ∀ (zs : List (List Nat)) S', Draws l (12 * m) S S' → zs.length = m → (∀ z ∈ zs, Nm z ∧ z ∉ F) → zs.Nodup → Q (.lst (zs.map MV.str)) S' := fun zs S' d h1 => q zs S' (by rw [Int.toNat_natCast]; exact d) (by omega)
  have b1 : n + 12 * m + 12 ≤ 2 ^ 20 := by omega
  have b2 : F.length + m ≤ 25 := by omega
  clear q hn hF k0 k1
  have w := @names_ok l n S F m h b1 b2
  clear b1 b2 h
  generalize m_law_names [.ref l, .int m, .lst (F.map MV.str)] S = r at w ⊢
  obtain ⟨zs, S', e, d, h1, h2, h3⟩ := w
  exact wp_eq e (q2 zs S' d h1 h2 h3)
theorem begun_wp {c k : Int} (hk : Bd k 60) (q : ∀ o : MO, HasDr S.length 0 (S ++ [o]) → Q (.ref S.length) (S ++ [o])) : Wp (m_law_begun [.int c, .int k] S) Q E :=
  wp_eq (begun_ok c k S hk) (q _ ⟨_, _, _, List.getElem?_concat_length .., by omega, by omega⟩)
end
/-! comprehensions -/
theorem compL_wp {t : Itv} {g : MG} {c : MB} {e : ME} {m : Nat} {env : Env} (ht : t.deps = []) (I : List MV → List MV → Sto → Prop)
    (step : ∀ v rest acc S, I (v :: rest) acc S → S.length = m → ∃ e1, g v env = some e1 ∧ Wp (c e1 (S ++ [.lst acc])) (fun b S2 => if b = true then Wp (e e1 S2) (fun y S3 => ∃ S4, S3 = S4 ++ [.lst acc] ∧ S4.length = m ∧ I rest (acc ++ [y]) S4) (fun _ _ => False) else ∃ S4, S2 = S4 ++ [.lst acc] ∧ S4.length = m ∧ I rest acc S4) (fun _ _ => False)) :
    ∀ (items acc : List MV) (S : Sto), I items acc S → S.length = m → acc.length + items.length ≤ sizeLine →
      Wp (compL t g c e m items env (S ++ [.lst acc])) (fun _ S2 => ∃ acc S4, S2 = S4 ++ [.lst acc] ∧ S4.length = m ∧ I [] acc S4) (fun _ _ => False)
  | [], acc, S, h, hm, hs => by
    unfold compL
    rw [if_pos (chk_nil ht _)]
    exact ⟨acc, S, rfl, hm, h⟩
  | v :: rest, acc, S, h, hm, hs => by
    unfold compL
    rw [if_pos (chk_nil ht _)]
    obtain ⟨e1, h1, h2⟩ := step v rest acc S h hm
    rw [h1]
    simp only []
    rw [List.length_cons] at hs
    obtain ⟨b, S2, e2, h3⟩ := wp_ex h2
    rw [e2]
    cases b with
    | false =>
      obtain ⟨S4, rfl, hm4, h4⟩ := h3
      exact compL_wp ht I step rest acc S4 h4 hm4 (by omega)
    | true =>
      have h3 : Wp (e e1 S2) (fun y S3 => ∃ S4, S3 = S4 ++ [.lst acc] ∧ S4.length = m ∧ I rest (acc ++ [y]) S4) (fun _ _ => False) := h3
      obtain ⟨y, S3, e3, S4, rfl, hm4, h4⟩ := wp_ex h3
      simp only [e3]
      have g1 : (S4 ++ [MO.lst acc])[m]? = some (.lst acc) := by rw [← hm4]; simp
      have g2 : (S4 ++ [MO.lst acc]).set m (.lst (acc ++ [y])) = S4 ++ [.lst (acc ++ [y])] := by rw [← hm4]; simp
      rw [g1]
      simp only [g2]
      rw [if_pos (by omega)]
      exact compL_wp ht I step rest (acc ++ [y]) S4 h4 hm4 (by rw [List.length_append, List.length_cons, List.length_nil]; omega)
theorem wp_comp {mu : Bool} {mi : Env → Sto → Res Itv} {vs : List Nat} {g : MG} {c : MB} {e : ME} {env : Env} {S S1 : Sto} {t : Itv} {Q : MV → Sto → Prop} {E : MX → Sto → Prop} (hi : mi env S = .ok t S1) (ht : t.deps = []) (I : List MV → List MV → Sto → Prop) (h0 : I t.items [] S1) (hs : t.items.length ≤ sizeLine)
    (step : ∀ v rest acc S, I (v :: rest) acc S → S.length = S1.length → ∃ e1, g v (wipeE env vs) = some e1 ∧ Wp (c e1 (S ++ [.lst acc])) (fun b S2 => if b = true then Wp (e e1 S2) (fun y S3 => ∃ S4, S3 = S4 ++ [.lst acc] ∧ S4.length = S1.length ∧ I rest (acc ++ [y]) S4) (fun _ _ => False) else ∃ S4, S2 = S4 ++ [.lst acc] ∧ S4.length = S1.length ∧ I rest acc S4) (fun _ _ => False))
    (fin : ∀ acc S2, I [] acc S2 → S2.length = S1.length → if mu = true then Q (.ref S1.length) (S2 ++ [.lst acc]) else ClL S1.length acc ∧ Keeps S1 S2 ∧ Q (.lst acc) S2) : Wp (mComp mu mi vs g c e env S) Q E := by
  have w := compL_wp (t := t) (g := g) (c := c) (e := e) (m := S1.length) (env := wipeE env vs) ht I step t.items [] S1 h0 rfl (by simpa using hs)
  obtain ⟨u, S2, e2, acc, S4, rfl, hm, h4⟩ := wp_ex w
  unfold mComp
  rw [hi]
  simp only [bind_ok, e2, compE]
  have f := fin acc S4 h4 hm
  cases mu with
  | true => exact f
  | false =>
    obtain ⟨f1, f2, f3⟩ := f
    exact wp_eq (leaveV_new f2 hm f1) f3
/-- a comprehension that changes nothing -/
theorem wp_compP {mu : Bool} {mi : Env → Sto → Res Itv} {vs : List Nat} {g : MG} {c : MB} {e : ME} {env : Env} {S : Sto} {t : Itv} {Q : MV → Sto → Prop} {E : MX → Sto → Prop} {p : MV → Bool} {F : MV → MV} (hi : mi env S = .ok t S) (ht : t.deps = []) (hs : t.items.length ≤ sizeLine)
    (step : ∀ v ∈ t.items, ∃ e1, g v (wipeE env vs) = some e1 ∧ ∀ acc, c e1 (S ++ [.lst acc]) = .ok (p v) (S ++ [.lst acc]) ∧ (p v = true → e e1 (S ++ [.lst acc]) = .ok (F v) (S ++ [.lst acc])))
    (cl : ClL S.length ((t.items.filter p).map F)) (q : if mu = true then Q (.ref S.length) (S ++ [.lst ((t.items.filter p).map F)]) else Q (.lst ((t.items.filter p).map F)) S) : Wp (mComp mu mi vs g c e env S) Q E := by
  have w := mComp_pure (mu := mu) (mi := mi) (vs := vs) (g := g) (c := c) (e := e) (env := env) (S := S) (t := t) (p := p) (F := F) hi (fun acc => chk_nil ht _) step hs cl
  cases mu with
  | true => exact wp_eq w q
  | false => exact wp_eq w q
theorem map_erase {α β : Type} (f : α → β) : ∀ (xs : List α) (k : Nat), (xs.map f).eraseIdx k = (xs.eraseIdx k).map f
  | [], _ => rfl
  | x :: r, 0 => rfl
  | x :: r, k + 1 => by simp only [List.map_cons, List.eraseIdx_cons_succ, map_erase f r k]
theorem seq_ix {r : Int} {n : Nat} (h0 : 0 ≤ r) (h1 : r < n) : seqIndex? r n = some r.toNat := by
  unfold seqIndex?
  have : ¬ r < 0 := by omega
  simp [this, h0, h1]
theorem clL_all {n : Nat} : ∀ {ys : List MV}, (∀ y ∈ ys, Cl n y) → ClL n ys
  | [], _ => by simp only [ClL]
  | y :: r, h => by simp only [ClL]; exact ⟨h y (by simp), clL_all fun z hz => h z (List.mem_cons_of_mem _ hz)⟩
/-! the law's own head: so many cells, each with its number -/
theorem for_cells {N : Env → Sto → Prop} {R : MV → Sto → Prop} {B C : Env → Sto → Prop} {X : EE} {ns d : List Int} {a : ME} {k : Nat} {g : MG} {mb : MSt} {env : Env} {S : Sto} (h0 : env[0]? = some (some (.rol (ns.map MV.int)))) (ha : a env S = .ok (.lst (d.map MV.int)) S) (hd : d.length ≤ k) (I : Env → Sto → Prop) (h : I env S)
    (st : ∀ (i c : Int) (env : Env) (S : Sto), I env S → 0 ≤ i → i < k → ∃ e1, g (.tup [.int i, .int c]) env = some e1 ∧ Ws (mb e1 S) I (fun _ _ => False) (fun _ _ => False) I (fun _ _ _ => False)) (fin : ∀ env S, I env S → N env S) :
    Ws (sFor (mItE (mCons (mSl false (mOrT (mV 0) a) mNoPart (mPart (mC (.int k)))) mNil)) g mb env S) N R B C X := by
  refine ws_for ?_
  have hh := head_ok (k := k) h0 ha
  have e : mItE (mCons (mSl false (mOrT (mV 0) a) mNoPart (mPart (mC (.int k)))) mNil) env S = .ok ⟨enuL (((if ns = [] then d else ns).take k).map MV.int), []⟩ S := by
    simp only [mItE, mCons, mNil, hh, bind_ok, asL, depsOf]
  refine wp_eq e ?_
  generalize hy : (if ns = [] then d else ns).take k = ys
  have hl : ys.length ≤ k := by rw [← hy, List.length_take]; omega
  refine for_wp (fun items env S => I env S ∧ ∀ v ∈ items, ∃ i c : Int, v = .tup [.int i, .int c] ∧ 0 ≤ i ∧ i < k) ⟨h, fun v hv => ?_⟩ (fun v rest env S hI => ?_) (fun env S hI => fin _ _ hI.1)
  · obtain ⟨j, hj⟩ := List.getElem?_of_mem hv
    obtain ⟨x, hx, rfl⟩ := enu_at hj
    obtain ⟨hj2, c, rfl⟩ := ints_at hx
    exact ⟨j, c, rfl, by omega, by omega⟩
  · obtain ⟨i, c, rfl, i0, i1⟩ := hI.2 v (by simp)
    obtain ⟨e1, h1, h2⟩ := st i c env S hI.1 i0 i1
    have hr : ∀ v ∈ rest, ∃ i c : Int, v = .tup [.int i, .int c] ∧ 0 ≤ i ∧ i < k := fun v hv => hI.2 v (List.mem_cons_of_mem _ hv)
    exact ⟨e1, h1, ws_mono h2 (fun _ _ z => ⟨z, hr⟩) (fun _ _ z => z.elim) (fun _ _ z => z.elim) (fun _ _ z => ⟨z, hr⟩) (fun _ _ _ z => z.elim)⟩
theorem law_top {m : List MV → Sto → Res MV} {ns : List Int} (h : Wp (m [.rol (ns.map MV.int)] []) (fun v _ => v = .bl true) (fun _ _ => False)) : ∃ S, m [.rol (ns.map MV.int)] [] = .ok (.bl true) S := by
  obtain ⟨v, S, e, rfl⟩ := wp_ex h
  exact ⟨S, e⟩
theorem wp_leaveTop {S : Sto} {b : Bool} {Q : MV → Sto → Prop} {E : MX → Sto → Prop} (q : Q (.bl b) []) : Wp (leaveV [] S (.bl b)) Q E := wp_eq (leave_top b) q
end
end Mi

/-! forms: the walk with a stack reads what the walk by recursion reads -/
namespace P14
def isL (c : Nat) : Bool := decide (97 ≤ c ∧ c ≤ 122)
def re (t : List Nat) (a : Nat) : Nat := a + ((t.drop a).takeWhile isL).length
theorem re_ge (t : List Nat) (a : Nat) : a ≤ re t a := Nat.le_add_right _ _
def nm (t : List Nat) (a : Nat) : List Nat := (t.drop a).take (re t a - a)
section
variable (t : List Nat) (ar : List Nat → Option Nat) (wd : List Nat → Bool)
/-- behind a form that ended at a: where the next one begins, -1 at the end, -2 where it breaks; the counts left, the innermost first -/
def nf : Nat → List Nat → Int × List Nat
  | a, [] => (if a = t.length then -1 else -2, [])
  | a, k :: ks => if 1 < k then (if t[a]? = some 44 then ((a + 1 : Nat) : Int) else -2, (k - 1) :: ks) else if t[a]? = some 41 then nf (a + 1) ks else (-2, (k - 1) :: ks)
theorem nf_nil (a : Nat) : nf t a [] = (if a = t.length then -1 else -2, []) := by unfold nf; rfl
theorem nf_cons (a k : Nat) (ks : List Nat) : nf t a (k :: ks) = if 1 < k then (if t[a]? = some 44 then ((a + 1 : Nat) : Int) else -2, (k - 1) :: ks) else if t[a]? = some 41 then nf t (a + 1) ks else (-2, (k - 1) :: ks) := by
  rw [nf]
def run : Nat → Int → List Nat → Option Bool
  | 0, _, _ => none
  | f + 1, at', st => if at' < 0 then some (decide (at' = -1)) else
    let a := at'.toNat
    if t[re t a]? = some 40 then (match ar (nm t a) with
      | none => some false
      | some n => if n = 0 then run f (nf t (re t a + 1) (1 :: st)).1 (nf t (re t a + 1) (1 :: st)).2 else run f ((re t a + 1 : Nat) : Int) (n :: st))
    else if wd (nm t a) = true then run f (nf t (re t a) st).1 (nf t (re t a) st).2 else some false
/-- n forms from e, the k-th of them next, by rd -/
def args (rd : Nat → Option (Option Nat)) : Nat → Bool → Nat → Option (Option Nat)
  | 0, _, e => some (if t[e]? = some 41 then some (e + 1) else none)
  | n + 1, fst, e => if fst = false ∧ ¬ t[e]? = some 44 then some none else (match rd (if fst = true then e else e + 1) with
    | none => none
    | some none => some none
    | some (some e2) => args rd n false e2)
def read : Nat → Nat → Option (Option Nat)
  | 0, _ => none
  | d + 1, a => if t[re t a]? = some 40 then (match ar (nm t a) with
      | none => some none
      | some n => args t (read d) n true (re t a + 1))
    else some (if wd (nm t a) = true then some (re t a) else none)
def Run (at' : Int) (st : List Nat) (v : Bool) : Prop := ∃ f, run t ar wd f at' st = some v
theorem run_mono : ∀ (f g : Nat) (a : Int) (st : List Nat) (v : Bool), f ≤ g → run t ar wd f a st = some v → run t ar wd g a st = some v
  | 0, _, _, _, _, _, h => by simp [run] at h
  | f + 1, 0, _, _, _, h, _ => by omega
  | f + 1, g + 1, a, st, v, hfg, h => by
    unfold run at h ⊢
    have ih : ∀ a st v, run t ar wd f a st = some v → run t ar wd g a st = some v := fun a st v q => run_mono f g a st v (by omega) q
    by_cases h0 : a < 0
    · rw [if_pos h0] at h ⊢; exact h
    · rw [if_neg h0] at h ⊢
      simp only at h ⊢
      by_cases h1 : t[re t a.toNat]? = some 40
      · rw [if_pos h1] at h ⊢
        cases e : ar (nm t a.toNat) with
        | none => rw [e] at h; exact h
        | some n =>
          rw [e] at h
          simp only at h ⊢
          by_cases h2 : n = 0
          · rw [if_pos h2] at h ⊢; exact ih _ _ _ h
          · rw [if_neg h2] at h ⊢; exact ih _ _ _ h
      · rw [if_neg h1] at h ⊢
        by_cases h3 : wd (nm t a.toNat) = true
        · rw [if_pos h3] at h ⊢; exact ih _ _ _ h
        · rw [if_neg h3] at h ⊢; exact h
theorem run_neg {at' : Int} {st : List Nat} (h : at' < 0) : Run t ar wd at' st (decide (at' = -1)) := ⟨1, by unfold run; rw [if_pos h]⟩
theorem run_word {a : Nat} {st : List Nat} {v : Bool} (h1 : ¬ t[re t a]? = some 40) (h2 : wd (nm t a) = true) (h : Run t ar wd (nf t (re t a) st).1 (nf t (re t a) st).2 v) : Run t ar wd a st v := by
  obtain ⟨f, h⟩ := h
  refine ⟨f + 1, ?_⟩
  unfold run
  rw [if_neg (by omega)]
  simp only [Int.toNat_natCast]
  rw [if_neg h1, if_pos h2]
  exact h
theorem run_noword {a : Nat} {st : List Nat} (h1 : ¬ t[re t a]? = some 40) (h2 : ¬ wd (nm t a) = true) : Run t ar wd a st false := by
  refine ⟨1, ?_⟩
  unfold run
  rw [if_neg (by omega)]
  simp only [Int.toNat_natCast]
  rw [if_neg h1, if_neg h2]
theorem run_nodeed {a : Nat} {st : List Nat} (h1 : t[re t a]? = some 40) (h2 : ar (nm t a) = none) : Run t ar wd a st false := by
  refine ⟨1, ?_⟩
  unfold run
  rw [if_neg (by omega)]
  simp only [Int.toNat_natCast]
  rw [if_pos h1, h2]
theorem run_deed0 {a : Nat} {st : List Nat} {v : Bool} (h1 : t[re t a]? = some 40) (h2 : ar (nm t a) = some 0) (h : Run t ar wd (nf t (re t a + 1) (1 :: st)).1 (nf t (re t a + 1) (1 :: st)).2 v) : Run t ar wd a st v := by
  obtain ⟨f, h⟩ := h
  refine ⟨f + 1, ?_⟩
  unfold run
  rw [if_neg (by omega)]
  simp only [Int.toNat_natCast]
  rw [if_pos h1, h2]
  simpa using h
theorem run_deed {a n : Nat} {st : List Nat} {v : Bool} (h1 : t[re t a]? = some 40) (h2 : ar (nm t a) = some n) (hn : n ≠ 0) (h : Run t ar wd ((re t a + 1 : Nat) : Int) (n :: st) v) : Run t ar wd a st v := by
  obtain ⟨f, h⟩ := h
  refine ⟨f + 1, ?_⟩
  unfold run
  rw [if_neg (by omega)]
  simp only [Int.toNat_natCast]
  rw [if_pos h1, h2]
  simp only
  rw [if_neg hn]
  exact h
theorem run_two {st : List Nat} : Run t ar wd (-2) st false := by
  have := run_neg t ar wd (at' := -2) (st := st) (by decide)
  simpa using this
/-- what a reading from a means for the walk -/
def Means (r : Option Nat) (at' : Int) (st : List Nat) : Prop := match r with
  | none => Run t ar wd at' st false
  | some e => ∀ v, Run t ar wd (nf t e st).1 (nf t e st).2 v → Run t ar wd at' st v
theorem args_means (rd : Nat → Option (Option Nat)) (ih : ∀ a r st, rd a = some r → Means t ar wd r a st) :
    ∀ (n e : Nat) (r : Option Nat) (st : List Nat), args t rd n false e = some r →
      match r with
      | none => Run t ar wd (nf t e ((n + 1) :: st)).1 (nf t e ((n + 1) :: st)).2 false
      | some e2 => ∀ v, Run t ar wd (nf t e2 st).1 (nf t e2 st).2 v → Run t ar wd (nf t e ((n + 1) :: st)).1 (nf t e ((n + 1) :: st)).2 v
  | 0, e, r, st, h => by
    unfold args at h
    simp only [Option.some.injEq] at h
    rw [nf_cons, if_neg (by omega)]
    by_cases h1 : t[e]? = some 41
    · rw [if_pos h1] at h ⊢
      subst h
      exact fun v q => q
    · rw [if_neg h1] at h ⊢
      subst h
      exact run_two t ar wd
  | n + 1, e, r, st, h => by
    unfold args at h
    rw [nf_cons, if_pos (by omega)]
    have e1 : n + 1 + 1 - 1 = n + 1 := by omega
    rw [e1]
    by_cases h1 : t[e]? = some 44
    · rw [if_neg (by simp [h1])] at h
      simp only [h1, if_true] 
      simp only [Bool.false_eq_true, if_false] at h
      cases hr : rd (e + 1) with
      | none => rw [hr] at h; cases h
      | some r2 =>
        rw [hr] at h
        have m := ih (e + 1) r2 ((n + 1) :: st) hr
        cases r2 with
        | none =>
          simp only [Option.some.injEq] at h
          subst h
          exact m
        | some e2 =>
          simp only at h
          have k := args_means rd ih n e2 r st h
          cases r with
          | none => exact m _ k
          | some e3 => exact fun v q => m v (k v q)
    · rw [if_pos ⟨rfl, h1⟩] at h
      simp only [Option.some.injEq] at h
      subst h
      rw [if_neg h1]
      exact run_two t ar wd
theorem read_means : ∀ (d a : Nat) (r : Option Nat) (st : List Nat), read t ar wd d a = some r → Means t ar wd r a st
  | 0, _, _, _, h => by simp [read] at h
  | d + 1, a, r, st, h => by
    unfold read at h
    by_cases h1 : t[re t a]? = some 40
    · rw [if_pos h1] at h
      cases e : ar (nm t a) with
      | none =>
        rw [e] at h
        simp only [Option.some.injEq] at h
        subst h
        exact run_nodeed t ar wd h1 e
      | some n =>
        rw [e] at h
        simp only at h
        cases n with
        | zero =>
          unfold args at h
          simp only [Option.some.injEq] at h
          by_cases h2 : t[re t a + 1]? = some 41
          · rw [if_pos h2] at h
            subst h
            intro v q
            refine run_deed0 t ar wd h1 e ?_
            rw [nf_cons, if_neg (by omega), if_pos h2]
            exact q
          · rw [if_neg h2] at h
            subst h
            refine run_deed0 t ar wd h1 e ?_
            rw [nf_cons, if_neg (by omega), if_neg h2]
            exact run_two t ar wd
        | succ n =>
          unfold args at h
          rw [if_neg (by simp)] at h
          simp only [if_true] at h
          cases hr : read t ar wd d (re t a + 1) with
          | none => rw [hr] at h; cases h
          | some r2 =>
            rw [hr] at h
            have m := read_means d (re t a + 1) r2 ((n + 1) :: st) hr
            cases r2 with
            | none =>
              simp only [Option.some.injEq] at h
              subst h
              exact run_deed t ar wd h1 e (by omega) m
            | some e2 =>
              simp only at h
              have k := args_means t ar wd (read t ar wd d) (fun a r st q => read_means d a r st q) n e2 r st h
              cases r with
              | none => exact run_deed t ar wd h1 e (by omega) (m _ k)
              | some e3 => exact fun v q => run_deed t ar wd h1 e (by omega) (m v (k v q))
    · rw [if_neg h1] at h
      simp only [Option.some.injEq] at h
      by_cases h2 : wd (nm t a) = true
      · rw [if_pos h2] at h
        subst h
        exact fun v q => run_word t ar wd h1 h2 q
      · rw [if_neg h2] at h
        subst h
        exact run_noword t ar wd h1 h2
/-- the whole text -/
theorem whole {d : Nat} {r : Option Nat} (h : read t ar wd d 0 = some r) : Run t ar wd 0 [] (decide (r = some t.length)) := by
  have m := read_means t ar wd d 0 r [] h
  cases r with
  | none => exact m
  | some e =>
    refine m _ ?_
    rw [nf_nil]
    by_cases he : e = t.length
    · rw [if_pos he]
      have q := run_neg t ar wd (at' := -1) (st := []) (by decide)
      simpa [he] using q
    · rw [if_neg he]
      have q := run_two t ar wd (st := [])
      simpa [he] using q
theorem args_ge {rd : Nat → Option (Option Nat)} (h : ∀ a e, rd a = some (some e) → a ≤ e) : ∀ (n : Nat) (b : Bool) (e e2 : Nat), args t rd n b e = some (some e2) → e ≤ e2
  | 0, b, e, e2, q => by
    unfold args at q
    simp only [Option.some.injEq] at q
    by_cases y : t[e]? = some 41
    · rw [if_pos y] at q; simp only [Option.some.injEq] at q; omega
    · rw [if_neg y] at q; cases q
  | n + 1, b, e, e2, q => by
    unfold args at q
    by_cases y : b = false ∧ ¬ t[e]? = some 44
    · rw [if_pos y] at q; simp at q
    · rw [if_neg y] at q
      cases hr : rd (if b = true then e else e + 1) with
      | none => rw [hr] at q; cases q
      | some r2 =>
        rw [hr] at q
        cases r2 with
        | none => simp at q
        | some e3 =>
          have h1 := h _ _ hr
          have h2 := args_ge h n false e3 e2 q
          have : e ≤ (if b = true then e else e + 1) := by split <;> omega
          omega
theorem read_ge : ∀ (d a e : Nat), read t ar wd d a = some (some e) → a ≤ e
  | 0, _, _, h => by simp [read] at h
  | d + 1, a, e, h => by
    have ge := re_ge t a
    unfold read at h
    by_cases h1 : t[re t a]? = some 40
    · rw [if_pos h1] at h
      cases har : ar (nm t a) with
      | none => rw [har] at h; simp at h
      | some n =>
        rw [har] at h
        have := args_ge t (rd := read t ar wd d) (fun a e q => read_ge d a e q) n true (re t a + 1) e h
        omega
    · rw [if_neg h1] at h
      simp only [Option.some.injEq] at h
      by_cases h2 : wd (nm t a) = true
      · rw [if_pos h2] at h; simp only [Option.some.injEq] at h; omega
      · rw [if_neg h2] at h; cases h
theorem args_total {rd : Nat → Option (Option Nat)} {lo : Nat} (h : ∀ a e, rd a = some (some e) → a ≤ e) (g : ∀ a, lo ≤ a → a ≤ t.length → rd a ≠ none) : ∀ (n : Nat) (b : Bool) (e : Nat), lo ≤ e → (b = true → e ≤ t.length) → args t rd n b e ≠ none
  | 0, b, e, _, _ => by unfold args; simp
  | n + 1, b, e, h1, h2 => by
    unfold args
    by_cases y : b = false ∧ ¬ t[e]? = some 44
    · rw [if_pos y]; simp
    · rw [if_neg y]
      have le : (if b = true then e else e + 1) ≤ t.length := by
        cases b with
        | true => simpa using h2 rfl
        | false =>
          have h44 : t[e]? = some 44 := Classical.byContradiction fun n => y ⟨rfl, n⟩
          have := (List.getElem?_eq_some_iff.mp h44).1
          simp; omega
      have ge : lo ≤ (if b = true then e else e + 1) := by split <;> omega
      cases hr : rd (if b = true then e else e + 1) with
      | none => exact absurd hr (g _ ge le)
      | some r2 =>
        cases r2 with
        | none => simp
        | some e3 =>
          have := h _ _ hr
          exact args_total h g n false e3 (by omega) (fun z => by cases z)
theorem read_total : ∀ (d a : Nat), a ≤ t.length → t.length < a + d → read t ar wd d a ≠ none
  | 0, a, h1, h2 => by omega
  | d + 1, a, h1, h2 => by
    have ge := re_ge t a
    unfold read
    by_cases h40 : t[re t a]? = some 40
    · rw [if_pos h40]
      have lt := (List.getElem?_eq_some_iff.mp h40).1
      cases har : ar (nm t a) with
      | none => simp
      | some n => exact args_total t (lo := re t a + 1) (fun a e q => read_ge t ar wd d a e q) (fun b b1 b2 => read_total d b b2 (by omega)) n true (re t a + 1) (Nat.le_refl _) (fun _ => by omega)
    · rw [if_neg h40]; simp
end
end P14

namespace Mi
namespace K14
open PySem L2 Sh
noncomputable def b_law_tree_c1 (r : List MV → Sto → Res MV) : ME :=
  (mComp false (mItR1 (mCons (mV 5) mNil)) [6] (gN 6) mYes (mCall 4 r [] (mCons (mV 0) (mCons (mV 1) (mCons (mV 2) (mCons (mBin fSub (mV 3) (mC (.int 1))) mNil))))))
noncomputable def b_law_tree (r : List MV → Sto → Res MV) : MSt :=
  (sSeq (sIf (mOrB (asB (mBin fEq (mV 3) (mC (.int 0)))) (mOrB (asB (mBin fEq (mV 2) (mLst false mNil))) (asB (mBin fEq (mCall 2 m_law_next [] (mCons (mV 0) (mCons (mC (.int 3)) mNil))) (mC (.int 0)))))) (sRet (mTup (mCons (mCall 2 m_law_pick [] (mCons (mV 0) (mCons (mV 1) mNil))) (mCons (mC .non) mNil)))) sNext)
  (sSeq (sAsg (gT 2 (gCs (gN 4) (gCs (gN 5) gNl))) (mCall 2 m_law_pick [] (mCons (mV 0) (mCons (mV 2) mNil))))
  (sRet (mTup (mCons (mV 4) (mCons (b_law_tree_c1 r) mNil))))))
noncomputable def m_law_tree : Nat → List MV → Sto → Res MV
  | 0 => fun _ _ => .bad
  | d + 1 => mDef 7 (b_law_tree (m_law_tree d))
noncomputable def b_law_text_c1 (r : List MV → Sto → Res MV) : ME :=
  (mComp false (mItS (mBin fIx (mV 0) (mC (.int 1)))) [1] (gN 1) mYes (mCall 1 r [] (mCons (mV 1) mNil)))
noncomputable def b_law_text (r : List MV → Sto → Res MV) : MSt :=
  (sSeq (sIf (asB (mIsN (mBin fIx (mV 0) (mC (.int 1))))) (sRet (mBin fIx (mV 0) (mC (.int 0)))) sNext)
  (sRet (mBin (fAdd false) (mBin (fAdd false) (mBin (fAdd false) (mBin fIx (mV 0) (mC (.int 0))) (mC (.str [40]))) (mBM "str" fJoin (mC (.str [44])) (mCons (b_law_text_c1 r) mNil))) (mC (.str [41])))))
noncomputable def m_law_text : Nat → List MV → Sto → Res MV
  | 0 => fun _ _ => .bad
  | d + 1 => mDef 2 (b_law_text (m_law_text d))
noncomputable def b_law_spoilt : MSt :=
  (sSeq (sSet 3 (mCall 2 m_law_pick [] (mCons (mV 0) (mCons (mC (.str [40, 41, 44, 40, 41, 44, 32, 32, 46, 97, 98, 99, 100, 101, 120, 121, 122, 65, 66, 49, 57])) mNil))))
  (sSeq (sSet 4 (mCall 2 m_law_next [] (mCons (mV 0) (mCons (mBin (fAdd false) (mB fLen (mCons (mV 1) mNil)) (mC (.int 1))) mNil))))
  (sSeq (sIf (asB (mBin fEq (mV 2) (mC (.int 1)))) (sRet (mBin (fAdd false) (mSl false (mV 1) mNoPart (mPart (mV 4))) (mSl false (mV 1) (mPart (mBin (fAdd false) (mV 4) (mC (.int 1)))) mNoPart))) sNext)
  (sSeq (sIf (asB (mBin fEq (mV 2) (mC (.int 2)))) (sRet (mBin (fAdd false) (mBin (fAdd false) (mSl false (mV 1) mNoPart (mPart (mV 4))) (mV 3)) (mSl false (mV 1) (mPart (mBin (fAdd false) (mV 4) (mC (.int 1)))) mNoPart))) sNext)
  (sSeq (sIf (asB (mBin fEq (mV 2) (mC (.int 3)))) (sRet (mBin (fAdd false) (mBin (fAdd false) (mSl false (mV 1) mNoPart (mPart (mV 4))) (mV 3)) (mSl false (mV 1) (mPart (mV 4)) mNoPart))) sNext)
  (sSeq (sIf (asB (mBin fEq (mV 2) (mC (.int 4)))) (sRet (mBin (fAdd false) (mBin (fAdd false) (mSl false (mV 1) mNoPart (mPart (mV 4))) (mSl false (mV 1) (mPart (mV 4)) mNoPart)) (mSl false (mV 1) (mPart (mV 4)) mNoPart))) sNext)
  (sRet (mV 1))))))))
noncomputable def m_law_spoilt : List MV → Sto → Res MV := mDef 5 b_law_spoilt
noncomputable def b_run_end_l1 : MSt :=
  (sSet 1 (mBin (fAdd false) (mV 1) (mC (.int 1))))
noncomputable def b_run_end : MSt :=
  (sSeq (sWhile (mAndB (asB (mBin fLt (mV 1) (mB fLen (mCons (mV 0) mNil)))) (asB (mBin fIn (mBin fIx (mV 0) (mV 1)) (mC (.str [97, 98, 99, 100, 101, 102, 103, 104, 105, 106, 107, 108, 109, 110, 111, 112, 113, 114, 115, 116, 117, 118, 119, 120, 121, 122]))))) b_run_end_l1)
  (sRet (mV 1)))
noncomputable def m_run_end : List MV → Sto → Res MV := mDef 2 b_run_end
noncomputable def b_next_form_l1 : MSt :=
  (sSeq (sSub (mV 2) (mNeg (mC (.int 1))) (mBin fSub (mBin fIx (mV 2) (mNeg (mC (.int 1)))) (mC (.int 1))))
    (sSeq (sIf (asB (mBin fGt (mBin fIx (mV 2) (mNeg (mC (.int 1)))) (mC (.int 0)))) (sRet (mIf (asB (mBin fEq (mSl false (mV 0) (mPart (mV 1)) (mPart (mBin (fAdd false) (mV 1) (mC (.int 1))))) (mC (.str [44])))) (mBin (fAdd false) (mV 1) (mC (.int 1))) (mNeg (mC (.int 2))))) sNext)
    (sSeq (sIf (asB (mBin fNe (mSl false (mV 0) (mPart (mV 1)) (mPart (mBin (fAdd false) (mV 1) (mC (.int 1))))) (mC (.str [41])))) (sRet (mNeg (mC (.int 2)))) sNext)
    (sSeq (sDrop (mBM "list" fPop (mV 2) mNil))
    (sSet 1 (mBin (fAdd false) (mV 1) (mC (.int 1))))))))
noncomputable def b_next_form : MSt :=
  (sSeq (sWhile (asB (mBin fNe (mV 2) (mLst false mNil))) b_next_form_l1)
  (sRet (mIf (asB (mBin fEq (mV 1) (mB fLen (mCons (mV 0) mNil)))) (mNeg (mC (.int 1))) (mNeg (mC (.int 2))))))
noncomputable def m_next_form : List MV → Sto → Res MV := mDef 3 b_next_form
noncomputable def b_is_form_l1 : MSt :=
  (sSeq (sSet 6 (mCall 2 m_run_end [] (mCons (mV 1) (mCons (mV 5) mNil))))
    (sSeq (sSet 7 (mSl false (mV 1) (mPart (mV 5)) (mPart (mV 6))))
    (sIf (asB (mBin fEq (mSl false (mV 1) (mPart (mV 6)) (mPart (mBin (fAdd false) (mV 6) (mC (.int 1))))) (mC (.str [40])))) (sSeq (sIf (asB (mBin fNotIn (mV 7) (mV 3))) (sRet (mC (.bl false))) sNext)
      (sSeq (sDrop (mBM "list" fAppend (mV 4) (mCons (mB fMax2 (mCons (mC (.int 1)) (mCons (mBin fIx (mV 3) (mV 7)) mNil))) mNil)))
      (sSeq (sSet 5 (mBin (fAdd false) (mV 6) (mC (.int 1))))
      (sIf (asB (mBin fEq (mBin fIx (mV 3) (mV 7)) (mC (.int 0)))) (sSet 5 (mCall 3 m_next_form [] (mCons (mV 1) (mCons (mV 5) (mCons (mV 4) mNil))))) sNext)))) (sIf (asB (mBin fIn (mV 7) (mV 2))) (sSet 5 (mCall 3 m_next_form [] (mCons (mV 1) (mCons (mV 6) (mCons (mV 4) mNil))))) (sRet (mC (.bl false)))))))
noncomputable def b_is_form : MSt :=
  (sSeq (sIf (mOrB (mNotB (asT (mB fIsi (mCons (mV 1) (mCons (mC (.ty "str")) mNil))))) (asB (mBin fGt (mB fLen (mCons (mV 1) mNil)) (mC (.int 60))))) (sRet (mC (.bl false))) sNext)
  (sSeq (sPar3 3 4 5 (mMeth 0 1 "deeds" m_Gear_deeds [] (mV 0) mNil) (mLst true mNil) (mC (.int 0)))
  (sSeq (sWhile (asB (mBin fGe (mV 5) (mC (.int 0)))) b_is_form_l1)
  (sRet (mBin fEq (mV 5) (mNeg (mC (.int 1))))))))
noncomputable def m_is_form : List MV → Sto → Res MV := mDef 8 b_is_form
noncomputable def b_law_read_l1 (r : List MV → Sto → Res MV) : MSt :=
  (sSet 4 (mBin (fAdd false) (mV 4) (mC (.int 1))))
noncomputable def b_law_read_l2 (r : List MV → Sto → Res MV) : MSt :=
  (sSeq (sIf (asB (mBin fGt (mV 6) (mC (.int 0)))) (sSeq (sIf (asB (mBin fNe (mSl false (mV 0) (mPart (mV 4)) (mPart (mBin (fAdd false) (mV 4) (mC (.int 1))))) (mC (.str [44])))) (sRet (mNeg (mC (.int 1)))) sNext)
      (sSet 4 (mBin (fAdd false) (mV 4) (mC (.int 1))))) sNext)
    (sSeq (sSet 4 (mCall 4 r [] (mCons (mV 0) (mCons (mV 4) (mCons (mV 2) (mCons (mV 3) mNil))))))
    (sIf (asB (mBin fLt (mV 4) (mC (.int 0)))) (sRet (mNeg (mC (.int 1)))) sNext)))
noncomputable def b_law_read (r : List MV → Sto → Res MV) : MSt :=
  (sSeq (sSet 4 (mV 1))
  (sSeq (sWhile (mAndB (asB (mBin fLt (mV 4) (mB fLen (mCons (mV 0) mNil)))) (asB (mChain fLe fLe (mC (.str [97])) (mBin fIx (mV 0) (mV 4)) (mC (.str [122]))))) (b_law_read_l1 r))
  (sSeq (sSet 5 (mSl false (mV 0) (mPart (mV 1)) (mPart (mV 4))))
  (sSeq (sIf (asB (mBin fNe (mSl false (mV 0) (mPart (mV 4)) (mPart (mBin (fAdd false) (mV 4) (mC (.int 1))))) (mC (.str [40])))) (sRet (mIf (asB (mBin fIn (mV 5) (mV 2))) (mV 4) (mNeg (mC (.int 1))))) sNext)
  (sSeq (sIf (asB (mBin fNotIn (mV 5) (mV 3))) (sRet (mNeg (mC (.int 1)))) sNext)
  (sSeq (sSet 4 (mBin (fAdd false) (mV 4) (mC (.int 1))))
  (sSeq (sFor (mItR1 (mCons (mBin fIx (mV 3) (mV 5)) mNil)) (gN 6) (b_law_read_l2 r))
  (sRet (mIf (asB (mBin fEq (mSl false (mV 0) (mPart (mV 4)) (mPart (mBin (fAdd false) (mV 4) (mC (.int 1))))) (mC (.str [41])))) (mBin (fAdd false) (mV 4) (mC (.int 1))) (mNeg (mC (.int 1))))))))))))
noncomputable def m_law_read : Nat → List MV → Sto → Res MV
  | 0 => fun _ _ => .bad
  | d + 1 => mDef 7 (b_law_read (m_law_read d))
noncomputable def b_law_c1 : ME :=
  (mComp false (mItS (mV 8)) [17] (gN 17) mYes (mTup (mCons (mV 17) (mCons (mCall 2 m_law_next [] (mCons (mV 3) (mCons (mC (.int 3)) mNil))) mNil))))
noncomputable def b_law_l1 : MSt :=
  (sDrop (mBM "list" fPop (mV 10) (mCons (mCall 2 m_law_next [] (mCons (mV 3) (mCons (mB fLen (mCons (mV 10) mNil)) mNil))) mNil)))
noncomputable def b_law_l2 : MSt :=
  (sSeq (sSet 3 (mCall 2 m_law_begun [] (mCons (mV 2) (mCons (mV 1) mNil))))
    (sSeq (sSet 4 (mCall 2 m_law_next [] (mCons (mV 3) (mCons (mC (.int 7)) mNil))))
    (sSeq (sSet 5 (mCall 2 m_law_pick [] (mCons (mV 3) (mCons (mLst false (mCons (mC .non) (mCons (mC (.int 7)) (mCons (mLst false (mCons (mC (.str [97])) mNil)) (mCons (mTup (mCons (mC (.str [97])) (mCons (mC .non) mNil))) (mCons (mDic0 false) (mCons (mC (.int 0)) mNil))))))) mNil))))
    (sSeq (sSet 6 (mCall 3 m_law_names [] (mCons (mV 3) (mCons (mBin (fAdd false) (mC (.int 1)) (mCall 2 m_law_next [] (mCons (mV 3) (mCons (mC (.int 3)) mNil)))) (mCons (mLst false mNil) mNil)))))
    (sSeq (sSet 7 (mCall 3 m_law_names [] (mCons (mV 3) (mCons (mCall 2 m_law_next [] (mCons (mV 3) (mCons (mC (.int 3)) mNil))) (mCons (mV 6) mNil)))))
    (sSeq (sSet 8 (mCall 3 m_law_names [] (mCons (mV 3) (mCons (mBin (fAdd false) (mC (.int 1)) (mCall 2 m_law_next [] (mCons (mV 3) (mCons (mC (.int 4)) mNil)))) (mCons (mBin (fAdd false) (mV 6) (mV 7)) mNil)))))
    (sSeq (sSet 9 b_law_c1)
    (sSeq (sSet 10 (mSl true (mBin (fAdd false) (mBin (fAdd false) (mV 6) (mV 7)) (mLst false (mCons (mC (.str [112])) (mCons (mC (.str [113])) mNil)))) (mPart (mCall 2 m_law_next [] (mCons (mV 3) (mCons (mC (.int 2)) mNil)))) mNoPart))
    (sSeq (sSet 11 (mCall 4 (m_law_tree 6) [] (mCons (mV 3) (mCons (mV 10) (mCons (mV 9) (mCons (mCall 2 m_law_next [] (mCons (mV 3) (mCons (mC (.int 5)) mNil))) mNil))))))
    (sSeq (sSet 12 (mCall 3 m_law_spoilt [] (mCons (mV 3) (mCons (mCall 1 (m_law_text 6) [] (mCons (mV 11) mNil)) (mCons (mV 4) mNil)))))
    (sSeq (sIf (asB (mBin fEq (mV 4) (mC (.int 5)))) (sFor (mItR1 (mCons (mBin fIx (mLst false (mCons (mC (.int 1)) (mCons (mC (.int 1)) (mCons (mB fLen (mCons (mV 10) mNil)) mNil)))) (mCall 2 m_law_next [] (mCons (mV 3) (mCons (mC (.int 3)) mNil)))) mNil)) (gN 16) b_law_l1) sNext)
    (sSeq (sSet 13 (mB (fListA false) (mCons (mV 10) mNil)))
    (sSeq (sSet 14 (mCall 3 m_is_form [] (mCons (mMake false 0 5 m_Gear_init [.non] (mCons (mV 6) (mCons (mV 7) (mCons (mB (fDict false) (mCons (mV 9) mNil)) mNil)))) (mCons (mIf (asB (mBin fEq (mV 4) (mC (.int 6)))) (mV 5) (mV 12)) (mCons (mV 13) mNil)))))
    (sSeq (sSet 15 (mAndT (mBin fNe (mV 4) (mC (.int 6))) (mAndT (mBin fLe (mB fLen (mCons (mV 12) mNil)) (mC (.int 60))) (mBin fEq (mCall 4 (m_law_read 62) [] (mCons (mV 12) (mCons (mC (.int 0)) (mCons (mV 10) (mCons (mB (fDict false) (mCons (mV 9) mNil)) mNil))))) (mB fLen (mCons (mV 12) mNil))))))
    (sIf (mOrB (mNotB (asT (mB fIsi (mCons (mV 14) (mCons (mC (.ty "bool")) mNil))))) (mOrB (asB (mBin fNe (mV 14) (mV 15))) (asB (mBin fNe (mV 13) (mV 10))))) (sRet (mC (.bl false))) sNext)))))))))))))))
noncomputable def b_law : MSt :=
  (sSeq (sFor (mItE (mCons (mSl false (mOrT (mV 0) (mLst false (mCons (mC (.int 5)) mNil))) mNoPart (mPart (mC (.int 16)))) mNil)) (gT 2 (gCs (gN 1) (gCs (gN 2) gNl))) b_law_l2)
  (sRet (mC (.bl true))))
noncomputable def m_law : List MV → Sto → Res MV := mDef 18 b_law
end K14
end Mi

namespace Mi
namespace K14
open PySem L2 Sh
def top (i : Nat) : Stmt := PySem.Challenge.pw_underrows_k14_forms.main.body.getD i (.Pass ⟨0, 0, 0, 0⟩)
abbrev s_law_begun : Stmt := top 16
abbrev s_law_next : Stmt := top 17
abbrev s_law_pick : Stmt := top 18
abbrev s_law_name : Stmt := top 19
abbrev s_law_names : Stmt := top 20
abbrev s_law_tree : Stmt := top 21
abbrev s_law_text : Stmt := top 22
abbrev s_law_spoilt : Stmt := top 24
abbrev s_run_end : Stmt := top 3
abbrev s_next_form : Stmt := top 4
abbrev s_Gear_deeds : Stmt := inClass (top 14) 3
abbrev s_is_form : Stmt := top 5
abbrev s_law_read : Stmt := top 23
abbrev s_is_name : Stmt := top 10
abbrev s_is_named : Stmt := top 12
abbrev s_is_number : Stmt := top 11
abbrev s_is_counted : Stmt := top 13
abbrev s_Gear_init : Stmt := inClass (top 14) 0
abbrev s_law : Stmt := top 25
section
variable {P : Program} {w : World} {C : Ct} {mg : Str → Option Value} {base : Heap}
theorem sc_law_begun : FnScope ["_law_cell", "_law_k"] ["_law_cell", "_law_k"] (defScope s_law_begun) := ⟨rfl, rfl, rfl, by decide +kernel, rfl, by decide +kernel, by decide +kernel⟩
theorem ok_law_begun {f : Addr} {fd : FuncData} (F : Fun C.K "_law_begun" "_law_begun" s_law_begun f fd) (z_max : mg "max" = none) : FnOk P w C.K mg base (L2.CX P w) 1 f fd ["_law_cell", "_law_k"] (spM C 2 m_law_begun) := by
  refine def_ok (N := ["_law_cell", "_law_k"]) (n := 2) (b := b_law_begun) (k := 0) F sc_law_begun (.inr rfl) ?_
  intro cdv A outer s H E E₁ X hX hr
  have B := bx_of hX rfl hr
  subst hX
  exact (js_one (js_ret (je_lst true (ja_cons (je_b (call_max2' B.calm) cm_max2 z_max (by decide +kernel) (ja_cons je_int (ja_cons (je_op op_sub opm_sub (je_v 0) (je_op op_powW opm_pow je_int je_int)) ja_nil))) (ja_cons (je_op op_addM (opm_add false) (je_v 0) (je_op op_mulM (opm_mul false) je_int (je_v 1))) (ja_cons je_int ja_nil))))))
theorem sc_law_next : FnScope ["_law_draw", "_law_size", "_law_found"] ["_law_draw", "_law_size"] (defScope s_law_next) := ⟨rfl, rfl, rfl, by decide +kernel, rfl, by decide +kernel, by decide +kernel⟩
theorem ok_law_next {f : Addr} {fd : FuncData} (F : Fun C.K "_law_next" "_law_next" s_law_next f fd) : FnOk P w C.K mg base (L2.CX P w) 1 f fd ["_law_draw", "_law_size"] (spM C 2 m_law_next) := by
  refine def_ok (N := ["_law_draw", "_law_size", "_law_found"]) (n := 3) (b := b_law_next) (k := 0) F sc_law_next (.inl rfl) ?_
  intro cdv A outer s H E E₁ X hX hr
  have B := bx_of hX rfl hr
  subst hX
  exact (js_cons (js_if (jt_cmp op_gtM opm_gt (je_ix B (je_v 0) je_int) je_int (nomark _)) (js_cons (js_set (i := 2) sc_law_next.nd (je_op op_mod opm_mod (je_ix B (je_v 0) je_int) (je_v 1)))
    (js_cons (js_sub (je_v 0) je_int (je_op op_fdivW opm_div (je_ix B (je_v 0) je_int) (je_v 1)))
    (js_one (js_ret (je_v 2))))) js_nil)
  (js_cons (js_sub (je_v 0) je_int (je_op op_addM (opm_add false) (je_ix B (je_v 0) je_int) je_int))
  (js_cons (js_set (i := 2) sc_law_next.nd (je_op op_addM (opm_add false) (je_op op_mod opm_mod (je_ix B (je_v 0) je_int) je_int) (je_op op_mulM (opm_mul false) je_int (je_ix B (je_v 0) je_int))))
  (js_cons (js_set (i := 2) sc_law_next.nd (je_op op_mulM (opm_mul false) (je_v 2) (je_op op_addM (opm_add false) (je_op op_addM (opm_add false) (je_op op_mod opm_mod (je_ix B (je_v 0) je_int) je_int) (je_op op_mulM (opm_mul false) (je_op op_mulM (opm_mul false) je_int (je_ix B (je_v 0) je_int)) (je_ix B (je_v 0) je_int))) je_int)))
  (js_one (js_ret (je_op op_mod opm_mod (je_op op_fdivW opm_div (je_op op_mod opm_mod (je_op op_powW opm_pow (je_v 2) je_int) je_int) je_int) (je_v 1))))))))
theorem sc_law_pick : FnScope ["_law_draw", "_law_some"] ["_law_draw", "_law_some"] (defScope s_law_pick) := ⟨rfl, rfl, rfl, by decide +kernel, rfl, by decide +kernel, by decide +kernel⟩
theorem ok_law_pick {f : Addr} {fd : FuncData} (F : Fun C.K "_law_pick" "_law_pick" s_law_pick f fd) (z_len : mg "len" = none) (G_law_next : FnIn P w C mg base "_law_next" 1 2 m_law_next []) : FnOk P w C.K mg base (L2.CX P w) 2 f fd ["_law_draw", "_law_some"] (spM C 2 m_law_pick) := by
  refine def_ok (N := ["_law_draw", "_law_some"]) (n := 2) (b := b_law_pick) (k := 1) F sc_law_pick (.inl rfl) ?_
  intro cdv A outer s H E E₁ X hX hr
  have B := bx_of hX rfl hr
  subst hX
  exact (js_one (js_ret (je_ix B (je_v 1) (je_f B G_law_next (ja_cons (je_v 0) (ja_cons (je_b call_lenM cm_len z_len (by decide +kernel) (ja_cons (je_v 1) ja_nil)) ja_nil))))))
theorem sc_law_name : FnScope ["_law_draw", "_law_found", "_law_own", "_law_name_here", "_law_k", "_law_sign"] ["_law_draw", "_law_found"] (defScope s_law_name) := ⟨rfl, rfl, rfl, by decide +kernel, rfl, by decide +kernel, by decide +kernel⟩
theorem ok_law_name {f : Addr} {fd : FuncData} (F : Fun C.K "_law_name" "_law_name" s_law_name f fd) (z_range : mg "range" = none) (G_law_next : FnIn P w C mg base "_law_next" 1 2 m_law_next []) (G_law_pick : FnIn P w C mg base "_law_pick" 2 2 m_law_pick []) : FnOk P w C.K mg base (L2.CX P w) 3 f fd ["_law_draw", "_law_found"] (spM C 2 m_law_name) := by
  refine def_ok (N := ["_law_draw", "_law_found", "_law_own", "_law_name_here", "_law_k", "_law_sign"]) (n := 6) (b := b_law_name) (k := 2) F sc_law_name (.inl rfl) ?_
  intro cdv A outer s H E E₁ X hX hr
  have B := bx_of hX rfl hr
  subst hX
  exact (js_cons (js_set (i := 2) sc_law_name.nd (je_str [97, 115, 107, 32, 112, 117, 116, 32, 111, 110, 32, 116, 111, 32, 115, 116, 111, 112, 32, 115, 101, 101, 110, 32, 104, 105, 100, 100, 101, 110, 32, 100, 101, 101, 100, 32, 100, 111, 32, 105, 102, 32, 116, 104, 101, 110, 32, 101, 108, 115, 101, 32, 111, 112, 32, 109, 101, 97, 110, 115, 32, 106, 117, 109, 112, 32, 109, 111, 118, 101, 32, 110, 111, 110, 101, 32, 99, 97, 115, 101, 32, 98, 101, 108, 108, 32, 103, 111, 101, 115]))
  (js_cons (js_if (jt_cmp (op_eqM B.hK B.u64) opm_eq (je_f B G_law_next (ja_cons (je_v 0) (ja_cons je_int ja_nil))) je_int (nomark _)) (js_one (js_set (i := 3) sc_law_name.nd (je_f B G_law_pick (ja_cons (je_v 0) (ja_cons (je_bm B.hK PySem.F.plainAttrs_str PySem.F.slot_str_split PySem.F.type_str_split mt_splitM (mm_split false) (je_v 2) (ja_cons (je_str [32]) ja_nil)) ja_nil))))) (js_one (js_set (i := 3) sc_law_name.nd (je_bm B.hK PySem.F.plainAttrs_str PySem.F.slot_str_join PySem.F.type_str_join mt_joinM mm_join (je_str []) (ja_cons (je_lc false B sc_law_name.nd (ji_range1 (hm := z_range) (ha := (ja_cons (je_op op_addM (opm_add false) je_int (je_f B G_law_next (ja_cons (je_v 0) (ja_cons je_int ja_nil)))) ja_nil))) (blkOk_by (own := [("_law_k", 4)]) (by kernel_rfl)) (fun Y BY eN ⟨s, H, A, cl, fp, eY⟩ => by subst eY; exact (jg_n (i := 4) sc_law_name.nd)) (fun s H A cl fp B1 => jts_nil) (fun s H A cl fp B1 => (je_f B1 G_law_pick (ja_cons (je_v 0) (ja_cons (je_str [101, 116, 97, 111, 105, 110, 115, 104, 114, 100, 108, 99, 117, 109, 119, 102, 103, 121, 112, 98, 118, 107, 106, 120, 113, 122]) ja_nil))))) ja_nil)))))
  (js_cons (js_if (jw_or (jt_cmp (op_inM B.u1) opm_in (je_v 3) (je_v 1) rfl) (jw_one_or (jt_cmp (op_inM B.u1) opm_in (je_v 3) (je_tup (ja_cons (je_str [112]) (ja_cons (je_str [113]) ja_nil))) rfl))).pt (js_one (js_set (i := 3) sc_law_name.nd (je_ix B (je_lc false B sc_law_name.nd (ji_str (je_str [97, 98, 99, 100, 101, 102, 103, 104, 105, 106, 107, 108, 109, 110, 111, 112, 113, 114, 115, 116, 117, 118, 119, 120, 121, 122])) (blkOk_by (own := [("_law_sign", 5)]) (by kernel_rfl)) (fun Y BY eN ⟨s, H, A, cl, fp, eY⟩ => by subst eY; exact (jg_n (i := 5) sc_law_name.nd)) (fun s H A cl fp B2 => (jts_one (jt_cmp (op_notInM B2.u1) opm_notIn (je_op op_addM (opm_add false) (je_sl false B2.hK (je_v 3) jo_none (jo_some je_int)) (je_v 5)) (je_v 1) rfl))) (fun s H A cl fp B2 => (je_op op_addM (opm_add false) (je_sl false B2.hK (je_v 3) jo_none (jo_some je_int)) (je_v 5)))) je_int))) js_nil)
  (js_one (js_ret (je_v 3))))))
theorem sc_law_names : FnScope ["_law_draw", "_law_many", "_law_found", "_law_some", "_law_k"] ["_law_draw", "_law_many", "_law_found"] (defScope s_law_names) := ⟨rfl, rfl, rfl, by decide +kernel, rfl, by decide +kernel, by decide +kernel⟩
theorem ok_law_names {f : Addr} {fd : FuncData} (F : Fun C.K "_law_names" "_law_names" s_law_names f fd) (z_range : mg "range" = none) (G_law_name : FnIn P w C mg base "_law_name" 3 2 m_law_name []) : FnOk P w C.K mg base (L2.CX P w) 4 f fd ["_law_draw", "_law_many", "_law_found"] (spM C 3 m_law_names) := by
  refine def_ok (N := ["_law_draw", "_law_many", "_law_found", "_law_some", "_law_k"]) (n := 5) (b := b_law_names) (k := 3) F sc_law_names (.inl rfl) ?_
  intro cdv A outer s H E E₁ X hX hr
  have B := bx_of hX rfl hr
  subst hX
  exact (js_cons (js_set (i := 3) sc_law_names.nd (je_lst true ja_nil))
  (js_cons (js_for B.own B.calm (ji_range1 (hm := z_range) (ha := (ja_cons (je_v 1) ja_nil))) (jg_n (i := 4) sc_law_names.nd) (js_one (js_expr (je_bm B.hK PySem.F.plainAttrs_list PySem.F.slot_list_append PySem.F.type_list_append mt_append mm_append (je_v 3) (ja_cons (je_f B G_law_name (ja_cons (je_v 0) (ja_cons (je_op op_addM (opm_add false) (je_v 2) (je_v 3)) ja_nil))) ja_nil)))))
  (js_one (js_ret (je_v 3)))))
theorem sc_law_tree : FnScope ["_law_draw", "_law_words", "_law_does", "_law_deep", "_law_name_here", "_law_many", "_law_k"] ["_law_draw", "_law_words", "_law_does", "_law_deep"] (defScope s_law_tree) := ⟨rfl, rfl, rfl, by decide +kernel, rfl, by decide +kernel, by decide +kernel⟩
theorem ok_law_tree {f : Addr} {fd : FuncData} (F : Fun C.K "_law_tree" "_law_tree" s_law_tree f fd) (z_range : mg "range" = none) (G_law_next : FnIn P w C mg base "_law_next" 1 2 m_law_next []) (G_law_pick : FnIn P w C mg base "_law_pick" 2 2 m_law_pick []) (hm : mg "_law_tree" = some (.ref f)) (hk : PySem.W.keepIn C.K (.ref f) = true) (hb : Binds C.K fd ["_law_draw", "_law_words", "_law_does", "_law_deep"] []) : ∀ d : Nat, FnOk P w C.K mg base (L2.CX P w) (2 + d) f fd ["_law_draw", "_law_words", "_law_does", "_law_deep"] (spM C 4 (m_law_tree d))
  | 0 => fnok_bad
  | d + 1 => by
    have ih := ok_law_tree F z_range G_law_next G_law_pick hm hk hb d
    have G_law_tree : FnIn P w C mg base "_law_tree" (2 + d) 4 (m_law_tree d) [] := ⟨f, fd, _, [], [], hm, hk, hb, .nil, .nil, ih⟩
    refine def_ok (N := ["_law_draw", "_law_words", "_law_does", "_law_deep", "_law_name_here", "_law_many", "_law_k"]) (n := 7) (b := b_law_tree (m_law_tree d)) (k := 2 + d) F sc_law_tree (.inl rfl) ?_
    intro cdv A outer s H E E₁ X hX hr
    have B := bx_of hX rfl hr
    subst hX
    exact (js_cons (js_if (jw_or (jt_cmp (op_eqM B.hK B.u64) opm_eq (je_v 3) je_int (nomark _)) (jw_or (jt_cmp (op_eqM B.hK B.u64) opm_eq (je_v 2) (je_lst false ja_nil) (nomark _)) (jw_one_or (jt_cmp (op_eqM B.hK B.u64) opm_eq (je_f B G_law_next (ja_cons (je_v 0) (ja_cons je_int ja_nil)) (hkj := by omega)) je_int (nomark _))))).pt (js_one (js_ret (je_tup (ja_cons (je_f B G_law_pick (ja_cons (je_v 0) (ja_cons (je_v 1) ja_nil)) (hkj := by omega)) (ja_cons je_non ja_nil))))) js_nil)
  (js_cons (js_asg (je_f B G_law_pick (ja_cons (je_v 0) (ja_cons (je_v 2) ja_nil)) (hkj := by omega)) (jg_t B.hK B.calm (jgs_cons (jg_n (i := 4) sc_law_tree.nd) (jgs_cons (jg_n (i := 5) sc_law_tree.nd) jgs_nil))))
  (js_one (js_ret (je_tup (ja_cons (je_v 4) (ja_cons (je_lc false B sc_law_tree.nd (ji_range1 (hm := z_range) (ha := (ja_cons (je_v 5) ja_nil))) (blkOk_by (own := [("_law_k", 6)]) (by kernel_rfl)) (fun Y BY eN ⟨s, H, A, cl, fp, eY⟩ => by subst eY; exact (jg_n (i := 6) sc_law_tree.nd)) (fun s H A cl fp B1 => jts_nil) (fun s H A cl fp B1 => (je_f B1 G_law_tree (ja_cons (je_v 0) (ja_cons (je_v 1) (ja_cons (je_v 2) (ja_cons (je_op op_sub opm_sub (je_v 3) je_int) ja_nil)))) (hkj := by omega)))) ja_nil)))))))
theorem sc_law_text : FnScope ["_law_tree_here", "_law_part"] ["_law_tree_here"] (defScope s_law_text) := ⟨rfl, rfl, rfl, by decide +kernel, rfl, by decide +kernel, by decide +kernel⟩
theorem ok_law_text {f : Addr} {fd : FuncData} (F : Fun C.K "_law_text" "_law_text" s_law_text f fd) (hm : mg "_law_text" = some (.ref f)) (hk : PySem.W.keepIn C.K (.ref f) = true) (hb : Binds C.K fd ["_law_tree_here"] []) : ∀ d : Nat, FnOk P w C.K mg base (L2.CX P w) (0 + d) f fd ["_law_tree_here"] (spM C 1 (m_law_text d))
  | 0 => fnok_bad
  | d + 1 => by
    have ih := ok_law_text F hm hk hb d
    have G_law_text : FnIn P w C mg base "_law_text" (0 + d) 1 (m_law_text d) [] := ⟨f, fd, _, [], [], hm, hk, hb, .nil, .nil, ih⟩
    refine def_ok (N := ["_law_tree_here", "_law_part"]) (n := 2) (b := b_law_text (m_law_text d)) (k := 0 + d) F sc_law_text (.inl rfl) ?_
    intro cdv A outer s H E E₁ X hX hr
    have B := bx_of hX rfl hr
    subst hX
    exact (js_cons (js_if (jt_isN (je_ix B (je_v 0) je_int)) (js_one (js_ret (je_ix B (je_v 0) je_int))) js_nil)
  (js_one (js_ret (je_op op_addM (opm_add false) (je_op op_addM (opm_add false) (je_op op_addM (opm_add false) (je_ix B (je_v 0) je_int) (je_str [40])) (je_bm B.hK PySem.F.plainAttrs_str PySem.F.slot_str_join PySem.F.type_str_join mt_joinM mm_join (je_str [44]) (ja_cons (je_lc false B sc_law_text.nd (ji_seq B.hK (je_ix B (je_v 0) je_int)) (blkOk_by (own := [("_law_part", 1)]) (by kernel_rfl)) (fun Y BY eN ⟨s, H, A, cl, fp, eY⟩ => by subst eY; exact (jg_n (i := 1) sc_law_text.nd)) (fun s H A cl fp B1 => jts_nil) (fun s H A cl fp B1 => (je_f B1 G_law_text (ja_cons (je_v 1) ja_nil) (hkj := by omega)))) ja_nil))) (je_str [41])))))
theorem sc_law_spoilt : FnScope ["_law_draw", "_law_text_here", "_law_way", "_law_sign", "_law_at"] ["_law_draw", "_law_text_here", "_law_way"] (defScope s_law_spoilt) := ⟨rfl, rfl, rfl, by decide +kernel, rfl, by decide +kernel, by decide +kernel⟩
theorem ok_law_spoilt {f : Addr} {fd : FuncData} (F : Fun C.K "_law_spoilt" "_law_spoilt" s_law_spoilt f fd) (z_len : mg "len" = none) (G_law_pick : FnIn P w C mg base "_law_pick" 2 2 m_law_pick []) (G_law_next : FnIn P w C mg base "_law_next" 1 2 m_law_next []) : FnOk P w C.K mg base (L2.CX P w) 3 f fd ["_law_draw", "_law_text_here", "_law_way"] (spM C 3 m_law_spoilt) := by
  refine def_ok (N := ["_law_draw", "_law_text_here", "_law_way", "_law_sign", "_law_at"]) (n := 5) (b := b_law_spoilt) (k := 2) F sc_law_spoilt (.inl rfl) ?_
  intro cdv A outer s H E E₁ X hX hr
  have B := bx_of hX rfl hr
  subst hX
  exact (js_cons (js_set (i := 3) sc_law_spoilt.nd (je_f B G_law_pick (ja_cons (je_v 0) (ja_cons (je_str [40, 41, 44, 40, 41, 44, 32, 32, 46, 97, 98, 99, 100, 101, 120, 121, 122, 65, 66, 49, 57]) ja_nil))))
  (js_cons (js_set (i := 4) sc_law_spoilt.nd (je_f B G_law_next (ja_cons (je_v 0) (ja_cons (je_op op_addM (opm_add false) (je_b call_lenM cm_len z_len (by decide +kernel) (ja_cons (je_v 1) ja_nil)) je_int) ja_nil))))
  (js_cons (js_if (jt_cmp (op_eqM B.hK B.u64) opm_eq (je_v 2) je_int (nomark _)) (js_one (js_ret (je_op op_addM (opm_add false) (je_sl false B.hK (je_v 1) jo_none (jo_some (je_v 4))) (je_sl false B.hK (je_v 1) (jo_some (je_op op_addM (opm_add false) (je_v 4) je_int)) jo_none)))) js_nil)
  (js_cons (js_if (jt_cmp (op_eqM B.hK B.u64) opm_eq (je_v 2) je_int (nomark _)) (js_one (js_ret (je_op op_addM (opm_add false) (je_op op_addM (opm_add false) (je_sl false B.hK (je_v 1) jo_none (jo_some (je_v 4))) (je_v 3)) (je_sl false B.hK (je_v 1) (jo_some (je_op op_addM (opm_add false) (je_v 4) je_int)) jo_none)))) js_nil)
  (js_cons (js_if (jt_cmp (op_eqM B.hK B.u64) opm_eq (je_v 2) je_int (nomark _)) (js_one (js_ret (je_op op_addM (opm_add false) (je_op op_addM (opm_add false) (je_sl false B.hK (je_v 1) jo_none (jo_some (je_v 4))) (je_v 3)) (je_sl false B.hK (je_v 1) (jo_some (je_v 4)) jo_none)))) js_nil)
  (js_cons (js_if (jt_cmp (op_eqM B.hK B.u64) opm_eq (je_v 2) je_int (nomark _)) (js_one (js_ret (je_op op_addM (opm_add false) (je_op op_addM (opm_add false) (je_sl false B.hK (je_v 1) jo_none (jo_some (je_v 4))) (je_sl false B.hK (je_v 1) (jo_some (je_v 4)) jo_none)) (je_sl false B.hK (je_v 1) (jo_some (je_v 4)) jo_none)))) js_nil)
  (js_one (js_ret (je_v 1)))))))))
theorem sc_run_end : FnScope ["text", "at"] ["text", "at"] (defScope s_run_end) := ⟨rfl, rfl, rfl, by decide +kernel, rfl, by decide +kernel, by decide +kernel⟩
theorem ok_run_end {f : Addr} {fd : FuncData} (F : Fun C.K "run_end" "run_end" s_run_end f fd) (z_len : mg "len" = none) (K_LETTERS : GlS mg "LETTERS" [97, 98, 99, 100, 101, 102, 103, 104, 105, 106, 107, 108, 109, 110, 111, 112, 113, 114, 115, 116, 117, 118, 119, 120, 121, 122]) : FnOk P w C.K mg base (L2.CX P w) 1 f fd ["text", "at"] (spM C 2 m_run_end) := by
  refine def_ok (N := ["text", "at"]) (n := 2) (b := b_run_end) (k := 0) F sc_run_end (.inl rfl) ?_
  intro cdv A outer s H E E₁ X hX hr
  have B := bx_of hX rfl hr
  subst hX
  exact (js_cons (js_while B.own (jw_and (jt_cmp op_ltM opm_lt (je_v 1) (je_b call_lenM cm_len z_len (by decide +kernel) (ja_cons (je_v 0) ja_nil)) (nomark _)) (jw_one_and (jt_cmp (op_inM B.u1) opm_in (je_ix B (je_v 0) (je_v 1)) (je_glS K_LETTERS) rfl))).pt (js_one (js_set (i := 1) sc_run_end.nd (je_op op_addM (opm_add false) (je_v 1) je_int))))
  (js_one (js_ret (je_v 1))))
theorem sc_next_form : FnScope ["text", "at", "left"] ["text", "at", "left"] (defScope s_next_form) := ⟨rfl, rfl, rfl, by decide +kernel, rfl, by decide +kernel, by decide +kernel⟩
theorem ok_next_form {f : Addr} {fd : FuncData} (F : Fun C.K "next_form" "next_form" s_next_form f fd) (z_len : mg "len" = none) : FnOk P w C.K mg base (L2.CX P w) 1 f fd ["text", "at", "left"] (spM C 3 m_next_form) := by
  refine def_ok (N := ["text", "at", "left"]) (n := 3) (b := b_next_form) (k := 0) F sc_next_form (.inl rfl) ?_
  intro cdv A outer s H E E₁ X hX hr
  have B := bx_of hX rfl hr
  subst hX
  exact (js_cons (js_while B.own (jt_cmp (op_neM B.hK B.u64) opm_ne (je_v 2) (je_lst false ja_nil) (nomark _)) (js_cons (js_sub (je_v 2) (je_neg je_int) (je_op op_sub opm_sub (je_ix B (je_v 2) (je_neg je_int)) je_int))
    (js_cons (js_if (jt_cmp op_gtM opm_gt (je_ix B (je_v 2) (je_neg je_int)) je_int (nomark _)) (js_one (js_ret (je_if (jt_cmp (op_eqM B.hK B.u64) opm_eq (je_sl false B.hK (je_v 0) (jo_some (je_v 1)) (jo_some (je_op op_addM (opm_add false) (je_v 1) je_int))) (je_str [44]) (nomark _)) (je_op op_addM (opm_add false) (je_v 1) je_int) (je_neg je_int)))) js_nil)
    (js_cons (js_if (jt_cmp (op_neM B.hK B.u64) opm_ne (je_sl false B.hK (je_v 0) (jo_some (je_v 1)) (jo_some (je_op op_addM (opm_add false) (je_v 1) je_int))) (je_str [41]) (nomark _)) (js_one (js_ret (je_neg je_int))) js_nil)
    (js_cons (js_expr (je_bm0 B.hK PySem.F.plainAttrs_list PySem.F.slot_list_pop PySem.F.type_list_pop mt_popM mm_pop (je_v 2)))
    (js_one (js_set (i := 1) sc_next_form.nd (je_op op_addM (opm_add false) (je_v 1) je_int))))))))
  (js_one (js_ret (je_if (jt_cmp (op_eqM B.hK B.u64) opm_eq (je_v 1) (je_b call_lenM cm_len z_len (by decide +kernel) (ja_cons (je_v 0) ja_nil)) (nomark _)) (je_neg je_int) (je_neg je_int)))))
theorem sc_Gear_deeds : FnScope ["self"] ["self"] (defScope s_Gear_deeds) := ⟨rfl, rfl, rfl, by decide +kernel, rfl, by decide +kernel, by decide +kernel⟩
theorem ok_Gear_deeds {f : Addr} {fd : FuncData} (F : Fun C.K "deeds" "Gear.deeds" s_Gear_deeds f fd) (z_dict : mg "dict" = none) (F_makers : FldIn C 0 "makers") : FnOk P w C.K mg base (L2.CX P w) 1 f fd ["self"] (spM C 1 m_Gear_deeds) := by
  refine def_ok (N := ["self"]) (n := 1) (b := b_Gear_deeds) (k := 0) F sc_Gear_deeds (.inl rfl) ?_
  intro cdv A outer s H E E₁ X hX hr
  have B := bx_of hX rfl hr
  subst hX
  exact (js_one (js_ret (je_ty (call_dictM B.calm) (cm_dict false) z_dict (by decide +kernel) (ja_cons (je_fd B F_makers (je_v 0)) ja_nil))))
theorem sc_is_form : FnScope ["gear", "text", "words", "deeds", "left", "at", "end", "name"] ["gear", "text", "words"] (defScope s_is_form) := ⟨rfl, rfl, rfl, by decide +kernel, rfl, by decide +kernel, by decide +kernel⟩
theorem ok_is_form {f : Addr} {fd : FuncData} (F : Fun C.K "is_form" "is_form" s_is_form f fd) (z_str : mg "str" = none) (z_isinstance : mg "isinstance" = none) (z_len : mg "len" = none) (z_max : mg "max" = none) (G_run_end : FnIn P w C mg base "run_end" 1 2 m_run_end []) (G_next_form : FnIn P w C mg base "next_form" 1 3 m_next_form []) (M_Gear_deeds : MethIn P w C mg base 0 "deeds" 1 1 m_Gear_deeds []) : FnOk P w C.K mg base (L2.CX P w) 2 f fd ["gear", "text", "words"] (spM C 3 m_is_form) := by
  refine def_ok (N := ["gear", "text", "words", "deeds", "left", "at", "end", "name"]) (n := 8) (b := b_is_form) (k := 1) F sc_is_form (.inl rfl) ?_
  intro cdv A outer s H E E₁ X hX hr
  have B := bx_of hX rfl hr
  subst hX
  exact (js_cons (js_if (jw_or (jt_not (jt_tru B.hK (je_b call_isi cm_isi z_isinstance (by decide +kernel) (ja_cons (je_v 1) (ja_cons (je_tyv z_str (by decide +kernel)) ja_nil))))) (jw_one_or (jt_cmp op_gtM opm_gt (je_b call_lenM cm_len z_len (by decide +kernel) (ja_cons (je_v 1) ja_nil)) je_int (nomark _)))).pt (js_one (js_ret je_bl)) js_nil)
  (js_cons (js_par3 (i := 3) (j := 4) (l := 5) B.calm sc_is_form.nd (je_me0 B M_Gear_deeds (je_v 0)) (je_lst true ja_nil) je_int)
  (js_cons (js_while B.own (jt_cmp op_geM opm_ge (je_v 5) je_int (nomark _)) (js_cons (js_set (i := 6) sc_is_form.nd (je_f B G_run_end (ja_cons (je_v 1) (ja_cons (je_v 5) ja_nil))))
    (js_cons (js_set (i := 7) sc_is_form.nd (je_sl false B.hK (je_v 1) (jo_some (je_v 5)) (jo_some (je_v 6))))
    (js_one (js_if (jt_cmp (op_eqM B.hK B.u64) opm_eq (je_sl false B.hK (je_v 1) (jo_some (je_v 6)) (jo_some (je_op op_addM (opm_add false) (je_v 6) je_int))) (je_str [40]) (nomark _)) (js_cons (js_if (jt_cmp (op_notInM B.u1) opm_notIn (je_v 7) (je_v 3) rfl) (js_one (js_ret je_bl)) js_nil)
      (js_cons (js_expr (je_bm B.hK PySem.F.plainAttrs_list PySem.F.slot_list_append PySem.F.type_list_append mt_append mm_append (je_v 4) (ja_cons (je_b (call_max2' B.calm) cm_max2 z_max (by decide +kernel) (ja_cons je_int (ja_cons (je_ix B (je_v 3) (je_v 7)) ja_nil))) ja_nil)))
      (js_cons (js_set (i := 5) sc_is_form.nd (je_op op_addM (opm_add false) (je_v 6) je_int))
      (js_one (js_if (jt_cmp (op_eqM B.hK B.u64) opm_eq (je_ix B (je_v 3) (je_v 7)) je_int (nomark _)) (js_one (js_set (i := 5) sc_is_form.nd (je_f B G_next_form (ja_cons (je_v 1) (ja_cons (je_v 5) (ja_cons (je_v 4) ja_nil)))))) js_nil))))) (js_one (js_if (jt_cmp (op_inM B.u1) opm_in (je_v 7) (je_v 2) rfl) (js_one (js_set (i := 5) sc_is_form.nd (je_f B G_next_form (ja_cons (je_v 1) (ja_cons (je_v 6) (ja_cons (je_v 4) ja_nil)))))) (js_one (js_ret je_bl)))))))))
  (js_one (js_ret (je_cmp (op_eqM B.hK B.u64) opm_eq (je_v 5) (je_neg je_int) (nomark _)))))))
theorem sc_law_read : FnScope ["_law_text_here", "_law_at", "_law_words", "_law_does", "_law_end", "_law_name_here", "_law_k"] ["_law_text_here", "_law_at", "_law_words", "_law_does"] (defScope s_law_read) := ⟨rfl, rfl, rfl, by decide +kernel, rfl, by decide +kernel, by decide +kernel⟩
theorem ok_law_read {f : Addr} {fd : FuncData} (F : Fun C.K "_law_read" "_law_read" s_law_read f fd) (z_len : mg "len" = none) (z_range : mg "range" = none) (hm : mg "_law_read" = some (.ref f)) (hk : PySem.W.keepIn C.K (.ref f) = true) (hb : Binds C.K fd ["_law_text_here", "_law_at", "_law_words", "_law_does"] []) : ∀ d : Nat, FnOk P w C.K mg base (L2.CX P w) (0 + d) f fd ["_law_text_here", "_law_at", "_law_words", "_law_does"] (spM C 4 (m_law_read d))
  | 0 => fnok_bad
  | d + 1 => by
    have ih := ok_law_read F z_len z_range hm hk hb d
    have G_law_read : FnIn P w C mg base "_law_read" (0 + d) 4 (m_law_read d) [] := ⟨f, fd, _, [], [], hm, hk, hb, .nil, .nil, ih⟩
    refine def_ok (N := ["_law_text_here", "_law_at", "_law_words", "_law_does", "_law_end", "_law_name_here", "_law_k"]) (n := 7) (b := b_law_read (m_law_read d)) (k := 0 + d) F sc_law_read (.inl rfl) ?_
    intro cdv A outer s H E E₁ X hX hr
    have B := bx_of hX rfl hr
    subst hX
    exact (js_cons (js_set (i := 4) sc_law_read.nd (je_v 1))
  (js_cons (js_while B.own (jw_and (jt_cmp op_ltM opm_lt (je_v 4) (je_b call_lenM cm_len z_len (by decide +kernel) (ja_cons (je_v 0) ja_nil)) (nomark _)) (jw_one_and (jt_chain op_leM opm_le op_leM opm_le (je_str [97]) (je_ix B (je_v 0) (je_v 4)) (je_str [122])))).pt (js_one (js_set (i := 4) sc_law_read.nd (je_op op_addM (opm_add false) (je_v 4) je_int))))
  (js_cons (js_set (i := 5) sc_law_read.nd (je_sl false B.hK (je_v 0) (jo_some (je_v 1)) (jo_some (je_v 4))))
  (js_cons (js_if (jt_cmp (op_neM B.hK B.u64) opm_ne (je_sl false B.hK (je_v 0) (jo_some (je_v 4)) (jo_some (je_op op_addM (opm_add false) (je_v 4) je_int))) (je_str [40]) (nomark _)) (js_one (js_ret (je_if (jt_cmp (op_inM B.u1) opm_in (je_v 5) (je_v 2) rfl) (je_v 4) (je_neg je_int)))) js_nil)
  (js_cons (js_if (jt_cmp (op_notInM B.u1) opm_notIn (je_v 5) (je_v 3) rfl) (js_one (js_ret (je_neg je_int))) js_nil)
  (js_cons (js_set (i := 4) sc_law_read.nd (je_op op_addM (opm_add false) (je_v 4) je_int))
  (js_cons (js_for B.own B.calm (ji_range1 (hm := z_range) (ha := (ja_cons (je_ix B (je_v 3) (je_v 5)) ja_nil))) (jg_n (i := 6) sc_law_read.nd) (js_cons (js_if (jt_cmp op_gtM opm_gt (je_v 6) je_int (nomark _)) (js_cons (js_if (jt_cmp (op_neM B.hK B.u64) opm_ne (je_sl false B.hK (je_v 0) (jo_some (je_v 4)) (jo_some (je_op op_addM (opm_add false) (je_v 4) je_int))) (je_str [44]) (nomark _)) (js_one (js_ret (je_neg je_int))) js_nil)
      (js_one (js_set (i := 4) sc_law_read.nd (je_op op_addM (opm_add false) (je_v 4) je_int)))) js_nil)
    (js_cons (js_set (i := 4) sc_law_read.nd (je_f B G_law_read (ja_cons (je_v 0) (ja_cons (je_v 4) (ja_cons (je_v 2) (ja_cons (je_v 3) ja_nil)))) (hkj := by omega)))
    (js_one (js_if (jt_cmp op_ltM opm_lt (je_v 4) je_int (nomark _)) (js_one (js_ret (je_neg je_int))) js_nil)))))
  (js_one (js_ret (je_if (jt_cmp (op_eqM B.hK B.u64) opm_eq (je_sl false B.hK (je_v 0) (jo_some (je_v 4)) (jo_some (je_op op_addM (opm_add false) (je_v 4) je_int))) (je_str [41]) (nomark _)) (je_op op_addM (opm_add false) (je_v 4) je_int) (je_neg je_int)))))))))))
theorem sc_is_name : FnScope ["text", "sign"] ["text"] (defScope s_is_name) := ⟨rfl, rfl, rfl, by decide +kernel, rfl, by decide +kernel, by decide +kernel⟩
theorem ok_is_name {f : Addr} {fd : FuncData} (F : Fun C.K "is_name" "is_name" s_is_name f fd) (z_str : mg "str" = none) (z_isinstance : mg "isinstance" = none) (z_len : mg "len" = none) (z_all : mg "all" = none) : FnOk P w C.K mg base (L2.CX P w) 1 f fd ["text"] (spM C 1 m_is_name) := by
  refine def_ok (N := ["text", "sign"]) (n := 2) (b := b_is_name) (k := 0) F sc_is_name (.inl rfl) ?_
  intro cdv A outer s H E E₁ X hX hr
  have B := bx_of hX rfl hr
  subst hX
  exact (js_cons (js_if (jw_or (jt_not (jt_tru B.hK (je_b call_isi cm_isi z_isinstance (by decide +kernel) (ja_cons (je_v 0) (ja_cons (je_tyv z_str (by decide +kernel)) ja_nil))))) (jw_one_or (jt_not (jt_chain op_leM opm_le op_leM opm_le je_int (je_b call_lenM cm_len z_len (by decide +kernel) (ja_cons (je_v 0) ja_nil)) je_int)))).pt (js_one (js_ret je_bl)) js_nil)
  (js_one (js_ret (je_b (cr_all B.calm) cm_all z_all (by decide +kernel) (ja_cons (je_lc false B sc_is_name.nd (ji_str (je_v 0)) (blkOk_by (own := [("sign", 1)]) (by kernel_rfl)) (fun Y BY eN ⟨s, H, A, cl, fp, eY⟩ => by subst eY; exact (jg_n (i := 1) sc_is_name.nd)) (fun s H A cl fp B1 => jts_nil) (fun s H A cl fp B1 => (je_cmp (op_inM B1.u1) opm_in (je_v 1) (je_str [97, 98, 99, 100, 101, 102, 103, 104, 105, 106, 107, 108, 109, 110, 111, 112, 113, 114, 115, 116, 117, 118, 119, 120, 121, 122]) rfl))) ja_nil)))))
theorem sc_is_named : FnScope ["some", "least", "name"] ["some", "least"] (defScope s_is_named) := ⟨rfl, rfl, rfl, by decide +kernel, rfl, by decide +kernel, by decide +kernel⟩
theorem ok_is_named {f : Addr} {fd : FuncData} (F : Fun C.K "is_named" "is_named" s_is_named f fd) (z_list : mg "list" = none) (z_isinstance : mg "isinstance" = none) (z_len : mg "len" = none) (z_all : mg "all" = none) (G_is_name : FnIn P w C mg base "is_name" 1 1 m_is_name []) : FnOk P w C.K mg base (L2.CX P w) 2 f fd ["some", "least"] (spM C 2 m_is_named) := by
  refine def_ok (N := ["some", "least", "name"]) (n := 3) (b := b_is_named) (k := 1) F sc_is_named (.inl rfl) ?_
  intro cdv A outer s H E E₁ X hX hr
  have B := bx_of hX rfl hr
  subst hX
  exact (js_cons (js_if (jw_or (jt_not (jt_tru B.hK (je_b call_isi cm_isi z_isinstance (by decide +kernel) (ja_cons (je_v 0) (ja_cons (je_tyv z_list (by decide +kernel)) ja_nil))))) (jw_one_or (jt_not (jt_chain op_leM opm_le op_leM opm_le (je_v 1) (je_b call_lenM cm_len z_len (by decide +kernel) (ja_cons (je_v 0) ja_nil)) je_int)))).pt (js_one (js_ret je_bl)) js_nil)
  (js_one (js_ret (je_b (cr_all B.calm) cm_all z_all (by decide +kernel) (ja_cons (je_lc false B sc_is_named.nd (ji_seq B.hK (je_v 0)) (blkOk_by (own := [("name", 2)]) (by kernel_rfl)) (fun Y BY eN ⟨s, H, A, cl, fp, eY⟩ => by subst eY; exact (jg_n (i := 2) sc_is_named.nd)) (fun s H A cl fp B1 => jts_nil) (fun s H A cl fp B1 => (je_f B1 G_is_name (ja_cons (je_v 2) ja_nil)))) ja_nil)))))
theorem sc_is_number : FnScope ["thing", "least", "most"] ["thing", "least", "most"] (defScope s_is_number) := ⟨rfl, rfl, rfl, by decide +kernel, rfl, by decide +kernel, by decide +kernel⟩
theorem ok_is_number {f : Addr} {fd : FuncData} (F : Fun C.K "is_number" "is_number" s_is_number f fd) (z_int : mg "int" = none) (z_isinstance : mg "isinstance" = none) (z_bool : mg "bool" = none) : FnOk P w C.K mg base (L2.CX P w) 1 f fd ["thing", "least", "most"] (spM C 3 m_is_number) := by
  refine def_ok (N := ["thing", "least", "most"]) (n := 3) (b := b_is_number) (k := 0) F sc_is_number (.inl rfl) ?_
  intro cdv A outer s H E E₁ X hX hr
  have B := bx_of hX rfl hr
  subst hX
  exact (js_one (js_ret (je_andT B.hK (je_b call_isi cm_isi z_isinstance (by decide +kernel) (ja_cons (je_v 0) (ja_cons (je_tyv z_int (by decide +kernel)) ja_nil))) (je_andT B.hK (je_notT B.hK (je_b call_isi cm_isi z_isinstance (by decide +kernel) (ja_cons (je_v 0) (ja_cons (je_tyv z_bool (by decide +kernel)) ja_nil)))) (pe_one (je_chain op_leM opm_le op_leM opm_le (je_v 1) (je_v 0) (je_v 2)))))))
theorem sc_is_counted : FnScope ["some", "least", "name", "many"] ["some", "least"] (defScope s_is_counted) := ⟨rfl, rfl, rfl, by decide +kernel, rfl, by decide +kernel, by decide +kernel⟩
theorem ok_is_counted {f : Addr} {fd : FuncData} (F : Fun C.K "is_counted" "is_counted" s_is_counted f fd) (z_dict : mg "dict" = none) (z_isinstance : mg "isinstance" = none) (z_len : mg "len" = none) (z_all : mg "all" = none) (G_is_name : FnIn P w C mg base "is_name" 1 1 m_is_name []) (G_is_number : FnIn P w C mg base "is_number" 1 3 m_is_number []) : FnOk P w C.K mg base (L2.CX P w) 2 f fd ["some", "least"] (spM C 2 m_is_counted) := by
  refine def_ok (N := ["some", "least", "name", "many"]) (n := 4) (b := b_is_counted) (k := 1) F sc_is_counted (.inl rfl) ?_
  intro cdv A outer s H E E₁ X hX hr
  have B := bx_of hX rfl hr
  subst hX
  exact (js_cons (js_if (jw_or (jt_not (jt_tru B.hK (je_b call_isi cm_isi z_isinstance (by decide +kernel) (ja_cons (je_v 0) (ja_cons (je_tyv z_dict (by decide +kernel)) ja_nil))))) (jw_one_or (jt_cmp op_gtM opm_gt (je_b call_lenM cm_len z_len (by decide +kernel) (ja_cons (je_v 0) ja_nil)) je_int (nomark _)))).pt (js_one (js_ret je_bl)) js_nil)
  (js_one (js_ret (je_b (cr_all B.calm) cm_all z_all (by decide +kernel) (ja_cons (je_lcItems false (i := 0) B sc_is_counted.nd (blkOk_by (own := [("name", 2), ("many", 3)]) (by kernel_rfl)) (fun Y BY eN ⟨s, H, A, cl, fp, eY⟩ => by subst eY; exact (jg_t BY.hK BY.calm (jgs_cons (jg_n (i := 2) sc_is_counted.nd) (jgs_cons (jg_n (i := 3) sc_is_counted.nd) jgs_nil)))) (fun s H A cl fp B1 => jts_nil) (fun s H A cl fp B1 => (je_andT B1.hK (je_f B1 G_is_name (ja_cons (je_v 2) ja_nil)) (pe_one (je_f B1 G_is_number (ja_cons (je_v 3) (ja_cons (je_v 1) (ja_cons je_int ja_nil)))))))) ja_nil)))))
theorem sc_Gear_init : FnScope ["self", "seen", "hidden", "deeds", "asks", "below", "does", "tells", "every"] ["self", "seen", "hidden", "deeds", "asks"] (defScope s_Gear_init) := ⟨rfl, rfl, rfl, by decide +kernel, rfl, by decide +kernel, by decide +kernel⟩
theorem ok_Gear_init {f : Addr} {fd : FuncData} (F : FunD C.K "__init__" "Gear.__init__" (defArgs s_Gear_init) (defBody s_Gear_init) (defScope s_Gear_init) [V.non, V.non, V.non] [] f fd) (z_list : mg "list" = none) (z_len : mg "len" = none) (z_set : mg "set" = none) (z_dict : mg "dict" = none) (F_upper : FldIn C 0 "upper") (F_lower : FldIn C 0 "lower") (F_makers : FldIn C 0 "makers") (F_tellers : FldIn C 0 "tellers") (G_is_named : FnIn P w C mg base "is_named" 2 2 m_is_named []) (G_is_counted : FnIn P w C mg base "is_counted" 2 2 m_is_counted []) : FnOk P w C.K mg base (L2.CX P w) 3 f fd ["self", "seen", "hidden", "deeds", "asks"] (spM C 5 m_Gear_init) := by
  refine def_okD (N := ["self", "seen", "hidden", "deeds", "asks", "below", "does", "tells", "every"]) (n := 9) (b := b_Gear_init) (k := 2) F sc_Gear_init (.inl rfl) ?_
  intro cdv A outer s H E X hX hr
  have B := bx_of hX rfl hr
  subst hX
  exact (js_cons (js_set (i := 5) sc_Gear_init.nd (je_if (jt_isN (je_v 2)) (je_lst false ja_nil) (je_v 2)))
  (js_cons (js_set (i := 6) sc_Gear_init.nd (je_if (jt_isN (je_v 3)) (je_dic0 false) (je_v 3)))
  (js_cons (js_set (i := 7) sc_Gear_init.nd (je_if (jt_isN (je_v 4)) (je_dic0 false) (je_v 4)))
  (js_cons (js_if (jw_or (jt_not (jt_tru B.hK (je_f B G_is_named (ja_cons (je_v 1) (ja_cons je_int ja_nil))))) (jw_one_or (jt_not (jt_tru B.hK (je_f B G_is_named (ja_cons (je_v 5) (ja_cons je_int ja_nil))))))).pt (js_one js_never) js_nil)
  (js_cons (js_if (jw_or (jt_not (jt_tru B.hK (je_f B G_is_counted (ja_cons (je_v 6) (ja_cons je_int ja_nil))))) (jw_one_or (jt_not (jt_tru B.hK (je_f B G_is_counted (ja_cons (je_v 7) (ja_cons je_int ja_nil))))))).pt (js_one js_never) js_nil)
  (js_cons (js_set (i := 8) sc_Gear_init.nd (je_op op_addM (opm_add false) (je_op op_addM (opm_add false) (je_op op_addM (opm_add false) (je_v 1) (je_v 5)) (je_ty (call_listA B.calm) (cm_listA false) z_list (by decide +kernel) (ja_cons (je_v 6) ja_nil))) (je_ty (call_listA B.calm) (cm_listA false) z_list (by decide +kernel) (ja_cons (je_v 7) ja_nil))))
  (js_cons (js_if (jw_or (jt_cmp (op_neM B.hK B.u64) opm_ne (je_lenOnce B z_len z_set (je_v 8)) (je_b call_lenM cm_len z_len (by decide +kernel) (ja_cons (je_v 8) ja_nil)) (nomark _)) (jw_or (jt_cmp (op_inM B.u1) opm_in (je_str [112]) (je_v 8) rfl) (jw_one_or (jt_cmp (op_inM B.u1) opm_in (je_str [113]) (je_v 8) rfl)))).pt (js_one js_never) js_nil)
  (js_cons (js_fd B F_upper (je_v 0) (je_ty (call_listA B.calm) (cm_listA false) z_list (by decide +kernel) (ja_cons (je_v 1) ja_nil)))
  (js_cons (js_fd B F_lower (je_v 0) (je_ty (call_listA B.calm) (cm_listA false) z_list (by decide +kernel) (ja_cons (je_v 5) ja_nil)))
  (js_cons (js_fd B F_makers (je_v 0) (je_ty (call_dictM B.calm) (cm_dict false) z_dict (by decide +kernel) (ja_cons (je_v 6) ja_nil)))
  (js_one (js_fd B F_tellers (je_v 0) (je_ty (call_dictM B.calm) (cm_dict false) z_dict (by decide +kernel) (ja_cons (je_v 7) ja_nil))))))))))))))
theorem sc_law : FnScope ["_law_script", "_law_k", "_law_cell", "_law_draw", "_law_way", "_law_odd", "_law_upper", "_law_lower", "_law_names_here", "_law_does", "_law_words", "_law_tree_here", "_law_text_here", "_law_handed", "_law_found", "_law_due", "_law_turn", "_law_name_here"] ["_law_script"] (defScope s_law) := ⟨rfl, rfl, rfl, by decide +kernel, rfl, by decide +kernel, by decide +kernel⟩
theorem ok_law {f : Addr} {fd : FuncData} (F : Fun C.K "law" "law" s_law f fd) (z_enumerate : mg "enumerate" = none) (z_len : mg "len" = none) (z_range : mg "range" = none) (z_list : mg "list" = none) (z_dict : mg "dict" = none) (z_bool : mg "bool" = none) (z_isinstance : mg "isinstance" = none) (G_law_begun : FnIn P w C mg base "_law_begun" 1 2 m_law_begun []) (G_law_next : FnIn P w C mg base "_law_next" 1 2 m_law_next []) (G_law_pick : FnIn P w C mg base "_law_pick" 2 2 m_law_pick []) (G_law_names : FnIn P w C mg base "_law_names" 4 3 m_law_names []) (G_law_tree : FnIn P w C mg base "_law_tree" 8 4 (m_law_tree 6) []) (G_law_text : FnIn P w C mg base "_law_text" 6 1 (m_law_text 6) []) (G_law_spoilt : FnIn P w C mg base "_law_spoilt" 3 3 m_law_spoilt []) (G_is_form : FnIn P w C mg base "is_form" 2 3 m_is_form []) (G_law_read : FnIn P w C mg base "_law_read" 62 4 (m_law_read 62) []) (N_Gear_1 : MkIn P w C mg base "Gear" 0 3 5 m_Gear_init [.non]) : FnOk P w C.K mg base (L2.CX P w) 63 f fd ["_law_script"] (spM C 1 m_law) := by
  refine def_ok (N := ["_law_script", "_law_k", "_law_cell", "_law_draw", "_law_way", "_law_odd", "_law_upper", "_law_lower", "_law_names_here", "_law_does", "_law_words", "_law_tree_here", "_law_text_here", "_law_handed", "_law_found", "_law_due", "_law_turn", "_law_name_here"]) (n := 18) (b := b_law) (k := 62) F sc_law (.inl rfl) ?_
  intro cdv A outer s H E E₁ X hX hr
  have B := bx_of hX rfl hr
  subst hX
  exact (js_cons (js_for B.own B.calm (ji_enum B.hK (hm := z_enumerate) (ha := (ja_cons (je_sl false B.hK (je_orT B.hK (je_v 0) (pe_one (je_lst false (ja_cons je_int ja_nil)))) jo_none (jo_some je_int)) ja_nil))) (jg_t B.hK B.calm (jgs_cons (jg_n (i := 1) sc_law.nd) (jgs_cons (jg_n (i := 2) sc_law.nd) jgs_nil))) (js_cons (js_set (i := 3) sc_law.nd (je_f B G_law_begun (ja_cons (je_v 2) (ja_cons (je_v 1) ja_nil))))
    (js_cons (js_set (i := 4) sc_law.nd (je_f B G_law_next (ja_cons (je_v 3) (ja_cons je_int ja_nil))))
    (js_cons (js_set (i := 5) sc_law.nd (je_f B G_law_pick (ja_cons (je_v 3) (ja_cons (je_lst false (ja_cons je_non (ja_cons je_int (ja_cons (je_lst false (ja_cons (je_str [97]) ja_nil)) (ja_cons (je_tup (ja_cons (je_str [97]) (ja_cons je_non ja_nil))) (ja_cons (je_dic0 false) (ja_cons je_int ja_nil))))))) ja_nil))))
    (js_cons (js_set (i := 6) sc_law.nd (je_f B G_law_names (ja_cons (je_v 3) (ja_cons (je_op op_addM (opm_add false) je_int (je_f B G_law_next (ja_cons (je_v 3) (ja_cons je_int ja_nil)))) (ja_cons (je_lst false ja_nil) ja_nil)))))
    (js_cons (js_set (i := 7) sc_law.nd (je_f B G_law_names (ja_cons (je_v 3) (ja_cons (je_f B G_law_next (ja_cons (je_v 3) (ja_cons je_int ja_nil))) (ja_cons (je_v 6) ja_nil)))))
    (js_cons (js_set (i := 8) sc_law.nd (je_f B G_law_names (ja_cons (je_v 3) (ja_cons (je_op op_addM (opm_add false) je_int (je_f B G_law_next (ja_cons (je_v 3) (ja_cons je_int ja_nil)))) (ja_cons (je_op op_addM (opm_add false) (je_v 6) (je_v 7)) ja_nil)))))
    (js_cons (js_setLc false (i := 9) B sc_law.nd (ji_seq B.hK (je_v 8)) (blkOk_by (own := [("_law_name_here", 17)]) (by kernel_rfl)) (fun Y BY eN ⟨s, H, A, cl, fp, eY⟩ => by subst eY; exact (jg_n (i := 17) sc_law.nd)) (fun s H A cl fp B1 => jts_nil) (fun s H A cl fp B1 => (je_tup (ja_cons (je_v 17) (ja_cons (je_f B1 G_law_next (ja_cons (je_v 3) (ja_cons je_int ja_nil))) ja_nil)))))
    (js_cons (js_set (i := 10) sc_law.nd (je_sl true B.hK (je_op op_addM (opm_add false) (je_op op_addM (opm_add false) (je_v 6) (je_v 7)) (je_lst false (ja_cons (je_str [112]) (ja_cons (je_str [113]) ja_nil)))) (jo_some (je_f B G_law_next (ja_cons (je_v 3) (ja_cons je_int ja_nil)))) jo_none))
    (js_cons (js_set (i := 11) sc_law.nd (je_f B G_law_tree (ja_cons (je_v 3) (ja_cons (je_v 10) (ja_cons (je_v 9) (ja_cons (je_f B G_law_next (ja_cons (je_v 3) (ja_cons je_int ja_nil))) ja_nil))))))
    (js_cons (js_set (i := 12) sc_law.nd (je_f B G_law_spoilt (ja_cons (je_v 3) (ja_cons (je_f B G_law_text (ja_cons (je_v 11) ja_nil)) (ja_cons (je_v 4) ja_nil)))))
    (js_cons (js_if (jt_cmp (op_eqM B.hK B.u64) opm_eq (je_v 4) je_int (nomark _)) (js_one (js_for B.own B.calm (ji_range1 (hm := z_range) (ha := (ja_cons (je_ix B (je_lst false (ja_cons je_int (ja_cons je_int (ja_cons (je_b call_lenM cm_len z_len (by decide +kernel) (ja_cons (je_v 10) ja_nil)) ja_nil)))) (je_f B G_law_next (ja_cons (je_v 3) (ja_cons je_int ja_nil)))) ja_nil))) (jg_n (i := 16) sc_law.nd) (js_one (js_expr (je_bm B.hK PySem.F.plainAttrs_list PySem.F.slot_list_pop PySem.F.type_list_pop mt_popM mm_pop (je_v 10) (ja_cons (je_f B G_law_next (ja_cons (je_v 3) (ja_cons (je_b call_lenM cm_len z_len (by decide +kernel) (ja_cons (je_v 10) ja_nil)) ja_nil))) ja_nil)))))) js_nil)
    (js_cons (js_set (i := 13) sc_law.nd (je_ty (call_listA B.calm) (cm_listA false) z_list (by decide +kernel) (ja_cons (je_v 10) ja_nil)))
    (js_cons (js_set (i := 14) sc_law.nd (je_f B G_is_form (ja_cons (je_mk false B N_Gear_1 (ja_cons (je_v 6) (ja_cons (je_v 7) (ja_cons (je_ty (call_dictM B.calm) (cm_dict false) z_dict (by decide +kernel) (ja_cons (je_v 9) ja_nil)) ja_nil)))) (ja_cons (je_if (jt_cmp (op_eqM B.hK B.u64) opm_eq (je_v 4) je_int (nomark _)) (je_v 5) (je_v 12)) (ja_cons (je_v 13) ja_nil)))))
    (js_cons (js_set (i := 15) sc_law.nd (je_andT B.hK (je_cmp (op_neM B.hK B.u64) opm_ne (je_v 4) je_int (nomark _)) (je_andT B.hK (je_cmp op_leM opm_le (je_b call_lenM cm_len z_len (by decide +kernel) (ja_cons (je_v 12) ja_nil)) je_int (nomark _)) (pe_one (je_cmp (op_eqM B.hK B.u64) opm_eq (je_f B G_law_read (ja_cons (je_v 12) (ja_cons je_int (ja_cons (je_v 10) (ja_cons (je_ty (call_dictM B.calm) (cm_dict false) z_dict (by decide +kernel) (ja_cons (je_v 9) ja_nil)) ja_nil))))) (je_b call_lenM cm_len z_len (by decide +kernel) (ja_cons (je_v 12) ja_nil)) (nomark _))))))
    (js_one (js_if (jw_or (jt_not (jt_tru B.hK (je_b call_isi cm_isi z_isinstance (by decide +kernel) (ja_cons (je_v 14) (ja_cons (je_tyv z_bool (by decide +kernel)) ja_nil))))) (jw_or (jt_cmp (op_neM B.hK B.u64) opm_ne (je_v 14) (je_v 15) (nomark _)) (jw_one_or (jt_cmp (op_neM B.hK B.u64) opm_ne (je_v 13) (je_v 10) (nomark _))))).pt (js_one (js_ret je_bl)) js_nil)))))))))))))))))
  (js_one (js_ret je_bl)))
end
theorem all_mk {l : PySem.W.OpenLaw} {w : World} {K : PySem.W.Frag} {h : Heap} {mg : Str → Option Value} {fa f0 f1 f2 f3 f4 f5 f6 f7 f8 f9 f10 f11 f12 f13 f14 f15 f16 f17 f18 T17 C0 : Addr} (X : K.In h) (G : h.Ns mainGlobals mg) (hfa : mg "law" = some (.ref fa))
    {od0 an0 od1 an1 od2 an2 od3 an3 od4 an4 od5 an5 od6 an6 od7 an7 od8 an8 od9 an9 od10 an10 od11 an11 od12 an12 od13 an13 od14 an14 od15 an15 od16 an16 od17 an17 od18 an18 td17 : Option Addr} {sl0 sl1 sl2 sl3 sl4 sl5 sl6 sl7 sl8 sl9 sl10 sl11 sl12 sl13 sl14 sl15 sl16 sl17 sl18 ts17 : Array (Option Value)} {oc0 kV0 dc0 pm0 cd0 ct0 oc1 kV1 dc1 pm1 cd1 ct1 oc2 kV2 dc2 pm2 cd2 ct2 oc3 kV3 dc3 pm3 cd3 ct3 oc4 kV4 dc4 pm4 cd4 ct4 oc5 kV5 dc5 pm5 cd5 ct5 oc6 kV6 dc6 pm6 cd6 ct6 oc7 kV7 dc7 pm7 cd7 ct7 oc8 kV8 dc8 pm8 cd8 ct8 oc9 kV9 dc9 pm9 cd9 ct9 oc10 kV10 dc10 pm10 cd10 ct10 oc11 kV11 dc11 pm11 cd11 ct11 oc12 kV12 dc12 pm12 cd12 ct12 oc13 kV13 dc13 pm13 cd13 ct13 oc14 kV14 dc14 pm14 cd14 ct14 oc15 kV15 dc15 pm15 cd15 ct15 oc16 kV16 dc16 pm16 cd16 ct16 oc17 kV17 dc17 pm17 cd17 ct17 oc18 kV18 dc18 pm18 cd18 ct18 to17 : Value} {tn17 : Nat} {ktLETTERS : Tok}
    (ac0 : PySem.W.nsIn K mainGlobals "Gear" = some (some (.ref C0)))
    (a0 : PySem.W.nsIn K mainGlobals "_law_begun" = some (some (.ref f0)))
    (l0 : K.lookup f0 = some ⟨oc0, od0, .func (PySem.W.fnOf "_law_begun" "_law_begun" (defArgs s_law_begun) (defBody s_law_begun) (defScope s_law_begun) .none kV0 dc0 pm0 an0 cd0 ct0), sl0⟩)
    (c0 : PySem.W.codeIn K cd0 "_law_begun" = true)
    (k0 : PySem.W.keepIn K (.ref f0) = true)
    (a1 : PySem.W.nsIn K mainGlobals "_law_next" = some (some (.ref f1)))
    (l1 : K.lookup f1 = some ⟨oc1, od1, .func (PySem.W.fnOf "_law_next" "_law_next" (defArgs s_law_next) (defBody s_law_next) (defScope s_law_next) .none kV1 dc1 pm1 an1 cd1 ct1), sl1⟩)
    (c1 : PySem.W.codeIn K cd1 "_law_next" = true)
    (k1 : PySem.W.keepIn K (.ref f1) = true)
    (a2 : PySem.W.nsIn K mainGlobals "_law_pick" = some (some (.ref f2)))
    (l2 : K.lookup f2 = some ⟨oc2, od2, .func (PySem.W.fnOf "_law_pick" "_law_pick" (defArgs s_law_pick) (defBody s_law_pick) (defScope s_law_pick) .none kV2 dc2 pm2 an2 cd2 ct2), sl2⟩)
    (c2 : PySem.W.codeIn K cd2 "_law_pick" = true)
    (k2 : PySem.W.keepIn K (.ref f2) = true)
    (a3 : PySem.W.nsIn K mainGlobals "_law_name" = some (some (.ref f3)))
    (l3 : K.lookup f3 = some ⟨oc3, od3, .func (PySem.W.fnOf "_law_name" "_law_name" (defArgs s_law_name) (defBody s_law_name) (defScope s_law_name) .none kV3 dc3 pm3 an3 cd3 ct3), sl3⟩)
    (c3 : PySem.W.codeIn K cd3 "_law_name" = true)
    (k3 : PySem.W.keepIn K (.ref f3) = true)
    (a4 : PySem.W.nsIn K mainGlobals "_law_names" = some (some (.ref f4)))
    (l4 : K.lookup f4 = some ⟨oc4, od4, .func (PySem.W.fnOf "_law_names" "_law_names" (defArgs s_law_names) (defBody s_law_names) (defScope s_law_names) .none kV4 dc4 pm4 an4 cd4 ct4), sl4⟩)
    (c4 : PySem.W.codeIn K cd4 "_law_names" = true)
    (k4 : PySem.W.keepIn K (.ref f4) = true)
    (a5 : PySem.W.nsIn K mainGlobals "_law_tree" = some (some (.ref f5)))
    (l5 : K.lookup f5 = some ⟨oc5, od5, .func (PySem.W.fnOf "_law_tree" "_law_tree" (defArgs s_law_tree) (defBody s_law_tree) (defScope s_law_tree) .none kV5 dc5 pm5 an5 cd5 ct5), sl5⟩)
    (c5 : PySem.W.codeIn K cd5 "_law_tree" = true)
    (k5 : PySem.W.keepIn K (.ref f5) = true)
    (a6 : PySem.W.nsIn K mainGlobals "_law_text" = some (some (.ref f6)))
    (l6 : K.lookup f6 = some ⟨oc6, od6, .func (PySem.W.fnOf "_law_text" "_law_text" (defArgs s_law_text) (defBody s_law_text) (defScope s_law_text) .none kV6 dc6 pm6 an6 cd6 ct6), sl6⟩)
    (c6 : PySem.W.codeIn K cd6 "_law_text" = true)
    (k6 : PySem.W.keepIn K (.ref f6) = true)
    (a7 : PySem.W.nsIn K mainGlobals "_law_spoilt" = some (some (.ref f7)))
    (l7 : K.lookup f7 = some ⟨oc7, od7, .func (PySem.W.fnOf "_law_spoilt" "_law_spoilt" (defArgs s_law_spoilt) (defBody s_law_spoilt) (defScope s_law_spoilt) .none kV7 dc7 pm7 an7 cd7 ct7), sl7⟩)
    (c7 : PySem.W.codeIn K cd7 "_law_spoilt" = true)
    (k7 : PySem.W.keepIn K (.ref f7) = true)
    (a8 : PySem.W.nsIn K mainGlobals "run_end" = some (some (.ref f8)))
    (l8 : K.lookup f8 = some ⟨oc8, od8, .func (PySem.W.fnOf "run_end" "run_end" (defArgs s_run_end) (defBody s_run_end) (defScope s_run_end) .none kV8 dc8 pm8 an8 cd8 ct8), sl8⟩)
    (c8 : PySem.W.codeIn K cd8 "run_end" = true)
    (k8 : PySem.W.keepIn K (.ref f8) = true)
    (a9 : PySem.W.nsIn K mainGlobals "next_form" = some (some (.ref f9)))
    (l9 : K.lookup f9 = some ⟨oc9, od9, .func (PySem.W.fnOf "next_form" "next_form" (defArgs s_next_form) (defBody s_next_form) (defScope s_next_form) .none kV9 dc9 pm9 an9 cd9 ct9), sl9⟩)
    (c9 : PySem.W.codeIn K cd9 "next_form" = true)
    (k9 : PySem.W.keepIn K (.ref f9) = true)
    (a10 : PySem.W.findIn K (.ref C0) "deeds" = some (some (.ref f10)))
    (i10 : PySem.W.isFn K (.ref f10) = true)
    (l10 : K.lookup f10 = some ⟨oc10, od10, .func (PySem.W.fnOf "deeds" "Gear.deeds" (defArgs s_Gear_deeds) (defBody s_Gear_deeds) (defScope s_Gear_deeds) .none kV10 dc10 pm10 an10 cd10 ct10), sl10⟩)
    (c10 : PySem.W.codeIn K cd10 "Gear.deeds" = true)
    (k10 : PySem.W.keepIn K (.ref f10) = true)
    (a11 : PySem.W.nsIn K mainGlobals "is_form" = some (some (.ref f11)))
    (l11 : K.lookup f11 = some ⟨oc11, od11, .func (PySem.W.fnOf "is_form" "is_form" (defArgs s_is_form) (defBody s_is_form) (defScope s_is_form) .none kV11 dc11 pm11 an11 cd11 ct11), sl11⟩)
    (c11 : PySem.W.codeIn K cd11 "is_form" = true)
    (k11 : PySem.W.keepIn K (.ref f11) = true)
    (a12 : PySem.W.nsIn K mainGlobals "_law_read" = some (some (.ref f12)))
    (l12 : K.lookup f12 = some ⟨oc12, od12, .func (PySem.W.fnOf "_law_read" "_law_read" (defArgs s_law_read) (defBody s_law_read) (defScope s_law_read) .none kV12 dc12 pm12 an12 cd12 ct12), sl12⟩)
    (c12 : PySem.W.codeIn K cd12 "_law_read" = true)
    (k12 : PySem.W.keepIn K (.ref f12) = true)
    (a13 : PySem.W.nsIn K mainGlobals "is_name" = some (some (.ref f13)))
    (l13 : K.lookup f13 = some ⟨oc13, od13, .func (PySem.W.fnOf "is_name" "is_name" (defArgs s_is_name) (defBody s_is_name) (defScope s_is_name) .none kV13 dc13 pm13 an13 cd13 ct13), sl13⟩)
    (c13 : PySem.W.codeIn K cd13 "is_name" = true)
    (k13 : PySem.W.keepIn K (.ref f13) = true)
    (a14 : PySem.W.nsIn K mainGlobals "is_named" = some (some (.ref f14)))
    (l14 : K.lookup f14 = some ⟨oc14, od14, .func (PySem.W.fnOf "is_named" "is_named" (defArgs s_is_named) (defBody s_is_named) (defScope s_is_named) .none kV14 dc14 pm14 an14 cd14 ct14), sl14⟩)
    (c14 : PySem.W.codeIn K cd14 "is_named" = true)
    (k14 : PySem.W.keepIn K (.ref f14) = true)
    (a15 : PySem.W.nsIn K mainGlobals "is_number" = some (some (.ref f15)))
    (l15 : K.lookup f15 = some ⟨oc15, od15, .func (PySem.W.fnOf "is_number" "is_number" (defArgs s_is_number) (defBody s_is_number) (defScope s_is_number) .none kV15 dc15 pm15 an15 cd15 ct15), sl15⟩)
    (c15 : PySem.W.codeIn K cd15 "is_number" = true)
    (k15 : PySem.W.keepIn K (.ref f15) = true)
    (a16 : PySem.W.nsIn K mainGlobals "is_counted" = some (some (.ref f16)))
    (l16 : K.lookup f16 = some ⟨oc16, od16, .func (PySem.W.fnOf "is_counted" "is_counted" (defArgs s_is_counted) (defBody s_is_counted) (defScope s_is_counted) .none kV16 dc16 pm16 an16 cd16 ct16), sl16⟩)
    (c16 : PySem.W.codeIn K cd16 "is_counted" = true)
    (k16 : PySem.W.keepIn K (.ref f16) = true)
    (a17 : PySem.W.findIn K (.ref C0) "__init__" = some (some (.ref f17)))
    (i17 : PySem.W.isFn K (.ref f17) = true)
    (l17 : K.lookup f17 = some ⟨oc17, od17, .func (PySem.W.fnOf "__init__" "Gear.__init__" (defArgs s_Gear_init) (defBody s_Gear_init) (defScope s_Gear_init) (.ref T17) kV17 dc17 pm17 an17 cd17 ct17), sl17⟩)
    (c17 : PySem.W.codeIn K cd17 "Gear.__init__" = true)
    (k17 : PySem.W.keepIn K (.ref f17) = true)
    (t17 : K.lookup T17 = some ⟨to17, td17, .seq ([Value.none, Value.none, Value.none] : List Value).toArray tn17, ts17⟩)
    (a18 : PySem.W.nsIn K mainGlobals "law" = some (some (.ref f18)))
    (l18 : K.lookup f18 = some ⟨oc18, od18, .func (PySem.W.fnOf "law" "law" (defArgs s_law) (defBody s_law) (defScope s_law) .none kV18 dc18 pm18 an18 cd18 ct18), sl18⟩)
    (c18 : PySem.W.codeIn K cd18 "law" = true)
    (k18 : PySem.W.keepIn K (.ref f18) = true)
    (pg0 : PySem.W.plainGet K C0 Str.empty = true)
    (hd0 : PySem.W.hasDictIn K C0 = true)
    (po0 : PySem.W.plainOver K C0 = true)
    (sa0 : PySem.W.findIn K (.ref C0) "__setattr__" = some (some (.builtin "object.__setattr__")))
    (mk0 : PySem.W.makesIn K C0 = true)
    (kc0 : PySem.W.keepIn K (.ref C0) = true)
    (fl_makers : PySem.W.findIn K (.ref C0) "makers" = some none)
    (fl_upper : PySem.W.findIn K (.ref C0) "upper" = some none)
    (fl_lower : PySem.W.findIn K (.ref C0) "lower" = some none)
    (fl_tellers : PySem.W.findIn K (.ref C0) "tellers" = some none)
    (kLETTERS : PySem.W.nsIn K mainGlobals "LETTERS" = some (some (.str (st [97, 98, 99, 100, 101, 102, 103, 104, 105, 106, 107, 108, 109, 110, 111, 112, 113, 114, 115, 116, 117, 118, 119, 120, 121, 122]) ktLETTERS)))
    (zmax : PySem.W.nsIn K mainGlobals "max" = some none)
    (zlen : PySem.W.nsIn K mainGlobals "len" = some none)
    (zrange : PySem.W.nsIn K mainGlobals "range" = some none)
    (zdict : PySem.W.nsIn K mainGlobals "dict" = some none)
    (zstr : PySem.W.nsIn K mainGlobals "str" = some none)
    (zisinstance : PySem.W.nsIn K mainGlobals "isinstance" = some none)
    (zall : PySem.W.nsIn K mainGlobals "all" = some none)
    (zlist : PySem.W.nsIn K mainGlobals "list" = some none)
    (zint : PySem.W.nsIn K mainGlobals "int" = some none)
    (zbool : PySem.W.nsIn K mainGlobals "bool" = some none)
    (zset : PySem.W.nsIn K mainGlobals "set" = some none)
    (zenumerate : PySem.W.nsIn K mainGlobals "enumerate" = some none) :
    ∃ fd : FuncData, (∀ (s : Shared) (v : Value), BindsTo s fd ⟨[v], []⟩ [("_law_script", v)]) ∧ ∃ C : Ct, C.K = K ∧ ∀ base : Heap, K.In base → base.Ns mainGlobals mg → FnOk l.prog w C.K mg base (L2.CX l.prog w) 63 fa fd ["_law_script"] (spM C 1 m_law) := by
  have e := hfa.symm.trans (PySem.W.mg_of X G a18)
  cases e
  let C : Ct := ⟨K, fun n => match n with | 0 => C0 | _ => 0, fun _ => 0⟩
  have cls0 : Cls C.K (C.cA 0) := ⟨pg0, hd0, po0, sa0⟩
  have F0 := fun_mk (st := s_law_begun) l0 c0 k0
  have b0 := F0.binds (ps := ["_law_cell", "_law_k"]) fun _ _ _ _ _ _ us hl => match us, hl with | [_, _], _ => rfl
  have F1 := fun_mk (st := s_law_next) l1 c1 k1
  have b1 := F1.binds (ps := ["_law_draw", "_law_size"]) fun _ _ _ _ _ _ us hl => match us, hl with | [_, _], _ => rfl
  have F2 := fun_mk (st := s_law_pick) l2 c2 k2
  have b2 := F2.binds (ps := ["_law_draw", "_law_some"]) fun _ _ _ _ _ _ us hl => match us, hl with | [_, _], _ => rfl
  have F3 := fun_mk (st := s_law_name) l3 c3 k3
  have b3 := F3.binds (ps := ["_law_draw", "_law_found"]) fun _ _ _ _ _ _ us hl => match us, hl with | [_, _], _ => rfl
  have F4 := fun_mk (st := s_law_names) l4 c4 k4
  have b4 := F4.binds (ps := ["_law_draw", "_law_many", "_law_found"]) fun _ _ _ _ _ _ us hl => match us, hl with | [_, _, _], _ => rfl
  have F5 := fun_mk (st := s_law_tree) l5 c5 k5
  have b5 := F5.binds (ps := ["_law_draw", "_law_words", "_law_does", "_law_deep"]) fun _ _ _ _ _ _ us hl => match us, hl with | [_, _, _, _], _ => rfl
  have F6 := fun_mk (st := s_law_text) l6 c6 k6
  have b6 := F6.binds (ps := ["_law_tree_here"]) fun _ _ _ _ _ _ us hl => match us, hl with | [_], _ => rfl
  have F7 := fun_mk (st := s_law_spoilt) l7 c7 k7
  have b7 := F7.binds (ps := ["_law_draw", "_law_text_here", "_law_way"]) fun _ _ _ _ _ _ us hl => match us, hl with | [_, _, _], _ => rfl
  have F8 := fun_mk (st := s_run_end) l8 c8 k8
  have b8 := F8.binds (ps := ["text", "at"]) fun _ _ _ _ _ _ us hl => match us, hl with | [_, _], _ => rfl
  have F9 := fun_mk (st := s_next_form) l9 c9 k9
  have b9 := F9.binds (ps := ["text", "at", "left"]) fun _ _ _ _ _ _ us hl => match us, hl with | [_, _, _], _ => rfl
  have F10 := fun_mk (st := s_Gear_deeds) l10 c10 k10
  have b10 := F10.binds (ps := ["self"]) fun _ _ _ _ _ _ us hl => match us, hl with | [_], _ => rfl
  have F11 := fun_mk (st := s_is_form) l11 c11 k11
  have b11 := F11.binds (ps := ["gear", "text", "words"]) fun _ _ _ _ _ _ us hl => match us, hl with | [_, _, _], _ => rfl
  have F12 := fun_mk (st := s_law_read) l12 c12 k12
  have b12 := F12.binds (ps := ["_law_text_here", "_law_at", "_law_words", "_law_does"]) fun _ _ _ _ _ _ us hl => match us, hl with | [_, _, _, _], _ => rfl
  have F13 := fun_mk (st := s_is_name) l13 c13 k13
  have b13 := F13.binds (ps := ["text"]) fun _ _ _ _ _ _ us hl => match us, hl with | [_], _ => rfl
  have F14 := fun_mk (st := s_is_named) l14 c14 k14
  have b14 := F14.binds (ps := ["some", "least"]) fun _ _ _ _ _ _ us hl => match us, hl with | [_, _], _ => rfl
  have F15 := fun_mk (st := s_is_number) l15 c15 k15
  have b15 := F15.binds (ps := ["thing", "least", "most"]) fun _ _ _ _ _ _ us hl => match us, hl with | [_, _, _], _ => rfl
  have F16 := fun_mk (st := s_is_counted) l16 c16 k16
  have b16 := F16.binds (ps := ["some", "least"]) fun _ _ _ _ _ _ us hl => match us, hl with | [_, _], _ => rfl
  have F17 := funD_mk (st := s_Gear_init) (dvs := [V.non, V.non, V.non]) l17 c17 k17 t17 (fun z => by cases z) (.cons rfl (.cons rfl (.cons rfl .nil)))
  have F18 := fun_mk (st := s_law) l18 c18 k18
  have b18 := F18.binds (ps := ["_law_script"]) fun _ _ _ _ _ _ us hl => match us, hl with | [_], _ => rfl
  refine ⟨PySem.W.fnOf "law" "law" (defArgs s_law) (defBody s_law) (defScope s_law) .none kV18 dc18 pm18 an18 cd18 ct18, fun s v => .of_eq rfl, C, rfl, fun base _ _ => ?_⟩
  revert base
  intro base0 _ _
  have G0 : ∀ base : Heap, FnIn l.prog w C mg base "_law_begun" 1 2 m_law_begun [] := fun base => ⟨f0, _, _, [], [], PySem.W.mg_of X G a0, k0, b0, .nil, .nil, ok_law_begun (C := C) F0 (PySem.W.mg_none_of X G zmax)⟩
  have G1 : ∀ base : Heap, FnIn l.prog w C mg base "_law_next" 1 2 m_law_next [] := fun base => ⟨f1, _, _, [], [], PySem.W.mg_of X G a1, k1, b1, .nil, .nil, ok_law_next (C := C) F1⟩
  have G2 : ∀ base : Heap, FnIn l.prog w C mg base "_law_pick" 2 2 m_law_pick [] := fun base => ⟨f2, _, _, [], [], PySem.W.mg_of X G a2, k2, b2, .nil, .nil, ok_law_pick (C := C) F2 (PySem.W.mg_none_of X G zlen) (G1 base)⟩
  have G3 : ∀ base : Heap, FnIn l.prog w C mg base "_law_name" 3 2 m_law_name [] := fun base => ⟨f3, _, _, [], [], PySem.W.mg_of X G a3, k3, b3, .nil, .nil, ok_law_name (C := C) F3 (PySem.W.mg_none_of X G zrange) (G1 base) (G2 base)⟩
  have G4 : ∀ base : Heap, FnIn l.prog w C mg base "_law_names" 4 3 m_law_names [] := fun base => ⟨f4, _, _, [], [], PySem.W.mg_of X G a4, k4, b4, .nil, .nil, ok_law_names (C := C) F4 (PySem.W.mg_none_of X G zrange) (G3 base)⟩
  have G5 : ∀ base : Heap, FnIn l.prog w C mg base "_law_tree" 8 4 (m_law_tree 6) [] := fun base => ⟨f5, _, _, [], [], PySem.W.mg_of X G a5, k5, b5, .nil, .nil, ok_law_tree (C := C) F5 (PySem.W.mg_none_of X G zrange) (G1 base) (G2 base) (PySem.W.mg_of X G a5) k5 b5 6⟩
  have G6 : ∀ base : Heap, FnIn l.prog w C mg base "_law_text" 6 1 (m_law_text 6) [] := fun base => ⟨f6, _, _, [], [], PySem.W.mg_of X G a6, k6, b6, .nil, .nil, ok_law_text (C := C) F6 (PySem.W.mg_of X G a6) k6 b6 6⟩
  have G7 : ∀ base : Heap, FnIn l.prog w C mg base "_law_spoilt" 3 3 m_law_spoilt [] := fun base => ⟨f7, _, _, [], [], PySem.W.mg_of X G a7, k7, b7, .nil, .nil, ok_law_spoilt (C := C) F7 (PySem.W.mg_none_of X G zlen) (G2 base) (G1 base)⟩
  have G8 : ∀ base : Heap, FnIn l.prog w C mg base "run_end" 1 2 m_run_end [] := fun base => ⟨f8, _, _, [], [], PySem.W.mg_of X G a8, k8, b8, .nil, .nil, ok_run_end (C := C) F8 (PySem.W.mg_none_of X G zlen) ⟨_, PySem.W.mg_of X G kLETTERS⟩⟩
  have G9 : ∀ base : Heap, FnIn l.prog w C mg base "next_form" 1 3 m_next_form [] := fun base => ⟨f9, _, _, [], [], PySem.W.mg_of X G a9, k9, b9, .nil, .nil, ok_next_form (C := C) F9 (PySem.W.mg_none_of X G zlen)⟩
  have M10 : ∀ base : Heap, MethIn l.prog w C mg base 0 "deeds" 1 1 m_Gear_deeds [] := fun base => ⟨f10, _, _, [], [], cls0, ⟨a10, i10, k10⟩, b10, .nil, .nil, ok_Gear_deeds (C := C) F10 (PySem.W.mg_none_of X G zdict) ⟨cls0, fl_makers⟩⟩
  have G11 : ∀ base : Heap, FnIn l.prog w C mg base "is_form" 2 3 m_is_form [] := fun base => ⟨f11, _, _, [], [], PySem.W.mg_of X G a11, k11, b11, .nil, .nil, ok_is_form (C := C) F11 (PySem.W.mg_none_of X G zstr) (PySem.W.mg_none_of X G zisinstance) (PySem.W.mg_none_of X G zlen) (PySem.W.mg_none_of X G zmax) (G8 base) (G9 base) (M10 base)⟩
  have G12 : ∀ base : Heap, FnIn l.prog w C mg base "_law_read" 62 4 (m_law_read 62) [] := fun base => ⟨f12, _, _, [], [], PySem.W.mg_of X G a12, k12, b12, .nil, .nil, ok_law_read (C := C) F12 (PySem.W.mg_none_of X G zlen) (PySem.W.mg_none_of X G zrange) (PySem.W.mg_of X G a12) k12 b12 62⟩
  have G13 : ∀ base : Heap, FnIn l.prog w C mg base "is_name" 1 1 m_is_name [] := fun base => ⟨f13, _, _, [], [], PySem.W.mg_of X G a13, k13, b13, .nil, .nil, ok_is_name (C := C) F13 (PySem.W.mg_none_of X G zstr) (PySem.W.mg_none_of X G zisinstance) (PySem.W.mg_none_of X G zlen) (PySem.W.mg_none_of X G zall)⟩
  have G14 : ∀ base : Heap, FnIn l.prog w C mg base "is_named" 2 2 m_is_named [] := fun base => ⟨f14, _, _, [], [], PySem.W.mg_of X G a14, k14, b14, .nil, .nil, ok_is_named (C := C) F14 (PySem.W.mg_none_of X G zlist) (PySem.W.mg_none_of X G zisinstance) (PySem.W.mg_none_of X G zlen) (PySem.W.mg_none_of X G zall) (G13 base)⟩
  have G15 : ∀ base : Heap, FnIn l.prog w C mg base "is_number" 1 3 m_is_number [] := fun base => ⟨f15, _, _, [], [], PySem.W.mg_of X G a15, k15, b15, .nil, .nil, ok_is_number (C := C) F15 (PySem.W.mg_none_of X G zint) (PySem.W.mg_none_of X G zisinstance) (PySem.W.mg_none_of X G zbool)⟩
  have G16 : ∀ base : Heap, FnIn l.prog w C mg base "is_counted" 2 2 m_is_counted [] := fun base => ⟨f16, _, _, [], [], PySem.W.mg_of X G a16, k16, b16, .nil, .nil, ok_is_counted (C := C) F16 (PySem.W.mg_none_of X G zdict) (PySem.W.mg_none_of X G zisinstance) (PySem.W.mg_none_of X G zlen) (PySem.W.mg_none_of X G zall) (G13 base) (G15 base)⟩
  obtain ⟨ds17_1, vd17_1, bd17_1⟩ := FunD.binds1 (ps := ["self", "seen", "hidden", "deeds", "asks"]) F17 4 2 (fun z => by cases z) rfl fun T kV doc pm an cdv ct us its h1 h2 => match us, h1, its, h2 with | [_, _, _, _], _, [_, _, _], _ => ⟨_, rfl, rfl⟩
  have N_Gear_1 : ∀ base : Heap, MkIn l.prog w C mg base "Gear" 0 3 5 m_Gear_init [.non] := fun base => ⟨f17, _, _, [V.non], _, PySem.W.mg_of X G ac0, ⟨mk0, a17, i17, kc0⟩, bd17_1, vd17_1, (.non .nil), ok_Gear_init (C := C) F17 (PySem.W.mg_none_of X G zlist) (PySem.W.mg_none_of X G zlen) (PySem.W.mg_none_of X G zset) (PySem.W.mg_none_of X G zdict) ⟨cls0, fl_upper⟩ ⟨cls0, fl_lower⟩ ⟨cls0, fl_makers⟩ ⟨cls0, fl_tellers⟩ (G14 base) (G16 base)⟩
  exact (fun base => ok_law (C := C) F18 (PySem.W.mg_none_of X G zenumerate) (PySem.W.mg_none_of X G zlen) (PySem.W.mg_none_of X G zrange) (PySem.W.mg_none_of X G zlist) (PySem.W.mg_none_of X G zdict) (PySem.W.mg_none_of X G zbool) (PySem.W.mg_none_of X G zisinstance) (G0 base) (G1 base) (G2 base) (G4 base) (G5 base) (G6 base) (G7 base) (G11 base) (G12 base) (N_Gear_1 base)) base0
end K14
end Mi

namespace Mi
namespace K14
open PySem L2 TL Sh
theorem isL_abc (c : Nat) : P14.isL c = isAbc c := rfl
/-- one sign of a text -/
theorem ix_str {t : List Nat} {a : Nat} {S : Sto} (hl : t.length ≤ 2 ^ 20) (h : a < t.length) : fIx (.str t) (.int (a : Int)) S = .ok (.str [t[a]]) S := by
  have hz : t.length ≤ sizeLine := by unfold sizeLine; omega
  have e : L2.atI t (a : Int) = some t[a] := by unfold L2.atI L2.ixN; simp [h]
  simp only [fIx, if_pos hz, e]
theorem len_str {t : List Nat} {S : Sto} (hl : t.length ≤ 2 ^ 20) : fLen [.str t] S = .ok (.int (t.length : Int)) S := by
  have hz : t.length ≤ sizeLine := by unfold sizeLine; omega
  simp only [fLen, lenM, if_pos hz]
theorem in_abc {c : Nat} {S : Sto} : fIn (.str [c]) (.str abc) S = .ok (.bl (isAbc c)) S := by
  have := abc_iff c
  simp only [fIn, isIn, this]
abbrev wTest : MB := mAndB (asB (mBin fLt (mV 1) (mB fLen (mCons (mV 0) mNil)))) (asB (mBin fIn (mBin fIx (mV 0) (mV 1)) (mC (.str abc))))
theorem run_loop (t : List Nat) (hl : t.length ≤ 2 ^ 20) (S : Sto) : ∀ (n a : Nat), t.length - a = n → whileL wTest b_run_end_l1 (n + 1) [some (.str t), some (.int (a : Int))] S = .nx [some (.str t), some (.int ((P14.re t a : Nat) : Int))] S := by
  intro n
  induction n with
  | zero =>
    intro a h
    have h1 : ¬ ((a : Nat) : Int) < (t.length : Int) := by omega
    have e : P14.re t a = a := by
      unfold P14.re
      rw [List.drop_of_length_le (by omega)]; rfl
    have tst : wTest [some (.str t), some (.int (a : Int))] S = .ok false S := by
      simp only [env0, sRet, sBind, sSeq, sIf, sSet, sSub, sNext, sRetN, sDrop, mLst, mTup, mCons, mB, mBin, mV, mC, mNil, mCall, asB, asT, bind_ok, List.map_cons, List.map_nil, List.length_cons, List.length_nil, List.cons_append, List.nil_append, List.append_nil, List.getElem?_cons_zero, List.getElem?_cons_succ, List.set_cons_zero, List.set_cons_succ, List.replicate_zero, List.replicate_succ, List.replicate_one, if_true, if_false, Bool.false_eq_true, Nat.reduceSub, Nat.reduceAdd, Nat.sub_self, mAndB, len_str hl, fLt, h1, decide_false]
    rw [e]
    unfold whileL
    simp only [tst]
    rfl
  | succ n ih =>
    intro a h
    have ha : a < t.length := by omega
    have h1 : ((a : Nat) : Int) < (t.length : Int) := by omega
    have hd : t.drop a = t[a] :: t.drop (a + 1) := by rw [List.drop_eq_getElem_cons ha]
    have tst : wTest [some (.str t), some (.int (a : Int))] S = .ok (isAbc t[a]) S := by
      simp only [env0, sRet, sBind, sSeq, sIf, sSet, sSub, sNext, sRetN, sDrop, mLst, mTup, mCons, mB, mBin, mV, mC, mNil, mCall, asB, asT, bind_ok, List.map_cons, List.map_nil, List.length_cons, List.length_nil, List.cons_append, List.nil_append, List.append_nil, List.getElem?_cons_zero, List.getElem?_cons_succ, List.set_cons_zero, List.set_cons_succ, List.replicate_zero, List.replicate_succ, List.replicate_one, if_true, if_false, Bool.false_eq_true, Nat.reduceSub, Nat.reduceAdd, Nat.sub_self, mAndB, len_str hl, fLt, h1, decide_true, ix_str hl ha, in_abc]
    cases hc : isAbc t[a] with
    | false =>
      have e : P14.re t a = a := by
        unfold P14.re
        rw [hd, List.takeWhile_cons, isL_abc, hc]; rfl
      rw [hc] at tst
      rw [e]
      unfold whileL
      simp only [tst]
      rfl
    | true =>
      have e : P14.re t a = P14.re t (a + 1) := by
        unfold P14.re
        rw [hd, List.takeWhile_cons, isL_abc, hc]
        simp only [if_true, List.length_cons]; omega
      rw [hc] at tst
      have st : b_run_end_l1 [some (.str t), some (.int (a : Int))] S = .nx [some (.str t), some (.int ((a + 1 : Nat) : Int))] S := rfl
      rw [e]
      have := ih (a + 1) (by omega)
      unfold whileL
      simp only [tst, if_true, st]
      exact this
theorem run_end_ok {t : List Nat} {a : Nat} {S : Sto} (hl : t.length ≤ 2 ^ 20) : m_run_end [.str t, .int (a : Int)] S = .ok (.int ((P14.re t a : Nat) : Int)) S := by
  have w := run_loop t hl S (t.length - a) a rfl
  have e := sWhile_eq (c := wTest) (mb := b_run_end_l1) (t.length - a + 1) (by rw [w]; exact fun z => by cases z)
  rw [w] at e
  have lv : leaveV S S (.int ((P14.re t a : Nat) : Int)) = .ok (.int ((P14.re t a : Nat) : Int)) S := by
    rw [leaveV_cl (keeps_refl S) (by simp only [Cl]), List.take_length]
  refine mDef_rt (n := 2) (b := b_run_end) (S1 := S) ?_ lv
  exact Eq.trans (seq_nx e) rfl
theorem cut_sign (t : List Nat) (a : Nat) : cutL t (some (a : Int)) (some ((a : Int) + 1)) = (t.drop a).take 1 := by
  have e : ((a : Int) + 1) = ((a + 1 : Nat) : Int) := by omega
  unfold cutL
  rw [e, HT.sIx_nat, HT.sIx_nat]
  by_cases h : a < t.length
  · rw [Nat.min_eq_left (by omega), Nat.min_eq_left (by omega)]
    congr 1
    omega
  · rw [Nat.min_eq_right (by omega), Nat.min_eq_right (by omega), List.drop_of_length_le (by omega), List.drop_of_length_le (by omega)]
    simp
theorem sign_eq (t : List Nat) (a c : Nat) : decide ((t.drop a).take 1 = [c]) = decide (t[a]? = some c) := by
  by_cases h : a < t.length
  · rw [List.drop_eq_getElem_cons h, List.getElem?_eq_getElem h]
    simp only [List.take_succ_cons, List.take_zero, List.cons.injEq, and_true, Option.some.injEq]
  · rw [List.drop_of_length_le (by omega), List.getElem?_eq_none (by omega)]
    simp
theorem slice_sign {t : List Nat} {a : Nat} {S : Sto} (hl : t.length ≤ 2 ^ 20) : fSl false (.str t) (some (a : Int)) (some ((a : Int) + 1)) S = .ok (.str ((t.drop a).take 1)) S := by
  have hz : t.length ≤ sizeLine := by unfold sizeLine; omega
  simp only [fSl, if_pos hz, cut_sign]
/-- the counts left, as the list holds them -/
def stk (st : List Nat) : List MV := st.reverse.map fun (k : Nat) => MV.int (k : Int)
theorem stk_cons (k : Nat) (ks : List Nat) : stk (k :: ks) = stk ks ++ [.int (k : Int)] := by simp [stk]
theorem stk_cl (n : Nat) (st : List Nat) : ClL n (stk st) := by
  induction st with
  | nil => simp only [stk, List.reverse_nil, List.map_nil, ClL]
  | cons k ks ih => rw [stk_cons]; exact clL_app ih (by simp only [ClL, Cl, and_self])
theorem ix_last {S : Sto} {p : Nat} {ys : List MV} {y : MV} (h : S[p]? = some (.lst (ys ++ [y]))) : fIx (.ref p) (.int (-1)) S = .ok y S := by
  have e : L2.atI (ys ++ [y]) (-1) = some y := by
    unfold L2.atI L2.ixN
    rw [if_neg (by decide), if_pos (by simp; omega)]
    simp only [List.length_append, List.length_cons, List.length_nil, Option.bind_some]
    have : (-1 + ((ys.length + (0 + 1) : Nat) : Int)).toNat = ys.length := by omega
    rw [this]; simp
  simp only [fIx, asSq, asU, asL, h, e]
theorem ixN_last (n : Nat) : ixN (n + 1) (-1) = some n := by
  unfold L2.ixN
  rw [if_neg (by decide), if_pos (by omega)]
  congr 1; omega
theorem ne_nil {S : Sto} {p : Nat} {xs : List MV} (h : S[p]? = some (.lst xs)) : fNe (.ref p) (.lst []) S = .ok (.bl (!xs.isEmpty)) S := by
  have v1 : view S (.ref p) = .lst xs := by simp only [view, h]
  have v2 : view S (.lst []) = .lst [] := rfl
  unfold fNe
  rw [v1, v2]
  cases xs with
  | nil => rfl
  | cons x r => rfl
theorem neg1 (env : Env) (S : Sto) : mNeg (mC (.int 1)) env S = .ok (.int (-1)) S := rfl
theorem neg2 (env : Env) (S : Sto) : mNeg (mC (.int 2)) env S = .ok (.int (-2)) S := rfl
abbrev nEnv (t : List Nat) (a p : Nat) : Env := [some (.str t), some (.int (a : Int)), some (.ref p)]
theorem next_turn {t : List Nat} {a p k : Nat} {ks : List Nat} {S : Sto} (hl : t.length ≤ 2 ^ 20) (h : S[p]? = some (.lst (stk (k :: ks)))) (hk : 1 ≤ k) :
    b_next_form_l1 (nEnv t a p) S = if 1 < k then .rt (.int (if t[a]? = some 44 then ((a + 1 : Nat) : Int) else -2)) (S.set p (.lst (stk ((k - 1) :: ks)))) else if t[a]? = some 41 then .nx (nEnv t (a + 1) p) (S.set p (.lst (stk ks))) else .rt (.int (-2)) (S.set p (.lst (stk ((k - 1) :: ks)))) := by
  have hp : p < S.length := (List.getElem?_eq_some_iff.mp h).1
  rw [stk_cons] at h
  have x1 := ix_last h
  have kk : (k : Int) - 1 = ((k - 1 : Nat) : Int) := by omega
  have s1 : sSub (mV 2) (mNeg (mC (.int 1))) (mBin fSub (mBin fIx (mV 2) (mNeg (mC (.int 1)))) (mC (.int 1))) (nEnv t a p) S = .nx (nEnv t a p) (S.set p (.lst (stk ((k - 1) :: ks)))) := by
    have g : (stk ks ++ [MV.int (k : Int)]).length = (stk ks).length + 1 := by simp
    have w : (stk ks ++ [MV.int (k : Int)]).set (stk ks).length (.int ((k - 1 : Nat) : Int)) = stk ((k - 1) :: ks) := by rw [stk_cons]; simp
    simp only [sSub, env0, sRet, sBind, sSeq, sIf, sSet, sSub, sNext, sRetN, sDrop, mLst, mTup, mCons, mB, mBin, mV, mC, mNil, mCall, asB, asT, bind_ok, List.map_cons, List.map_nil, List.length_cons, List.length_nil, List.cons_append, List.nil_append, List.append_nil, List.getElem?_cons_zero, List.getElem?_cons_succ, List.set_cons_zero, List.set_cons_succ, List.replicate_zero, List.replicate_succ, List.replicate_one, if_true, if_false, Bool.false_eq_true, Nat.reduceSub, Nat.reduceAdd, Nat.sub_self, neg1, x1, fSub, h, g, ixN_last, kk, w]
  have h2 : (S.set p (.lst (stk ((k - 1) :: ks))))[p]? = some (.lst (stk ks ++ [.int ((k - 1 : Nat) : Int)])) := by rw [List.getElem?_set_self hp, stk_cons]
  have x2 := ix_last h2
  generalize hS : S.set p (.lst (stk ((k - 1) :: ks))) = S2 at s1 h2 x2 ⊢
  have c1 : mIf (asB (mBin fEq (mSl false (mV 0) (mPart (mV 1)) (mPart (mBin (fAdd false) (mV 1) (mC (.int 1))))) (mC (.str [44])))) (mBin (fAdd false) (mV 1) (mC (.int 1))) (mNeg (mC (.int 2))) (nEnv t a p) S2 = .ok (.int (if t[a]? = some 44 then ((a + 1 : Nat) : Int) else -2)) S2 := by
    have q : mSl false (mV 0) (mPart (mV 1)) (mPart (mBin (fAdd false) (mV 1) (mC (.int 1)))) (nEnv t a p) S2 = .ok (.str ((t.drop a).take 1)) S2 := by
      simp only [mSl, mPart, env0, sRet, sBind, sSeq, sIf, sSet, sSub, sNext, sRetN, sDrop, mLst, mTup, mCons, mB, mBin, mV, mC, mNil, mCall, asB, asT, bind_ok, List.map_cons, List.map_nil, List.length_cons, List.length_nil, List.cons_append, List.nil_append, List.append_nil, List.getElem?_cons_zero, List.getElem?_cons_succ, List.set_cons_zero, List.set_cons_succ, List.replicate_zero, List.replicate_succ, List.replicate_one, if_true, if_false, Bool.false_eq_true, Nat.reduceSub, Nat.reduceAdd, Nat.sub_self, fAdd, slice_sign hl]
    have q2 : asB (mBin fEq (mSl false (mV 0) (mPart (mV 1)) (mPart (mBin (fAdd false) (mV 1) (mC (.int 1))))) (mC (.str [44]))) (nEnv t a p) S2 = .ok (decide (t[a]? = some 44)) S2 := by
      simp only [env0, sRet, sBind, sSeq, sIf, sSet, sSub, sNext, sRetN, sDrop, mLst, mTup, mCons, mB, mBin, mV, mC, mNil, mCall, asB, asT, bind_ok, List.map_cons, List.map_nil, List.length_cons, List.length_nil, List.cons_append, List.nil_append, List.append_nil, List.getElem?_cons_zero, List.getElem?_cons_succ, List.set_cons_zero, List.set_cons_succ, List.replicate_zero, List.replicate_succ, List.replicate_one, if_true, if_false, Bool.false_eq_true, Nat.reduceSub, Nat.reduceAdd, Nat.sub_self, q, fEq_str, sign_eq]
    unfold mIf
    rw [q2, bind_ok]
    by_cases h44 : t[a]? = some 44
    · rw [if_pos (decide_eq_true h44), if_pos h44]; rfl
    · rw [if_neg (by rw [decide_eq_false h44]; exact Bool.false_ne_true), if_neg h44]; rfl
  have c2 : asB (mBin fNe (mSl false (mV 0) (mPart (mV 1)) (mPart (mBin (fAdd false) (mV 1) (mC (.int 1))))) (mC (.str [41]))) (nEnv t a p) S2 = .ok (!decide (t[a]? = some 41)) S2 := by
    have q : mSl false (mV 0) (mPart (mV 1)) (mPart (mBin (fAdd false) (mV 1) (mC (.int 1)))) (nEnv t a p) S2 = .ok (.str ((t.drop a).take 1)) S2 := by
      simp only [mSl, mPart, env0, sRet, sBind, sSeq, sIf, sSet, sSub, sNext, sRetN, sDrop, mLst, mTup, mCons, mB, mBin, mV, mC, mNil, mCall, asB, asT, bind_ok, List.map_cons, List.map_nil, List.length_cons, List.length_nil, List.cons_append, List.nil_append, List.append_nil, List.getElem?_cons_zero, List.getElem?_cons_succ, List.set_cons_zero, List.set_cons_succ, List.replicate_zero, List.replicate_succ, List.replicate_one, if_true, if_false, Bool.false_eq_true, Nat.reduceSub, Nat.reduceAdd, Nat.sub_self, fAdd, slice_sign hl]
    simp only [env0, sRet, sBind, sSeq, sIf, sSet, sSub, sNext, sRetN, sDrop, mLst, mTup, mCons, mB, mBin, mV, mC, mNil, mCall, asB, asT, bind_ok, List.map_cons, List.map_nil, List.length_cons, List.length_nil, List.cons_append, List.nil_append, List.append_nil, List.getElem?_cons_zero, List.getElem?_cons_succ, List.set_cons_zero, List.set_cons_succ, List.replicate_zero, List.replicate_succ, List.replicate_one, if_true, if_false, Bool.false_eq_true, Nat.reduceSub, Nat.reduceAdd, Nat.sub_self, q, fNe_str, sign_eq]
  have c3 : asB (mBin fGt (mBin fIx (mV 2) (mNeg (mC (.int 1)))) (mC (.int 0))) (nEnv t a p) S2 = .ok (decide (1 < k)) S2 := by
    have : decide ((0 : Int) < ((k - 1 : Nat) : Int)) = decide (1 < k) := by
      by_cases z : 1 < k
      · rw [decide_eq_true z, decide_eq_true (by omega)]
      · rw [decide_eq_false z, decide_eq_false (by omega)]
    simp only [env0, sRet, sBind, sSeq, sIf, sSet, sSub, sNext, sRetN, sDrop, mLst, mTup, mCons, mB, mBin, mV, mC, mNil, mCall, asB, asT, bind_ok, List.map_cons, List.map_nil, List.length_cons, List.length_nil, List.cons_append, List.nil_append, List.append_nil, List.getElem?_cons_zero, List.getElem?_cons_succ, List.set_cons_zero, List.set_cons_succ, List.replicate_zero, List.replicate_succ, List.replicate_one, if_true, if_false, Bool.false_eq_true, Nat.reduceSub, Nat.reduceAdd, Nat.sub_self, neg1, x2, fGt, this]
  refine Eq.trans (seq_nx s1) ?_
  by_cases z : 1 < k
  · rw [if_pos z]
    rw [decide_eq_true z] at c3
    simp only [sSeq, sIf, c3, sBind, if_true, sRet, c1]
  · rw [if_neg z]
    rw [decide_eq_false z] at c3
    refine Eq.trans (seq_nx (S1 := S2) (e := nEnv t a p) (by simp only [sIf, c3, sBind, Bool.false_eq_true, if_false, sNext])) ?_
    by_cases y : t[a]? = some 41
    · rw [if_pos y]
      rw [decide_eq_true y] at c2
      refine Eq.trans (seq_nx (S1 := S2) (e := nEnv t a p) (by simp only [sIf, c2, sBind, Bool.not_true, Bool.false_eq_true, if_false, sNext])) ?_
      have pop : sDrop (mBM "list" fPop (mV 2) mNil) (nEnv t a p) S2 = .nx (nEnv t a p) (S.set p (.lst (stk ks))) := by
        have l1 : (stk ks ++ [MV.int ((k - 1 : Nat) : Int)])[(stk ks ++ [MV.int ((k - 1 : Nat) : Int)]).length - 1]? = some (.int ((k - 1 : Nat) : Int)) := by simp
        have l2 : (stk ks ++ [MV.int ((k - 1 : Nat) : Int)]).dropLast = stk ks := by simp
        have l3 : S2.set p (.lst (stk ks)) = S.set p (.lst (stk ks)) := by rw [← hS, List.set_set]
        simp only [env0, sRet, sBind, sSeq, sIf, sSet, sSub, sNext, sRetN, sDrop, mLst, mTup, mCons, mB, mBin, mV, mC, mNil, mCall, asB, asT, bind_ok, List.map_cons, List.map_nil, List.length_cons, List.length_nil, List.cons_append, List.nil_append, List.append_nil, List.getElem?_cons_zero, List.getElem?_cons_succ, List.set_cons_zero, List.set_cons_succ, List.replicate_zero, List.replicate_succ, List.replicate_one, if_true, if_false, Bool.false_eq_true, Nat.reduceSub, Nat.reduceAdd, Nat.sub_self, mBM, tyM, asL, h2, Option.isSome_some, Bool.and_true, beq_self_eq_true, fPop, onL, l1, l2, l3]
      refine Eq.trans (seq_nx pop) rfl
    · rw [if_neg y]
      rw [decide_eq_false y] at c2
      simp only [sSeq, sIf, c2, sBind, Bool.not_false, if_true, sRet, neg2]
abbrev nTest : MB := asB (mBin fNe (mV 2) (mLst false mNil))
theorem set_same {S : Sto} {p : Nat} {o : MO} (h : S[p]? = some o) : S.set p o = S := by
  obtain ⟨h1, h2⟩ := List.getElem?_eq_some_iff.mp h
  rw [← h2]; simp
theorem n_test {t : List Nat} {a p : Nat} {st : List Nat} {S : Sto} (h : S[p]? = some (.lst (stk st))) : nTest (nEnv t a p) S = .ok (!(stk st).isEmpty) S := by
  have e : mLst false mNil (nEnv t a p) S = .ok (.lst []) S := by
    have c0 : ([] : List MV).length ≤ sizeLine := Nat.zero_le _
    simp only [mLst, mNil, bind_ok, if_pos c0, mkL, Bool.false_eq_true, if_false]
  simp only [asB, mBin, mV, List.getElem?_cons_zero, List.getElem?_cons_succ, bind_ok, e, ne_nil h]
theorem nf_loop {t : List Nat} {p : Nat} (hl : t.length ≤ 2 ^ 20) : ∀ (st : List Nat) (a : Nat) (S : Sto), S[p]? = some (.lst (stk st)) → (∀ k ∈ st, 1 ≤ k) →
    ∃ n, whileL nTest b_next_form_l1 n (nEnv t a p) S = .rt (.int (P14.nf t a st).1) (S.set p (.lst (stk (P14.nf t a st).2))) ∨ ∃ a' : Nat, whileL nTest b_next_form_l1 n (nEnv t a p) S = .nx (nEnv t a' p) (S.set p (.lst (stk (P14.nf t a st).2))) ∧ (P14.nf t a st).1 = if a' = t.length then -1 else -2
  | [], a, S, h, _ => by
    refine ⟨1, .inr ⟨a, ?_, by rw [P14.nf_nil]⟩⟩
    rw [P14.nf_nil]
    simp only
    rw [set_same h]
    unfold whileL
    rw [n_test h]
    rfl
  | k :: ks, a, S, h, hk => by
    have hp : p < S.length := (List.getElem?_eq_some_iff.mp h).1
    have turn := next_turn (a := a) hl h (hk k (by simp))
    have ne : (!(stk (k :: ks)).isEmpty) = true := by rw [stk_cons]; simp
    have tst := n_test (t := t) (a := a) h
    rw [ne] at tst
    by_cases z : 1 < k
    · rw [if_pos z] at turn
      refine ⟨1, .inl ?_⟩
      rw [P14.nf_cons, if_pos z]
      unfold whileL
      simp only [tst, sBind, if_true, turn]
    · rw [if_neg z] at turn
      by_cases y : t[a]? = some 41
      · rw [if_pos y] at turn
        have h2 : (S.set p (.lst (stk ks)))[p]? = some (.lst (stk ks)) := by rw [List.getElem?_set_self hp]
        obtain ⟨n, q⟩ := nf_loop hl ks (a + 1) (S.set p (.lst (stk ks))) h2 fun j hj => hk j (List.mem_cons_of_mem _ hj)
        rw [List.set_set] at q
        refine ⟨n + 1, ?_⟩
        rw [P14.nf_cons, if_neg z, if_pos y]
        have step : whileL nTest b_next_form_l1 (n + 1) (nEnv t a p) S = whileL nTest b_next_form_l1 n (nEnv t (a + 1) p) (S.set p (.lst (stk ks))) := by
          conv => lhs; unfold whileL
          simp only [tst, sBind, if_true, turn]
        rw [step]
        exact q
      · rw [if_neg y] at turn
        refine ⟨1, .inl ?_⟩
        rw [P14.nf_cons, if_neg z, if_neg y]
        unfold whileL
        simp only [tst, sBind, if_true, turn]
theorem next_form_ok {t : List Nat} {a p : Nat} {st : List Nat} {S : Sto} (hl : t.length ≤ 2 ^ 20) (h : S[p]? = some (.lst (stk st))) (hk : ∀ k ∈ st, 1 ≤ k) :
    m_next_form [.str t, .int (a : Int), .ref p] S = .ok (.int (P14.nf t a st).1) (S.set p (.lst (stk (P14.nf t a st).2))) := by
  obtain ⟨n, q⟩ := nf_loop hl st a S h hk
  have keep : Keeps S (S.set p (.lst (stk (P14.nf t a st).2))) := keeps_set (keeps_refl S) (by simp only [ClO]; exact stk_cl _ _)
  have lv : ∀ x : Int, leaveV S (S.set p (.lst (stk (P14.nf t a st).2))) (.int x) = .ok (.int x) (S.set p (.lst (stk (P14.nf t a st).2))) := fun x => by
    rw [leaveV_cl keep (by simp only [Cl]), List.take_of_length_le (by simp)]
  generalize hS : S.set p (.lst (stk (P14.nf t a st).2)) = S2 at q lv ⊢
  rcases q with q | ⟨a', q, e⟩
  · have w := sWhile_eq (c := nTest) (mb := b_next_form_l1) (env := nEnv t a p) (S := S) n (by rw [q]; exact fun z => by cases z)
    rw [q] at w
    refine mDef_rt (n := 3) (b := b_next_form) (S1 := S2) ?_ (lv _)
    show sSeq (sWhile nTest b_next_form_l1) _ (nEnv t a p) S = _
    unfold sSeq
    rw [w]
  · have w := sWhile_eq (c := nTest) (mb := b_next_form_l1) (env := nEnv t a p) (S := S) n (by rw [q]; exact fun z => by cases z)
    rw [q] at w
    rw [e]
    refine mDef_rt (n := 3) (b := b_next_form) (S1 := S2) ?_ (lv _)
    refine Eq.trans (seq_nx w) ?_
    have tq : asB (mBin fEq (mV 1) (mB fLen (mCons (mV 0) mNil))) (nEnv t a' p) S2 = .ok (decide ((a' : Int) = (t.length : Int))) S2 := by
      simp only [asB, mBin, mV, mB, mCons, mNil, List.getElem?_cons_zero, List.getElem?_cons_succ, bind_ok, len_str hl, fEq_int]
    by_cases y : a' = t.length
    · rw [decide_eq_true (by omega)] at tq
      rw [if_pos y]
      simp only [sRet, mIf, tq, bind_ok, if_true, neg1, sBind]
    · rw [decide_eq_false (by omega)] at tq
      rw [if_neg y]
      simp only [sRet, mIf, tq, bind_ok, Bool.false_eq_true, if_false, neg2, sBind]
theorem nf_pos {t : List Nat} : ∀ (st : List Nat) (a : Nat), (∀ k ∈ st, 1 ≤ k) → 0 ≤ (P14.nf t a st).1 → ∀ k ∈ (P14.nf t a st).2, 1 ≤ k
  | [], a, _, _ => by rw [P14.nf_nil]; simp
  | k :: ks, a, h, h0 => by
    rw [P14.nf_cons] at h0 ⊢
    by_cases z : 1 < k
    · rw [if_pos z]
      intro j hj
      rcases List.mem_cons.mp hj with rfl | hj
      · omega
      · exact h j (List.mem_cons_of_mem _ hj)
    · rw [if_neg z] at h0 ⊢
      by_cases y : t[a]? = some 41
      · rw [if_pos y] at h0 ⊢
        exact nf_pos ks (a + 1) (fun j hj => h j (List.mem_cons_of_mem _ hj)) h0
      · rw [if_neg y] at h0
        simp at h0
/-! ### is_form -/
def arD (D : List (List Nat × Int)) (z : List Nat) : Option Nat := (D.lookup z).map Int.toNat
def wdW (W : List (List Nat)) (z : List Nat) : Bool := decide (z ∈ W)
theorem kLook_kv (z : List Nat) : ∀ D : List (List Nat × Int), kLook (kvOf D) (.str z) = (D.lookup z).map MV.int
  | [] => rfl
  | (k, i) :: r => by
    have ih := kLook_kv z r
    have st : kLook (kvOf ((k, i) :: r)) (.str z) = if keyB (.str k) (.str z) = true then some (.int i) else kLook (kvOf r) (.str z) := rfl
    rw [st, List.lookup_cons]
    by_cases e : k = z
    · have e1 : keyB (.str k) (.str z) = true := by show (k == z) = true; simpa using e
      have e2 : (z == k) = true := by simpa using e.symm
      rw [if_pos e1, e2]
      rfl
    · have e1 : ¬ keyB (.str k) (.str z) = true := by show ¬ (k == z) = true; simpa using e
      have e2 : (z == k) = false := by simpa using fun h => e h.symm
      rw [if_neg e1, e2]
      exact ih
theorem lookup_mem {z : List Nat} {i : Int} : ∀ {D : List (List Nat × Int)}, D.lookup z = some i → (z, i) ∈ D
  | q :: r, h => by
    rw [List.lookup_cons] at h
    cases eq : z == q.1 with
    | true =>
      rw [eq] at h
      simp only [Option.some.injEq] at h
      have : z = q.1 := by simpa using eq
      rw [this, ← h]
      exact List.mem_cons_self
    | false =>
      rw [eq] at h
      exact List.mem_cons_of_mem _ (lookup_mem h)
theorem in_dic {S : Sto} {z : List Nat} {kvs : List (MV × MV)} : isIn S (.str z) (.dic kvs) = some (kLook kvs (.str z)).isSome := by
  unfold isIn
  split
  · rename_i h1 h2; cases h2
  · simp [asSq, asU, asL, asD, isKey]
theorem ix_dic {S : Sto} {z : List Nat} {kvs : List (MV × MV)} {v : MV} (h : kLook kvs (.str z) = some v) : fIx (.dic kvs) (.str z) S = .ok v S := by
  simp [fIx, asSq, asU, asL, asD, isKey, h]
theorem cut_name (t : List Nat) (a e : Nat) (h : a ≤ e) : cutL t (some (a : Int)) (some (e : Int)) = (t.drop a).take (e - a) := by
  unfold cutL
  rw [HT.sIx_nat, HT.sIx_nat]
  by_cases h1 : a < t.length
  · rw [Nat.min_eq_left (by omega : a ≤ t.length)]
    by_cases h2 : e ≤ t.length
    · rw [Nat.min_eq_left h2]
    · rw [Nat.min_eq_right (by omega), List.take_eq_take_iff, List.length_drop]
      omega
  · rw [Nat.min_eq_right (by omega), Nat.min_eq_right (by omega), List.drop_of_length_le (by omega), List.drop_of_length_le (by omega)]
    simp
theorem slice_name {t : List Nat} {a : Nat} {S : Sto} (hl : t.length ≤ 2 ^ 20) : fSl false (.str t) (some (a : Int)) (some ((P14.re t a : Nat) : Int)) S = .ok (.str (P14.nm t a)) S := by
  have hz : t.length ≤ sizeLine := by unfold sizeLine; omega
  simp only [fSl, if_pos hz, cut_name t a _ (P14.re_ge t a), P14.nm]
abbrev fEnv (g : MV) (t : List Nat) (W : List (List Nat)) (D : List (List Nat × Int)) (p : Nat) (z : Int) (x6 x7 : Option MV) : Env := [some g, some (.str t), some (.lst (W.map MV.str)), some (.dic (kvOf D)), some (.ref p), some (.int z), x6, x7]
theorem form_turn {g : MV} {t : List Nat} {W : List (List Nat)} {D : List (List Nat × Int)} {p a : Nat} {st : List Nat} {S : Sto} {x6 x7 : Option MV} (hl : t.length ≤ 2 ^ 20) (h : S[p]? = some (.lst (stk st))) (hk : ∀ k ∈ st, 1 ≤ k) (hst : st.length ≤ 2 ^ 20) (hD : ∀ q ∈ D, 0 ≤ q.2) :
    b_is_form_l1 (fEnv g t W D p a x6 x7) S =
      if t[P14.re t a]? = some 40 then (match arD D (P14.nm t a) with
        | none => .rt (.bl false) S
        | some n => if n = 0 then .nx (fEnv g t W D p (P14.nf t (P14.re t a + 1) (1 :: st)).1 (some (.int ((P14.re t a : Nat) : Int))) (some (.str (P14.nm t a)))) (S.set p (.lst (stk (P14.nf t (P14.re t a + 1) (1 :: st)).2)))
          else .nx (fEnv g t W D p ((P14.re t a + 1 : Nat) : Int) (some (.int ((P14.re t a : Nat) : Int))) (some (.str (P14.nm t a)))) (S.set p (.lst (stk (n :: st)))))
      else if wdW W (P14.nm t a) = true then .nx (fEnv g t W D p (P14.nf t (P14.re t a) st).1 (some (.int ((P14.re t a : Nat) : Int))) (some (.str (P14.nm t a)))) (S.set p (.lst (stk (P14.nf t (P14.re t a) st).2)))
      else .rt (.bl false) S := by
  have hp : p < S.length := (List.getElem?_eq_some_iff.mp h).1
  have s1 : sSet 6 (mCall 2 m_run_end [] (mCons (mV 1) (mCons (mV 5) mNil))) (fEnv g t W D p a x6 x7) S = .nx (fEnv g t W D p a (some (.int ((P14.re t a : Nat) : Int))) x7) S := by
    simp only [env0, sRet, sBind, sSeq, sIf, sSet, sSub, sNext, sRetN, sDrop, mLst, mTup, mCons, mB, mBin, mV, mC, mNil, mCall, asB, asT, bind_ok, List.map_cons, List.map_nil, List.length_cons, List.length_nil, List.cons_append, List.nil_append, List.append_nil, List.getElem?_cons_zero, List.getElem?_cons_succ, List.set_cons_zero, List.set_cons_succ, List.replicate_zero, List.replicate_succ, List.replicate_one, if_true, if_false, Bool.false_eq_true, Nat.reduceSub, Nat.reduceAdd, Nat.sub_self, run_end_ok hl]
  have s2 : sSet 7 (mSl false (mV 1) (mPart (mV 5)) (mPart (mV 6))) (fEnv g t W D p a (some (.int ((P14.re t a : Nat) : Int))) x7) S = .nx (fEnv g t W D p a (some (.int ((P14.re t a : Nat) : Int))) (some (.str (P14.nm t a)))) S := by
    simp only [env0, sRet, sBind, sSeq, sIf, sSet, sSub, sNext, sRetN, sDrop, mLst, mTup, mCons, mB, mBin, mV, mC, mNil, mCall, asB, asT, bind_ok, List.map_cons, List.map_nil, List.length_cons, List.length_nil, List.cons_append, List.nil_append, List.append_nil, List.getElem?_cons_zero, List.getElem?_cons_succ, List.set_cons_zero, List.set_cons_succ, List.replicate_zero, List.replicate_succ, List.replicate_one, if_true, if_false, Bool.false_eq_true, Nat.reduceSub, Nat.reduceAdd, Nat.sub_self, mSl, mPart, slice_name hl]
  refine Eq.trans (seq_nx s1) (Eq.trans (seq_nx s2) ?_)
  generalize P14.nm t a = z
  generalize P14.re t a = e
  have c1 : asB (mBin fEq (mSl false (mV 1) (mPart (mV 6)) (mPart (mBin (fAdd false) (mV 6) (mC (.int 1))))) (mC (.str [40]))) (fEnv g t W D p a (some (.int (e : Int))) (some (.str z))) S = .ok (decide (t[e]? = some 40)) S := by
    have q : mSl false (mV 1) (mPart (mV 6)) (mPart (mBin (fAdd false) (mV 6) (mC (.int 1)))) (fEnv g t W D p a (some (.int (e : Int))) (some (.str z))) S = .ok (.str ((t.drop e).take 1)) S := by
      simp only [mSl, mPart, env0, sRet, sBind, sSeq, sIf, sSet, sSub, sNext, sRetN, sDrop, mLst, mTup, mCons, mB, mBin, mV, mC, mNil, mCall, asB, asT, bind_ok, List.map_cons, List.map_nil, List.length_cons, List.length_nil, List.cons_append, List.nil_append, List.append_nil, List.getElem?_cons_zero, List.getElem?_cons_succ, List.set_cons_zero, List.set_cons_succ, List.replicate_zero, List.replicate_succ, List.replicate_one, if_true, if_false, Bool.false_eq_true, Nat.reduceSub, Nat.reduceAdd, Nat.sub_self, fAdd, slice_sign hl]
    simp only [env0, sRet, sBind, sSeq, sIf, sSet, sSub, sNext, sRetN, sDrop, mLst, mTup, mCons, mB, mBin, mV, mC, mNil, mCall, asB, asT, bind_ok, List.map_cons, List.map_nil, List.length_cons, List.length_nil, List.cons_append, List.nil_append, List.append_nil, List.getElem?_cons_zero, List.getElem?_cons_succ, List.set_cons_zero, List.set_cons_succ, List.replicate_zero, List.replicate_succ, List.replicate_one, if_true, if_false, Bool.false_eq_true, Nat.reduceSub, Nat.reduceAdd, Nat.sub_self, q, fEq_str, sign_eq]
  by_cases h40 : t[e]? = some 40
  · rw [if_pos h40]
    rw [decide_eq_true h40] at c1
    have kl := kLook_kv z D
    have c2 : asB (mBin fNotIn (mV 7) (mV 3)) (fEnv g t W D p a (some (.int (e : Int))) (some (.str z))) S = .ok (!(D.lookup z).isSome) S := by
      simp only [env0, sRet, sBind, sSeq, sIf, sSet, sSub, sNext, sRetN, sDrop, mLst, mTup, mCons, mB, mBin, mV, mC, mNil, mCall, asB, asT, bind_ok, List.map_cons, List.map_nil, List.length_cons, List.length_nil, List.cons_append, List.nil_append, List.append_nil, List.getElem?_cons_zero, List.getElem?_cons_succ, List.set_cons_zero, List.set_cons_succ, List.replicate_zero, List.replicate_succ, List.replicate_one, if_true, if_false, Bool.false_eq_true, Nat.reduceSub, Nat.reduceAdd, Nat.sub_self, fNotIn, in_dic, kl, Option.isSome_map]
    cases hlk : D.lookup z with
    | none =>
      have ar : arD D z = none := by simp [arD, hlk]
      rw [hlk] at c2
      rw [ar]
      simp only [sIf, c1, c2, sBind, if_true, sSeq, sRet, mC, Option.isSome_none, Bool.not_false]
    | some i =>
      have hi : 0 ≤ i := by
        have : (z, i) ∈ D := lookup_mem hlk
        exact hD _ this
      have ar : arD D z = some i.toNat := by simp [arD, hlk]
      rw [hlk] at c2 kl
      rw [ar]
      simp only [Option.map_some] at kl
      have ixd : ∀ S : Sto, fIx (.dic (kvOf D)) (.str z) S = .ok (.int i) S := fun S => ix_dic kl
      have c0 : (stk st).length < sizeLine := by simp [stk]; unfold sizeLine; omega
      -- what is put on the stack
      have mx : (if i > 1 then i else 1) = ((if i.toNat = 0 then 1 else i.toNat : Nat) : Int) := by
        by_cases z1 : i.toNat = 0
        · rw [if_pos z1, if_neg (by omega)]; rfl
        · rw [if_neg z1]
          by_cases z2 : i > 1
          · rw [if_pos z2]; omega
          · rw [if_neg z2]; omega
      have app : sDrop (mBM "list" fAppend (mV 4) (mCons (mB fMax2 (mCons (mC (.int 1)) (mCons (mBin fIx (mV 3) (mV 7)) mNil))) mNil)) (fEnv g t W D p a (some (.int (e : Int))) (some (.str z))) S = .nx (fEnv g t W D p a (some (.int (e : Int))) (some (.str z))) (S.set p (.lst (stk ((if i.toNat = 0 then 1 else i.toNat) :: st)))) := by
        have w : stk st ++ [MV.int ((if i.toNat = 0 then 1 else i.toNat : Nat) : Int)] = stk ((if i.toNat = 0 then 1 else i.toNat) :: st) := (stk_cons _ _).symm
        simp only [env0, sRet, sBind, sSeq, sIf, sSet, sSub, sNext, sRetN, sDrop, mLst, mTup, mCons, mB, mBin, mV, mC, mNil, mCall, asB, asT, bind_ok, List.map_cons, List.map_nil, List.length_cons, List.length_nil, List.cons_append, List.nil_append, List.append_nil, List.getElem?_cons_zero, List.getElem?_cons_succ, List.set_cons_zero, List.set_cons_succ, List.replicate_zero, List.replicate_succ, List.replicate_one, if_true, if_false, Bool.false_eq_true, Nat.reduceSub, Nat.reduceAdd, Nat.sub_self, mBM, tyM, asL, h, Option.isSome_some, Bool.and_true, beq_self_eq_true, ixd, fMax2, fAppend, onL, if_pos c0]
        rw [mx, w]
      have s5 : ∀ S : Sto, sSet 5 (mBin (fAdd false) (mV 6) (mC (.int 1))) (fEnv g t W D p a (some (.int (e : Int))) (some (.str z))) S = .nx (fEnv g t W D p ((e + 1 : Nat) : Int) (some (.int (e : Int))) (some (.str z))) S := fun S => rfl
      have c3 : ∀ S : Sto, asB (mBin fEq (mBin fIx (mV 3) (mV 7)) (mC (.int 0))) (fEnv g t W D p ((e + 1 : Nat) : Int) (some (.int (e : Int))) (some (.str z))) S = .ok (decide (i.toNat = 0)) S := fun S => by
        have : decide (i = 0) = decide (i.toNat = 0) := by
          by_cases z1 : i = 0
          · subst z1; rfl
          · rw [decide_eq_false z1, decide_eq_false (by omega)]
        simp only [asB, mBin, mV, mC, List.getElem?_cons_zero, List.getElem?_cons_succ, bind_ok, ixd, fEq_int, this]
      rw [sIf, c1]
      simp only [sBind, if_true]
      refine Eq.trans (seq_nx (S1 := S) (e := fEnv g t W D p a (some (.int (e : Int))) (some (.str z))) (by simp only [sIf, c2, sBind, Option.isSome_some, Bool.not_true, Bool.false_eq_true, if_false, sNext])) ?_
      refine Eq.trans (seq_nx app) (Eq.trans (seq_nx (s5 _)) ?_)
      rw [sIf, c3]
      by_cases z1 : i.toNat = 0
      · simp only [if_pos z1, decide_eq_true z1, sBind, if_true]
        have h2 : (S.set p (.lst (stk (1 :: st))))[p]? = some (.lst (stk (1 :: st))) := by rw [List.getElem?_set_self hp]
        have nf := next_form_ok (a := e + 1) hl h2 (by intro k hk2; rcases List.mem_cons.mp hk2 with rfl | hk2; exact Nat.le_refl 1; exact hk k hk2)
        rw [List.set_set] at nf
        simp only [sSet, mCall, mCons, mV, mNil, List.getElem?_cons_zero, List.getElem?_cons_succ, bind_ok, List.append_nil, List.length_cons, List.length_nil, nf, sBind, List.set_cons_succ, List.set_cons_zero, Nat.reduceAdd, if_true]
      · simp only [if_neg z1, decide_eq_false z1, sBind, Bool.false_eq_true, if_false, sNext]
  · rw [if_neg h40]
    rw [decide_eq_false h40] at c1
    rw [sIf, c1]
    simp only [sBind, Bool.false_eq_true, if_false]
    have c4 : asB (mBin fIn (mV 7) (mV 2)) (fEnv g t W D p a (some (.int (e : Int))) (some (.str z))) S = .ok (wdW W z) S := by
      have i := in_strs (S := S) (x := .lst (W.map MV.str)) (z := z) (F := W) rfl (fun s => by simp)
      simp only [asB, mBin, mV, List.getElem?_cons_zero, List.getElem?_cons_succ, bind_ok, fIn, i, wdW]
    rw [sIf, c4]
    simp only [sBind]
    by_cases hw : wdW W z = true
    · rw [if_pos hw, if_pos hw]
      have nf := next_form_ok (a := e) hl h hk
      simp only [sSet, mCall, mCons, mV, mNil, List.getElem?_cons_zero, List.getElem?_cons_succ, bind_ok, List.append_nil, List.length_cons, List.length_nil, nf, sBind, List.set_cons_succ, List.set_cons_zero, Nat.reduceAdd, if_true]
    · rw [if_neg hw, if_neg hw]
      rfl
theorem nf_bd {t : List Nat} : ∀ (st : List Nat) (a : Nat), st.length ≤ a → 0 ≤ (P14.nf t a st).1 → (P14.nf t a st).2.length ≤ (P14.nf t a st).1.toNat ∧ (P14.nf t a st).1.toNat ≤ t.length
  | [], a, _, h0 => by
    rw [P14.nf_nil] at h0
    by_cases e : a = t.length
    · rw [if_pos e] at h0; simp at h0
    · rw [if_neg e] at h0; simp at h0
  | k :: ks, a, hl, h0 => by
    rw [List.length_cons] at hl
    rw [P14.nf_cons] at h0 ⊢
    by_cases z : 1 < k
    · rw [if_pos z] at h0 ⊢
      by_cases y : t[a]? = some 44
      · have := (List.getElem?_eq_some_iff.mp y).1
        simp only [if_pos y, Int.toNat_natCast, List.length_cons]
        omega
      · simp only [if_neg y] at h0; simp at h0
    · rw [if_neg z] at h0 ⊢
      by_cases y : t[a]? = some 41
      · rw [if_pos y] at h0 ⊢
        exact nf_bd ks (a + 1) (by omega) h0
      · rw [if_neg y] at h0; simp at h0
abbrev fTest : MB := asB (mBin fGe (mV 5) (mC (.int 0)))
theorem f_test {g : MV} {t : List Nat} {W : List (List Nat)} {D : List (List Nat × Int)} {p : Nat} {z : Int} {x6 x7 : Option MV} {S : Sto} : fTest (fEnv g t W D p z x6 x7) S = .ok (decide (0 ≤ z)) S := rfl
theorem form_loop {g : MV} {t : List Nat} {W : List (List Nat)} {D : List (List Nat × Int)} {p : Nat} (hl : t.length ≤ 60) (hD : ∀ q ∈ D, 0 ≤ q.2) : ∀ (f : Nat) (z : Int) (st : List Nat) (S : Sto) (v : Bool) (x6 x7 : Option MV),
    P14.run t (arD D) (wdW W) f z st = some v → S[p]? = some (.lst (stk st)) → (0 ≤ z → (∀ k ∈ st, 1 ≤ k) ∧ st.length ≤ z.toNat ∧ z.toNat ≤ t.length) →
    ∃ (n : Nat) (st' : List Nat), (whileL fTest b_is_form_l1 n (fEnv g t W D p z x6 x7) S = .rt (.bl false) (S.set p (.lst (stk st'))) ∧ v = false) ∨ ∃ (z' : Int) (y6 y7 : Option MV), whileL fTest b_is_form_l1 n (fEnv g t W D p z x6 x7) S = .nx (fEnv g t W D p z' y6 y7) (S.set p (.lst (stk st'))) ∧ v = decide (z' = -1)
  | 0, _, _, _, _, _, _, h, _, _ => by simp [P14.run] at h
  | f + 1, z, st, S, v, x6, x7, h, hS, hI => by
    have hp : p < S.length := (List.getElem?_eq_some_iff.mp hS).1
    unfold P14.run at h
    by_cases h0 : z < 0
    · rw [if_pos h0] at h
      simp only [Option.some.injEq] at h
      refine ⟨1, st, .inr ⟨z, x6, x7, ?_, h.symm⟩⟩
      rw [set_same hS]
      unfold whileL
      have : decide (0 ≤ z) = false := decide_eq_false (by omega)
      simp only [f_test, this, sBind, Bool.false_eq_true, if_false]
    · rw [if_neg h0] at h
      obtain ⟨a, rfl⟩ : ∃ a : Nat, z = (a : Int) := ⟨z.toNat, by omega⟩
      simp only [Int.toNat_natCast] at h hI
      obtain ⟨hk, hl1, hl2⟩ := hI (by omega)
      have turn := form_turn (g := g) (W := W) (D := D) (a := a) (x6 := x6) (x7 := x7) (S := S) (p := p) (st := st) (t := t) (by omega) hS hk (by omega) hD
      have tst : fTest (fEnv g t W D p (a : Int) x6 x7) S = .ok true S := by rw [f_test, decide_eq_true (by omega)]
      -- a further turn
      have more : ∀ (z1 : Int) (st1 : List Nat) (y6 y7 : Option MV), b_is_form_l1 (fEnv g t W D p a x6 x7) S = .nx (fEnv g t W D p z1 y6 y7) (S.set p (.lst (stk st1))) → P14.run t (arD D) (wdW W) f z1 st1 = some v → (0 ≤ z1 → (∀ k ∈ st1, 1 ≤ k) ∧ st1.length ≤ z1.toNat ∧ z1.toNat ≤ t.length) →
          ∃ (n : Nat) (st' : List Nat), (whileL fTest b_is_form_l1 n (fEnv g t W D p a x6 x7) S = .rt (.bl false) (S.set p (.lst (stk st'))) ∧ v = false) ∨ ∃ (z' : Int) (y6 y7 : Option MV), whileL fTest b_is_form_l1 n (fEnv g t W D p a x6 x7) S = .nx (fEnv g t W D p z' y6 y7) (S.set p (.lst (stk st'))) ∧ v = decide (z' = -1) := by
        intro z1 st1 y6 y7 hb hr hI1
        obtain ⟨n, st', q⟩ := form_loop hl hD f z1 st1 (S.set p (.lst (stk st1))) v y6 y7 hr (by rw [List.getElem?_set_self hp]) hI1
        rw [List.set_set] at q
        refine ⟨n + 1, st', ?_⟩
        have step : whileL fTest b_is_form_l1 (n + 1) (fEnv g t W D p a x6 x7) S = whileL fTest b_is_form_l1 n (fEnv g t W D p z1 y6 y7) (S.set p (.lst (stk st1))) := by
          conv => lhs; unfold whileL
          simp only [tst, sBind, if_true, hb]
        rw [step]
        exact q
      have stop : b_is_form_l1 (fEnv g t W D p a x6 x7) S = .rt (.bl false) S → v = false → ∃ (n : Nat) (st' : List Nat), (whileL fTest b_is_form_l1 n (fEnv g t W D p a x6 x7) S = .rt (.bl false) (S.set p (.lst (stk st'))) ∧ v = false) ∨ ∃ (z' : Int) (y6 y7 : Option MV), whileL fTest b_is_form_l1 n (fEnv g t W D p a x6 x7) S = .nx (fEnv g t W D p z' y6 y7) (S.set p (.lst (stk st'))) ∧ v = decide (z' = -1) := by
        intro hb hv
        refine ⟨1, st, .inl ⟨?_, hv⟩⟩
        rw [set_same hS]
        unfold whileL
        simp only [tst, sBind, if_true, hb]
      have ge := P14.re_ge t a
      by_cases h40 : t[P14.re t a]? = some 40
      · rw [if_pos h40] at h turn
        have he := (List.getElem?_eq_some_iff.mp h40).1
        cases har : arD D (P14.nm t a) with
        | none =>
          rw [har] at h turn
          simp only [Option.some.injEq] at h
          exact stop turn h.symm
        | some n =>
          rw [har] at h turn
          simp only at h turn
          by_cases hn : n = 0
          · rw [if_pos hn] at h turn
            have hk1 : ∀ k ∈ (1 :: st), 1 ≤ k := by
              intro k hk2
              rcases List.mem_cons.mp hk2 with rfl | hk2
              · exact Nat.le_refl 1
              · exact hk k hk2
            exact more _ _ _ _ turn h fun h1 => ⟨nf_pos _ _ hk1 h1, nf_bd _ _ (by rw [List.length_cons]; omega) h1⟩
          · rw [if_neg hn] at h turn
            refine more _ _ _ _ turn h fun h1 => ⟨?_, ?_⟩
            · intro k hk2
              rcases List.mem_cons.mp hk2 with rfl | hk2
              · omega
              · exact hk k hk2
            · rw [Int.toNat_natCast, List.length_cons]; omega
      · rw [if_neg h40] at h turn
        by_cases hw : wdW W (P14.nm t a) = true
        · rw [if_pos hw] at h turn
          exact more _ _ _ _ turn h fun h1 => ⟨nf_pos _ _ hk h1, nf_bd _ _ (by omega) h1⟩
        · rw [if_neg hw] at h turn
          simp only [Option.some.injEq] at h
          exact stop turn h.symm
/-- is_form of a short text -/
theorem is_form_ok {U L : List (List Nat)} {D T : List (List Nat × Int)} {t : List Nat} {W : List (List Nat)} {S : Sto} {v : Bool} (hl : t.length ≤ 60) (hD : ∀ q ∈ D, 0 ≤ q.2) (hr : P14.Run t (arD D) (wdW W) 0 [] v) : m_is_form [gearM U L D T, .str t, .lst (W.map MV.str)] S = .ok (.bl v) S := by
  obtain ⟨f, hr⟩ := hr
  have h0 : (S ++ [MO.lst []])[S.length]? = some (.lst (stk [])) := by simp [stk]
  obtain ⟨n, st', q⟩ := form_loop (g := gearM U L D T) (p := S.length) hl hD f 0 [] (S ++ [.lst []]) v none none hr h0 (fun _ => ⟨by simp, by simp, by simp⟩)
  have hset : (S ++ [MO.lst []]).set S.length (.lst (stk st')) = S ++ [.lst (stk st')] := by simp
  rw [hset] at q
  have lv : ∀ b : Bool, leaveV S (S ++ [MO.lst (stk st')]) (.bl b) = .ok (.bl b) S := fun b => by
    rw [leaveV_cl (keeps_app _ (keeps_refl S)) (by simp only [Cl]), List.take_left]
  have gl : ∀ env : Env, env[0]? = some (some (gearM U L D T)) → mMeth 0 1 "deeds" m_Gear_deeds [] (mV 0) mNil env S = .ok (.dic (kvOf D)) S := by
    intro env he
    have nd : (gearFs (.lst (U.map MV.str)) (.lst (L.map MV.str)) (.dic (kvOf D)) (.dic (kvOf T))).lookup ("deeds" : Str) = none := by
      have e1 : (("deeds" : Str) == "upper") = false := by decide +kernel
      have e2 : (("deeds" : Str) == "lower") = false := by decide +kernel
      have e3 : (("deeds" : Str) == "makers") = false := by decide +kernel
      have e4 : (("deeds" : Str) == "tellers") = false := by decide +kernel
      simp only [gearFs, List.lookup_cons, e1, e2, e3, e4, List.lookup_nil]
    simp only [mMeth, mV, he, bind_ok, insOf, nd, and_self, if_true, mNil, List.append_nil, List.length_cons, List.length_nil, Nat.reduceAdd, gear_deeds_ok]
  have s1 : sIf (mOrB (mNotB (asT (mB fIsi (mCons (mV 1) (mCons (mC (.ty "str")) mNil))))) (asB (mBin fGt (mB fLen (mCons (mV 1) mNil)) (mC (.int 60))))) (sRet (mC (.bl false))) sNext (env0 8 [gearM U L D T, .str t, .lst (W.map MV.str)]) S = .nx [some (gearM U L D T), some (.str t), some (.lst (W.map MV.str)), none, none, none, none, none] S := by
    have f0 : fIsi [.str t, .ty "str"] S = .ok (.bl true) S := rfl
    have f1 : decide ((60 : Int) < (t.length : Int)) = false := decide_eq_false (by omega)
    have e0 : env0 8 [gearM U L D T, .str t, .lst (W.map MV.str)] = [some (gearM U L D T), some (.str t), some (.lst (W.map MV.str)), none, none, none, none, none] := rfl
    rw [e0]
    simp only [sIf, mOrB, mNotB, asT, asB, mB, mCons, mNil, mV, mC, mBin, List.getElem?_cons_zero, List.getElem?_cons_succ, bind_ok, f0, tru, Bool.not_true, Bool.false_eq_true, if_false, len_str (show t.length ≤ 2 ^ 20 by omega), fGt, f1, sBind, sNext]
  have s2 : sPar3 3 4 5 (mMeth 0 1 "deeds" m_Gear_deeds [] (mV 0) mNil) (mLst true mNil) (mC (.int 0)) [some (gearM U L D T), some (.str t), some (.lst (W.map MV.str)), none, none, none, none, none] S = .nx (fEnv (gearM U L D T) t W D S.length 0 none none) (S ++ [.lst []]) := by
    have c0 : ([] : List MV).length ≤ sizeLine := Nat.zero_le _
    rw [sPar3, gl _ rfl]
    simp only [sBind, mLst, mNil, bind_ok, if_pos c0, mkL, if_true, mC, List.set_cons_succ, List.set_cons_zero]
  rcases q with ⟨q, rfl⟩ | ⟨z', y6, y7, q, rfl⟩
  · have w := sWhile_eq (c := fTest) (mb := b_is_form_l1) n (by rw [q]; exact fun z => by cases z)
    rw [q] at w
    refine mDef_rt (n := 8) (b := b_is_form) (S1 := S ++ [.lst (stk st')]) ?_ (lv false)
    refine Eq.trans (seq_nx s1) (Eq.trans (seq_nx s2) ?_)
    unfold sSeq
    rw [w]
  · have w := sWhile_eq (c := fTest) (mb := b_is_form_l1) n (by rw [q]; exact fun z => by cases z)
    rw [q] at w
    refine mDef_rt (n := 8) (b := b_is_form) (S1 := S ++ [.lst (stk st')]) ?_ (lv _)
    refine Eq.trans (seq_nx s1) (Eq.trans (seq_nx s2) (Eq.trans (seq_nx w) ?_))
    simp only [sRet, mBin, mV, List.getElem?_cons_zero, List.getElem?_cons_succ, bind_ok, neg1, fEq_int, sBind]
theorem is_form_long {g w : MV} {t : List Nat} {S : Sto} (hl : 60 < t.length) (h2 : t.length ≤ 2 ^ 20) : m_is_form [g, .str t, w] S = .ok (.bl false) S := by
  have f0 : fIsi [.str t, .ty "str"] S = .ok (.bl true) S := rfl
  have f1 : decide ((60 : Int) < (t.length : Int)) = true := decide_eq_true (by omega)
  refine mDef_rt (n := 8) (b := b_is_form) (S1 := S) ?_ (leave_bl S false)
  have e0 : env0 8 [g, .str t, w] = [some g, some (.str t), some w, none, none, none, none, none] := rfl
  rw [e0]
  unfold b_is_form sSeq
  simp only [sIf, mOrB, mNotB, asT, asB, mB, mCons, mNil, mV, mC, mBin, List.getElem?_cons_zero, List.getElem?_cons_succ, bind_ok, f0, tru, Bool.not_true, Bool.false_eq_true, if_false, len_str h2, fGt, f1, sBind, if_true, sRet]
theorem is_form_odd {g w x : MV} {S : Sto} (hx : fIsi [x, .ty "str"] S = .ok (.bl false) S) : m_is_form [g, x, w] S = .ok (.bl false) S := by
  refine mDef_rt (n := 8) (b := b_is_form) (S1 := S) ?_ (leave_bl S false)
  have e0 : env0 8 [g, x, w] = [some g, some x, some w, none, none, none, none, none] := rfl
  rw [e0]
  unfold b_is_form sSeq
  simp only [sIf, mOrB, mNotB, asT, asB, mB, mCons, mNil, mV, mC, mBin, List.getElem?_cons_zero, List.getElem?_cons_succ, bind_ok, hx, tru, Bool.not_false, sBind, if_true, sRet]
/-! ### _law_read -/
abbrev rEnv (t : List Nat) (a : Nat) (w : MV) (D : List (List Nat × Int)) (e : Int) (x5 x6 : Option MV) : Env := [some (.str t), some (.int (a : Int)), some w, some (.dic (kvOf D)), some (.int e), x5, x6]
abbrev rTest : MB := mAndB (asB (mBin fLt (mV 4) (mB fLen (mCons (mV 0) mNil)))) (asB (mChain fLe fLe (mC (.str [97])) (mBin fIx (mV 0) (mV 4)) (mC (.str [122]))))
theorem chain_az (c : Nat) (env : Env) (S : Sto) {m : ME} (h : m env S = .ok (.str [c]) S) : asB (mChain fLe fLe (mC (.str [97])) m (mC (.str [122]))) env S = .ok (isAbc c) S := by
  simp only [asB, mChain, mC, bind_ok, h, fLe, lt1, isAbc]
  by_cases h1 : c < 97
  · have : ¬ (97 ≤ c ∧ c ≤ 122) := by omega
    simp only [h1, this, decide_true, decide_false, Bool.not_true, bind_ok]
  · by_cases h2 : 122 < c
    · have : ¬ (97 ≤ c ∧ c ≤ 122) := by omega
      simp only [h1, h2, this, decide_true, decide_false, Bool.not_true, Bool.not_false, bind_ok]
    · have : 97 ≤ c ∧ c ≤ 122 := by omega
      simp only [h1, h2, this, decide_true, decide_false, Bool.not_false, and_self, bind_ok]
theorem read_loop {t : List Nat} {a0 : Nat} {w : MV} {D : List (List Nat × Int)} {x5 x6 : Option MV} {rr : List MV → Sto → Res MV} (hl : t.length ≤ 2 ^ 20) (S : Sto) : ∀ (n a : Nat), t.length - a = n → whileL rTest (b_law_read_l1 rr) (n + 1) (rEnv t a0 w D a x5 x6) S = .nx (rEnv t a0 w D ((P14.re t a : Nat) : Int) x5 x6) S := by
  intro n
  induction n with
  | zero =>
    intro a h
    have h1 : decide (((a : Nat) : Int) < (t.length : Int)) = false := decide_eq_false (by omega)
    have e : P14.re t a = a := by
      unfold P14.re
      rw [List.drop_of_length_le (by omega)]; rfl
    have tst : rTest (rEnv t a0 w D a x5 x6) S = .ok false S := by
      simp only [mAndB, asB, mBin, mB, mCons, mNil, mV, List.getElem?_cons_zero, List.getElem?_cons_succ, bind_ok, len_str hl, fLt, h1, Bool.false_eq_true, if_false]
    rw [e]
    unfold whileL
    simp only [tst, sBind, Bool.false_eq_true, if_false]
  | succ n ih =>
    intro a h
    have ha : a < t.length := by omega
    have h1 : decide (((a : Nat) : Int) < (t.length : Int)) = true := decide_eq_true (by omega)
    have hd : t.drop a = t[a] :: t.drop (a + 1) := by rw [List.drop_eq_getElem_cons ha]
    have ix : mBin fIx (mV 0) (mV 4) (rEnv t a0 w D a x5 x6) S = .ok (.str [t[a]]) S := by
      simp only [mBin, mV, List.getElem?_cons_zero, List.getElem?_cons_succ, bind_ok, ix_str hl ha]
    have tst : rTest (rEnv t a0 w D a x5 x6) S = .ok (isAbc t[a]) S := by
      have q := chain_az t[a] _ _ ix
      have q1 : asB (mBin fLt (mV 4) (mB fLen (mCons (mV 0) mNil))) (rEnv t a0 w D a x5 x6) S = .ok true S := by
        simp only [asB, mBin, mB, mCons, mNil, mV, List.getElem?_cons_zero, List.getElem?_cons_succ, bind_ok, len_str hl, fLt, h1]
      simp only [mAndB, q1, bind_ok, if_true, q]
    cases hc : isAbc t[a] with
    | false =>
      have e : P14.re t a = a := by
        unfold P14.re
        rw [hd, List.takeWhile_cons, isL_abc, hc]; rfl
      rw [hc] at tst
      rw [e]
      unfold whileL
      simp only [tst, sBind, Bool.false_eq_true, if_false]
    | true =>
      have e : P14.re t a = P14.re t (a + 1) := by
        unfold P14.re
        rw [hd, List.takeWhile_cons, isL_abc, hc]
        simp only [if_true, List.length_cons]; omega
      rw [hc] at tst
      have st : b_law_read_l1 rr (rEnv t a0 w D a x5 x6) S = .nx (rEnv t a0 w D ((a + 1 : Nat) : Int) x5 x6) S := rfl
      rw [e]
      have := ih (a + 1) (by omega)
      unfold whileL
      simp only [tst, sBind, if_true, st]
      exact this
def res : Option Nat → Int
  | none => -1
  | some e => (e : Int)
theorem res_neg (r : Option Nat) : decide (res r < 0) = r.isNone := by
  cases r with
  | none => rfl
  | some e => exact decide_eq_false (by simp [res])
theorem sign_test {t : List Nat} {a e c : Nat} {w : MV} {D : List (List Nat × Int)} {x5 x6 : Option MV} {S : Sto} (hl : t.length ≤ 2 ^ 20) : asB (mBin fNe (mSl false (mV 0) (mPart (mV 4)) (mPart (mBin (fAdd false) (mV 4) (mC (.int 1))))) (mC (.str [c]))) (rEnv t a w D (e : Int) x5 x6) S = .ok (!decide (t[e]? = some c)) S ∧
    asB (mBin fEq (mSl false (mV 0) (mPart (mV 4)) (mPart (mBin (fAdd false) (mV 4) (mC (.int 1))))) (mC (.str [c]))) (rEnv t a w D (e : Int) x5 x6) S = .ok (decide (t[e]? = some c)) S := by
  have q : mSl false (mV 0) (mPart (mV 4)) (mPart (mBin (fAdd false) (mV 4) (mC (.int 1)))) (rEnv t a w D (e : Int) x5 x6) S = .ok (.str ((t.drop e).take 1)) S := by
    simp only [mSl, mPart, mBin, mV, mC, List.getElem?_cons_zero, List.getElem?_cons_succ, bind_ok, fAdd, slice_sign hl]
  constructor
  · simp only [asB, mBin, q, mC, bind_ok, fNe_str, sign_eq]
  · simp only [asB, mBin, q, mC, bind_ok, fEq_str, sign_eq]
theorem read_turn {t : List Nat} {a : Nat} {w : MV} {D : List (List Nat × Int)} {z : MV} {S : Sto} {rr : List MV → Sto → Res MV} {rd : Nat → Option (Option Nat)} (hl : t.length ≤ 2 ^ 20) (hrd : ∀ b r, rd b = some r → rr [.str t, .int (b : Int), w, .dic (kvOf D)] S = .ok (.int (res r)) S) (j e : Nat) :
    (j ≠ 0 ∧ ¬ t[e]? = some 44 → b_law_read_l2 rr (rEnv t a w D (e : Int) (some z) (some (.int (0 + (j : Int))))) S = .rt (.int (-1)) S) ∧
    (∀ r2, ¬ (j ≠ 0 ∧ ¬ t[e]? = some 44) → rd (if j = 0 then e else e + 1) = some r2 → b_law_read_l2 rr (rEnv t a w D (e : Int) (some z) (some (.int (0 + (j : Int))))) S = match r2 with
      | none => .rt (.int (-1)) S
      | some e2 => .nx (rEnv t a w D (e2 : Int) (some z) (some (.int (0 + (j : Int))))) S) := by
  have q := (sign_test (t := t) (a := a) (e := e) (c := 44) (w := w) (D := D) (x5 := some z) (x6 := some (.int (0 + (j : Int)))) (S := S) hl).1
  have tail : ∀ (b : Nat) (r2 : Option Nat), rd b = some r2 → sSeq (sSet 4 (mCall 4 rr [] (mCons (mV 0) (mCons (mV 4) (mCons (mV 2) (mCons (mV 3) mNil)))))) (sIf (asB (mBin fLt (mV 4) (mC (.int 0)))) (sRet (mNeg (mC (.int 1)))) sNext) (rEnv t a w D (b : Int) (some z) (some (.int (0 + (j : Int))))) S = match r2 with
      | none => .rt (.int (-1)) S
      | some e2 => .nx (rEnv t a w D (e2 : Int) (some z) (some (.int (0 + (j : Int))))) S := by
    intro b r2 hb
    have hr := hrd b r2 hb
    have s1 : sSet 4 (mCall 4 rr [] (mCons (mV 0) (mCons (mV 4) (mCons (mV 2) (mCons (mV 3) mNil))))) (rEnv t a w D (b : Int) (some z) (some (.int (0 + (j : Int))))) S = .nx (rEnv t a w D (res r2) (some z) (some (.int (0 + (j : Int))))) S := by
      simp only [sSet, mCall, mCons, mV, mNil, List.getElem?_cons_zero, List.getElem?_cons_succ, bind_ok, List.append_nil, List.length_cons, List.length_nil, Nat.reduceAdd, if_true, hr, sBind, List.set_cons_succ, List.set_cons_zero]
    refine Eq.trans (seq_nx s1) ?_
    have rn := res_neg r2
    cases r2 with
    | none =>
      simp only [sIf, asB, mBin, mV, mC, List.getElem?_cons_zero, List.getElem?_cons_succ, bind_ok, fLt, rn, Option.isNone_none, sBind, if_true, sRet, neg1]
    | some e2 =>
      simp only [sIf, asB, mBin, mV, mC, List.getElem?_cons_zero, List.getElem?_cons_succ, bind_ok, fLt, rn, Option.isNone_some, sBind, Bool.false_eq_true, if_false, sNext]
      rfl
  have c0 : asB (mBin fGt (mV 6) (mC (.int 0))) (rEnv t a w D (e : Int) (some z) (some (.int (0 + (j : Int))))) S = .ok (decide (j ≠ 0)) S := by
    have : decide ((0 : Int) < 0 + (j : Int)) = decide (j ≠ 0) := by
      by_cases y : j = 0
      · subst y; rfl
      · rw [decide_eq_true (by omega), decide_eq_true y]
    simp only [asB, mBin, mV, mC, List.getElem?_cons_zero, List.getElem?_cons_succ, bind_ok, fGt, this]
  constructor
  · rintro ⟨h1, h2⟩
    rw [decide_eq_true h1] at c0
    rw [decide_eq_false h2] at q
    unfold b_law_read_l2 sSeq
    simp only [sIf, c0, sBind, if_true, q, Bool.not_false, sRet, neg1]
  · intro r2 h1 hb
    by_cases y : j = 0
    · rw [decide_eq_false (by simp [y])] at c0
      rw [if_pos y] at hb
      refine Eq.trans (seq_nx (S1 := S) (e := rEnv t a w D (e : Int) (some z) (some (.int (0 + (j : Int))))) ?_) (tail e r2 hb)
      simp only [sIf, c0, sBind, Bool.false_eq_true, if_false, sNext]
    · rw [decide_eq_true y] at c0
      have h44 : t[e]? = some 44 := Classical.byContradiction fun n => h1 ⟨y, n⟩
      rw [decide_eq_true h44] at q
      rw [if_neg y] at hb
      refine Eq.trans (seq_nx (S1 := S) (e := rEnv t a w D ((e + 1 : Nat) : Int) (some z) (some (.int (0 + (j : Int))))) ?_) (tail (e + 1) r2 hb)
      simp only [sIf, c0, sBind, if_true, sSeq, q, Bool.not_true, Bool.false_eq_true, if_false, sNext]
      rfl
abbrev lastR : MSt := sRet (mIf (asB (mBin fEq (mSl false (mV 0) (mPart (mV 4)) (mPart (mBin (fAdd false) (mV 4) (mC (.int 1))))) (mC (.str [41])))) (mBin (fAdd false) (mV 4) (mC (.int 1))) (mNeg (mC (.int 1))))
theorem args_loop {t : List Nat} {a : Nat} {w : MV} {D : List (List Nat × Int)} {z : MV} {S : Sto} {rr : List MV → Sto → Res MV} {rd : Nat → Option (Option Nat)} {T : Itv} (hT : T.deps = []) (hl : t.length ≤ 2 ^ 20) (hrd : ∀ b r, rd b = some r → rr [.str t, .int (b : Int), w, .dic (kvOf D)] S = .ok (.int (res r)) S) :
    ∀ (n j e : Nat) (r : Option Nat) (x6 : Option MV), P14.args t rd n (decide (j = 0)) e = some r →
      (match forL T (gN 6) (b_law_read_l2 rr) ((List.range' j n).map fun (k : Nat) => MV.int (0 + (k : Int))) (rEnv t a w D (e : Int) (some z) x6) S with
        | .nx e1 S1 => lastR e1 S1
        | q => q) = .rt (.int (res r)) S
  | 0, j, e, r, x6, h => by
    unfold P14.args at h
    simp only [Option.some.injEq] at h
    have q := (sign_test (t := t) (a := a) (e := e) (c := 41) (w := w) (D := D) (x5 := some z) (x6 := x6) (S := S) hl).2
    have f : forL T (gN 6) (b_law_read_l2 rr) ((List.range' j 0).map fun (k : Nat) => MV.int (0 + (k : Int))) (rEnv t a w D (e : Int) (some z) x6) S = .nx (rEnv t a w D (e : Int) (some z) x6) S := by
      show forL T (gN 6) (b_law_read_l2 rr) [] _ S = _
      unfold forL
      rw [if_pos (chk_nil hT S)]
    rw [f]
    by_cases y : t[e]? = some 41
    · rw [if_pos y] at h
      rw [decide_eq_true y] at q
      subst h
      simp only [lastR, sRet, mIf, q, bind_ok, if_true]
      rfl
    · rw [if_neg y] at h
      rw [decide_eq_false y] at q
      subst h
      simp only [lastR, sRet, mIf, q, bind_ok, Bool.false_eq_true, if_false, neg1, sBind, res]
  | n + 1, j, e, r, x6, h => by
    obtain ⟨t1, t2⟩ := read_turn (t := t) (a := a) (w := w) (D := D) (z := z) (S := S) (rr := rr) (rd := rd) hl hrd j e
    have step : forL T (gN 6) (b_law_read_l2 rr) ((List.range' j (n + 1)).map fun (k : Nat) => MV.int (0 + (k : Int))) (rEnv t a w D (e : Int) (some z) x6) S = (match b_law_read_l2 rr (rEnv t a w D (e : Int) (some z) (some (.int (0 + (j : Int))))) S with
      | .nx e2 S2 => forL T (gN 6) (b_law_read_l2 rr) ((List.range' (j + 1) n).map fun (k : Nat) => MV.int (0 + (k : Int))) e2 S2
      | .ct e2 S2 => forL T (gN 6) (b_law_read_l2 rr) ((List.range' (j + 1) n).map fun (k : Nat) => MV.int (0 + (k : Int))) e2 S2
      | .bk e2 S2 => .nx e2 S2
      | .rt v S2 => .rt v S2
      | .ex x e2 S2 => .ex x e2 S2
      | .bad => .bad) := by
      rw [List.range'_succ, List.map_cons]
      conv => lhs; unfold forL
      rw [if_pos (chk_nil hT S)]
      rfl
    rw [step]
    unfold P14.args at h
    by_cases y : j ≠ 0 ∧ ¬ t[e]? = some 44
    · rw [if_pos ⟨decide_eq_false y.1, y.2⟩] at h
      simp only [Option.some.injEq] at h
      subst h
      rw [t1 y]
      rfl
    · have ny : ¬ (decide (j = 0) = false ∧ ¬ t[e]? = some 44) := fun q => y ⟨by simpa using q.1, q.2⟩
      rw [if_neg ny] at h
      have eb : (if decide (j = 0) = true then e else e + 1) = (if j = 0 then e else e + 1) := by
        by_cases z0 : j = 0 <;> simp [z0]
      rw [eb] at h
      cases hr : rd (if j = 0 then e else e + 1) with
      | none => rw [hr] at h; cases h
      | some r2 =>
        rw [hr] at h
        rw [t2 r2 y hr]
        cases r2 with
        | none =>
          simp only [Option.some.injEq] at h
          subst h
          rfl
        | some e2 =>
          simp only at h ⊢
          have d : decide (j + 1 = 0) = false := by simp
          rw [← d] at h
          exact args_loop hT hl hrd n (j + 1) e2 r _ h
theorem rng_range (n : Nat) : rngL 0 n = (List.range' 0 n).map fun (k : Nat) => MV.int (0 + (k : Int)) := by
  unfold rngL
  rw [List.range_eq_range']
theorem leave_int (S : Sto) (i : Int) : leaveV S S (.int i) = .ok (.int i) S := by
  rw [leaveV_cl (keeps_refl S) (by simp only [Cl]), List.take_length]
theorem law_read_ok {t : List Nat} {W : List (List Nat)} {w : MV} {D : List (List Nat × Int)} {S : Sto} (hl : t.length ≤ 2 ^ 20) (hw : asSq S w = some (W.map MV.str)) (hx : ∀ s, w ≠ .str s) (hD : ∀ q ∈ D, 0 ≤ q.2 ∧ q.2 ≤ 2) :
    ∀ (d a : Nat) (r : Option Nat), P14.read t (arD D) (wdW W) d a = some r → m_law_read d [.str t, .int (a : Int), w, .dic (kvOf D)] S = .ok (.int (res r)) S
  | 0, _, _, h => by simp [P14.read] at h
  | d + 1, a, r, h => by
    have ih := law_read_ok hl hw hx hD d
    show mDef 7 (b_law_read (m_law_read d)) _ S = _
    refine mDef_rt (S1 := S) (v := .int (res r)) ?_ (leave_int S _)
    have s1 : sSet 4 (mV 1) (env0 7 [.str t, .int (a : Int), w, .dic (kvOf D)]) S = .nx (rEnv t a w D (a : Int) none none) S := rfl
    have w1 := sWhile_eq (c := rTest) (mb := b_law_read_l1 (m_law_read d)) (env := rEnv t a w D (a : Int) none none) (S := S) (t.length - a + 1) (by rw [read_loop hl S (t.length - a) a rfl]; exact fun z => by cases z)
    rw [read_loop hl S (t.length - a) a rfl] at w1
    have s3 : sSet 5 (mSl false (mV 0) (mPart (mV 1)) (mPart (mV 4))) (rEnv t a w D ((P14.re t a : Nat) : Int) none none) S = .nx (rEnv t a w D ((P14.re t a : Nat) : Int) (some (.str (P14.nm t a))) none) S := by
      simp only [sSet, mSl, mPart, mV, List.getElem?_cons_zero, List.getElem?_cons_succ, bind_ok, slice_name hl, sBind, List.set_cons_succ, List.set_cons_zero]
    refine Eq.trans (seq_nx s1) (Eq.trans (seq_nx w1) (Eq.trans (seq_nx s3) ?_))
    have q := (sign_test (t := t) (a := a) (e := P14.re t a) (c := 40) (w := w) (D := D) (x5 := some (.str (P14.nm t a))) (x6 := none) (S := S) hl).1
    unfold P14.read at h
    by_cases h40 : t[P14.re t a]? = some 40
    · rw [if_pos h40] at h
      rw [decide_eq_true h40] at q
      refine Eq.trans (seq_nx (S1 := S) (e := rEnv t a w D ((P14.re t a : Nat) : Int) (some (.str (P14.nm t a))) none) (by simp only [sIf, q, sBind, Bool.not_true, Bool.false_eq_true, if_false, sNext])) ?_
      have kl := kLook_kv (P14.nm t a) D
      have c2 : asB (mBin fNotIn (mV 5) (mV 3)) (rEnv t a w D ((P14.re t a : Nat) : Int) (some (.str (P14.nm t a))) none) S = .ok (!(D.lookup (P14.nm t a)).isSome) S := by
        simp only [asB, mBin, mV, List.getElem?_cons_zero, List.getElem?_cons_succ, bind_ok, fNotIn, in_dic, kl, Option.isSome_map]
      cases hlk : D.lookup (P14.nm t a) with
      | none =>
        have ar : arD D (P14.nm t a) = none := by simp [arD, hlk]
        rw [ar] at h
        simp only [Option.some.injEq] at h
        subst h
        rw [hlk] at c2
        unfold sSeq
        simp only [sIf, c2, sBind, Option.isSome_none, Bool.not_false, if_true, sRet, neg1, res]
      | some i =>
        have ar : arD D (P14.nm t a) = some i.toNat := by simp [arD, hlk]
        obtain ⟨i0, i2⟩ := hD _ (lookup_mem hlk)
        rw [ar] at h
        simp only at h
        rw [hlk] at c2 kl
        simp only [Option.map_some] at kl
        refine Eq.trans (seq_nx (S1 := S) (e := rEnv t a w D ((P14.re t a : Nat) : Int) (some (.str (P14.nm t a))) none) (by simp only [sIf, c2, sBind, Option.isSome_some, Bool.not_true, Bool.false_eq_true, if_false, sNext])) ?_
        refine Eq.trans (seq_nx (S1 := S) (e := rEnv t a w D ((P14.re t a + 1 : Nat) : Int) (some (.str (P14.nm t a))) none) rfl) ?_
        have ixd : fIx (.dic (kvOf D)) (.str (P14.nm t a)) S = .ok (.int i) S := ix_dic kl
        have as1 : mCons (mBin fIx (mV 3) (mV 5)) mNil (rEnv t a w D ((P14.re t a + 1 : Nat) : Int) (some (.str (P14.nm t a))) none) S = .ok [.int i] S := by
          simp only [mCons, mNil, mBin, mV, List.getElem?_cons_zero, List.getElem?_cons_succ, bind_ok, ixd]
        have hi := range1_int (S := S) (S1 := S) (j := i) ⟨by omega, by omega⟩ as1
        have fin := args_loop (t := t) (a := a) (w := w) (D := D) (z := .str (P14.nm t a)) (S := S) (rr := m_law_read d) (rd := P14.read t (arD D) (wdW W) d) (T := ⟨rngL 0 i.toNat, []⟩) rfl hl (fun b r hb => ih b r hb) i.toNat 0 (P14.re t a + 1) r none h
        rw [← rng_range] at fin
        show sSeq (sFor _ _ _) lastR _ S = _
        have sf : sFor (mItR1 (mCons (mBin fIx (mV 3) (mV 5)) mNil)) (gN 6) (b_law_read_l2 (m_law_read d)) (rEnv t a w D ((P14.re t a + 1 : Nat) : Int) (some (.str (P14.nm t a))) none) S = forL ⟨rngL 0 i.toNat, []⟩ (gN 6) (b_law_read_l2 (m_law_read d)) (rngL 0 i.toNat) (rEnv t a w D ((P14.re t a + 1 : Nat) : Int) (some (.str (P14.nm t a))) none) S := for_step hi rfl
        rw [sSeq, sf]
        exact fin
    · rw [if_neg h40] at h
      rw [decide_eq_false h40] at q
      simp only [Option.some.injEq] at h
      have c4 : asB (mBin fIn (mV 5) (mV 2)) (rEnv t a w D ((P14.re t a : Nat) : Int) (some (.str (P14.nm t a))) none) S = .ok (wdW W (P14.nm t a)) S := by
        have i := in_strs (S := S) (x := w) (z := P14.nm t a) (F := W) hw hx
        simp only [asB, mBin, mV, List.getElem?_cons_zero, List.getElem?_cons_succ, bind_ok, fIn, i, wdW]
      unfold sSeq
      by_cases hwd : wdW W (P14.nm t a) = true
      · rw [if_pos hwd] at h
        rw [hwd] at c4
        subst h
        simp only [sIf, q, sBind, Bool.not_false, if_true, sRet, mIf, c4, bind_ok, mV, List.getElem?_cons_zero, List.getElem?_cons_succ, res]
      · rw [if_neg hwd] at h
        have hwd2 : wdW W (P14.nm t a) = false := by simpa using hwd
        rw [hwd2] at c4
        subst h
        simp only [sIf, q, sBind, Bool.not_false, if_true, sRet, mIf, c4, bind_ok, Bool.false_eq_true, if_false, neg1, res]
/-! ### trees and their texts -/
def Tr : Nat → MV → Prop
  | 0, v => ∃ w : List Nat, v = .tup [.str w, .non] ∧ w.length ≤ 8
  | d + 1, v => (∃ w : List Nat, v = .tup [.str w, .non] ∧ w.length ≤ 8) ∨ ∃ (n : List Nat) (ys : List MV), v = .tup [.str n, .lst ys] ∧ n.length ≤ 8 ∧ ys.length ≤ 2 ∧ ∀ y ∈ ys, Tr d y
theorem Tr.up : ∀ (d : Nat) (v : MV), Tr d v → Tr (d + 1) v
  | 0, v, h => .inl h
  | d + 1, v, h => by
    rcases h with h | ⟨n, ys, rfl, h1, h2, h3⟩
    · exact .inl h
    · exact .inr ⟨n, ys, rfl, h1, h2, fun y hy => Tr.up d y (h3 y hy)⟩
theorem clL_all {n : Nat} : ∀ {ys : List MV}, (∀ y ∈ ys, Cl n y) → ClL n ys
  | [], _ => by simp only [ClL]
  | y :: r, h => by simp only [ClL]; exact ⟨h y (by simp), clL_all fun z hz => h z (List.mem_cons_of_mem _ hz)⟩
theorem Tr.cl (n : Nat) : ∀ (d : Nat) (v : MV), Tr d v → Cl n v
  | 0, v, h => by obtain ⟨w, rfl, _⟩ := h; simp only [Cl, ClL, and_self]
  | d + 1, v, h => by
    rcases h with ⟨w, rfl, _⟩ | ⟨m, ys, rfl, h1, h2, h3⟩
    · simp only [Cl, ClL, and_self]
    · simp only [Cl, ClL]
      exact ⟨trivial, clL_all fun y hy => Tr.cl n d y (h3 y hy), trivial⟩
def bd : Nat → Nat
  | 0 => 8
  | d + 1 => 2 * bd d + 11
theorem join2 {zs : List (List Nat)} {b : Nat} (h : zs.length ≤ 2) (hz : ∀ z ∈ zs, z.length ≤ b) : (TL.joinL [44] zs).length ≤ 2 * b + 1 ∧ (zs.map List.length).sum ≤ 2 * b := by
  match zs, h with
  | [], _ => exact ⟨by simp [TL.joinL], by simp⟩
  | [x], _ => have := hz x (by simp); exact ⟨by simp [TL.joinL]; omega, by simp; omega⟩
  | [x, y], _ =>
    have h1 := hz x (by simp)
    have h2 := hz y (by simp)
    exact ⟨by simp [TL.joinL]; omega, by simp; omega⟩
theorem bin_ok {f : MV → MV → Sto → Res MV} {a b : ME} {env : Env} {S S1 S2 : Sto} {x y : MV} (ha : a env S = .ok x S1) (hb : b env S1 = .ok y S2) : mBin f a b env S = f x y S2 := by
  simp only [mBin, ha, hb, bind_ok]
theorem bd_le : ∀ d, d ≤ 5 → bd d ≤ 1000 := by
  intro d hd
  have : d = 0 ∨ d = 1 ∨ d = 2 ∨ d = 3 ∨ d = 4 ∨ d = 5 := by omega
  rcases this with rfl | rfl | rfl | rfl | rfl | rfl <;> decide
def txt : Nat → MV → List Nat
  | 0, v => match v with
    | .tup [.str w, .non] => w
    | _ => []
  | d + 1, v => match v with
    | .tup [.str w, .non] => w
    | .tup [.str n, .lst ys] => n ++ [40] ++ TL.joinL [44] (ys.map (txt d)) ++ [41]
    | _ => []
theorem strs_txt (f : MV → List Nat) : ∀ ys : List MV, strsOf (ys.map fun y => MV.str (f y)) = some (ys.map f)
  | [] => rfl
  | y :: r => by simp only [List.map_cons, strsOf, strs_txt f r, Option.map_some]
theorem clL_txt (n : Nat) (f : MV → List Nat) : ∀ ys : List MV, ClL n (ys.map fun y => MV.str (f y))
  | [] => by simp only [List.map_nil, ClL]
  | y :: r => by simp only [List.map_cons, ClL]; exact ⟨by simp only [Cl], clL_txt n f r⟩
theorem text_ok : ∀ (d : Nat) (v : MV), d ≤ 5 → Tr d v → (∀ S : Sto, m_law_text (d + 1) [v] S = .ok (.str (txt d v)) S) ∧ (txt d v).length ≤ bd d := by
  have lv : ∀ (S : Sto) (t : List Nat), leaveV S S (.str t) = .ok (.str t) S := fun S t => by
    rw [leaveV_cl (keeps_refl S) (by simp only [Cl]), List.take_length]
  have leaf : ∀ (k : Nat) (w : List Nat) (S : Sto), m_law_text (k + 1) [.tup [.str w, .non]] S = .ok (.str w) S := by
    intro k w S
    show mDef 2 (b_law_text (m_law_text k)) _ S = _
    exact mDef_rt (S1 := S) (v := .str w) rfl (lv S w)
  intro d
  induction d with
  | zero =>
    intro v _ h
    obtain ⟨w, rfl, hw⟩ := h
    exact ⟨leaf 0 w, hw⟩
  | succ d ih =>
    intro v hd5 h
    rcases h with ⟨w, rfl, hw⟩ | ⟨n, ys, rfl, h1, h2, h3⟩
    · refine ⟨leaf (d + 1) w, ?_⟩
      show w.length ≤ 2 * bd d + 11
      omega
    · have b5 := bd_le d (by omega)
      obtain ⟨j1, j2⟩ := join2 (zs := ys.map (txt d)) (b := bd d) (by simpa using h2) (by
        intro z hz
        obtain ⟨y, hy, rfl⟩ := List.mem_map.mp hz
        exact (ih y (by omega) (h3 y hy)).2)
      have e : txt (d + 1) (.tup [.str n, .lst ys]) = n ++ [40] ++ TL.joinL [44] (ys.map (txt d)) ++ [41] := rfl
      rw [e]
      generalize hJ : TL.joinL [44] (ys.map (txt d)) = J at j1
      constructor
      · intro S
        have hc : b_law_text_c1 (m_law_text (d + 1)) [some (.tup [.str n, .lst ys]), none] S = .ok (.lst (ys.map fun y => MV.str (txt d y))) S := by
          have w := mComp_pure (mu := false) (mi := mItS (mBin fIx (mV 0) (mC (.int 1)))) (vs := [1]) (g := gN 1) (c := mYes) (e := mCall 1 (m_law_text (d + 1)) [] (mCons (mV 1) mNil)) (env := [some (.tup [.str n, .lst ys]), none]) (S := S) (t := ⟨ys, []⟩) (p := fun _ => true) (F := fun y => .str (txt d y))
            rfl (fun acc => chk_nil rfl _) (by
              intro y hy
              refine ⟨_, rfl, fun acc => ⟨rfl, fun _ => ?_⟩⟩
              have q := (ih y (by omega) (h3 y hy)).1 (S ++ [.lst acc])
              show mCall 1 (m_law_text (d + 1)) [] (mCons (mV 1) mNil) [some (.tup [.str n, .lst ys]), some y] _ = _
              simp only [mCall, mCons, mNil, mV, List.getElem?_cons_zero, List.getElem?_cons_succ, bind_ok, List.append_nil, List.length_cons, List.length_nil, Nat.reduceAdd, if_true, q]) (by show ys.length ≤ sizeLine; unfold sizeLine; omega) (by
              rw [List.filter_eq_self.mpr (by simp)]
              exact clL_txt _ _ _)
          unfold b_law_text_c1
          rw [w]
          simp only [Bool.false_eq_true, if_false]
          rw [List.filter_eq_self.mpr (by simp)]
        have jn : fJoin (.str [44]) [.lst (ys.map fun y => MV.str (txt d y))] S = .ok (.str J) S := by
          have a1 : asSq S (.lst (ys.map fun y => MV.str (txt d y))) = some (ys.map fun y => MV.str (txt d y)) := rfl
          simp only [fJoin, a1, Option.bind_some, strs_txt, hJ]
          rw [if_pos]
          have : (ys.map (txt d)).length ≤ 2 := by simpa using h2
          simp only [List.length_cons, List.length_nil]
          omega
        have c1 : n.length + [40].length ≤ sizeLine := by simp only [List.length_cons, List.length_nil]; unfold sizeLine; omega
        have c2 : (n ++ [40]).length + J.length ≤ sizeLine := by simp only [List.length_append, List.length_cons, List.length_nil]; unfold sizeLine; omega
        have c3 : (n ++ [40] ++ J).length + [41].length ≤ sizeLine := by simp only [List.length_append, List.length_cons, List.length_nil]; unfold sizeLine; omega
        show mDef 2 (b_law_text (m_law_text (d + 1))) _ S = _
        refine mDef_rt (S1 := S) ?_ (lv S _)
        have t1 : sIf (asB (mIsN (mBin fIx (mV 0) (mC (.int 1))))) (sRet (mBin fIx (mV 0) (mC (.int 0)))) sNext (env0 2 [.tup [.str n, .lst ys]]) S = .nx [some (.tup [.str n, .lst ys]), none] S := rfl
        refine Eq.trans (seq_nx t1) ?_
        have x0 : mBin fIx (mV 0) (mC (.int 0)) [some (.tup [.str n, .lst ys]), none] S = .ok (.str n) S := rfl
        have ty : tyM "str" S (.str [44]) = true := rfl
        have f1 : fAdd false (.str n) (.str [40]) S = .ok (.str (n ++ [40])) S := by simp only [fAdd, if_pos c1]
        have f2 : fAdd false (.str (n ++ [40])) (.str J) S = .ok (.str (n ++ [40] ++ J)) S := by simp only [fAdd, if_pos c2]
        have f3 : fAdd false (.str (n ++ [40] ++ J)) (.str [41]) S = .ok (.str (n ++ [40] ++ J ++ [41])) S := by simp only [fAdd, if_pos c3]
        have jm : mBM "str" fJoin (mC (.str [44])) (mCons (b_law_text_c1 (m_law_text (d + 1))) mNil) [some (.tup [.str n, .lst ys]), none] S = .ok (.str J) S := by
          simp only [mBM, mC, bind_ok, ty, if_true, mCons, mNil, hc, jn]
        have g1 := (bin_ok (f := fAdd false) x0 (show mC (.str [40]) [some (.tup [.str n, .lst ys]), none] S = .ok (.str [40]) S from rfl)).trans f1
        have g2 := (bin_ok (f := fAdd false) g1 jm).trans f2
        have g3 := (bin_ok (f := fAdd false) g2 (show mC (.str [41]) [some (.tup [.str n, .lst ys]), none] S = .ok (.str [41]) S from rfl)).trans f3
        rw [sRet, g3]
        rfl
      · show (n ++ [40] ++ J ++ [41]).length ≤ 2 * bd d + 11
        simp only [List.length_append, List.length_cons, List.length_nil]
        omega
def cn : Nat → Nat
  | 0 => 2
  | d + 1 => 2 * cn d + 3
abbrev prM (Ps : List (List Nat × Int)) : List MV := Ps.map fun p => .tup [.str p.1, .int p.2]
theorem prM_cl (n : Nat) : ∀ Ps : List (List Nat × Int), ClL n (prM Ps)
  | [] => by simp only [prM, List.map_nil, ClL]
  | p :: r => by simp only [prM, List.map_cons, ClL, Cl]; exact ⟨⟨trivial, trivial, trivial⟩, prM_cl n r⟩
theorem pick_word {l n q : Nat} {S : Sto} {W : List (List Nat)} (h : HasDr l n S) (hn : n < 2 ^ 20) (hq : S[q]? = some (.lst (W.map MV.str))) (hql : q ≠ l) (h0 : W ≠ []) (h1 : W.length < 2 ^ 60) :
    ∃ (v : MV) (S' : Sto), m_law_pick [.ref l, .ref q] S = .ok v S' ∧ Draws l 1 S S' ∧ v ∈ W.map MV.str := by
  refine pick_gen h hn (N := W.length) ?_ (List.length_pos_iff.mpr h0) h1 fun r S' r0 r1 d => ?_
  · simp only [lenM, asSq, asU, asL, hq, List.length_map]
  · have hq' : S'[q]? = some (.lst (W.map MV.str)) := by rw [d.ne (Ne.symm hql)]; exact hq
    obtain ⟨v, e, m⟩ := pick_at (xs := W.map MV.str) r0 (by rw [List.length_map]; exact r1)
    exact ⟨v, by simp only [fIx, asSq, asU, asL, hq', e], clL_mem (clL_strs _ _) m, m⟩
end K14
end Mi

namespace Mi
namespace K14
open PySem L2 Sh
local macro_rules | `(tactic| walk_at "sz") => `(tactic| first | omega | (simp only [List.length_cons, List.length_nil, List.length_append, List.length_map, List.length_replicate, List.length_take, List.length_drop, sizeLine] <;> omega) | (unfold sizeLine; omega) | decide)
local macro_rules | `(tactic| walk_at "w") => `(tactic| repeat (first | with_reducible refine ws_seq ?_ | with_reducible refine ws_set ?_ | with_reducible refine ws_ret ?_ | with_reducible refine ws_drop ?_ | with_reducible refine ws_next ?_ | with_reducible refine ws_if ?_ | with_reducible refine ws_asg ?_ | with_reducible refine ws_par3 ?_ | with_reducible refine ws_par ?_ | with_reducible refine ws_retN ?_ | with_reducible refine ws_for ?_ | with_reducible refine ws_break ?_ | with_reducible refine ws_cont ?_ | with_reducible refine wp_v (by with_unfolding_all rfl) ?_ | with_reducible refine wp_c ?_ | with_reducible refine wp_bin ?_ | with_reducible refine wp_cons ?_ | with_reducible refine wp_nil ?_ | with_reducible refine wp_b ?_ | with_reducible refine wp_bm ?_ | with_reducible refine wp_call ?_ | with_reducible refine wp_calld ?_ | with_reducible refine wp_asB ?_ | with_reducible refine wp_asT ?_ | with_reducible refine wb ?_ | with_reducible refine wt_bl ?_ | with_reducible refine wt (by with_unfolding_all rfl) ?_ | with_reducible refine wp_notB ?_ | with_reducible refine wp_andB ?_ | with_reducible refine wp_orB ?_ | with_reducible refine wp_notT ?_ | with_reducible refine wp_andT ?_ | with_reducible refine wp_orT ?_ | with_reducible refine wp_if ?_ | with_reducible refine wp_isn ?_ | with_reducible refine wp_notn ?_ | with_reducible refine wp_neg ?_ | with_reducible refine wp_chain ?_ | with_reducible refine wp_nopart ?_ | with_reducible refine wp_yes ?_ | with_reducible refine wp_part ?_ | with_reducible refine wp_sl ?_ | with_reducible refine wp_tup ?_ | with_reducible refine wp_lst ?_ | with_reducible refine wp_dic0 ?_ | with_reducible refine wp_revL ?_ | with_reducible refine wp_itS ?_ | with_reducible refine wp_itR1 ?_ | with_reducible refine wp_itR2 ?_ | with_reducible refine wp_itT ?_ | with_reducible refine wp_itE ?_ | with_reducible refine wp_itZ ?_ | with_reducible refine get (by with_unfolding_all rfl) ?_ | with_reducible refine an (by with_unfolding_all rfl) ?_ | with_reducible refine an (by walk_at "sz") ?_ | with_reducible refine ite_t ?_ | with_reducible refine ite_f ?_ | with_reducible refine ite_rt (by with_unfolding_all rfl) ?_ | with_reducible refine ite_rf (by with_unfolding_all rfl) ?_ | with_reducible refine wp_mkL ?_ | with_reducible refine wp_mkD ?_ | with_reducible refine wp_mkLn ?_ | with_reducible refine wp_mkDn ?_ | with_reducible refine wp_addI ?_ | with_reducible refine wp_addS ?_ (by walk_at "sz") | with_reducible refine wp_addT ?_ (by walk_at "sz") | with_reducible refine wp_addLL ?_ (by walk_at "sz") | with_reducible refine wp_sub ?_ | with_reducible refine wp_mod ?_ (by walk_at "sz") | with_reducible refine wp_lt ?_ | with_reducible refine wp_le ?_ | with_reducible refine wp_gt ?_ | with_reducible refine wp_ge ?_ | with_reducible refine wp_eqI ?_ | with_reducible refine wp_neI ?_ | with_reducible refine wp_eqS ?_ | with_reducible refine wp_neS ?_ | with_reducible refine wp_eqB ?_ | with_reducible refine wp_neB ?_ | with_reducible refine wp_inL ?_ | with_reducible refine wp_ninL ?_ | with_reducible refine wp_lenL ?_ | with_reducible refine wp_lenT ?_ | with_reducible refine wp_lenD ?_ | with_reducible refine wp_lenS ?_ (by walk_at "sz") | with_reducible refine wp_ixT (by with_unfolding_all rfl) ?_ | with_reducible refine wp_ixL (by with_unfolding_all rfl) ?_ | with_reducible refine wp_slS ?_ (by walk_at "sz") | with_reducible refine wp_slT ?_ | with_reducible refine wp_slL ?_ | with_reducible refine wp_listL ?_ | with_reducible refine wp_listT ?_ | with_reducible refine wp_listD ?_ | with_reducible refine wp_tupL ?_ | with_reducible refine wp_tupT ?_ | with_reducible refine wp_isiT (by with_unfolding_all rfl) ?_ | with_reducible refine wp_isiF (by with_unfolding_all rfl) ?_ | with_reducible refine wp_max ?_ | with_reducible refine wp_min ?_ | with_reducible refine wp_dictD ?_))
theorem fEq_lnil (xs : List MV) (S : Sto) : fEq (.lst xs) (.lst []) S = .ok (.bl xs.isEmpty) S := by
  cases xs <;> rfl
theorem tree_ok {l q : Nat} {W : List (List Nat)} {Ps : List (List Nat × Int)} (hql : q ≠ l) (w0 : W ≠ []) (w1 : W.length ≤ 20) (w8 : ∀ w ∈ W, w.length ≤ 8) (p0 : Ps ≠ []) (p1 : Ps.length ≤ 20) (p8 : ∀ p ∈ Ps, p.1.length ≤ 8 ∧ 0 ≤ p.2 ∧ p.2 ≤ 2) :
    ∀ (d f n : Nat) (S : Sto), d < f → HasDr l n S → n + cn d + 10 ≤ 2 ^ 20 → S[q]? = some (.lst (W.map MV.str)) →
      ∃ (v : MV) (S' : Sto), m_law_tree f [.ref l, .ref q, .lst (prM Ps), .int (d : Int)] S = .ok v S' ∧ Draws l (cn d) S S' ∧ Tr d v := by
  intro d
  induction d with
  | zero =>
    intro f n S hf h hn hq
    obtain ⟨f, rfl⟩ : ∃ g, f = g + 1 := ⟨f - 1, by omega⟩
    refine wp_ex ?_
    show Wp (mDef 7 (b_law_tree (m_law_tree f)) _ S) _ _
    refine wp_def ?_
    unfold b_law_tree
    walk_at "w"
    obtain ⟨v, S1, e1, d1, m1⟩ := pick_word h (by unfold cn at hn; omega) hq hql w0 (by omega)
    refine wp_eq e1 ?_
    walk_at "w"
    obtain ⟨w, hw, rfl⟩ := List.mem_map.mp m1
    refine wp_leave1 d1.keeps d1.len (by simp [Cl, ClL]) ⟨d1.mono (by unfold cn; omega), w, rfl, w8 w hw⟩
  | succ d ih =>
    intro f n S hf h hn hq
    obtain ⟨f, rfl⟩ : ∃ g, f = g + 1 := ⟨f - 1, by omega⟩
    have hc : cn (d + 1) = 2 * cn d + 3 := rfl
    refine wp_ex ?_
    show Wp (mDef 7 (b_law_tree (m_law_tree f)) _ S) _ _
    refine wp_def ?_
    unfold b_law_tree
    walk_at "w"
    refine wp_eq (fEq_lnil _ _) ?_
    walk_at "w"
    refine ite_rf (by cases Ps <;> simp_all [prM]) ?_
    walk_at "w"
    refine next_wp h (by omega) (by decide) (by unfold Bd; decide) fun r S1 d1 r0 r1 => ?_
    walk_at "w"
    have h1 := h.draws d1
    have hq1 : S1[q]? = some (.lst (W.map MV.str)) := by rw [d1.ne (Ne.symm hql)]; exact hq
    refine ite_by (fun _ => ?_) (fun _ => ?_)
    · walk_at "w"
      obtain ⟨v, S2, e2, d2, m2⟩ := pick_word h1 (by omega) hq1 hql w0 (by omega)
      refine wp_eq e2 ?_
      walk_at "w"
      obtain ⟨w, hw, rfl⟩ := List.mem_map.mp m2
      have d3 := d1.trans d2
      exact wp_leave1 d3.keeps d3.len (by simp [Cl, ClL]) ⟨d3.mono (by omega), .inl ⟨w, rfl, w8 w hw⟩⟩
    · walk_at "w"
      refine pick_wpL h1 (by omega) (by simp [prM]; exact p0) (by simp [prM]; omega) (prM_cl _ _) fun v S2 d2 m2 => ?_
      obtain ⟨p, hp, rfl⟩ := List.mem_map.mp m2
      have h2 := h1.draws d2
      have hq2 : S2[q]? = some (.lst (W.map MV.str)) := by rw [d2.ne (Ne.symm hql)]; exact hq1
      obtain ⟨p8a, p8b, p8c⟩ := p8 p hp
      walk_at "w"
      have hi : mItR1 (mCons (mV 5) mNil) [some (.ref l), some (.ref q), some (.lst (prM Ps)), some (.int ((d + 1 : Nat) : Int)), some (.str p.1), some (.int p.2), none] S2 = .ok ⟨rngL 0 p.2.toNat, []⟩ S2 :=
        range1_int ⟨by omega, by omega⟩ rfl
      obtain ⟨S3, ys, e3, l3, p3, d3⟩ := mComp_drawsK (mu := false) (vs := [6]) (g := gN 6) (e := mCall 4 (m_law_tree f) [] (mCons (mV 0) (mCons (mV 1) (mCons (mV 2) (mCons (mBin fSub (mV 3) (mC (.int 1))) mNil))))) (P := Tr d) (q := cn d) (N := 2 ^ 20 - 10) hi h2 (Draws.zero h2) rfl (by
        intro v hv
        refine ⟨_, rfl, fun n S' hn' hl hd hk => ?_⟩
        have hq3 : S'[q]? = some (.lst (W.map MV.str)) := by
          rw [hk q ?_ hql]; exact hq2
          exact (List.getElem?_eq_some_iff.mp hq2).1
        have z := ih f n S' (by omega) hd (by omega) hq3
        have e4 : (((d + 1 : Nat) : Int) - 1) = (d : Int) := by omega
        refine wp_ex ?_
        show Wp (mCall 4 _ [] _ [some (.ref l), some (.ref q), some (.lst (prM Ps)), some (.int ((d + 1 : Nat) : Int)), some (.str p.1), some (.int p.2), some v] S') _ _
        walk_at "w"
        rw [e4]
        obtain ⟨y, S4, e5, d5, t5⟩ := z
        exact wp_eq e5 ⟨d5, t5⟩) (by
        simp [rngL]
        have : p.2.toNat ≤ 2 := by omega
        have : cn d * p.2.toNat ≤ cn d * 2 := Nat.mul_le_mul_left _ this
        omega) (by simp [rngL]; unfold sizeLine; omega) (fun y hy => Tr.cl _ d y hy)
      unfold b_law_tree_c1
      refine wp_eq e3 ?_
      walk_at "w"
      have d4 := (d1.trans d2).trans d3
      have l2 : p.2.toNat ≤ 2 := by omega
      have l4 : ys.length ≤ 2 := by rw [l3]; simp [rngL]; omega
      refine wp_leave1 d4.keeps d4.len ?_ ⟨d4.mono ?_, .inr ⟨p.1, ys, rfl, p8a, l4, p3⟩⟩
      · simp only [Cl, ClL, and_true, true_and]
        exact clL_all fun y hy => Tr.cl _ d y (p3 y hy)
      · have : cn d * p.2.toNat ≤ cn d * 2 := Nat.mul_le_mul_left _ l2
        simp [rngL]; omega
theorem spoilt_wp {l n : Nat} {S : Sto} {t : List Nat} {w : Int} {Q : MV → Sto → Prop} {E : MX → Sto → Prop} (h : HasDr l n S) (hn : n + 10 ≤ 2 ^ 20) (ht : t.length ≤ 2000) (q : ∀ (z : List Nat) S', Draws l 2 S S' → z.length ≤ 8000 → Q (.str z) S') : Wp (m_law_spoilt [.ref l, .str t, .int w] S) Q E := by
  unfold m_law_spoilt
  refine wp_def ?_
  unfold b_law_spoilt
  walk_at "w"
  refine pick_wpS h (by omega) (by simp) (by simp [sizeLine]) fun c S1 d1 _ => ?_
  walk_at "w"
  have h1 := h.draws d1
  refine next_wp h1 (by omega) (by omega) (by unfold Bd; omega) fun a S2 d2 a0 a1 => ?_
  have d := d1.trans d2
  have fin : ∀ z : List Nat, z.length ≤ 8000 → Wp (leaveV S S2 (.str z)) Q E := fun z hz => wp_leave1 d.keeps d.len (by simp [Cl]) (q z S2 d hz)
  have k1 := cutL_le t none (some a)
  have k2 := cutL_le t (some (a + 1)) none
  have k3 := cutL_le t (some a) none
  have sl : sizeLine = 16777216 := rfl
  walk_at "w"
  refine ite_by (fun _ => ?_) (fun _ => ?_)
  · walk_at "w"
    refine fin _ ?_
    rw [List.length_append]; omega
  walk_at "w"
  refine ite_by (fun _ => ?_) (fun _ => ?_)
  · walk_at "w"
    refine fin _ ?_
    simp only [List.length_append, List.length_cons, List.length_nil]; omega
  walk_at "w"
  refine ite_by (fun _ => ?_) (fun _ => ?_)
  · walk_at "w"
    refine fin _ ?_
    simp only [List.length_append, List.length_cons, List.length_nil]; omega
  walk_at "w"
  refine ite_by (fun _ => ?_) (fun _ => ?_)
  · walk_at "w"
    refine fin _ ?_
    simp only [List.length_append, List.length_cons, List.length_nil]; omega
  walk_at "w"
  exact fin _ (by omega)
theorem Tr.up' (v : MV) : ∀ (k d : Nat), Tr d v → Tr (d + k) v
  | 0, d, h => h
  | k + 1, d, h => Tr.up _ _ (Tr.up' v k d h)
/-! ### the law's turn -/
theorem pairs_of : ∀ D : List (List Nat × Int), pairsOf (prM D) = some (kvOf D)
  | [] => rfl
  | p :: r => by
    have := pairs_of r
    simp only [prM, kvOf] at this
    simp only [prM, kvOf, List.map_cons, pairsOf, isKey, if_true, this, Option.map_some]
theorem merge_kv : ∀ (D A : List (List Nat × Int)), ((A ++ D).map (·.1)).Nodup → mergeKM (kvOf A) (kvOf D) = kvOf (A ++ D)
  | [], A, _ => by simp [mergeKM, kvOf]
  | p :: r, A, h => by
    have hp : (kvOf A).any (fun q => keyB q.1 (.str p.1)) = false := by
      rw [List.any_eq_false]
      intro q hq e
      obtain ⟨x, hx, rfl⟩ := List.mem_map.mp hq
      simp only [keyB, beq_iff_eq] at e
      rw [List.map_append, List.nodup_append] at h
      exact h.2.2 x.1 (List.mem_map_of_mem hx) p.1 (by simp) e
    have e := merge_kv r (A ++ [p]) (by simpa using h)
    unfold mergeKM at e ⊢
    simp only [kvOf, List.map_cons, List.foldl_cons]
    have e2 : putKM (kvOf A) (.str p.1) (.int p.2) = kvOf (A ++ [p]) := by
      unfold putKM
      rw [hp]
      simp [kvOf]
    simp only [kvOf] at e2 e
    rw [e2, e]
    simp
theorem merge_kv0 {D : List (List Nat × Int)} (h : (D.map (·.1)).Nodup) : mergeKM [] (kvOf D) = kvOf D := by
  simpa using merge_kv D [] (by simpa using h)
/-- the deeds' names, each with a number of parts -/
theorem pairs_wp {l n : Nat} {S : Sto} {zs : List (List Nat)} {env : Env} {Q : MV → Sto → Prop} {E : MX → Sto → Prop} (he : env.length = 18) (h3 : env[3]? = some (some (.ref l))) (h8 : env[8]? = some (some (.lst (zs.map MV.str)))) (h : HasDr l n S) (hn : n + 100 ≤ 2 ^ 20) (hz : zs.length ≤ 20)
    (q : ∀ (D : List (List Nat × Int)) (S' : Sto), Draws l zs.length S S' → D.map (·.1) = zs → (∀ p ∈ D, 0 ≤ p.2 ∧ p.2 ≤ 2) → Q (.lst (prM D)) S') : Wp (b_law_c1 env S) Q E := by
  unfold b_law_c1
  have hw : ∀ j, j ≠ 17 → (wipeE env [17])[j]? = env[j]? := fun j hj => by
    simp only [wipeE]; rw [List.getElem?_set_ne (Ne.symm hj)]
  refine wp_comp (t := ⟨zs.map MV.str, []⟩) (S1 := S) (by simp only [mItS, mV, h8, bind_ok]; rfl) rfl (fun rest acc S' => ∃ (D : List (List Nat × Int)) (ws : List (List Nat)), acc = prM D ∧ rest = ws.map MV.str ∧ D.map (·.1) ++ ws = zs ∧ Draws l D.length S S' ∧ ∀ p ∈ D, 0 ≤ p.2 ∧ p.2 ≤ 2) ⟨[], zs, rfl, rfl, rfl, Draws.zero h, by simp⟩ (by simp [sizeLine]; omega) ?_ ?_
  · rintro v rest acc S' ⟨D, ws, rfl, hr, hzs, d, hp⟩ hl
    obtain ⟨w, ws, rfl⟩ : ∃ a b, ws = a :: b := by cases ws with
      | nil => simp at hr
      | cons a b => exact ⟨a, b, rfl⟩
    simp only [List.map_cons, List.cons.injEq] at hr
    obtain ⟨rfl, rfl⟩ := hr
    have hd := h.draws d
    have hlen : D.length + 1 ≤ zs.length := by rw [← hzs]; simp
    refine ⟨_, rfl, ?_⟩
    walk_at "w"
    have g17 : ((wipeE env [17]).set 17 (some (MV.str w)))[17]? = some (some (.str w)) := by
      rw [List.getElem?_set_self]; simp [wipeE, he]
    have g3 : ((wipeE env [17]).set 17 (some (MV.str w)))[3]? = some (some (.ref l)) := by
      rw [List.getElem?_set_ne (by decide), hw 3 (by decide), h3]
    generalize (wipeE env [17]).set 17 (some (MV.str w)) = env2 at g17 g3
    walk_at "w"
    refine wp_v g17 ?_
    walk_at "w"
    refine wp_v g3 ?_
    walk_at "w"
    refine next_wpT hd (by omega) (by decide) (by unfold Bd; decide) fun r S2 d2 r0 r1 => ?_
    walk_at "w"
    refine ⟨S2, rfl, by rw [d2.len, hl], D ++ [(w, r)], ws, by simp [prM], rfl, by rw [← hzs]; simp, by rw [List.length_append]; exact d.trans d2, ?_⟩
    intro p hp2
    rcases List.mem_append.mp hp2 with hp2 | hp2
    · exact hp p hp2
    · rw [List.mem_singleton.mp hp2]; exact ⟨r0, by show r ≤ 2; omega⟩
  · rintro acc S' ⟨D, ws, rfl, hr, hzs, d, hp⟩ hl
    have : ws = [] := by simpa using hr.symm
    subst this
    rw [List.append_nil] at hzs
    have hd : D.length = zs.length := by rw [← hzs]; simp
    rw [hd] at d
    refine ⟨prM_cl _ _, d.keeps, q D S' d hzs hp⟩
/-- words thrown away -/
theorem pops_wp {l n q : Nat} {S : Sto} {W : List (List Nat)} {k : Int} {env : Env} {N B C : Env → Sto → Prop} {R : MV → Sto → Prop} {X : EE} (he : env.length = 18) (h3 : env[3]? = some (some (.ref l))) (h10 : env[10]? = some (some (.ref q))) (h : HasDr l n S) (hn : n + 100 ≤ 2 ^ 20) (hq : S[q]? = some (.lst (W.map MV.str))) (hql : q ≠ l) (hk : k ≤ W.length) (hW : W.length ≤ 20)
    (fin : ∀ (e : Env) (S' : Sto) (W' : List (List Nat)) (m : Nat), e.length = 18 → (∀ j, j ≠ 16 → e[j]? = env[j]?) → HasDr l m S' → S'.length = S.length → S'[q]? = some (.lst (W'.map MV.str)) → (∀ w ∈ W', w ∈ W) → W'.length ≤ 20 → N e S') : Ws (forL ⟨rngL 0 k.toNat, []⟩ (gN 16) b_law_l1 (rngL 0 k.toNat) env S) N R B C X := by
  refine for_wp (fun items e S' => ∃ W' : List (List Nat), e.length = 18 ∧ (∀ j, j ≠ 16 → e[j]? = env[j]?) ∧ items.length + n ≤ W'.length + n ∧ (∃ m, m + items.length ≤ n + 20 ∧ HasDr l m S') ∧ S'.length = S.length ∧ S'[q]? = some (.lst (W'.map MV.str)) ∧ (∀ w ∈ W', w ∈ W) ∧ W'.length ≤ 20) ⟨W, he, fun _ _ => rfl, by simp [rngL]; omega, ⟨n, by simp [rngL]; omega, h⟩, rfl, hq, fun _ z => z, hW⟩ ?_ ?_
  · rintro v rest e S' ⟨W', he', hw, hlen, ⟨m, hm, hd⟩, hl, hq', hsub, h20⟩
    rw [List.length_cons] at hlen hm
    refine ⟨_, rfl, ?_⟩
    have g3 : (e.set 16 (some v))[3]? = some (some (.ref l)) := by rw [List.getElem?_set_ne (by decide), hw 3 (by decide), h3]
    have g10 : (e.set 16 (some v))[10]? = some (some (.ref q)) := by rw [List.getElem?_set_ne (by decide), hw 10 (by decide), h10]
    have gl : (e.set 16 (some v)).length = 18 := by simp [he']
    have gw : ∀ j, j ≠ 16 → (e.set 16 (some v))[j]? = env[j]? := fun j hj => by rw [List.getElem?_set_ne (Ne.symm hj), hw j hj]
    generalize e.set 16 (some v) = e2 at g3 g10 gl gw
    unfold b_law_l1
    walk_at "w"
    refine wp_v g10 ?_
    refine an (by simp only [tyM, asL, hq']; rfl) ?_
    walk_at "w"
    refine wp_v g3 ?_
    walk_at "w"
    refine wp_v g10 ?_
    walk_at "w"
    refine wp_lenR hq' ?_
    walk_at "w"
    refine next_wp hd (by omega) (by simp; omega) (by unfold Bd; simp; omega) fun r S2 d2 r0 r1 => ?_
    walk_at "w"
    rw [List.length_map] at r1
    have hq2 : S2[q]? = some (.lst (W'.map MV.str)) := by rw [d2.ne (Ne.symm hql)]; exact hq'
    have ri : seqIndex? r (W'.map MV.str).length = some r.toNat := seq_ix r0 (by rw [List.length_map]; exact r1)
    have rl : r.toNat < W'.length := by omega
    have e1 : (W'.map MV.str).eraseIdx r.toNat = (W'.eraseIdx r.toNat).map MV.str := map_erase _ _ _
    refine wp_popI hq2 ri (by rw [List.getElem?_eq_getElem (by simpa using rl)]) ?_ (by omega)
    have hql2 : q < S2.length := (List.getElem?_eq_some_iff.mp hq2).1
    refine ⟨W'.eraseIdx r.toNat, gl, gw, ?_, ⟨m + 1, by omega, ?_⟩, ?_, ?_, fun w hw2 => hsub w (List.mem_of_mem_eraseIdx hw2), ?_⟩
    · rw [List.length_eraseIdx_of_lt rl]; omega
    · obtain ⟨a, b, c, h1, h2⟩ := hd.draws d2
      exact ⟨a, b, c, by rw [List.getElem?_set_ne hql]; exact h1, h2⟩
    · rw [List.length_set, d2.len, hl]
    · rw [List.getElem?_set_self hql2, e1]
    · rw [List.length_eraseIdx_of_lt rl]; omega
  · rintro e S' ⟨W', he', hw, hlen, ⟨m, hm, hd⟩, hl, hq', hsub, h20⟩
    exact fin e S' W' m he' hw hd hl hq' hsub h20
end K14
end Mi

namespace Mi
namespace K14
open PySem L2 Sh
local macro_rules | `(tactic| walk_at "sz") => `(tactic| first | omega | (simp only [List.length_cons, List.length_nil, List.length_append, List.length_map, List.length_replicate, List.length_take, List.length_drop, sizeLine] <;> omega) | (unfold sizeLine; omega) | decide)
local macro_rules | `(tactic| walk_at "w") => `(tactic| repeat (first | with_reducible refine ws_seq ?_ | with_reducible refine ws_set ?_ | with_reducible refine ws_ret ?_ | with_reducible refine ws_drop ?_ | with_reducible refine ws_next ?_ | with_reducible refine ws_if ?_ | with_reducible refine ws_asg ?_ | with_reducible refine ws_par3 ?_ | with_reducible refine ws_par ?_ | with_reducible refine ws_retN ?_ | with_reducible refine ws_for ?_ | with_reducible refine ws_break ?_ | with_reducible refine ws_cont ?_ | with_reducible refine wp_v (by with_unfolding_all rfl) ?_ | with_reducible refine wp_c ?_ | with_reducible refine wp_bin ?_ | with_reducible refine wp_cons ?_ | with_reducible refine wp_nil ?_ | with_reducible refine wp_b ?_ | with_reducible refine wp_bm ?_ | with_reducible refine wp_call ?_ | with_reducible refine wp_calld ?_ | with_reducible refine wp_asB ?_ | with_reducible refine wp_asT ?_ | with_reducible refine wb ?_ | with_reducible refine wt_bl ?_ | with_reducible refine wt (by with_unfolding_all rfl) ?_ | with_reducible refine wp_notB ?_ | with_reducible refine wp_andB ?_ | with_reducible refine wp_orB ?_ | with_reducible refine wp_notT ?_ | with_reducible refine wp_andT ?_ | with_reducible refine wp_orT ?_ | with_reducible refine wp_if ?_ | with_reducible refine wp_isn ?_ | with_reducible refine wp_notn ?_ | with_reducible refine wp_neg ?_ | with_reducible refine wp_chain ?_ | with_reducible refine wp_nopart ?_ | with_reducible refine wp_yes ?_ | with_reducible refine wp_part ?_ | with_reducible refine wp_sl ?_ | with_reducible refine wp_tup ?_ | with_reducible refine wp_lst ?_ | with_reducible refine wp_dic0 ?_ | with_reducible refine wp_revL ?_ | with_reducible refine wp_itS ?_ | with_reducible refine wp_itR1 ?_ | with_reducible refine wp_itR2 ?_ | with_reducible refine wp_itT ?_ | with_reducible refine wp_itE ?_ | with_reducible refine wp_itZ ?_ | with_reducible refine get (by with_unfolding_all rfl) ?_ | with_reducible refine an (by with_unfolding_all rfl) ?_ | with_reducible refine an (by walk_at "sz") ?_ | with_reducible refine ite_t ?_ | with_reducible refine ite_f ?_ | with_reducible refine ite_rt (by with_unfolding_all rfl) ?_ | with_reducible refine ite_rf (by with_unfolding_all rfl) ?_ | with_reducible refine wp_mkL ?_ | with_reducible refine wp_mkD ?_ | with_reducible refine wp_mkLn ?_ | with_reducible refine wp_mkDn ?_ | with_reducible refine wp_addI ?_ | with_reducible refine wp_addS ?_ (by walk_at "sz") | with_reducible refine wp_addT ?_ (by walk_at "sz") | with_reducible refine wp_addLL ?_ (by walk_at "sz") | with_reducible refine wp_sub ?_ | with_reducible refine wp_mod ?_ (by walk_at "sz") | with_reducible refine wp_lt ?_ | with_reducible refine wp_le ?_ | with_reducible refine wp_gt ?_ | with_reducible refine wp_ge ?_ | with_reducible refine wp_eqI ?_ | with_reducible refine wp_neI ?_ | with_reducible refine wp_eqS ?_ | with_reducible refine wp_neS ?_ | with_reducible refine wp_eqB ?_ | with_reducible refine wp_neB ?_ | with_reducible refine wp_inL ?_ | with_reducible refine wp_ninL ?_ | with_reducible refine wp_lenL ?_ | with_reducible refine wp_lenT ?_ | with_reducible refine wp_lenD ?_ | with_reducible refine wp_lenS ?_ (by walk_at "sz") | with_reducible refine wp_ixT (by with_unfolding_all rfl) ?_ | with_reducible refine wp_ixL (by with_unfolding_all rfl) ?_ | with_reducible refine wp_slS ?_ (by walk_at "sz") | with_reducible refine wp_slT ?_ | with_reducible refine wp_slL ?_ | with_reducible refine wp_listL ?_ | with_reducible refine wp_listT ?_ | with_reducible refine wp_listD ?_ | with_reducible refine wp_tupL ?_ | with_reducible refine wp_tupT ?_ | with_reducible refine wp_isiT (by with_unfolding_all rfl) ?_ | with_reducible refine wp_isiF (by with_unfolding_all rfl) ?_ | with_reducible refine wp_max ?_ | with_reducible refine wp_min ?_ | with_reducible refine wp_dictD ?_))
theorem env18 {e : Env} (h : e.length = 18) : ∃ x0 x1 x2 x3 x4 x5 x6 x7 x8 x9 x10 x11 x12 x13 x14 x15 x16 x17, e = [x0, x1, x2, x3, x4, x5, x6, x7, x8, x9, x10, x11, x12, x13, x14, x15, x16, x17] := by
  match e, h with
  | [x0, x1, x2, x3, x4, x5, x6, x7, x8, x9, x10, x11, x12, x13, x14, x15, x16, x17], _ => exact ⟨x0, x1, x2, x3, x4, x5, x6, x7, x8, x9, x10, x11, x12, x13, x14, x15, x16, x17, rfl⟩
def Odd : List MV := [.non, .int 7, .lst [.str [97]], .tup [.str [97], .non], .dic [], .int 0]
noncomputable abbrev tailM : MSt :=
  (sSeq (sSet 13 (mB (fListA false) (mCons (mV 10) mNil)))
    (sSeq (sSet 14 (mCall 3 m_is_form [] (mCons (mMake false 0 5 m_Gear_init [.non] (mCons (mV 6) (mCons (mV 7) (mCons (mB (fDict false) (mCons (mV 9) mNil)) mNil)))) (mCons (mIf (asB (mBin fEq (mV 4) (mC (.int 6)))) (mV 5) (mV 12)) (mCons (mV 13) mNil)))))
    (sSeq (sSet 15 (mAndT (mBin fNe (mV 4) (mC (.int 6))) (mAndT (mBin fLe (mB fLen (mCons (mV 12) mNil)) (mC (.int 60))) (mBin fEq (mCall 4 (m_law_read 62) [] (mCons (mV 12) (mCons (mC (.int 0)) (mCons (mV 10) (mCons (mB (fDict false) (mCons (mV 9) mNil)) mNil))))) (mB fLen (mCons (mV 12) mNil))))))
    (sIf (mOrB (mNotB (asT (mB fIsi (mCons (mV 14) (mCons (mC (.ty "bool")) mNil))))) (mOrB (asB (mBin fNe (mV 14) (mV 15))) (asB (mBin fNe (mV 13) (mV 10))))) (sRet (mC (.bl false))) sNext))))
theorem tail_wp {e : Env} {S : Sto} {way : Int} {odd : MV} {U L W : List (List Nat)} {D : List (List Nat × Int)} {z : List Nat} {q : Nat} (he : e.length = 18) (g4 : e[4]? = some (some (.int way))) (g5 : e[5]? = some (some odd)) (g6 : e[6]? = some (some (.lst (U.map MV.str)))) (g7 : e[7]? = some (some (.lst (L.map MV.str)))) (g9 : e[9]? = some (some (.lst (prM D)))) (g10 : e[10]? = some (some (.ref q))) (g12 : e[12]? = some (some (.str z)))
    (hodd : odd ∈ Odd) (hG : GearOk U L D []) (hz : z.length ≤ 8000) (hq : S[q]? = some (.lst (W.map MV.str))) : Ws (tailM e S) (fun e _ => e.length = 18) (fun _ _ => False) (fun _ _ => False) (fun e _ => e.length = 18) (fun _ _ _ => False) := by
  obtain ⟨y0, y1, y2, y3, y4, y5, y6, y7, y8, y9, y10, y11, y12, y13, y14, y15, y16, y17, rfl⟩ := env18 he
  simp only [List.getElem?_cons_succ, List.getElem?_cons_zero, Option.some.injEq] at g4 g5 g6 g7 g9 g10 g12
  subst g4 g5 g6 g7 g9 g10 g12
  unfold tailM
  walk_at "w"
  refine wp_listR hq ?_
  walk_at "w"
  have ndD : (D.map (·.1)).Nodup := by
    have := hG.nd
    simp only [List.map_nil, List.append_nil, List.nodup_append] at this
    exact this.2.1
  have fd : ∀ S, fDict false [.lst (prM D)] S = .ok (.dic (kvOf D)) S := fun S => by simp only [fDict, asD, asL, Option.bind_some, pairs_of, merge_kv0 ndD, mkD, Bool.false_eq_true, if_false]
  refine wp_eq (S := S) (gear_made (S := S) (S1 := S) (T := []) (vs := [.lst (U.map MV.str), .lst (L.map MV.str), .dic (kvOf D)]) (ms := [.non]) hG ?_ rfl (.inl rfl) (.inl rfl) (.inr ⟨rfl, rfl⟩)) ?_
  · simp only [mCons, mNil, mV, mB, bind_ok, List.getElem?_cons_succ, List.getElem?_cons_zero, List.set_cons_succ, List.set_cons_zero, fd]
  walk_at "w"
  have zl2 : z.length ≤ 2 ^ 20 := by omega
  have sl : sizeLine = 16777216 := rfl
  -- behind is_form both agree
  have due : ∀ (v : Bool), (way ≠ 6 → z.length ≤ 60 → ∃ r, P14.read z (arD D) (wdW W) 62 0 = some r ∧ v = decide (r = some z.length)) → (way = 6 → v = false) → (60 < z.length → v = false) →
      Ws ((sSeq (sSet 15 (mAndT (mBin fNe (mV 4) (mC (.int 6))) (mAndT (mBin fLe (mB fLen (mCons (mV 12) mNil)) (mC (.int 60))) (mBin fEq (mCall 4 (m_law_read 62) [] (mCons (mV 12) (mCons (mC (.int 0)) (mCons (mV 10) (mCons (mB (fDict false) (mCons (mV 9) mNil)) mNil))))) (mB fLen (mCons (mV 12) mNil))))))
    (sIf (mOrB (mNotB (asT (mB fIsi (mCons (mV 14) (mCons (mC (.ty "bool")) mNil))))) (mOrB (asB (mBin fNe (mV 14) (mV 15))) (asB (mBin fNe (mV 13) (mV 10))))) (sRet (mC (.bl false))) sNext)) [y0, y1, y2, y3, some (.int way), some odd, some (.lst (U.map MV.str)), some (.lst (L.map MV.str)), y8, some (.lst (prM D)), some (.ref q), y11, some (.str z), some (.lst (W.map MV.str)), some (.bl v), y15, y16, y17] S) (fun e _ => e.length = 18) (fun _ _ => False) (fun _ _ => False) (fun e _ => e.length = 18) (fun _ _ _ => False) := by
    intro v h1 h2 h3
    walk_at "w"
    by_cases h6 : way = 6
    · refine ite_nf h6 ?_
      walk_at "w"
      refine ite_nf ?_ ?_
      · rw [h2 h6, h6]; rfl
      walk_at "w"
      refine wp_neL rfl (view_ref hq) ?_
      walk_at "w"
      refine ite_nf rfl ?_
      walk_at "w"
      rfl
    · refine ite_nt h6 ?_
      walk_at "w"
      by_cases h60 : z.length ≤ 60
      · obtain ⟨r, hr, hv⟩ := h1 h6 h60
        refine ite_dt (by omega) ?_
        walk_at "w"
        refine wp_dictL (pairs_of D) ?_
        rw [merge_kv0 ndD]
        walk_at "w"
        have lr := law_read_ok (t := z) (W := W) (w := .ref q) (D := D) (S := S) zl2 (by simp only [asSq, asU, asL, hq]) (by simp) (fun p hp => (hG.nD p hp).2) 62 0 r hr
        refine wp_eq lr ?_
        walk_at "w"
        refine ite_nf ?_ ?_
        · rw [hv]
          have : (some z.length = r) ↔ (res r = (z.length : Int)) := by
            cases r with
            | none => simp [res]
            | some k => simp [res]; omega
          exact decide_eq_decide.mpr (⟨fun e => this.mp e.symm, fun e => (this.mpr e).symm⟩)
        walk_at "w"
        refine wp_neL rfl (view_ref hq) ?_
        walk_at "w"
        refine ite_nf rfl ?_
        walk_at "w"
        rfl
      · refine ite_df (by omega) ?_
        walk_at "w"
        refine ite_nf ?_ ?_
        · rw [h3 (by omega)]; symm; exact decide_eq_false (by omega)
        walk_at "w"
        refine wp_neL rfl (view_ref hq) ?_
        walk_at "w"
        refine ite_nf rfl ?_
        walk_at "w"
        rfl
  refine ite_by (fun h6 => ?_) (fun h6 => ?_)
  · walk_at "w"
    have hx : fIsi [odd, .ty "str"] S = .ok (.bl false) S := by
      simp only [Odd, List.mem_cons, List.not_mem_nil, or_false] at hodd
      rcases hodd with rfl | rfl | rfl | rfl | rfl | rfl <;> rfl
    refine wp_eq (is_form_odd hx) ?_
    exact due false (fun h => absurd h6 h) (fun _ => rfl) (fun _ => rfl)
  · walk_at "w"
    by_cases h60 : z.length ≤ 60
    · cases hr : P14.read z (arD D) (wdW W) 62 0 with
      | none => exact absurd hr (P14.read_total _ _ _ 62 0 (by omega) (by omega))
      | some r =>
        refine wp_eq (is_form_ok h60 (fun p hp => (hG.nD p hp).2.1) (P14.whole _ _ _ hr)) ?_
        exact due _ (fun _ _ => ⟨r, hr, rfl⟩) (fun h => absurd h h6) (fun h => absurd h60 (by omega))
    · refine wp_eq (is_form_long (by omega) zl2) ?_
      exact due false (fun _ h => absurd h h60) (fun _ => rfl) (fun _ => rfl)
theorem turn_wp {i c : Int} (hi : 0 ≤ i ∧ i < 16) {x0 x3 x4 x5 x6 x7 x8 x9 x10 x11 x12 x13 x14 x15 x16 x17 : Option MV} (S : Sto) : Ws (b_law_l2 [x0, some (.int i), some (.int c), x3, x4, x5, x6, x7, x8, x9, x10, x11, x12, x13, x14, x15, x16, x17] S) (fun e _ => e.length = 18) (fun _ _ => False) (fun _ _ => False) (fun e _ => e.length = 18) (fun _ _ _ => False) := by
  unfold b_law_l2
  walk_at "w"
  refine begun_wp (by unfold Bd; omega) fun o h0 => ?_
  generalize S.length = l at *
  generalize S ++ [o] = S0 at *
  walk_at "w"
  refine next_wp h0 (by omega) (by decide) (by unfold Bd; decide) fun way S1 d1 w0 w1 => ?_
  have h1 := h0.draws d1
  walk_at "w"
  refine pick_wpL (xs := Odd) h1 (by omega) (by simp [Odd]) (by simp [Odd]) (by simp [Odd, ClL, Cl, Clk]) fun odd S2 d2 hodd => ?_
  have h2 := h1.draws d2
  walk_at "w"
  refine next_wp h2 (by omega) (by decide) (by unfold Bd; decide) fun r1 S3 d3 a1 b1 => ?_
  have h3 := h2.draws d3
  walk_at "w"
  refine names_wpI (F := []) h3 (by omega) (by omega) (by omega) (by simp; omega) fun U S4 d4 lU nU ndU => ?_
  have h4 := h3.draws d4
  walk_at "w"
  refine next_wp h4 (by omega) (by decide) (by unfold Bd; decide) fun r2 S5 d5 a2 b2 => ?_
  have h5 := h4.draws d5
  walk_at "w"
  refine names_wpI (F := U) h5 (by omega) (by omega) (by omega) (by omega) fun L S6 d6 lL nL ndL => ?_
  have h6 := h5.draws d6
  walk_at "w"
  refine next_wp h6 (by omega) (by decide) (by unfold Bd; decide) fun r3 S7 d7 a3 b3 => ?_
  have h7 := h6.draws d7
  walk_at "w"
  rw [← List.map_append]
  refine names_wpI (F := U ++ L) h7 (by omega) (by omega) (by omega) (by simp only [List.length_append]; omega) fun Z S8 d8 lZ nZ ndZ => ?_
  have h8 := h7.draws d8
  walk_at "w"
  refine pairs_wp (l := l) (zs := Z) rfl rfl rfl h8 (by omega) (by omega) fun D S9 d9 hD hD2 => ?_
  have h9 := h8.draws d9
  walk_at "w"
  refine next_wp h9 (by omega) (by decide) (by unfold Bd; decide) fun r4 S10 d10 a4 b4 => ?_
  have h10 := h9.draws d10
  walk_at "w"
  obtain ⟨W, hW, hWd⟩ : ∃ W : List (List Nat), W = (U ++ L ++ [[112], [113]]).drop r4.toNat ∧ cutL (U.map MV.str ++ L.map MV.str ++ [.str [112], .str [113]]) (some r4) none = W.map MV.str := by
    refine ⟨_, rfl, ?_⟩
    have e : U.map MV.str ++ L.map MV.str ++ [.str [112], .str [113]] = (U ++ L ++ [[112], [113]]).map MV.str := by simp
    rw [e, cutL_map, cut_lo _ a4]
  have lW : W.length ≤ 20 ∧ 2 ≤ W.length := by rw [hW]; simp only [List.length_drop, List.length_append, List.length_cons, List.length_nil]; omega
  rw [hWd]
  have w8 : ∀ w ∈ W, w.length ≤ 8 := by
    intro w hw
    rw [hW] at hw
    have := List.mem_of_mem_drop hw
    simp only [List.mem_append, List.mem_cons, List.not_mem_nil, or_false] at this
    rcases this with (h | h) | h | h
    · exact (nU w h).1.le
    · exact (nL w h).1.le
    · rw [h]; decide
    · rw [h]; decide
  have hql : S10.length ≠ l := fun e => by have := h10.lt; omega
  obtain ⟨q, hq0⟩ : ∃ q, q = S10.length := ⟨_, rfl⟩
  obtain ⟨T10, hT10⟩ : ∃ T, T = S10 ++ [MO.lst (W.map MV.str)] := ⟨_, rfl⟩
  have k10 : HasDr l (0 + 1 + 1 + 1 + 12 * (1 + r1).toNat + 1 + 12 * r2.toNat + 1 + 12 * (1 + r3).toNat + Z.length + 1) T10 := by rw [hT10]; exact h10.app _
  have q10 : T10[q]? = some (.lst (W.map MV.str)) := by rw [hT10, hq0]; simp
  rw [← hT10, ← hq0]
  rw [← hq0] at hql
  walk_at "w"
  refine next_wp k10 (by omega) (by decide) (by unfold Bd; decide) fun r5 S11 d11 a5 b5 => ?_
  have h11 := k10.draws d11
  have q11 : S11[q]? = some (.lst (W.map MV.str)) := by rw [d11.ne (Ne.symm hql)]; exact q10
  walk_at "w"
  obtain ⟨dd, rfl⟩ := Int.eq_ofNat_of_zero_le a5
  have hd4 : dd ≤ 4 := by omega
  have hcn : cn dd ≤ 200 := by
    have : dd = 0 ∨ dd = 1 ∨ dd = 2 ∨ dd = 3 ∨ dd = 4 := by omega
    rcases this with rfl | rfl | rfl | rfl | rfl <;> decide
  have lD : D.length = Z.length := by rw [← hD]; simp
  have w0 : W ≠ [] := by intro e; rw [e] at lW; simp at lW
  have p0 : D ≠ [] := by intro e; rw [e] at lD; simp at lD; omega
  obtain ⟨tv, S12, e12, d12, ht⟩ := tree_ok hql w0 lW.1 w8 p0 (by omega) (fun p hp => ⟨(nZ p.1 (by rw [← hD]; exact List.mem_map_of_mem hp)).1.le, hD2 p hp⟩) dd 6 _ S11 (by omega) h11 (by omega) q11
  have h12 := h11.draws d12
  have q12 : S12[q]? = some (.lst (W.map MV.str)) := by rw [d12.ne (Ne.symm hql)]; exact q11
  refine wp_eq e12 ?_
  have ht5 : Tr 5 tv := by
    have := Tr.up' tv (5 - dd) dd ht
    rwa [show dd + (5 - dd) = 5 by omega] at this
  obtain ⟨etx, btx⟩ := text_ok 5 tv (by omega) ht5
  have b5 := bd_le 5 (by omega)
  walk_at "w"
  refine wp_eq (etx S12) ?_
  walk_at "w"
  refine spoilt_wp h12 (by omega) (by omega) fun z S13 d13 hz => ?_
  have h13 := h12.draws d13
  have q13 : S13[q]? = some (.lst (W.map MV.str)) := by rw [d13.ne (Ne.symm hql)]; exact q12
  walk_at "w"
  have nd2 : GearOk U L D [] := by
    refine ⟨by omega, by omega, by omega, by omega, by simp, fun z hz => (nU z hz).1, fun z hz => (nL z hz).1, fun p hp => ⟨(nZ p.1 (by rw [← hD]; exact List.mem_map_of_mem hp)).1, hD2 p hp⟩, by simp, ?_⟩
    rw [List.map_nil, List.append_nil, hD, List.nodup_append, List.nodup_append]
    refine ⟨⟨ndU, ndL, fun a ha b hb e => (nL b hb).2 (by rw [← e]; exact ha)⟩, ndZ, fun a ha b hb e => (nZ b hb).2 (by rw [← e]; exact ha)⟩
  refine ite_by (fun _ => ?_) (fun _ => ?_)
  · walk_at "w"
    refine wp_lenR q13 ?_
    walk_at "w"
    refine next_wp h13 (by omega) (by decide) (by unfold Bd; decide) fun r6 S14 d14 a6 b6 => ?_
    have h14 := h13.draws d14
    have q14 : S14[q]? = some (.lst (W.map MV.str)) := by rw [d14.ne (Ne.symm hql)]; exact q13
    walk_at "w"
    obtain ⟨k, hk, k0, k1⟩ : ∃ k : Int, atI [MV.int 1, .int 1, .int ((W.map MV.str).length : Int)] r6 = some (.int k) ∧ 0 ≤ k ∧ k ≤ W.length := by
      have : r6 = 0 ∨ r6 = 1 ∨ r6 = 2 := by omega
      rcases this with rfl | rfl | rfl
      · exact ⟨1, rfl, by omega, by omega⟩
      · exact ⟨1, rfl, by omega, by omega⟩
      · exact ⟨_, rfl, by omega, by rw [List.length_map]; omega⟩
    refine wp_ixL hk ?_
    walk_at "w"
    refine pops_wp (by rfl) (by rfl) (by rfl) h14 (by omega) q14 hql k1 lW.1 fun e S15 W' m he hw hd hl hq' hsub h20 => ?_
    have hw' : ∀ (j : Nat) (x : Option (Option MV)), j ≠ 16 → _ = x → e[j]? = x := fun j x hj hx => (hw j hj).trans hx
    exact tail_wp he (hw' _ _ (by decide) rfl) (hw' _ _ (by decide) rfl) (hw' _ _ (by decide) rfl) (hw' _ _ (by decide) rfl) (hw' _ _ (by decide) rfl) (hw' _ _ (by decide) rfl) (hw' _ _ (by decide) rfl) hodd nd2 hz hq'
  · refine ws_next ?_
    exact tail_wp (by rfl) (by rfl) (by rfl) (by rfl) (by rfl) (by rfl) (by rfl) (by rfl) hodd nd2 hz q13
theorem law_true (ns : List Int) (hn : ns.length ≤ 63) : ∃ S, m_law [.rol (ns.map MV.int)] [] = .ok (.bl true) S := by
  refine law_top ?_
  unfold m_law
  refine wp_def ?_
  unfold b_law
  refine ws_seq ?_
  refine for_cells (d := [5]) (k := 16) rfl rfl (by decide) (fun e _ => e.length = 18) rfl (fun i c e S he i0 i1 => ?_) (fun e S he => ?_)
  · obtain ⟨x0, x1, x2, x3, x4, x5, x6, x7, x8, x9, x10, x11, x12, x13, x14, x15, x16, x17, rfl⟩ := env18 he
    exact ⟨_, rfl, turn_wp ⟨i0, i1⟩ S⟩
  · walk_at "w"
    exact wp_leaveTop rfl
end K14
end Mi

open PySem PySem.W PyProof.Rows in
set_option maxRecDepth 100000 in
set_option maxHeartbeats 0 in
theorem PySem.Challenge.cw_underrows_k14_forms_holds : PySem.Challenge.rw_underrows_k14_forms.Holds := by
  w_on; o_law; k_head; (case hw => w_witness2)
  k_fill
  refine Mi.law_walk (l := PySem.Challenge.rw_underrows_k14_forms) (k := 63) (x := "_law_script") rfl rfl ⟨rfl, by decide, by decide⟩ (fun w h Y => PySem.W.kIn_of Y) Mi.K14.law_true ?F
  case F =>
    intro w mg fa h KX G hmg
    refine' Mi.K14.all_mk KX G hmg ?ac0 ?a0 ?l0 ?c0 ?k0 ?a1 ?l1 ?c1 ?k1 ?a2 ?l2 ?c2 ?k2 ?a3 ?l3 ?c3 ?k3 ?a4 ?l4 ?c4 ?k4 ?a5 ?l5 ?c5 ?k5 ?a6 ?l6 ?c6 ?k6 ?a7 ?l7 ?c7 ?k7 ?a8 ?l8 ?c8 ?k8 ?a9 ?l9 ?c9 ?k9 ?a10 ?i10 ?l10 ?c10 ?k10 ?a11 ?l11 ?c11 ?k11 ?a12 ?l12 ?c12 ?k12 ?a13 ?l13 ?c13 ?k13 ?a14 ?l14 ?c14 ?k14 ?a15 ?l15 ?c15 ?k15 ?a16 ?l16 ?c16 ?k16 ?a17 ?i17 ?l17 ?c17 ?k17 ?t17 ?a18 ?l18 ?c18 ?k18 ?pg0 ?hd0 ?po0 ?sa0 ?mk0 ?kc0 ?fl_makers ?fl_upper ?fl_lower ?fl_tellers ?kLETTERS ?zmax ?zlen ?zrange ?zdict ?zstr ?zisinstance ?zall ?zlist ?zint ?zbool ?zset ?zenumerate
    (case ac0 => k_is)
    (case a0 => k_is)
    (case l0 => k_is)
    (case c0 => k_is)
    (case k0 => k_is)
    (case a1 => k_is)
    (case l1 => k_is)
    (case c1 => k_is)
    (case k1 => k_is)
    (case a2 => k_is)
    (case l2 => k_is)
    (case c2 => k_is)
    (case k2 => k_is)
    (case a3 => k_is)
    (case l3 => k_is)
    (case c3 => k_is)
    (case k3 => k_is)
    (case a4 => k_is)
    (case l4 => k_is)
    (case c4 => k_is)
    (case k4 => k_is)
    (case a5 => k_is)
    (case l5 => k_is)
    (case c5 => k_is)
    (case k5 => k_is)
    (case a6 => k_is)
    (case l6 => k_is)
    (case c6 => k_is)
    (case k6 => k_is)
    (case a7 => k_is)
    (case l7 => k_is)
    (case c7 => k_is)
    (case k7 => k_is)
    (case a8 => k_is)
    (case l8 => k_is)
    (case c8 => k_is)
    (case k8 => k_is)
    (case a9 => k_is)
    (case l9 => k_is)
    (case c9 => k_is)
    (case k9 => k_is)
    (case a10 => k_is)
    (case i10 => k_is)
    (case l10 => k_is)
    (case c10 => k_is)
    (case k10 => k_is)
    (case a11 => k_is)
    (case l11 => k_is)
    (case c11 => k_is)
    (case k11 => k_is)
    (case a12 => k_is)
    (case l12 => k_is)
    (case c12 => k_is)
    (case k12 => k_is)
    (case a13 => k_is)
    (case l13 => k_is)
    (case c13 => k_is)
    (case k13 => k_is)
    (case a14 => k_is)
    (case l14 => k_is)
    (case c14 => k_is)
    (case k14 => k_is)
    (case a15 => k_is)
    (case l15 => k_is)
    (case c15 => k_is)
    (case k15 => k_is)
    (case a16 => k_is)
    (case l16 => k_is)
    (case c16 => k_is)
    (case k16 => k_is)
    (case a17 => k_is)
    (case i17 => k_is)
    (case l17 => k_is)
    (case c17 => k_is)
    (case k17 => k_is)
    (case t17 => k_is)
    (case a18 => k_is)
    (case l18 => k_is)
    (case c18 => k_is)
    (case k18 => k_is)
    (case pg0 => k_is)
    (case hd0 => k_is)
    (case po0 => k_is)
    (case sa0 => k_is)
    (case mk0 => k_is)
    (case kc0 => k_is)
    (case fl_makers => k_is)
    (case fl_upper => k_is)
    (case fl_lower => k_is)
    (case fl_tellers => k_is)
    (case kLETTERS => k_is)
    (case zmax => k_is)
    (case zlen => k_is)
    (case zrange => k_is)
    (case zdict => k_is)
    (case zstr => k_is)
    (case zisinstance => k_is)
    (case zall => k_is)
    (case zlist => k_is)
    (case zint => k_is)
    (case zbool => k_is)
    (case zset => k_is)
    (case zenumerate => k_is)

