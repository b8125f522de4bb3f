import PyProof.Rows.All
import Wide.All
import OpenK.AllK
import Wide.FinOn
import HandS.ForMost
import HandS.ForExc
import HandS.Walk
import HandS.IsInst
import HandS.Zip
import HandS.Rev
import HandS.Flow
import HandS.Wide
import HandS.Conv
import HandS.TupAny
import HandS.Deep
import HandS.More
import HandS.Strs
import PySem.Challenge.RW_underrows_k13_names
set_option Elab.async false
set_option linter.all false
set_option maxRecDepth 100000
set_option maxHeartbeats 4000000
namespace Mi
open PySem L2

/-! ### values of the mirror: what stands still is a value, what changes is a place of the store -/
inductive MV where
  | non | bl (b : Bool) | int (i : Int) | str (s : List Nat) | ty (n : String)
  | tup (xs : List MV) | lst (xs : List MV) | rol (xs : List MV) | dic (kvs : List (MV × MV))
  | ins (c : Nat) (fs : List (Str × MV)) | ref (l : Nat) | fn (g : Nat) | clo (g : Nat) (cs : List MV)
  deriving Inhabited
inductive MO where
  | lst (xs : List MV) | dic (kvs : List (MV × MV)) | ins (c : Nat) (fs : List (Str × MV))
  deriving Inhabited
abbrev Sto := List MO
abbrev Env := List (Option MV)
structure MX where
  cls : Nat
  fs : List (Str × MV)
inductive Res (α : Type) where
  | ok (a : α) (S : Sto) | ex (x : MX) (S : Sto) | bad
def Res.bind {α β : Type} (r : Res α) (k : α → Sto → Res β) : Res β := match r with
  | .ok a S => k a S
  | .ex x S => .ex x S
  | .bad => .bad
@[simp] theorem bind_ok {α β : Type} (a : α) (S : Sto) (k : α → Sto → Res β) : (Res.ok a S).bind k = k a S := rfl
@[simp] theorem bind_ex {α β : Type} (x : MX) (S : Sto) (k : α → Sto → Res β) : (Res.ex x S).bind k = .ex x S := rfl
@[simp] theorem bind_bad {α β : Type} (k : α → Sto → Res β) : (Res.bad : Res α).bind k = .bad := rfl
inductive SRes where
  | nx (e : Env) (S : Sto) | rt (v : MV) (S : Sto) | bk (e : Env) (S : Sto) | ct (e : Env) (S : Sto) | ex (x : MX) (e : Env) (S : Sto) | bad

/-- what is fixed: the written part, where classes and defs stand -/
structure Ct where
  K : PySem.W.Frag
  cA : Nat → Addr
  fA : Nat → Addr
abbrev Io := List Addr

def KL (K : PySem.W.Frag) (a : Addr) (xs : List V) : Prop :=
  ∃ (o : Obj) (its : Array Value) (n : Nat), K.lookup a = some o ∧ o.cls = .type "list" ∧ o.dict = none ∧ o.data = .seq its n ∧ its.size ≤ sizeLine ∧ Vals xs its.toList
def KT (K : PySem.W.Frag) (a : Addr) (xs : List V) : Prop :=
  ∃ (o : Obj) (its : Array Value) (n : Nat), K.lookup a = some o ∧ o.cls = .type "tuple" ∧ o.data = .seq its n ∧ its.size ≤ sizeLine ∧ Vals xs its.toList
def FL (C : Ct) (ι : Io) (H : Hp) (a : Addr) (xs : List V) : Prop := (a ∉ ι ∧ Rd H a (.lst xs)) ∨ KL C.K a xs
def FT (C : Ct) (ι : Io) (H : Hp) (a : Addr) (xs : List V) : Prop := (a ∉ ι ∧ Rd H a (.tup xs)) ∨ KT C.K a xs
theorem FL.sq {C : Ct} {ι : Io} {H : Hp} {a : Addr} {xs : List V} (h : FL C ι H a xs) : SqL C.K H a xs := h.elim (fun h => .inl h.2) .inr
theorem FT.sq {C : Ct} {ι : Io} {H : Hp} {a : Addr} {xs : List V} (h : FT C ι H a xs) : SqT C.K H a xs := h.elim (fun h => .inl h.2) .inr

/-- a key of a dict -/
def KeyR : MV → Key → Prop
  | .int i, k => k = .inl i
  | .str s, k => k = .inr ⟨s.toArray⟩
  | _, _ => False

mutual
/-- a mirror's value and the value that it stands for -/
def VR (C : Ct) (ι : Io) (H : Hp) : MV → V → Prop
  | .non, v => v = .non
  | .bl b, v => v = .bl b
  | .int i, v => v = .int i
  | .str s, v => v = .str ⟨s.toArray⟩
  | .ty n, v => v = .ty n
  | .tup xs, v => ∃ a vs, v = .ref a ∧ FT C ι H a vs ∧ VRs C ι H xs vs
  | .lst xs, v => ∃ a vs, v = .ref a ∧ a ∉ ι ∧ H a = some (.lst vs) ∧ VRs C ι H xs vs
  | .rol xs, v => ∃ a vs, v = .ref a ∧ FL C ι H a vs ∧ VRs C ι H xs vs
  | .dic kvs, v => ∃ a kx, v = .ref a ∧ a ∉ ι ∧ Rd H a (.dK kx) ∧ KRs C ι H kvs kx
  | .ins c fs, v => ∃ a dx fx, v = .ref a ∧ a ∉ ι ∧ H a = some (.ins (C.cA c) dx fx) ∧ FRs C ι H fs fx
  | .ref l, v => ∃ a, v = .ref a ∧ ι[l]? = some a
  | .fn g, v => v = .ref (C.fA g)
  | .clo _ _, _ => False
def VRs (C : Ct) (ι : Io) (H : Hp) : List MV → List V → Prop
  | [], vs => vs = []
  | x :: r, vs => ∃ v w, vs = v :: w ∧ VR C ι H x v ∧ VRs C ι H r w
def KRs (C : Ct) (ι : Io) (H : Hp) : List (MV × MV) → List (Key × V) → Prop
  | [], vs => vs = []
  | p :: r, vs => ∃ q w, vs = q :: w ∧ KR C ι H p q ∧ KRs C ι H r w
def KR (C : Ct) (ι : Io) (H : Hp) : MV × MV → Key × V → Prop
  | (k, x), q => KeyR k q.1 ∧ VR C ι H x q.2
def FRs (C : Ct) (ι : Io) (H : Hp) : List (Str × MV) → List (Str × V) → Prop
  | [], vs => vs = []
  | p :: r, vs => ∃ q w, vs = q :: w ∧ FR C ι H p q ∧ FRs C ι H r w
def FR (C : Ct) (ι : Io) (H : Hp) : Str × MV → Str × V → Prop
  | (f, x), q => q.1 = f ∧ VR C ι H x q.2
end

def OR (C : Ct) (ι : Io) (H : Hp) (a : Addr) : MO → Prop
  | .lst xs => ∃ vs, H a = some (.lst vs) ∧ VRs C ι H xs vs
  | .dic kvs => ∃ kx, H a = some (.dK kx) ∧ KRs C ι H kvs kx
  | .ins c fs => ∃ dx fx, H a = some (.ins (C.cA c) dx fx) ∧ FRs C ι H fs fx
structure StR (C : Ct) (ι : Io) (S : Sto) (H : Hp) : Prop where
  len : ι.length = S.length
  nd : ι.Nodup
  ob : ∀ (l : Nat) (o : MO) (a : Addr), S[l]? = some o → ι[l]? = some a → OR C ι H a o
/-- the heap goes on: new places are new, what is no place stays -/
structure Ext (ι : Io) (H : Hp) (ι' : Io) (H' : Hp) : Prop where
  pre : ι <+: ι'
  new : ∀ a ∈ ι', a ∈ ι ∨ H a = none
  old : ∀ a o, H a = some o → a ∉ ι → H' a = some o

section
variable {C : Ct} {ι ι' ι2 : Io} {H H' H2 : Hp} {S S' : Sto}
theorem Ext.refl : Ext ι H ι H := ⟨List.prefix_refl _, fun _ h => .inl h, fun _ _ h _ => h⟩
theorem Ext.trans (a : Ext ι H ι' H') (b : Ext ι' H' ι2 H2) : Ext ι H ι2 H2 where
  pre := a.pre.trans b.pre
  new := fun x hx => by
    rcases b.new x hx with h | h
    · exact a.new x h
    · by_cases hi : x ∈ ι
      · exact .inl hi
      · cases e : H x with
        | none => exact .inr rfl
        | some o => rw [a.old x o e hi] at h; cases h
  old := fun x o e hi => b.old x o (a.old x o e hi) fun hm => by
    rcases a.new x hm with h | h
    · exact hi h
    · rw [e] at h; cases h
theorem Ext.notin (a : Ext ι H ι' H') {x : Addr} {o : HO} (h : x ∉ ι) (e : H x = some o) : x ∉ ι' := fun hm => by
  rcases a.new x hm with q | q
  · exact h q
  · rw [e] at q; cases q
theorem Ext.at (a : Ext ι H ι' H') {l : Nat} {x : Addr} (h : ι[l]? = some x) : ι'[l]? = some x := by
  obtain ⟨t, e⟩ := a.pre
  have hl : l < ι.length := (List.getElem?_eq_some_iff.mp h).1
  rw [← e, List.getElem?_append_left hl]
  exact h
theorem Ext.rd (a : Ext ι H ι' H') {x : Addr} {o : HO} (h : x ∉ ι) (e : Rd H x o) : x ∉ ι' ∧ Rd H' x o := by
  rcases e with e | ⟨u, e⟩
  · exact ⟨a.notin h e, .inl (a.old _ _ e h)⟩
  · exact ⟨a.notin h e, .inr ⟨u, a.old _ _ e h⟩⟩
theorem FL.mono {a : Addr} {xs : List V} (x : Ext ι H ι' H') (h : FL C ι H a xs) : FL C ι' H' a xs := h.elim (fun h => .inl (x.rd h.1 h.2)) .inr
theorem FT.mono {a : Addr} {xs : List V} (x : Ext ι H ι' H') (h : FT C ι H a xs) : FT C ι' H' a xs := h.elim (fun h => .inl (x.rd h.1 h.2)) .inr
mutual
theorem VR.mono (e : Ext ι H ι' H') : ∀ (x : MV) (v : V), VR C ι H x v → VR C ι' H' x v
  | .non, v, h => by simpa only [VR] using h
  | .bl _, v, h => by simpa only [VR] using h
  | .int _, v, h => by simpa only [VR] using h
  | .str _, v, h => by simpa only [VR] using h
  | .ty _, v, h => by simpa only [VR] using h
  | .fn _, v, h => by simpa only [VR] using h
  | .clo _ _, v, h => by simp only [VR] at h
  | .tup xs, v, h => by
    simp only [VR] at h ⊢
    obtain ⟨a, vs, h1, h2, h3⟩ := h
    exact ⟨a, vs, h1, h2.mono e, VRs.mono e xs vs h3⟩
  | .lst xs, v, h => by
    simp only [VR] at h ⊢
    obtain ⟨a, vs, h1, h2, h3, h4⟩ := h
    exact ⟨a, vs, h1, e.notin h2 h3, e.old _ _ h3 h2, VRs.mono e xs vs h4⟩
  | .rol xs, v, h => by
    simp only [VR] at h ⊢
    obtain ⟨a, vs, h1, h2, h3⟩ := h
    exact ⟨a, vs, h1, h2.mono e, VRs.mono e xs vs h3⟩
  | .dic kvs, v, h => by
    simp only [VR] at h ⊢
    obtain ⟨a, kx, h1, h2, h3, h4⟩ := h
    exact ⟨a, kx, h1, (e.rd h2 h3).1, (e.rd h2 h3).2, KRs.mono e kvs kx h4⟩
  | .ins c fs, v, h => by
    simp only [VR] at h ⊢
    obtain ⟨a, dx, fx, h1, h2, h3, h4⟩ := h
    exact ⟨a, dx, fx, h1, e.notin h2 h3, e.old _ _ h3 h2, FRs.mono e fs fx h4⟩
  | .ref l, v, h => by
    simp only [VR] at h ⊢
    obtain ⟨a, h1, h2⟩ := h
    exact ⟨a, h1, e.at h2⟩
theorem VRs.mono (e : Ext ι H ι' H') : ∀ (x : List MV) (v : List V), VRs C ι H x v → VRs C ι' H' x v
  | [], v, h => by simpa only [VRs] using h
  | x :: r, v, h => by
    simp only [VRs] at h ⊢
    obtain ⟨u, w, h1, h2, h3⟩ := h
    exact ⟨u, w, h1, VR.mono e x u h2, VRs.mono e r w h3⟩
theorem KRs.mono (e : Ext ι H ι' H') : ∀ (x : List (MV × MV)) (v : List (Key × V)), KRs C ι H x v → KRs C ι' H' x v
  | [], v, h => by simpa only [KRs] using h
  | x :: r, v, h => by
    simp only [KRs] at h ⊢
    obtain ⟨u, w, h1, h2, h3⟩ := h
    exact ⟨u, w, h1, KR.mono e x u h2, KRs.mono e r w h3⟩
theorem KR.mono (e : Ext ι H ι' H') : ∀ (x : MV × MV) (v : Key × V), KR C ι H x v → KR C ι' H' x v
  | (k, x), v, h => by
    simp only [KR] at h ⊢
    exact ⟨h.1, VR.mono e x v.2 h.2⟩
theorem FRs.mono (e : Ext ι H ι' H') : ∀ (x : List (Str × MV)) (v : List (Str × V)), FRs C ι H x v → FRs C ι' H' x v
  | [], v, h => by simpa only [FRs] using h
  | x :: r, v, h => by
    simp only [FRs] at h ⊢
    obtain ⟨u, w, h1, h2, h3⟩ := h
    exact ⟨u, w, h1, FR.mono e x u h2, FRs.mono e r w h3⟩
theorem FR.mono (e : Ext ι H ι' H') : ∀ (x : Str × MV) (v : Str × V), FR C ι H x v → FR C ι' H' x v
  | (k, x), v, h => by
    simp only [FR] at h ⊢
    exact ⟨h.1, VR.mono e x v.2 h.2⟩
end
theorem OR.mono (e : Ext ι H ι' H') {a : Addr} {o : MO} (q : H' a = H a) (h : OR C ι H a o) : OR C ι' H' a o := by
  cases o with
  | lst xs => obtain ⟨vs, h1, h2⟩ := h; exact ⟨vs, q.trans h1, VRs.mono e _ _ h2⟩
  | dic kvs => obtain ⟨vs, h1, h2⟩ := h; exact ⟨vs, q.trans h1, KRs.mono e _ _ h2⟩
  | ins c fs => obtain ⟨dx, vs, h1, h2⟩ := h; exact ⟨dx, vs, q.trans h1, FRs.mono e _ _ h2⟩
theorem OR.some {a : Addr} {o : MO} (h : OR C ι H a o) : ∃ u, H a = some u := by
  cases o with
  | lst xs => obtain ⟨vs, h1, h2⟩ := h; exact ⟨_, h1⟩
  | dic kvs => obtain ⟨vs, h1, h2⟩ := h; exact ⟨_, h1⟩
  | ins c fs => obtain ⟨dx, vs, h1, h2⟩ := h; exact ⟨_, h1⟩
theorem StR.there (s : StR C ι S H) {a : Addr} (h : a ∈ ι) : ∃ u, H a = some u := by
  obtain ⟨l, hl, e⟩ := List.mem_iff_getElem.mp h
  have h2 : l < S.length := by rw [← s.len]; exact hl
  exact (s.ob l S[l] a (by simp [h2]) (by rw [← e]; simp [hl])).some
theorem StR.fresh (s : StR C ι S H) {a : Addr} (h : H a = none) : a ∉ ι := fun hm => by
  obtain ⟨u, e⟩ := s.there hm
  rw [h] at e; cases e
/-- a new object that is no place -/
theorem Ext.upd (s : StR C ι S H) {p : Addr} {o : HO} (h : H p = none) : Ext ι H ι (upd H p o) :=
  ⟨List.prefix_refl _, fun _ q => .inl q, fun a u e _ => by rw [upd_ne (ne_of_none e h)]; exact e⟩
theorem StR.upd (s : StR C ι S H) {p : Addr} {o : HO} (h : H p = none) : StR C ι S (upd H p o) :=
  ⟨s.len, s.nd, fun l u a e1 e2 => by
    have q := s.ob l u a e1 e2
    obtain ⟨w, ew⟩ := q.some
    exact q.mono (Ext.upd s h) (by rw [upd_ne (ne_of_none ew h)])⟩
/-- a new object that is a new place -/
theorem Ext.push (s : StR C ι S H) {p : Addr} {o : HO} (h : H p = none) : Ext ι H (ι ++ [p]) (L2.upd H p o) :=
  ⟨List.prefix_append _ _, fun a q => by
    rcases List.mem_append.mp q with q | q
    · exact .inl q
    · right; have : a = p := by simpa using q
      rw [this]; exact h, fun a u e _ => by rw [upd_ne (ne_of_none e h)]; exact e⟩
theorem StR.push (s : StR C ι S H) {p : Addr} {o : HO} {m : MO} (h : H p = none) (hm : OR C (ι ++ [p]) (L2.upd H p o) p m) : StR C (ι ++ [p]) (S ++ [m]) (L2.upd H p o) := by
  refine ⟨by simp [s.len], ?_, fun l u a e1 e2 => ?_⟩
  · rw [List.nodup_append]
    refine ⟨s.nd, by simp, fun a ha b hb e => ?_⟩
    have : b = p := by simpa using hb
    subst this; subst e
    exact s.fresh h ha
  · by_cases hl : l < S.length
    · rw [List.getElem?_append_left hl] at e1
      rw [List.getElem?_append_left (by rw [s.len]; exact hl)] at e2
      have q := s.ob l u a e1 e2
      obtain ⟨w, ew⟩ := q.some
      exact q.mono (Ext.push s h) (by rw [upd_ne (ne_of_none ew h)])
    · have e : l = S.length := by
        have := (List.getElem?_eq_some_iff.mp e1).1
        simp at this; omega
      subst e
      have h1 : u = m := by simpa using e1.symm
      have h2 : a = p := by
        rw [← s.len] at e2
        simpa using e2.symm
      subst h1; subst h2
      exact hm
/-- a place is written -/
theorem Ext.set {l : Nat} {a : Addr} {o : HO} (e : ι[l]? = some a) : Ext ι H ι (L2.upd H a o) :=
  ⟨List.prefix_refl _, fun _ q => .inl q, fun b u e' hb => by
    rw [upd_ne (fun z => hb (by rw [z]; exact List.mem_of_getElem? e))]; exact e'⟩
theorem StR.set (s : StR C ι S H) {l : Nat} {a : Addr} {o : HO} {m : MO} (e : ι[l]? = some a) (hm : OR C ι (L2.upd H a o) a m) : StR C ι (S.set l m) (L2.upd H a o) := by
  refine ⟨by simp [s.len], s.nd, fun k u b e1 e2 => ?_⟩
  by_cases hk : k = l
  · subst hk
    rw [e] at e2; cases e2
    have hl : k < S.length := by rw [← s.len]; exact (List.getElem?_eq_some_iff.mp e).1
    rw [List.getElem?_set_self hl] at e1; cases e1
    exact hm
  · rw [List.getElem?_set_ne (Ne.symm hk)] at e1
    have q := s.ob k u b e1 e2
    refine q.mono (Ext.set e) ?_
    rw [upd_ne]
    intro z
    subst z
    obtain ⟨h1, q1⟩ := List.getElem?_eq_some_iff.mp e
    obtain ⟨h2, q2⟩ := List.getElem?_eq_some_iff.mp e2
    exact hk ((List.getElem_inj s.nd).mp (q2.trans q1.symm))
end
end Mi

namespace Mi
open PySem L2

abbrev ME := Env → Sto → Res MV
abbrev MB := Env → Sto → Res Bool
abbrev MA := Env → Sto → Res (List MV)
abbrev MSt := Env → Sto → SRes

def XR (C : Ct) (ι : Io) (H : Hp) (e : MX) (cls : Value) (d : Option Addr) : Prop :=
  cls = .ref (C.cA e.cls) ∧ match d with
    | none => e.fs = []
    | some a => a ∉ ι ∧ ∃ fx, H a = some (.xd fx) ∧ FRs C ι H e.fs fx
def EnvR (C : Ct) (ι : Io) (H : Hp) (env : Env) (σ : L2.St) : Prop :=
  env.length = σ.length ∧ ∀ (i : Nat) (x : MV), env[i]? = some (some x) → ∃ v, σ[i]? = some (some v) ∧ VR C ι H x v
theorem EnvR.mono {C : Ct} {ι ι' : Io} {H H' : Hp} {env : Env} {σ : L2.St} (e : Ext ι H ι' H') (h : EnvR C ι H env σ) : EnvR C ι' H' env σ :=
  ⟨h.1, fun i x q => by obtain ⟨v, h1, h2⟩ := h.2 i x q; exact ⟨v, h1, h2.mono e⟩⟩
theorem EnvR.set {C : Ct} {ι : Io} {H : Hp} {env : Env} {σ : L2.St} {x : MV} {v : V} (h : EnvR C ι H env σ) (r : VR C ι H x v) (i : Nat) : EnvR C ι H (env.set i (some x)) (σ.set i (some v)) := by
  refine ⟨by simp [h.1], fun j y q => ?_⟩
  by_cases hj : i = j
  · subst hj
    by_cases hl : i < env.length
    · rw [List.getElem?_set_self hl] at q
      cases q
      exact ⟨v, List.getElem?_set_self (by rw [← h.1]; exact hl), r⟩
    · rw [List.getElem?_eq_none (by simpa using hl)] at q; cases q
  · rw [List.getElem?_set_ne hj] at q ⊢
    exact h.2 j y q

/-- what is wanted behind a run of the mirror -/
def Post {α β : Type} (C : Ct) (W : WX) (R : Io → Hp → α → β → Prop) (ι : Io) (σ : L2.St) (H : Hp) (r : Res α) (Q : β → Hp → Prop) : Prop :=
  match r with
  | .ok x S' => ∀ ι' H' v, Ext ι H ι' H' → StR C ι' S' H' → R ι' H' x v → Q v H'
  | .ex e S' => ∀ ι' H' cls d, Ext ι H ι' H' → StR C ι' S' H' → XR C ι' H' e cls d → W cls d σ H'
  | .bad => False
abbrev RB : Io → Hp → Bool → Bool → Prop := fun _ _ x v => v = x
def SPost (C : Ct) (W : WX) (ι : Io) (H : Hp) (r : SRes) (D : Ends) : Prop :=
  match r with
  | .nx e S' => ∀ ι' H' σ', Ext ι H ι' H' → StR C ι' S' H' → EnvR C ι' H' e σ' → D.nx σ' H'
  | .bk e S' => ∀ ι' H' σ', Ext ι H ι' H' → StR C ι' S' H' → EnvR C ι' H' e σ' → D.bk σ' H'
  | .ct e S' => ∀ ι' H' σ', Ext ι H ι' H' → StR C ι' S' H' → EnvR C ι' H' e σ' → D.ct σ' H'
  | .rt x S' => ∀ ι' H' v, Ext ι H ι' H' → StR C ι' S' H' → VR C ι' H' x v → D.rt v H'
  | .ex x e S' => ∀ ι' H' σ' cls d, Ext ι H ι' H' → StR C ι' S' H' → EnvR C ι' H' e σ' → XR C ι' H' x cls d → W cls d σ' H'
  | .bad => False
section
variable {α β γ δ : Type} {C : Ct} {W : WX} {R : Io → Hp → α → β → Prop} {R2 : Io → Hp → γ → δ → Prop} {ι ι' : Io} {σ : L2.St} {H H' : Hp}
theorem Post.mono {r : Res α} {Q : β → Hp → Prop} (e : Ext ι H ι' H') (h : Post C W R ι σ H r Q) : Post C W R ι' σ H' r Q := by
  cases r with
  | ok x S => exact fun ι2 H2 v e2 => h ι2 H2 v (e.trans e2)
  | ex x S => exact fun ι2 H2 c d e2 => h ι2 H2 c d (e.trans e2)
  | bad => exact h
theorem SPost.mono {r : SRes} {D : Ends} (e : Ext ι H ι' H') (h : SPost C W ι H r D) : SPost C W ι' H' r D := by
  cases r with
  | nx x S => exact fun ι2 H2 v e2 => h ι2 H2 v (e.trans e2)
  | bk x S => exact fun ι2 H2 v e2 => h ι2 H2 v (e.trans e2)
  | ct x S => exact fun ι2 H2 v e2 => h ι2 H2 v (e.trans e2)
  | rt x S => exact fun ι2 H2 v e2 => h ι2 H2 v (e.trans e2)
  | ex x en S => exact fun ι2 H2 v c d e2 => h ι2 H2 v c d (e.trans e2)
  | bad => exact h
/-- the first part of a run -/
theorem Post.bind {r : Res α} {k : α → Sto → Res γ} {Q : δ → Hp → Prop} {Q' : β → Hp → Prop} (h : Post C W R2 ι σ H (r.bind k) Q)
    (hk : ∀ x S1 ι1 H1 v, Ext ι H ι1 H1 → StR C ι1 S1 H1 → R ι1 H1 x v → Post C W R2 ι1 σ H1 (k x S1) Q → Q' v H1) : Post C W R ι σ H r Q' := by
  cases r with
  | ok x S => exact fun ι1 H1 v e s q => hk x S ι1 H1 v e s q (h.mono e)
  | ex x S => exact h
  | bad => exact h
end

/-- a reading by the mirror -/
def tM (C : Ct) (W : WX) (m : ME) : TE := fun σ H Q => ∃ ι env S, EnvR C ι H env σ ∧ StR C ι S H ∧ Post C W (VR C) ι σ H (m env S) Q
def tMB (C : Ct) (W : WX) (m : MB) : TT := fun σ H Q => ∃ ι env S, EnvR C ι H env σ ∧ StR C ι S H ∧ Post C W RB ι σ H (m env S) Q
def tMA (C : Ct) (W : WX) (m : MA) : TA := fun σ H Q => ∃ ι env S, EnvR C ι H env σ ∧ StR C ι S H ∧ Post C W (VRs C) ι σ H (m env S) Q
def tMS (C : Ct) (W : WX) (m : MSt) : TS := fun D σ H => ∃ ι env S, EnvR C ι H env σ ∧ StR C ι S H ∧ SPost C W ι H (m env S) D

section
variable {X : Cx}
theorem peImp {e : Expr} {t t' : TE} (h : PE X e t) (i : ∀ σ H Q, t' σ H Q → t σ H Q) : PE X e t' := ⟨fun pins s σ H Q I q => h.run pins s σ H Q I (i σ H Q q)⟩
theorem ptImp {e : Expr} {t t' : TT} (h : PT X e t) (i : ∀ σ H Q, t' σ H Q → t σ H Q) : PT X e t' := ⟨fun pins s σ H Q I q => h.run pins s σ H Q I (i σ H Q q)⟩
theorem pwImp {e : Expr} {t t' : TT} (h : PW X e t) (i : ∀ σ H Q, t' σ H Q → t σ H Q) : PW X e t' := ⟨fun w pins s σ H Q I q => h.run w pins s σ H Q I (i σ H Q q)⟩
theorem paImp {e : List Expr} {t t' : TA} (h : PA X e t) (i : ∀ σ H Q, t' σ H Q → t σ H Q) : PA X e t' := ⟨fun p pins s σ H Q I q => h.run p pins s σ H Q I (i σ H Q q)⟩
theorem psImp {e : Stmt} {t t' : TS} (h : PS X e t) (i : ∀ D σ H, t' D σ H → t D σ H) : PS X e t' := ⟨fun pins s σ H D I q => h.run pins s σ H D I (i D σ H q)⟩
theorem pssImp {e : List Stmt} {t t' : TS} (h : PSs X e t) (i : ∀ D σ H, t' D σ H → t D σ H) : PSs X e t' := ⟨fun pins s σ H D I q => h.run pins s σ H D I (i D σ H q)⟩
end

/-! ### names, constants -/
def mV (i : Nat) : ME := fun env S => match env[i]? with
  | some (some v) => .ok v S
  | _ => .bad
def mC (v : MV) : ME := fun _ S => .ok v S
section
variable {X : Cx} {C : Ct} {W : WX} {pos : Pos}
theorem tM_var {i : Nat} {σ : L2.St} {H : Hp} {Q : VK} (h : tM C W (mV i) σ H Q) : tVar i σ H Q := by
  obtain ⟨ι, env, S, he, hs, hp⟩ := h
  unfold mV at hp
  split at hp
  · rename_i v e
    obtain ⟨u, h1, h2⟩ := he.2 i v e
    exact ⟨u, h1, hp ι H u .refl hs h2⟩
  · exact hp.elim
theorem je_v (i : Nat) {x : Str} (hN : X.N[i]? = some x := by rfl) (hv : Vis X.env.scope x := by first | exact Or.inl rfl | exact Or.inr (Or.inl rfl) | exact Or.inr (Or.inr rfl)) (hd : (x == ("__debug__" : Str)) = false := by decide)
    (hcd : (x == ("__classdict__" : Str)) = false := by decide) : PE X (.Name x pos) (tM C W (mV i)) := peImp (pe_var hN hv hd hcd) fun _ _ _ => tM_var
theorem tM_c {x : MV} {v : V} (r : ∀ ι H, VR C ι H x v) {σ : L2.St} {H : Hp} {Q : VK} (h : tM C W (mC x) σ H Q) : tC v σ H Q := by
  obtain ⟨ι, env, S, he, hs, hp⟩ := h
  exact hp ι H v .refl hs (r _ _)
theorem je_int {i : Int} {j} : PE X (.Constant (.int i) j pos) (tM C W (mC (.int i))) := peImp pe_int fun _ _ _ => tM_c fun _ _ => by simp only [VR]
theorem je_bl {b : Bool} {j} : PE X (.Constant (.bool b) j pos) (tM C W (mC (.bl b))) := peImp pe_bl fun _ _ _ => tM_c fun _ _ => by simp only [VR]
theorem je_non {j} : PE X (.Constant .none j pos) (tM C W (mC .non)) := peImp pe_non fun _ _ _ => tM_c fun _ _ => by simp only [VR]
/-- a written text: its codes -/
theorem je_str {x : Str} {j} (l : List Nat) (e : x.cps.toList = l := by decide +kernel) : PE X (.Constant (.str x) j pos) (tM C W (mC (.str l))) := peImp pe_str fun _ _ _ => tM_c fun _ _ => by
  subst e
  simp only [VR]

/-! ### two operands -/
def mBin (f : MV → MV → Sto → Res MV) (a b : ME) : ME := fun env S => (a env S).bind fun x S1 => (b env S1).bind fun y S2 => f x y S2
/-- an operation of two values by the mirror -/
def OpM (C : Ct) (f : MV → MV → Sto → Res MV) (r : R2) : Prop := ∀ (W : WX) (ι : Io) (σ : L2.St) (S : Sto) (H : Hp) (x y : MV) (v u : V) (Q : VK), StR C ι S H → VR C ι H x v → VR C ι H y u → Post C W (VR C) ι σ H (f x y S) Q → r v u H Q
theorem tM_bin {f : MV → MV → Sto → Res MV} {r : R2} (ho : OpM C f r) {a b : ME} {σ : L2.St} {H : Hp} {Q : VK} (h : tM C W (mBin f a b) σ H Q) : tOp r (tM C W a) (tM C W b) σ H Q := by
  obtain ⟨ι, env, S, he, hs, hp⟩ := h
  refine ⟨ι, env, S, he, hs, Post.bind hp fun x S1 ι1 H1 v e1 s1 q1 p1 => ?_⟩
  refine ⟨ι1, env, S1, he.mono e1, s1, Post.bind p1 fun y S2 ι2 H2 u e2 s2 q2 p2 => ?_⟩
  exact ho W ι2 σ S2 H2 x y v u Q s2 (q1.mono e2) q2 p2
theorem je_op {op : Operator} {f : MV → MV → Sto → Res MV} {r : R2} {ea eb : Expr} {a b : ME} (hr : OpR X (binaryOp op) r) (ho : OpM C f r) (ha : PE X ea (tM C W a)) (hb : PE X eb (tM C W b)) : PE X (.BinOp ea op eb pos) (tM C W (mBin f a b)) :=
  peImp (pe_op hr ha hb) fun _ _ _ => tM_bin ho
theorem je_cmp {op : CmpOp} {f : MV → MV → Sto → Res MV} {r : R2} {ea eb : Expr} {a b : ME} (hr : OpR X (compareOp op) r) (ho : OpM C f r) (ha : PE X ea (tM C W a)) (hb : PE X eb (tM C W b)) (hm : behindInMarks op eb = false) : PE X (.Compare ea [op] [eb] pos) (tM C W (mBin f a b)) :=
  peImp (pe_cmpR hr ha hb hm) fun _ _ _ => tM_bin ho

/-! ### tests -/
/-- a bool as a test -/
def asB (m : ME) : MB := fun env S => (m env S).bind fun x S1 => match x with
  | .bl b => .ok b S1
  | _ => .bad
theorem tMB_of {m : ME} {σ : L2.St} {H : Hp} {Q : Bool → Hp → Prop} (h : tMB C W (asB m) σ H Q) : tM C W m σ H fun x H1 => ∃ k, x = .bl k ∧ Q k H1 := by
  obtain ⟨ι, env, S, he, hs, hp⟩ := h
  refine ⟨ι, env, S, he, hs, Post.bind hp fun x S1 ι1 H1 v e1 s1 q1 p1 => ?_⟩
  split at p1
  · rename_i b
    simp only [VR] at q1
    exact ⟨b, q1, p1 ι1 H1 b .refl s1 rfl⟩
  · exact p1.elim
theorem jt_cmp {op : CmpOp} {f : MV → MV → Sto → Res MV} {r : R2} {ea eb : Expr} {a b : ME} (hr : OpR X (compareOp op) r) (ho : OpM C f r) (ha : PE X ea (tM C W a)) (hb : PE X eb (tM C W b)) (hm : behindInMarks op eb = false) : PT X (.Compare ea [op] [eb] pos) (tMB C W (asB (mBin f a b))) :=
  ptImp (pt_cmpR hr ha hb hm) fun σ H Q h => by
    have q := tMB_of h
    exact tM_bin ho q
theorem jt_val {e : Expr} {m : ME} (h : PE X e (tM C W m)) (he : ∀ whole, isTrue e X.env whole = (do let v ← whole; standAt e.pos; holding [v] (truthy v)) := by intro _; rfl) : PT X e (tMB C W (asB m)) :=
  ptImp (pt_val h he) fun σ H Q h => tMB_of h
/-- any value's truth -/
def tru (S : Sto) : MV → Option Bool
  | .non => some false
  | .bl b => some b
  | .int i => some (i != 0)
  | .str s => if s.length ≤ sizeLine then some (!s.isEmpty) else none
  | .tup xs => some (!xs.isEmpty)
  | .lst xs => some (!xs.isEmpty)
  | .rol xs => some (!xs.isEmpty)
  | .ref l => match S[l]? with
    | some (.lst xs) => some (!xs.isEmpty)
    | some (.dic kvs) => some (!kvs.isEmpty)
    | _ => none
  | _ => none
def asT (m : ME) : MB := fun env S => (m env S).bind fun x S1 => match tru S1 x with
  | some b => .ok b S1
  | none => .bad
end
theorem VRs.len {C : Ct} {ι : Io} {H : Hp} : ∀ {xs : List MV} {vs : List V}, VRs C ι H xs vs → vs.length = xs.length
  | [], _, h => by simp only [VRs] at h; rw [h]; rfl
  | x :: r, _, h => by
    simp only [VRs] at h
    obtain ⟨v, w, e, _, h2⟩ := h
    rw [e, List.length_cons, List.length_cons, VRs.len h2]
theorem KRs.len {C : Ct} {ι : Io} {H : Hp} : ∀ {xs : List (MV × MV)} {vs : List (Key × V)}, KRs C ι H xs vs → vs.length = xs.length
  | [], _, h => by simp only [KRs] at h; rw [h]; rfl
  | x :: r, _, h => by
    simp only [KRs] at h
    obtain ⟨v, w, e, _, h2⟩ := h
    rw [e, List.length_cons, List.length_cons, KRs.len h2]
theorem isEmpty_len {α β : Type} {xs : List α} {ys : List β} (h : xs.length = ys.length) : xs.isEmpty = ys.isEmpty := by
  cases xs <;> cases ys <;> simp at h ⊢
theorem str_len (s : List Nat) : (⟨s.toArray⟩ : Str).length = s.length := by simp [Str.length]
theorem tru_ok' {C : Ct} {ι : Io} {S : Sto} {H : Hp} {x : MV} {v : V} {b : Bool} (s : StR C ι S H) (r : VR C ι H x v) (h : tru S x = some b) : TruV C.K v H b := by
  cases x with
  | non => simp only [VR] at r; subst r; simp only [tru, Option.some.injEq] at h; exact h.symm
  | bl b' => simp only [VR] at r; subst r; simp only [tru, Option.some.injEq] at h; exact h.symm
  | int i => simp only [VR] at r; subst r; simp only [tru, Option.some.injEq] at h; exact h.symm
  | str z =>
    simp only [VR] at r; subst r
    simp only [tru] at h
    split at h
    · rename_i hl
      simp only [Option.some.injEq] at h
      refine ⟨by rw [str_len]; exact hl, ?_⟩
      rw [str_len, ← h]
      cases z <;> simp <;> omega
    · cases h
  | tup xs =>
    simp only [VR] at r
    obtain ⟨a, vs, rfl, h1, h2⟩ := r
    simp only [tru, Option.some.injEq] at h
    exact .inr (.inl ⟨vs, h1.sq, by rw [← h, isEmpty_len h2.len]⟩)
  | lst xs =>
    simp only [VR] at r
    obtain ⟨a, vs, rfl, h0, h1, h2⟩ := r
    simp only [tru, Option.some.injEq] at h
    exact .inl ⟨vs, SqL.of h1, by rw [← h, isEmpty_len h2.len]⟩
  | rol xs =>
    simp only [VR] at r
    obtain ⟨a, vs, rfl, h1, h2⟩ := r
    simp only [tru, Option.some.injEq] at h
    exact .inl ⟨vs, h1.sq, by rw [← h, isEmpty_len h2.len]⟩
  | ref l =>
    simp only [VR] at r
    obtain ⟨a, rfl, hl⟩ := r
    simp only [tru] at h
    split at h
    · rename_i xs e
      obtain ⟨vs, h1, h2⟩ := s.ob l _ a e hl
      simp only [Option.some.injEq] at h
      exact .inl ⟨vs, SqL.of h1, by rw [← h, isEmpty_len h2.len]⟩
    · rename_i xs e
      obtain ⟨vs, h1, h2⟩ := s.ob l _ a e hl
      simp only [Option.some.injEq] at h
      exact .inr (.inr ⟨vs, h1, by rw [← h, isEmpty_len h2.len]⟩)
    · cases h
  | _ => cases h
section
variable {X : Cx} {C : Ct} {W : WX} {pos : Pos}
theorem jt_tru (hK : X.K = C.K) {e : Expr} {m : ME} (h : PE X e (tM C W m)) (he : ∀ whole, isTrue e X.env whole = (do let v ← whole; standAt e.pos; holding [v] (truthy v)) := by intro _; rfl) : PT X e (tMB C W (asT m)) :=
  ptImp (pt_truth h he) fun σ H Q h => by
    obtain ⟨ι, env, S, he, hs, hp⟩ := h
    refine ⟨ι, env, S, he, hs, Post.bind hp fun x S1 ι1 H1 v e1 s1 q1 p1 => ?_⟩
    split at p1
    · rename_i b hb
      exact ⟨b, by rw [hK]; exact tru_ok' s1 q1 hb, p1 ι1 H1 b .refl s1 rfl⟩
    · exact p1.elim
def mNotB (m : MB) : MB := fun env S => (m env S).bind fun b S1 => .ok (!b) S1
def mAndB (a b : MB) : MB := fun env S => (a env S).bind fun x S1 => if x = true then b env S1 else .ok false S1
def mOrB (a b : MB) : MB := fun env S => (a env S).bind fun x S1 => if x = true then .ok true S1 else b env S1
theorem jt_not {e : Expr} {m : MB} (h : PT X e (tMB C W m)) : PT X (.UnaryOp .Not e pos) (tMB C W (mNotB m)) :=
  ptImp (pt_not h) fun σ H Q h => by
    obtain ⟨ι, env, S, he, hs, hp⟩ := h
    refine ⟨ι, env, S, he, hs, Post.bind hp fun x S1 ι1 H1 v e1 s1 q1 p1 => ?_⟩
    subst q1
    exact p1 ι1 H1 _ .refl s1 rfl
theorem jw_one_and {e : Expr} {m : MB} (h : PT X e (tMB C W m)) : PW X (.BoolOp .And [e] pos) (tMB C W m) := pw_and1 h
theorem jw_one_or {e : Expr} {m : MB} (h : PT X e (tMB C W m)) : PW X (.BoolOp .Or [e] pos) (tMB C W m) := pw_or1 h
theorem jw_and {a b : Expr} {rest : List Expr} {m n : MB} (h : PT X a (tMB C W m)) (h2 : PW X (.BoolOp .And (b :: rest) pos) (tMB C W n)) : PW X (.BoolOp .And (a :: b :: rest) pos) (tMB C W (mAndB m n)) :=
  pwImp (pw_and h h2) fun σ H Q h => by
    obtain ⟨ι, env, S, he, hs, hp⟩ := h
    refine ⟨ι, env, S, he, hs, Post.bind hp fun x S1 ι1 H1 v e1 s1 q1 p1 => ?_⟩
    subst q1
    cases v with
    | true => exact ⟨ι1, env, S1, he.mono e1, s1, p1⟩
    | false => exact p1 ι1 H1 _ .refl s1 rfl
theorem jw_or {a b : Expr} {rest : List Expr} {m n : MB} (h : PT X a (tMB C W m)) (h2 : PW X (.BoolOp .Or (b :: rest) pos) (tMB C W n)) : PW X (.BoolOp .Or (a :: b :: rest) pos) (tMB C W (mOrB m n)) :=
  pwImp (pw_or h h2) fun σ H Q h => by
    obtain ⟨ι, env, S, he, hs, hp⟩ := h
    refine ⟨ι, env, S, he, hs, Post.bind hp fun x S1 ι1 H1 v e1 s1 q1 p1 => ?_⟩
    subst q1
    cases v with
    | false => exact ⟨ι1, env, S1, he.mono e1, s1, p1⟩
    | true => exact p1 ι1 H1 _ .refl s1 rfl
/-- .. as values -/
def mNotE (m : ME) : ME := fun env S => (m env S).bind fun x S1 => match x with
  | .bl b => .ok (.bl (!b)) S1
  | _ => .bad
def mAndE (a b : ME) : ME := fun env S => (a env S).bind fun x S1 => match x with
  | .bl true => b env S1
  | .bl false => .ok (.bl false) S1
  | _ => .bad
def mOrE (a b : ME) : ME := fun env S => (a env S).bind fun x S1 => match x with
  | .bl true => .ok (.bl true) S1
  | .bl false => b env S1
  | _ => .bad
theorem je_not {e : Expr} {m : ME} (h : PE X e (tM C W m)) : PE X (.UnaryOp .Not e pos) (tM C W (mNotE m)) :=
  peImp (pe_not h) fun σ H Q h => by
    obtain ⟨ι, env, S, he, hs, hp⟩ := h
    refine ⟨ι, env, S, he, hs, Post.bind hp fun x S1 ι1 H1 v e1 s1 q1 p1 => ?_⟩
    split at p1
    · rename_i b
      simp only [VR] at q1
      exact ⟨b, q1, p1 ι1 H1 _ .refl s1 (by simp only [VR])⟩
    · exact p1.elim
theorem je_and {a b : Expr} {rest : List Expr} {m n : ME} (h : PE X a (tM C W m)) (h2 : PE X (.BoolOp .And (b :: rest) pos) (tM C W n)) : PE X (.BoolOp .And (a :: b :: rest) pos) (tM C W (mAndE m n)) :=
  peImp (pe_and h h2) fun σ H Q h => by
    obtain ⟨ι, env, S, he, hs, hp⟩ := h
    refine ⟨ι, env, S, he, hs, Post.bind hp fun x S1 ι1 H1 v e1 s1 q1 p1 => ?_⟩
    split at p1
    · simp only [VR] at q1
      exact ⟨true, q1, ⟨ι1, env, S1, he.mono e1, s1, p1⟩⟩
    · simp only [VR] at q1
      exact ⟨false, q1, p1 ι1 H1 _ .refl s1 (by simp only [VR])⟩
    · exact p1.elim
theorem je_or {a b : Expr} {rest : List Expr} {m n : ME} (h : PE X a (tM C W m)) (h2 : PE X (.BoolOp .Or (b :: rest) pos) (tM C W n)) : PE X (.BoolOp .Or (a :: b :: rest) pos) (tM C W (mOrE m n)) :=
  peImp (pe_or h h2) fun σ H Q h => by
    obtain ⟨ι, env, S, he, hs, hp⟩ := h
    refine ⟨ι, env, S, he, hs, Post.bind hp fun x S1 ι1 H1 v e1 s1 q1 p1 => ?_⟩
    split at p1
    · simp only [VR] at q1
      exact ⟨true, q1, p1 ι1 H1 _ .refl s1 (by simp only [VR])⟩
    · simp only [VR] at q1
      exact ⟨false, q1, ⟨ι1, env, S1, he.mono e1, s1, p1⟩⟩
    · exact p1.elim
def mIf {α : Type} (c : MB) (a b : Env → Sto → Res α) : Env → Sto → Res α := fun env S => (c env S).bind fun x S1 => if x = true then a env S1 else b env S1
theorem je_if {c a b : Expr} {mc : MB} {ma mb : ME} (hc : PT X c (tMB C W mc)) (ha : PE X a (tM C W ma)) (hb : PE X b (tM C W mb)) : PE X (.IfExp c a b pos) (tM C W (mIf mc ma mb)) :=
  peImp (pe_ifExp hc ha hb) fun σ H Q h => by
    obtain ⟨ι, env, S, he, hs, hp⟩ := h
    refine ⟨ι, env, S, he, hs, Post.bind hp fun x S1 ι1 H1 v e1 s1 q1 p1 => ?_⟩
    subst q1
    cases v with
    | true => exact ⟨ι1, env, S1, he.mono e1, s1, p1⟩
    | false => exact ⟨ι1, env, S1, he.mono e1, s1, p1⟩

/-! ### argument lists -/
def mNil : MA := fun _ S => .ok [] S
def mCons (a : ME) (r : MA) : MA := fun env S => (a env S).bind fun x S1 => (r env S1).bind fun xs S2 => .ok (x :: xs) S2
theorem ja_nil : PA X [] (tMA C W mNil) := paImp pa_nil fun σ H Q h => by
  obtain ⟨ι, env, S, he, hs, hp⟩ := h
  exact hp ι H [] .refl hs (by simp only [VRs])
theorem ja_cons {e : Expr} {es : List Expr} {a : ME} {r : MA} (ha : PE X e (tM C W a)) (hr : PA X es (tMA C W r)) (hs : starEach (e :: es) X.env = (false, eval e X.env) :: starEach es X.env := by rfl) : PA X (e :: es) (tMA C W (mCons a r)) :=
  paImp (pa_cons ha hr hs) fun σ H Q h => by
    obtain ⟨ι, env, S, he, hs, hp⟩ := h
    refine ⟨ι, env, S, he, hs, Post.bind hp fun x S1 ι1 H1 v e1 s1 q1 p1 => ?_⟩
    refine ⟨ι1, env, S1, he.mono e1, s1, Post.bind p1 fun y S2 ι2 H2 u e2 s2 q2 p2 => ?_⟩
    exact p2 ι2 H2 (v :: u) .refl s2 (by simp only [VRs]; exact ⟨v, u, rfl, q1.mono e2, q2⟩)
end
end Mi

namespace Mi
open PySem L2

/-! ### statements -/
def sBind {α : Type} (r : Res α) (env : Env) (k : α → Sto → SRes) : SRes := match r with
  | .ok a S => k a S
  | .ex x S => .ex x env S
  | .bad => .bad
@[simp] theorem sBind_ok {α : Type} (a : α) (S : Sto) (env : Env) (k : α → Sto → SRes) : sBind (.ok a S) env k = k a S := rfl
@[simp] theorem sBind_ex {α : Type} (x : MX) (S : Sto) (env : Env) (k : α → Sto → SRes) : sBind (.ex x S) env k = .ex x env S := rfl
@[simp] theorem sBind_bad {α : Type} (env : Env) (k : α → Sto → SRes) : sBind (.bad : Res α) env k = .bad := rfl
theorem SPost.bind {α β : Type} {C : Ct} {W : WX} {R : Io → Hp → α → β → Prop} {ι : Io} {σ : L2.St} {H : Hp} {env : Env} {r : Res α} {k : α → Sto → SRes} {D : Ends} {Q' : β → Hp → Prop} (he : EnvR C ι H env σ) (h : SPost C W ι H (sBind r env k) D)
    (hk : ∀ x S1 ι1 H1 v, Ext ι H ι1 H1 → StR C ι1 S1 H1 → R ι1 H1 x v → SPost C W ι1 H1 (k x S1) D → Q' v H1) : Post C W R ι σ H r Q' := by
  cases r with
  | ok x S => exact fun ι1 H1 v e s q => hk x S ι1 H1 v e s q (h.mono e)
  | ex x S => exact fun ι1 H1 c d e s q => h ι1 H1 σ c d e s (he.mono e) q
  | bad => exact h
def sSeq (a b : MSt) : MSt := fun env S => match a env S with
  | .nx e S1 => b e S1
  | r => r
def sNext : MSt := fun env S => .nx env S
def sBad : MSt := fun _ _ => .bad
def sRet (m : ME) : MSt := fun env S => sBind (m env S) env fun v S1 => .rt v S1
def sRetN : MSt := fun env S => .rt .non S
def sDrop (m : ME) : MSt := fun env S => sBind (m env S) env fun _ S1 => .nx env S1
def sIf (c : MB) (a b : MSt) : MSt := fun env S => sBind (c env S) env fun x S1 => if x = true then a env S1 else b env S1
def sBreak : MSt := fun env S => .bk env S
def sCont : MSt := fun env S => .ct env S
section
variable {X : Cx} {C : Ct} {W : WX} {pos : Pos}
theorem js_nil : PSs X [] (tMS C W sNext) := pssImp pss_nil fun D σ H h => by
  obtain ⟨ι, env, S, he, hs, hp⟩ := h
  exact hp ι H σ .refl hs he
theorem js_seq {a b : MSt} {D : Ends} {σ : L2.St} {H : Hp} (h : tMS C W (sSeq a b) D σ H) : tSeq (tMS C W a) (tMS C W b) D σ H := by
  obtain ⟨ι, env, S, he, hs, hp⟩ := h
  refine ⟨ι, env, S, he, hs, ?_⟩
  unfold sSeq at hp
  cases e : a env S with
  | nx e1 S1 =>
    rw [e] at hp
    intro ι1 H1 σ1 x1 s1 r1
    exact ⟨ι1, e1, S1, r1, s1, hp.mono x1⟩
  | rt v S1 => rw [e] at hp; exact hp
  | bk e1 S1 => rw [e] at hp; exact hp
  | ct e1 S1 => rw [e] at hp; exact hp
  | ex x e1 S1 => rw [e] at hp; exact hp
  | bad => rw [e] at hp; exact hp
theorem js_cons {st : Stmt} {rest : List Stmt} {a b : MSt} (h1 : PS X st (tMS C W a)) (h2 : PSs X rest (tMS C W b)) : PSs X (st :: rest) (tMS C W (sSeq a b)) :=
  pssImp (pss_cons h1 h2) fun _ _ _ => js_seq
theorem js_one {st : Stmt} {a : MSt} (h1 : PS X st (tMS C W a)) : PSs X [st] (tMS C W a) := pss_one h1
/-- what the proof never comes to -/
theorem js_never {st : Stmt} : PS X st (tMS C W sBad) := psImp ps_never fun D σ H h => by
  obtain ⟨ι, env, S, he, hs, hp⟩ := h
  exact hp
theorem js_nevers {st : List Stmt} : PSs X st (tMS C W sBad) := pssImp pss_never fun D σ H h => by
  obtain ⟨ι, env, S, he, hs, hp⟩ := h
  exact hp
theorem js_pass : PS X (.Pass pos) (tMS C W sNext) := psImp ps_pass fun D σ H h => by
  obtain ⟨ι, env, S, he, hs, hp⟩ := h
  exact hp ι H σ .refl hs he
theorem js_break : PS X (.Break pos) (tMS C W sBreak) := psImp ps_break fun D σ H h => by
  obtain ⟨ι, env, S, he, hs, hp⟩ := h
  exact hp ι H σ .refl hs he
theorem js_cont : PS X (.Continue pos) (tMS C W sCont) := psImp ps_continue fun D σ H h => by
  obtain ⟨ι, env, S, he, hs, hp⟩ := h
  exact hp ι H σ .refl hs he
theorem js_ret {e : Expr} {m : ME} (h : PE X e (tM C W m)) : PS X (.Return (some e) pos) (tMS C W (sRet m)) := psImp (ps_ret h) fun D σ H h => by
  obtain ⟨ι, env, S, he, hs, hp⟩ := h
  exact ⟨ι, env, S, he, hs, SPost.bind he hp fun x S1 ι1 H1 v e1 s1 q1 p1 => p1 ι1 H1 v .refl s1 q1⟩
theorem js_retN : PS X (.Return none pos) (tMS C W sRetN) := psImp ps_retN fun D σ H h => by
  obtain ⟨ι, env, S, he, hs, hp⟩ := h
  exact hp ι H .non .refl hs (by simp only [VR])
theorem js_expr {e : Expr} {m : ME} (h : PE X e (tM C W m)) (hs : swapsWith e none pos.line X.env = pure false := by rfl) : PS X (.Expr e pos) (tMS C W (sDrop m)) := psImp (ps_expr h hs) fun D σ H h => by
  obtain ⟨ι, env, S, he, hs, hp⟩ := h
  exact ⟨ι, env, S, he, hs, SPost.bind he hp fun x S1 ι1 H1 v e1 s1 q1 p1 => p1 ι1 H1 σ .refl s1 (he.mono e1)⟩
theorem js_if {c : Expr} {a b : List Stmt} {mc : MB} {ma mb : MSt} (hc : PT X c (tMB C W mc)) (ha : PSs X a (tMS C W ma)) (hb : PSs X b (tMS C W mb)) : PS X (.If c a b pos) (tMS C W (sIf mc ma mb)) := psImp (ps_if hc ha hb) fun D σ H h => by
  obtain ⟨ι, env, S, he, hs, hp⟩ := h
  refine ⟨ι, env, S, he, hs, SPost.bind he hp fun x S1 ι1 H1 v e1 s1 q1 p1 => ?_⟩
  subst q1
  cases v with
  | true => exact ⟨ι1, env, S1, he.mono e1, s1, p1⟩
  | false => exact ⟨ι1, env, S1, he.mono e1, s1, p1⟩

/-! ### targets -/
abbrev MG := MV → Env → Option Env
abbrev MGs := List MV → Env → Option Env
/-- the same slots but these -/
def ButS (ws : List Nat) (σ σ' : L2.St) : Prop := σ'.length = σ.length ∧ ∀ (j : Nat), j ∉ ws → σ'[j]? = σ[j]?
def tMG (C : Ct) (ws : List Nat) (g : MG) : TG := fun v σ H Q => ∃ ι env S x, EnvR C ι H env σ ∧ StR C ι S H ∧ VR C ι H x v ∧ match g x env with
  | some e1 => ∀ σ', EnvR C ι H e1 σ' → ButS ws σ σ' → Q σ' H
  | none => False
def tMGs (C : Ct) (ws : List Nat) (g : MGs) : TGs := fun vs σ H Q => ∃ ι env S xs, EnvR C ι H env σ ∧ StR C ι S H ∧ VRs C ι H xs vs ∧ match g xs env with
  | some e1 => ∀ σ', EnvR C ι H e1 σ' → ButS ws σ σ' → Q σ' H
  | none => False
theorem pgImp {tg : Expr} {t t' : TG} (h : PG X tg t) (i : ∀ v σ H Q, t' v σ H Q → t v σ H Q) : PG X tg t' := ⟨fun pins s σ H v u Q I r q => h.run pins s σ H v u Q I r (i v σ H Q q)⟩
theorem pgsImp {tg : List Expr} {t t' : TGs} (h : PGs X tg t) (i : ∀ v σ H Q, t' v σ H Q → t v σ H Q) : PGs X tg t' := ⟨fun pins s σ H v u Q I r q => h.run pins s σ H v u Q I r (i v σ H Q q)⟩
theorem pgOr {tg : Expr} {t t' : TG} (h : PG X tg t) (h' : PG X tg t') : PG X tg (fun v σ H Q => t v σ H Q ∨ t' v σ H Q) :=
  ⟨fun pins s σ H v u Q I r q => q.elim (h.run pins s σ H v u Q I r) (h'.run pins s σ H v u Q I r)⟩
def gN (i : Nat) : MG := fun v env => some (env.set i (some v))
def gNl : MGs := fun xs env => match xs with
  | [] => some env
  | _ => none
def gCs (g : MG) (r : MGs) : MGs := fun xs env => match xs with
  | x :: xr => (g x env).bind fun e1 => r xr e1
  | [] => none
/-- a tuple or a list that stands still, taken apart -/
def gT (n : Nat) (g : MGs) : MG := fun v env => match v with
  | .tup xs => if xs.length = n then g xs env else none
  | .lst xs => if xs.length = n then g xs env else none
  | _ => none
theorem jg_n {i : Nat} {x : Str} (hN : X.N.Nodup) (hi : X.N[i]? = some x := by rfl) (hx : Loc X.env.scope x := by first | exact Or.inl rfl | exact Or.inr rfl) (hf : X.fn x = true ∨ X.env.scope.names.lookup x = some .local := by first | exact .inl rfl | exact .inr rfl | assumption) : PG X (.Name x pos) (tMG C [i] (gN i)) :=
  pgImp (pg_name hN hi hx hf) fun v σ H Q h => by
    obtain ⟨ι, env, S, y, he, hs, r, h⟩ := h
    exact h _ (he.set r i) ⟨by simp, fun j hj => List.getElem?_set_ne (fun e => hj (by simp [e]))⟩
theorem jgs_nil : PGs X [] (tMGs C [] gNl) := pgsImp pgs_nil fun v σ H Q h => by
  obtain ⟨ι, env, S, xs, he, hs, r, h⟩ := h
  cases xs with
  | nil => simp only [VRs] at r; exact ⟨r, h σ he ⟨rfl, fun _ _ => rfl⟩⟩
  | cons => exact h.elim
theorem jgs_cons {e : Expr} {es : List Expr} {g : MG} {r : MGs} {ws ws2 : List Nat} (h1 : PG X e (tMG C ws g)) (h2 : PGs X es (tMGs C ws2 r)) (hs : (assignEach (e :: es) X.env).map (·.2) = assign e X.env :: (assignEach es X.env).map (·.2) := by rfl) : PGs X (e :: es) (tMGs C (ws ++ ws2) (gCs g r)) :=
  pgsImp (pgs_cons h1 h2 hs) fun v σ H Q h => by
    obtain ⟨ι, env, S, xs, he, hs, rr, h⟩ := h
    cases xs with
    | nil => exact h.elim
    | cons x xr =>
      simp only [VRs] at rr
      obtain ⟨u, w, rfl, r1, r2⟩ := rr
      refine ⟨u, w, rfl, ι, env, S, x, he, hs, r1, ?_⟩
      simp only [gCs] at h
      cases e : g x env with
      | none => rw [e] at h; exact h
      | some e1 =>
        rw [e] at h
        intro σ' he' hb
        refine ⟨ι, e1, S, xr, he', hs, r2, ?_⟩
        simp only [Option.bind_some] at h
        cases e2 : r xr e1 with
        | none => rw [e2] at h; exact h
        | some e3 =>
          rw [e2] at h
          exact fun σ2 h2 hb2 => h σ2 h2 ⟨hb2.1.trans hb.1, fun j hj => (hb2.2 j fun z => hj (List.mem_append_right _ z)).trans (hb.2 j fun z => hj (List.mem_append_left _ z))⟩
theorem jg_t {es : List Expr} {k : Nat} {g : MGs} {n : Nat} {ws : List Nat} (hK : X.K = C.K) (hc : X.calm = true) (h : PGs X es (tMGs C ws g)) (hn : (assignEach es X.env).length = n := by rfl) (hst : (assignEach es X.env).findIdx? (·.1) = none := by rfl) : PG X (.Tuple es k pos) (tMG C ws (gT n g)) :=
  pgImp (pgOr (pg_tup hc h hn hst) (pg_lst hc h hn hst)) fun v σ H Q h => by
    obtain ⟨ι, env, S, x, he, hs, r, h⟩ := h
    cases x with
    | tup xs =>
      simp only [VR] at r
      obtain ⟨a, vs, rfl, h1, h2⟩ := r
      simp only [gT] at h
      split at h
      · rename_i e1 heq
        split at heq
        · rename_i hl
          refine .inl ⟨a, vs, rfl, by rw [hK]; exact h1.sq, by rw [h2.len]; exact hl, ι, env, S, xs, he, hs, h2, ?_⟩
          rw [heq]
          exact h
        · cases heq
      · exact h.elim
    | lst xs =>
      simp only [VR] at r
      obtain ⟨a, vs, rfl, h0, h1, h2⟩ := r
      simp only [gT] at h
      split at h
      · rename_i e1 heq
        split at heq
        · rename_i hl
          refine .inr ⟨a, vs, rfl, SqL.of h1, by rw [h2.len]; exact hl, ι, env, S, xs, he, hs, h2, ?_⟩
          rw [heq]
          exact h
        · cases heq
      · exact h.elim
    | _ => exact h.elim

/-! ### assignments to names -/
def sSet (i : Nat) (m : ME) : MSt := fun env S => sBind (m env S) env fun v S1 => .nx (env.set i (some v)) S1
def sAsg (g : MG) (m : ME) : MSt := fun env S => sBind (m env S) env fun v S1 => match g v env with
  | some e1 => .nx e1 S1
  | none => .bad
theorem asg_name {i : Nat} {m : ME} {D : Ends} {σ : L2.St} {H : Hp} (h : tMS C W (sSet i m) D σ H) : tAsg (tM C W m) (gName i) D σ H := by
  obtain ⟨ι, env, S, he, hs, hp⟩ := h
  exact ⟨ι, env, S, he, hs, SPost.bind he hp fun x S1 ι1 H1 v e1 s1 q1 p1 => p1 ι1 H1 _ .refl s1 ((he.mono e1).set q1 i)⟩
theorem js_set {i : Nat} {x : Str} {e : Expr} {m : ME} {pos' : Pos} (hN : X.N.Nodup) (h : PE X e (tM C W m)) (hi : X.N[i]? = some x := by rfl) (hx : Loc X.env.scope x := by first | exact Or.inl rfl | exact Or.inr rfl) (hs : swapsWith e (some (.Name x pos')) pos.line X.env = pure false := by rfl) (hf : X.fn x = true ∨ X.env.scope.names.lookup x = some .local := by first | exact .inl rfl | exact .inr rfl | assumption) :
    PS X (.Assign [.Name x pos'] e pos) (tMS C W (sSet i m)) := psImp (ps_set hN hi hx h hs hf) fun _ _ _ => asg_name
theorem js_asg {tg e : Expr} {m : ME} {g : MG} {ws : List Nat} (h : PE X e (tM C W m)) (hg : PG X tg (tMG C ws g)) (hs : swapsWithSole [tg] e pos.line X.env = pure false := by rfl) (hw : swappedStores [tg] e X.env = pure none := by rfl) (h1 : (assignEach [tg] X.env).map (·.2) = [assign tg X.env] := by rfl) :
    PS X (.Assign [tg] e pos) (tMS C W (sAsg g m)) := psImp (ps_asg h hg hs hw h1) fun D σ H h => by
  obtain ⟨ι, env, S, he, hs, hp⟩ := h
  refine ⟨ι, env, S, he, hs, SPost.bind he hp fun x S1 ι1 H1 v e1 s1 q1 p1 => ?_⟩
  refine ⟨ι1, env, S1, x, he.mono e1, s1, q1, ?_⟩
  cases e : g x env with
  | none => rw [e] at p1; exact p1
  | some e2 =>
    rw [e] at p1
    intro σ' he' _
    exact p1 ι1 H1 σ' .refl s1 he'
/-- a, b = x, y -/
def sPar (i j : Nat) (a b : ME) : MSt := fun env S => sBind (a env S) env fun x S1 => sBind (b env S1) env fun y S2 => .nx ((env.set i (some x)).set j (some y)) S2
theorem js_par {i j : Nat} {x y : Str} {a b : Expr} {ma mb : ME} {px py pt : Pos} {kt k2 pt2} (hc : X.calm = true) (hN : X.N.Nodup) (ha : PE X a (tM C W ma)) (hb : PE X b (tM C W mb)) (hi : X.N[i]? = some x := by rfl) (hj : X.N[j]? = some y := by rfl) (hij : i ≠ j := by decide)
    (hx : X.env.scope.names.lookup x = some .local := by rfl) (hy : X.env.scope.names.lookup y = some .local := by rfl)
    (hw : swappedStores [.Tuple [.Name x px, .Name y py] kt pt] (.Tuple [a, b] k2 pt2) X.env = pure (some [x, y]) := by rfl)
    (hs : swapsWithSole [.Tuple [.Name x px, .Name y py] kt pt] (.Tuple [a, b] k2 pt2) pos.line X.env = pure false := by rfl)
    (hse : starEach [a, b] X.env = (false, eval a X.env) :: starEach [b] X.env := by rfl) (hse2 : starEach [b] X.env = (false, eval b X.env) :: starEach [] X.env := by rfl) :
    PS X (.Assign [.Tuple [.Name x px, .Name y py] kt pt] (.Tuple [a, b] k2 pt2) pos) (tMS C W (sPar i j ma mb)) :=
  psImp (ps_par hc hN hi hj hij hx hy (pa_cons ha (pa_cons hb pa_nil hse2) hse) hw hs) fun D σ H h => by
    obtain ⟨ι, env, S, he, hs, hp⟩ := h
    refine ⟨ι, env, S, he, hs, SPost.bind he hp fun x S1 ι1 H1 v e1 s1 q1 p1 => ?_⟩
    refine ⟨ι1, env, S1, he.mono e1, s1, SPost.bind (he.mono e1) p1 fun y S2 ι2 H2 u e2 s2 q2 p2 => ?_⟩
    exact ⟨v, u, rfl, p2 ι2 H2 _ .refl s2 ((((he.mono e1).mono e2).set (q1.mono e2) i).set q2 j)⟩

/-! ### what is walked -/
structure Itv where
  items : List MV
  deps : List (Nat × List MV)
def Itv.chk (t : Itv) (S : Sto) : Prop := ∀ p ∈ t.deps, S[p.1]? = some (.lst p.2)
def WalkOk (C : Ct) (ι : Io) (H : Hp) (t : Itv) (J : It) : Prop := ∃ (G : Hp → Prop) (Y : Nat → Hp → V → Hp → Prop), Walk J t.items.length G Y ∧
  (∀ ι' S' H', Ext ι H ι' H' → StR C ι' S' H' → t.chk S' → G H') ∧
  (∀ i ι' S' H1 x H2, Ext ι H ι' H1 → StR C ι' S' H1 → t.chk S' → i < t.items.length → Y i H1 x H2 → ∃ mv, t.items[i]? = some mv ∧ Ext ι' H1 ι' H2 ∧ StR C ι' S' H2 ∧ VR C ι' H2 mv x)
def tMI (C : Ct) (W : WX) (m : Env → Sto → Res Itv) : TI := fun σ H R => ∃ ι env S, EnvR C ι H env σ ∧ StR C ι S H ∧ Post C W (fun ι H => WalkOk C ι H) ι σ H (m env S) R
open Classical in
noncomputable def forL (t : Itv) (g : MG) (mb : MSt) : List MV → Env → Sto → SRes
  | [], env, S => if t.chk S then .nx env S else .bad
  | v :: vs, env, S => if t.chk S then (match g v env with
    | none => .bad
    | some e1 => match mb e1 S with
      | .nx e2 S2 => forL t g mb vs e2 S2
      | .ct e2 S2 => forL t g mb vs e2 S2
      | .bk e2 S2 => .nx e2 S2
      | .rt v S2 => .rt v S2
      | .ex x e2 S2 => .ex x e2 S2
      | .bad => .bad) else .bad
noncomputable def sFor (mi : Env → Sto → Res Itv) (g : MG) (mb : MSt) : MSt := fun env S => sBind (mi env S) env fun t S1 => forL t g mb t.items env S1
theorem for_core {t : Itv} {J : It} {g : MG} {ws : List Nat} {mb : MSt} {D : Ends} {ι : Io} {σ : L2.St} {H : Hp} {env : Env} {S : Sto} (he : EnvR C ι H env σ) (hs : StR C ι S H) (w : WalkOk C ι H t J) (hp : SPost C W ι H (forL t g mb t.items env S) D) :
    ∃ W' : Nat → Nat → L2.St → Hp → Prop, (∃ m, W' 0 m σ H) ∧ ∀ i m σ H, W' i m σ H →
      (J.stop i H ∧ D.nx σ H) ∨ (J.go i H ∧ ∃ N : L2.St → Hp → Prop, (∀ σ' H', N σ' H' → ∃ m', m' < m ∧ W' (i + 1) m' σ' H') ∧ ∀ x H', J.yld i H x H' → tMG C ws g x σ H' fun σ2 H2 => tMS C W mb { D with nx := N, ct := N, bk := D.nx } σ2 H2) := by
  obtain ⟨G, Y, wk, hG, hY⟩ := w
  refine for_it wk (fun i σ' H' => ∃ ι' env' S', Ext ι H ι' H' ∧ EnvR C ι' H' env' σ' ∧ StR C ι' S' H' ∧ SPost C W ι' H' (forL t g mb (t.items.drop i) env' S') D) ⟨ι, env, S, .refl, he, hs, by rw [List.drop_zero]; exact hp⟩ ?_ ?_ ?_
  · rintro i σ' H' hi ⟨ι', env', S', e1, he', hs', hp'⟩
    have hc : t.chk S' := by
      cases hd : t.items.drop i with
      | nil => rw [hd] at hp'; unfold forL at hp'; split at hp'; assumption; exact hp'.elim
      | cons v vs => rw [hd] at hp'; unfold forL at hp'; split at hp'; assumption; exact hp'.elim
    exact hG ι' S' H' e1 hs' hc
  · rintro i x σ' H' H2 hi ⟨ι', env', S', e1, he', hs', hp'⟩ y
    rw [List.drop_eq_getElem_cons hi] at hp'
    unfold forL at hp'
    split at hp'
    · rename_i hc
      obtain ⟨mv, em, e2, s2, r2⟩ := hY i ι' S' H' x H2 e1 hs' hc hi y
      have : t.items[i] = mv := by rw [List.getElem?_eq_getElem hi] at em; exact Option.some.inj em
      rw [this] at hp'
      refine ⟨ι', env', S', mv, he'.mono e2, s2, r2, ?_⟩
      cases eg : g mv env' with
      | none => rw [eg] at hp'; exact hp'
      | some en =>
        rw [eg] at hp'
        intro σ2 he2 _
        refine ⟨ι', en, S', he2, s2, ?_⟩
        have hp2 := hp'.mono e2
        simp only at hp2
        cases eb : mb en S' with
        | nx e3 S3 =>
          rw [eb] at hp2
          exact fun ι3 H3 σ3 x3 s3 r3 => ⟨ι3, e3, S3, (e1.trans e2).trans x3, r3, s3, hp2.mono x3⟩
        | ct e3 S3 =>
          rw [eb] at hp2
          exact fun ι3 H3 σ3 x3 s3 r3 => ⟨ι3, e3, S3, (e1.trans e2).trans x3, r3, s3, hp2.mono x3⟩
        | bk e3 S3 => rw [eb] at hp2; exact hp2
        | rt v S3 => rw [eb] at hp2; exact hp2
        | ex x e3 S3 => rw [eb] at hp2; exact hp2
        | bad => rw [eb] at hp2; exact hp2
    · exact hp'.elim
  · rintro σ' H' ⟨ι', env', S', e1, he', hs', hp'⟩
    rw [List.drop_length] at hp'
    unfold forL at hp'
    split at hp'
    · exact hp' ι' H' σ' .refl hs' he'
    · exact hp'.elim
theorem js_for {tg iter : Expr} {body : List Stmt} {mi : Env → Sto → Res Itv} {g : MG} {ws : List Nat} {mb : MSt} (hp : PassesOwn (model X.prog X.w) X.A X.env X.xe) (hc : X.calm = true) (hi : PI X tg iter (tMI C W mi)) (hg : PG X tg (tMG C ws g)) (hb : PSs X body (tMS C W mb))
    (hs : ∀ x, foldedSetIterable iter X.env x = pure x := by intro _; rfl) : PS X (.For tg iter body [] pos) (tMS C W (sFor mi g mb)) :=
  psImp (ps_for hp hc hi hg hb hs) fun D σ H h => by
    obtain ⟨ι, env, S, he, hs, hp⟩ := h
    refine ⟨ι, env, S, he, hs, SPost.bind he hp fun t S1 ι1 H1 J e1 s1 q1 p1 => ?_⟩
    exact for_core (he.mono e1) s1 q1 p1

/-! ### while -/
def whileL (c : MB) (mb : MSt) : Nat → Env → Sto → SRes
  | 0, _, _ => .bad
  | n + 1, env, S => sBind (c env S) env fun x S1 => if x = true then (match mb env S1 with
    | .nx e2 S2 => whileL c mb n e2 S2
    | .ct e2 S2 => whileL c mb n e2 S2
    | .bk e2 S2 => .nx e2 S2
    | .rt v S2 => .rt v S2
    | .ex x e2 S2 => .ex x e2 S2
    | .bad => .bad) else .nx env S1
open Classical in
noncomputable def sWhile (c : MB) (mb : MSt) : MSt := fun env S => if h : ∃ n, whileL c mb n env S ≠ .bad then whileL c mb (Classical.choose h) env S else .bad
theorem whileL_more {c : MB} {mb : MSt} : ∀ (n : Nat) (env : Env) (S : Sto), whileL c mb n env S ≠ .bad → ∀ k, whileL c mb (n + k) env S = whileL c mb n env S
  | 0, _, _, h, _ => absurd rfl h
  | n + 1, env, S, h, k => by
    rw [show n + 1 + k = (n + k) + 1 from by omega]
    unfold whileL at h ⊢
    cases e : c env S with
    | ok b S1 =>
      rw [e] at h
      simp only [sBind_ok] at h ⊢
      cases b with
      | false => rfl
      | true =>
        simp only [if_true] at h ⊢
        cases e2 : mb env S1 with
        | nx e3 S3 => rw [e2] at h; exact whileL_more n e3 S3 h k
        | ct e3 S3 => rw [e2] at h; exact whileL_more n e3 S3 h k
        | _ => rfl
    | ex x S1 => rfl
    | bad => rw [e] at h; exact absurd rfl h
theorem sWhile_eq {c : MB} {mb : MSt} {env : Env} {S : Sto} (n : Nat) (h : whileL c mb n env S ≠ .bad) : sWhile c mb env S = whileL c mb n env S := by
  have hx : ∃ n, whileL c mb n env S ≠ .bad := ⟨n, h⟩
  unfold sWhile
  rw [dif_pos hx]
  have h2 := Classical.choose_spec hx
  have a := whileL_more n env S h (Classical.choose hx)
  have b := whileL_more (Classical.choose hx) env S h2 n
  rw [← a, ← b, Nat.add_comm]
theorem js_while {c : Expr} {body : List Stmt} {mc : MB} {mb : MSt} (hp : PassesOwn (model X.prog X.w) X.A X.env X.xe) (hc : PT X c (tMB C W mc)) (hb : PSs X body (tMS C W mb)) : PS X (.While c body [] pos) (tMS C W (sWhile mc mb)) :=
  psImp (ps_while hp hc hb) fun D σ H h => by
    obtain ⟨ι, env, S, he, hs, hp⟩ := h
    have key : ∃ n, SPost C W ι H (whileL mc mb n env S) D := by
      unfold sWhile at hp
      split at hp
      · exact ⟨_, hp⟩
      · exact hp.elim
    obtain ⟨n0, hp⟩ := key
    refine ⟨fun n σ' H' => ∃ ι' env' S', EnvR C ι' H' env' σ' ∧ StR C ι' S' H' ∧ SPost C W ι' H' (whileL mc mb n env' S') D, ⟨n0, ι, env, S, he, hs, hp⟩, ?_⟩
    rintro n σ' H' ⟨ι', env', S', he', hs', hp'⟩
    cases n with
    | zero => exact hp'.elim
    | succ n =>
      unfold whileL at hp'
      refine ⟨ι', env', S', he', hs', SPost.bind he' hp' fun x S1 ι1 H1 v e1 s1 q1 p1 => ?_⟩
      subst q1
      cases v with
      | false => exact p1 ι1 H1 σ' .refl s1 (he'.mono e1)
      | true =>
        refine ⟨fun σ2 H2 => ∃ ι2 env2 S2, EnvR C ι2 H2 env2 σ2 ∧ StR C ι2 S2 H2 ∧ SPost C W ι2 H2 (whileL mc mb n env2 S2) D, fun σ2 H2 q => ⟨n, Nat.lt_succ_self n, q⟩, ?_⟩
        refine ⟨ι1, env', S1, he'.mono e1, s1, ?_⟩
        simp only [if_true] at p1
        cases eb : mb env' S1 with
        | nx e3 S3 => rw [eb] at p1; exact fun ι3 H3 σ3 x3 s3 r3 => ⟨ι3, e3, S3, r3, s3, p1.mono x3⟩
        | ct e3 S3 => rw [eb] at p1; exact fun ι3 H3 σ3 x3 s3 r3 => ⟨ι3, e3, S3, r3, s3, p1.mono x3⟩
        | bk e3 S3 => rw [eb] at p1; exact p1
        | rt v S3 => rw [eb] at p1; exact p1
        | ex x e3 S3 => rw [eb] at p1; exact p1
        | bad => rw [eb] at p1; exact p1
end
end Mi

namespace Mi
open PySem L2

/-! ### leaving a def: what was made within becomes a value -/
mutual
/-- no place from n on -/
def Cl (n : Nat) : MV → Prop
  | .tup xs => ClL n xs
  | .lst xs => ClL n xs
  | .rol xs => ClL n xs
  | .dic kvs => Clk n kvs
  | .ins _ fs => Clf n fs
  | .ref l => l < n
  | .clo _ cs => ClL n cs
  | _ => True
def ClL (n : Nat) : List MV → Prop
  | [] => True
  | x :: r => Cl n x ∧ ClL n r
def Clk (n : Nat) : List (MV × MV) → Prop
  | [] => True
  | p :: r => Clp n p ∧ Clk n r
def Clp (n : Nat) : MV × MV → Prop
  | (_, x) => Cl n x
def Clf (n : Nat) : List (Str × MV) → Prop
  | [] => True
  | p :: r => Clg n p ∧ Clf n r
def Clg (n : Nat) : Str × MV → Prop
  | (_, x) => Cl n x
end
def ClO (n : Nat) : MO → Prop
  | .lst xs => ClL n xs
  | .dic kvs => Clk n kvs
  | .ins _ fs => Clf n fs
section
variable {C : Ct} {ι : Io} {H : Hp}
mutual
theorem VR.closed : ∀ (x : MV) (v : V), VR C ι H x v → Cl ι.length x
  | .non, v, h => by simp only [Cl]
  | .bl _, v, h => by simp only [Cl]
  | .int _, v, h => by simp only [Cl]
  | .str _, v, h => by simp only [Cl]
  | .ty _, v, h => by simp only [Cl]
  | .fn _, v, h => by simp only [Cl]
  | .clo _ _, v, h => by simp only [VR] at h
  | .tup xs, v, h => by
    simp only [VR] at h
    obtain ⟨a, vs, h1, h2, h3⟩ := h
    simp only [Cl]; exact VRs.closed xs vs h3
  | .lst xs, v, h => by
    simp only [VR] at h
    obtain ⟨a, vs, h1, h2, h3, h4⟩ := h
    simp only [Cl]; exact VRs.closed xs vs h4
  | .rol xs, v, h => by
    simp only [VR] at h
    obtain ⟨a, vs, h1, h2, h3⟩ := h
    simp only [Cl]; exact VRs.closed xs vs h3
  | .dic kvs, v, h => by
    simp only [VR] at h
    obtain ⟨a, kx, h1, h2, h3, h4⟩ := h
    simp only [Cl]; exact KRs.closed kvs kx h4
  | .ins c fs, v, h => by
    simp only [VR] at h
    obtain ⟨a, dx, fx, h1, h2, h3, h4⟩ := h
    simp only [Cl]; exact FRs.closed fs fx h4
  | .ref l, v, h => by
    simp only [VR] at h
    obtain ⟨a, h1, h2⟩ := h
    simp only [Cl]; exact (List.getElem?_eq_some_iff.mp h2).1
theorem VRs.closed : ∀ (x : List MV) (v : List V), VRs C ι H x v → ClL ι.length x
  | [], v, h => by simp only [ClL]
  | x :: r, v, h => by
    simp only [VRs] at h
    obtain ⟨u, w, h1, h2, h3⟩ := h
    simp only [ClL]; exact ⟨VR.closed x u h2, VRs.closed r w h3⟩
theorem KRs.closed : ∀ (x : List (MV × MV)) (v : List (Key × V)), KRs C ι H x v → Clk ι.length x
  | [], v, h => by simp only [Clk]
  | x :: r, v, h => by
    simp only [KRs] at h
    obtain ⟨u, w, h1, h2, h3⟩ := h
    simp only [Clk]; exact ⟨KR.closed x u h2, KRs.closed r w h3⟩
theorem KR.closed : ∀ (x : MV × MV) (v : Key × V), KR C ι H x v → Clp ι.length x
  | (k, x), v, h => by
    simp only [KR] at h
    simp only [Clp]; exact VR.closed x v.2 h.2
theorem FRs.closed : ∀ (x : List (Str × MV)) (v : List (Str × V)), FRs C ι H x v → Clf ι.length x
  | [], v, h => by simp only [Clf]
  | x :: r, v, h => by
    simp only [FRs] at h
    obtain ⟨u, w, h1, h2, h3⟩ := h
    simp only [Clf]; exact ⟨FR.closed x u h2, FRs.closed r w h3⟩
theorem FR.closed : ∀ (x : Str × MV) (v : Str × V), FR C ι H x v → Clg ι.length x
  | (k, x), v, h => by
    simp only [FR] at h
    simp only [Clg]; exact VR.closed x v.2 h.2
end
/-- a part of the places, the first n of them where they were -/
structure Shr (ι ι2 : Io) (n : Nat) : Prop where
  sub : ∀ b, b ∈ ι2 → b ∈ ι
  at' : ∀ l a, l < n → ι[l]? = some a → ι2[l]? = some a
theorem Shr.take {n : Nat} : Shr ι (ι.take n) n := ⟨fun _ h => List.mem_of_mem_take h, fun l a hl h => by rw [List.getElem?_take_of_lt hl]; exact h⟩
variable {ι2 : Io}
theorem FL.shrink {a : Addr} {xs : List V} {n : Nat} (w : Shr ι ι2 n) (h : FL C ι H a xs) : FL C ι2 H a xs := h.elim (fun h => .inl ⟨fun z => h.1 (w.sub _ z), h.2⟩) .inr
theorem FT.shrink {a : Addr} {xs : List V} {n : Nat} (w : Shr ι ι2 n) (h : FT C ι H a xs) : FT C ι2 H a xs := h.elim (fun h => .inl ⟨fun z => h.1 (w.sub _ z), h.2⟩) .inr
mutual
theorem VR.shrink {n : Nat} (w : Shr ι ι2 n) : ∀ (x : MV) (v : V), Cl n x → VR C ι H x v → VR C ι2 H x v
  | .non, v, _, h => by simpa only [VR] using h
  | .bl _, v, _, h => by simpa only [VR] using h
  | .int _, v, _, h => by simpa only [VR] using h
  | .str _, v, _, h => by simpa only [VR] using h
  | .ty _, v, _, h => by simpa only [VR] using h
  | .fn _, v, _, h => by simpa only [VR] using h
  | .clo _ _, v, _, h => by simp only [VR] at h
  | .tup xs, v, c, h => by
    simp only [VR] at h ⊢
    simp only [Cl] at c
    obtain ⟨a, vs, h1, h2, h3⟩ := h
    exact ⟨a, vs, h1, h2.shrink w, VRs.shrink w xs vs c h3⟩
  | .lst xs, v, c, h => by
    simp only [VR] at h ⊢
    simp only [Cl] at c
    obtain ⟨a, vs, h1, h2, h3, h4⟩ := h
    exact ⟨a, vs, h1, fun z => h2 (w.sub _ z), h3, VRs.shrink w xs vs c h4⟩
  | .rol xs, v, c, h => by
    simp only [VR] at h ⊢
    simp only [Cl] at c
    obtain ⟨a, vs, h1, h2, h3⟩ := h
    exact ⟨a, vs, h1, h2.shrink w, VRs.shrink w xs vs c h3⟩
  | .dic kvs, v, c, h => by
    simp only [VR] at h ⊢
    simp only [Cl] at c
    obtain ⟨a, kx, h1, h2, h3, h4⟩ := h
    exact ⟨a, kx, h1, fun z => h2 (w.sub _ z), h3, KRs.shrink w kvs kx c h4⟩
  | .ins k fs, v, c, h => by
    simp only [VR] at h ⊢
    simp only [Cl] at c
    obtain ⟨a, dx, fx, h1, h2, h3, h4⟩ := h
    exact ⟨a, dx, fx, h1, fun z => h2 (w.sub _ z), h3, FRs.shrink w fs fx c h4⟩
  | .ref l, v, c, h => by
    simp only [VR] at h ⊢
    simp only [Cl] at c
    obtain ⟨a, h1, h2⟩ := h
    exact ⟨a, h1, w.at' l a c h2⟩
theorem VRs.shrink {n : Nat} (w : Shr ι ι2 n) : ∀ (x : List MV) (v : List V), ClL n x → VRs C ι H x v → VRs C ι2 H x v
  | [], v, _, h => by simpa only [VRs] using h
  | x :: r, v, c, h => by
    simp only [VRs] at h ⊢
    simp only [ClL] at c
    obtain ⟨u, t, h1, h2, h3⟩ := h
    exact ⟨u, t, h1, VR.shrink w x u c.1 h2, VRs.shrink w r t c.2 h3⟩
theorem KRs.shrink {n : Nat} (w : Shr ι ι2 n) : ∀ (x : List (MV × MV)) (v : List (Key × V)), Clk n x → KRs C ι H x v → KRs C ι2 H x v
  | [], v, _, h => by simpa only [KRs] using h
  | x :: r, v, c, h => by
    simp only [KRs] at h ⊢
    simp only [Clk] at c
    obtain ⟨u, t, h1, h2, h3⟩ := h
    exact ⟨u, t, h1, KR.shrink w x u c.1 h2, KRs.shrink w r t c.2 h3⟩
theorem KR.shrink {n : Nat} (w : Shr ι ι2 n) : ∀ (x : MV × MV) (v : Key × V), Clp n x → KR C ι H x v → KR C ι2 H x v
  | (k, x), v, c, h => by
    simp only [KR] at h ⊢
    simp only [Clp] at c
    exact ⟨h.1, VR.shrink w x v.2 c h.2⟩
theorem FRs.shrink {n : Nat} (w : Shr ι ι2 n) : ∀ (x : List (Str × MV)) (v : List (Str × V)), Clf n x → FRs C ι H x v → FRs C ι2 H x v
  | [], v, _, h => by simpa only [FRs] using h
  | x :: r, v, c, h => by
    simp only [FRs] at h ⊢
    simp only [Clf] at c
    obtain ⟨u, t, h1, h2, h3⟩ := h
    exact ⟨u, t, h1, FR.shrink w x u c.1 h2, FRs.shrink w r t c.2 h3⟩
theorem FR.shrink {n : Nat} (w : Shr ι ι2 n) : ∀ (x : Str × MV) (v : Str × V), Clg n x → FR C ι H x v → FR C ι2 H x v
  | (k, x), v, c, h => by
    simp only [FR] at h ⊢
    simp only [Clg] at c
    exact ⟨h.1, VR.shrink w x v.2 c h.2⟩
end
theorem OR.closed {a : Addr} {o : MO} (h : OR C ι H a o) : ClO ι.length o := by
  cases o with
  | lst xs => obtain ⟨vs, _, h⟩ := h; exact VRs.closed _ _ h
  | dic xs => obtain ⟨vs, _, h⟩ := h; exact KRs.closed _ _ h
  | ins c xs => obtain ⟨_, vs, _, h⟩ := h; exact FRs.closed _ _ h
theorem OR.shrink {n : Nat} {a : Addr} {o : MO} (w : Shr ι ι2 n) (c : ClO n o) (h : OR C ι H a o) : OR C ι2 H a o := by
  cases o with
  | lst xs => obtain ⟨vs, h1, h⟩ := h; exact ⟨vs, h1, VRs.shrink w _ _ c h⟩
  | dic xs => obtain ⟨vs, h1, h⟩ := h; exact ⟨vs, h1, KRs.shrink w _ _ c h⟩
  | ins k xs => obtain ⟨dx, vs, h1, h⟩ := h; exact ⟨dx, vs, h1, FRs.shrink w _ _ c h⟩
end

/-- through a list, all or none -/
def optL {α β : Type} (f : α → Option β) : List α → Option (List β)
  | [] => some []
  | x :: r => match f x, optL f r with
    | some y, some ys => some (y :: ys)
    | _, _ => none
open Classical in
noncomputable def fz (S : Sto) (n : Nat) : Nat → MV → Option MV
  | 0, v => if Cl n v then some v else none
  | d + 1, v => if Cl n v then some v else match v with
    | .ref l => match S[l]? with
      | some (.lst xs) => (optL (fz S n d) xs).map .lst
      | some (.dic kvs) => (optL (fun p => (fz S n d p.2).map fun y => (p.1, y)) kvs).map .dic
      | some (.ins c fs) => (optL (fun p => (fz S n d p.2).map fun y => (p.1, y)) fs).map (.ins c)
      | none => none
    | .tup xs => (optL (fz S n d) xs).map .tup
    | .lst xs => (optL (fz S n d) xs).map .lst
    | _ => none
theorem fz_cl {S : Sto} {n d : Nat} {v : MV} (h : Cl n v) : fz S n d v = some v := by
  cases d <;> (unfold fz; rw [if_pos h])
section
variable {C : Ct} {ι : Io} {S : Sto} {H : Hp}
theorem optL_vrs {f : MV → Option MV} {n : Nat} (hf : ∀ x y v, f x = some y → VR C ι H x v → VR C (ι.take n) H y v) : ∀ (xs ys : List MV) (vs : List V), optL f xs = some ys → VRs C ι H xs vs → VRs C (ι.take n) H ys vs
  | [], ys, vs, h, r => by
    simp only [optL, Option.some.injEq] at h
    subst h
    simpa only [VRs] using r
  | x :: xr, ys, vs, h, r => by
    simp only [optL] at h
    split at h
    · rename_i y yr e1 e2
      simp only [Option.some.injEq] at h
      subst h
      simp only [VRs] at r ⊢
      obtain ⟨v, w, rfl, r1, r2⟩ := r
      exact ⟨v, w, rfl, hf _ _ _ e1 r1, optL_vrs hf xr yr w e2 r2⟩
    · cases h
theorem optL_krs {f : MV → Option MV} {n : Nat} (hf : ∀ x y v, f x = some y → VR C ι H x v → VR C (ι.take n) H y v) : ∀ (xs ys : List (MV × MV)) (vs : List (Key × V)), optL (fun p => (f p.2).map fun y => (p.1, y)) xs = some ys → KRs C ι H xs vs → KRs C (ι.take n) H ys vs
  | [], ys, vs, h, r => by
    simp only [optL, Option.some.injEq] at h
    subst h
    simpa only [KRs] using r
  | (k, x) :: xr, ys, vs, h, r => by
    simp only [optL] at h
    split at h
    · rename_i y yr e1 e2
      simp only [Option.some.injEq] at h
      subst h
      cases e : f x with
      | none => rw [e] at e1; cases e1
      | some z =>
        rw [e] at e1
        simp only [Option.map_some, Option.some.injEq] at e1
        subst e1
        simp only [KRs, KR] at r ⊢
        obtain ⟨v, w, rfl, r1, r2⟩ := r
        exact ⟨v, w, rfl, ⟨r1.1, hf _ _ _ e r1.2⟩, optL_krs hf xr yr w e2 r2⟩
    · cases h
theorem optL_frs {f : MV → Option MV} {n : Nat} (hf : ∀ x y v, f x = some y → VR C ι H x v → VR C (ι.take n) H y v) : ∀ (xs ys : List (Str × MV)) (vs : List (Str × V)), optL (fun p => (f p.2).map fun y => (p.1, y)) xs = some ys → FRs C ι H xs vs → FRs C (ι.take n) H ys vs
  | [], ys, vs, h, r => by
    simp only [optL, Option.some.injEq] at h
    subst h
    simpa only [FRs] using r
  | (k, x) :: xr, ys, vs, h, r => by
    simp only [optL] at h
    split at h
    · rename_i y yr e1 e2
      simp only [Option.some.injEq] at h
      subst h
      cases e : f x with
      | none => rw [e] at e1; cases e1
      | some z =>
        rw [e] at e1
        simp only [Option.map_some, Option.some.injEq] at e1
        subst e1
        simp only [FRs, FR] at r ⊢
        obtain ⟨v, w, rfl, r1, r2⟩ := r
        exact ⟨v, w, rfl, ⟨r1.1, hf _ _ _ e r1.2⟩, optL_frs hf xr yr w e2 r2⟩
    · cases h
theorem notin_take {n l : Nat} {a : Addr} (nd : ι.Nodup) (h : ι[l]? = some a) (hl : n ≤ l) : a ∉ ι.take n := fun hm => by
  obtain ⟨k, hk, e⟩ := List.mem_iff_getElem.mp hm
  have hk' : k < n ∧ k < ι.length := by rw [List.length_take] at hk; omega
  have e2 : ι[k]? = some a := by
    have h1 : (ι.take n)[k]? = some a := by rw [List.getElem?_eq_getElem hk, e]
    rwa [List.getElem?_take_of_lt hk'.1] at h1
  obtain ⟨h1, q1⟩ := List.getElem?_eq_some_iff.mp h
  obtain ⟨h2, q2⟩ := List.getElem?_eq_some_iff.mp e2
  have := (List.getElem_inj nd).mp (q2.trans q1.symm)
  omega
theorem fz_ok (s : StR C ι S H) {n : Nat} : ∀ (d : Nat) (x y : MV) (v : V), fz S n d x = some y → VR C ι H x v → VR C (ι.take n) H y v
  | 0, x, y, v, h, r => by
    unfold fz at h
    split at h
    · rename_i c
      simp only [Option.some.injEq] at h
      subst h
      exact VR.shrink .take _ _ c r
    · cases h
  | d + 1, x, y, v, h, r => by
    unfold fz at h
    split at h
    · rename_i c
      simp only [Option.some.injEq] at h
      subst h
      exact VR.shrink .take _ _ c r
    · rename_i nc
      have ih := fz_ok s (n := n) d
      split at h
      · rename_i l
        simp only [Cl, Nat.not_lt] at nc
        simp only [VR] at r
        obtain ⟨a, rfl, hl⟩ := r
        have na := notin_take s.nd hl nc
        split at h
        · rename_i xs e
          obtain ⟨vs, h1, h2⟩ := s.ob l _ a e hl
          cases e2 : optL (fz S n d) xs with
          | none => rw [e2] at h; cases h
          | some ys =>
            rw [e2] at h
            simp only [Option.map_some, Option.some.injEq] at h
            subst h
            simp only [VR]
            exact ⟨a, vs, rfl, na, h1, optL_vrs ih xs ys vs e2 h2⟩
        · rename_i kvs e
          obtain ⟨vs, h1, h2⟩ := s.ob l _ a e hl
          cases e2 : optL (fun p => (fz S n d p.2).map fun y => (p.1, y)) kvs with
          | none => rw [e2] at h; cases h
          | some ys =>
            rw [e2] at h
            simp only [Option.map_some, Option.some.injEq] at h
            subst h
            simp only [VR]
            exact ⟨a, vs, rfl, na, .inl h1, optL_krs ih kvs ys vs e2 h2⟩
        · rename_i c fs e
          obtain ⟨dx, vs, h1, h2⟩ := s.ob l _ a e hl
          cases e2 : optL (fun p => (fz S n d p.2).map fun y => (p.1, y)) fs with
          | none => rw [e2] at h; cases h
          | some ys =>
            rw [e2] at h
            simp only [Option.map_some, Option.some.injEq] at h
            subst h
            simp only [VR]
            exact ⟨a, dx, vs, rfl, na, h1, optL_frs ih fs ys vs e2 h2⟩
        · cases h
      · rename_i xs
        simp only [VR] at r
        obtain ⟨a, vs, rfl, h1, h2⟩ := r
        cases e2 : optL (fz S n d) xs with
        | none => rw [e2] at h; cases h
        | some ys =>
          rw [e2] at h
          simp only [Option.map_some, Option.some.injEq] at h
          subst h
          simp only [VR]
          exact ⟨a, vs, rfl, h1.shrink .take, optL_vrs ih xs ys vs e2 h2⟩
      · rename_i xs
        simp only [VR] at r
        obtain ⟨a, vs, rfl, h0, h1, h2⟩ := r
        cases e2 : optL (fz S n d) xs with
        | none => rw [e2] at h; cases h
        | some ys =>
          rw [e2] at h
          simp only [Option.map_some, Option.some.injEq] at h
          subst h
          simp only [VR]
          exact ⟨a, vs, rfl, fun z => h0 (Shr.take.sub _ z), h1, optL_vrs ih xs ys vs e2 h2⟩
      · cases h
end
/-- the places that stood there are unchanged, or hold nothing that is new -/
def Keeps (S S' : Sto) : Prop := S.length ≤ S'.length ∧ ∀ l, l < S.length → S'[l]? = S[l]? ∨ ∃ o, S'[l]? = some o ∧ ClO S.length o
open Classical in
noncomputable def leaveV (S S' : Sto) (v : MV) : Res MV := if Keeps S S' then (match fz S' S.length 6 v with
  | some y => .ok y (S'.take S.length)
  | none => .bad) else .bad
open Classical in
/-- a new place is handed on as one -/
noncomputable def leaveR (S S' : Sto) (v : MV) : Res MV := if Keeps S S' then (match v with
  | .ref l => if S.length ≤ l then (match S'[l]? with
    | some o => if ClO S.length o then .ok (.ref S.length) (S'.take S.length ++ [o]) else .bad
    | none => .bad) else .bad
  | _ => .bad) else .bad
open Classical in
noncomputable def leaveX {α : Type} (S S' : Sto) (x : MX) : Res α := if Keeps S S' ∧ Clf S.length x.fs then .ex x (S'.take S.length) else .bad
section
variable {C : Ct} {ι ι' : Io} {S S' : Sto} {H H' : Hp}
theorem StR.leave (s : StR C ι S H) (e : Ext ι H ι' H') (s' : StR C ι' S' H') (k : Keeps S S') : Ext ι H ι H' ∧ StR C ι (S'.take S.length) H' ∧ ι'.take S.length = ι := by
  have ei : ι'.take S.length = ι := by
    obtain ⟨t, q⟩ := e.pre
    rw [← q, ← s.len, List.take_left']
    rfl
  refine ⟨⟨List.prefix_refl _, fun a h => .inl h, e.old⟩, ⟨by rw [List.length_take, s.len]; have := k.1; omega, s.nd, fun l o a e1 e2 => ?_⟩, ei⟩
  have hl : l < S.length := by rw [← s.len]; exact (List.getElem?_eq_some_iff.mp e2).1
  rw [List.getElem?_take_of_lt hl] at e1
  have q := s'.ob l o a e1 (e.at e2)
  rw [← ei]
  refine q.shrink .take ?_
  rcases k.2 l hl with z | ⟨o', z, c⟩
  · rw [z] at e1
    have := (s.ob l o a e1 e2).closed
    rwa [s.len] at this
  · rw [z] at e1; cases e1
    exact c
theorem leaveV_ok {v y : MV} {S2 : Sto} {x : V} (s : StR C ι S H) (e : Ext ι H ι' H') (s' : StR C ι' S' H') (r : VR C ι' H' v x) (h : leaveV S S' v = .ok y S2) : Ext ι H ι H' ∧ StR C ι S2 H' ∧ VR C ι H' y x := by
  unfold leaveV at h
  split at h
  · rename_i k
    obtain ⟨e1, s1, ei⟩ := s.leave e s' k
    split at h
    · rename_i z hz
      injection h with h1 h2
      subst h1; subst h2
      have q := fz_ok s' 6 _ _ _ hz r
      rw [ei] at q
      exact ⟨e1, s1, q⟩
    · cases h
  · cases h
theorem leaveR_ok {v y : MV} {S2 : Sto} {x : V} (s : StR C ι S H) (e : Ext ι H ι' H') (s' : StR C ι' S' H') (r : VR C ι' H' v x) (h : leaveR S S' v = .ok y S2) : ∃ ι2, Ext ι H ι2 H' ∧ StR C ι2 S2 H' ∧ VR C ι2 H' y x := by
  unfold leaveR at h
  split at h
  · rename_i k
    obtain ⟨e1, s1, ei⟩ := s.leave e s' k
    split at h
    · rename_i l
      split at h
      · rename_i hl
        split at h
        · rename_i o ho
          split at h
          · rename_i hc
            injection h with h1 h2
            subst h1; subst h2
            simp only [VR] at r
            obtain ⟨a, rfl, ha⟩ := r
            have na := notin_take s'.nd ha hl
            rw [ei] at na
            have q := s'.ob l o a ho ha
            have hn : H a = none := by
              rcases e.new a (List.mem_of_getElem? ha) with z | z
              · exact absurd z na
              · exact z
            have mem2 : ∀ b, b ∈ ι ++ [a] → b ∈ ι ∨ b = a := fun b hb => (List.mem_append.mp hb).imp id fun z => by simpa using z
            have hat : ∀ l2 b, l2 < S.length → ι'[l2]? = some b → (ι ++ [a])[l2]? = some b := fun l2 b hl2 hb => by
              rw [List.getElem?_append_left (by rw [s.len]; exact hl2), ← ei, List.getElem?_take_of_lt hl2]
              exact hb
            have w : Shr ι' (ι ++ [a]) S.length := ⟨fun b hb => by
              rcases mem2 b hb with z | z
              · exact e.pre.subset z
              · rw [z]; exact List.mem_of_getElem? ha, hat⟩
            refine ⟨ι ++ [a], ⟨List.prefix_append _ _, fun b hb => by
              rcases mem2 b hb with z | z
              · exact .inl z
              · exact .inr (by rw [z]; exact hn), e.old⟩, ⟨by simp [s.len]; have := k.1; omega, ?_, fun l2 o2 b e1 e2 => ?_⟩, ?_⟩
            · rw [List.nodup_append]
              refine ⟨s.nd, by simp, fun b hb c hc2 z => ?_⟩
              have : c = a := by simpa using hc2
              subst this; subst z
              exact na hb
            · by_cases h2 : l2 < S.length
              · rw [List.getElem?_append_left (by rw [List.length_take]; have := k.1; omega), List.getElem?_take_of_lt h2] at e1
                rw [List.getElem?_append_left (by rw [s.len]; exact h2)] at e2
                refine (s'.ob l2 o2 b e1 (e.at e2)).shrink w ?_
                rcases k.2 l2 h2 with z | ⟨o', z, c⟩
                · rw [z] at e1
                  have := (s.ob l2 o2 b e1 e2).closed
                  rwa [s.len] at this
                · rw [z] at e1; cases e1
                  exact c
              · have hlt := (List.getElem?_eq_some_iff.mp e2).1
                have e3 : l2 = S.length := by simp [s.len] at hlt; omega
                subst e3
                have h3 : b = a := by
                  rw [← s.len] at e2
                  simpa using e2.symm
                have h4 : o2 = o := by
                  rw [List.getElem?_append_right (by rw [List.length_take]; omega)] at e1
                  have : S.length - (S'.take S.length).length = 0 := by rw [List.length_take]; have := k.1; omega
                  rw [this] at e1
                  simpa using e1.symm
                subst h3; subst h4
                exact q.shrink w hc
            · simp only [VR]
              exact ⟨a, rfl, by rw [← s.len]; simp⟩
          · cases h
        · cases h
      · cases h
    · cases h
  · cases h
end
end Mi

namespace Mi
open PySem L2

/-! ### defs and their calls -/
def spM (C : Ct) (n : Nat) (g : List MV → Sto → Res MV) : Sp := fun vs H Q E => vs.length = n ∧ ∃ ι S args, StR C ι S H ∧ VRs C ι H args vs ∧ Post C (fun cls d _ H' => E cls d H') (VR C) ι [] H (g args S) Q
def env0 (n : Nat) (args : List MV) : Env := args.map some ++ List.replicate (n - args.length) none
noncomputable def mDef (n : Nat) (b : MSt) : List MV → Sto → Res MV := fun args S => match b (env0 n args) S with
  | .rt v S' => leaveV S S' v
  | .nx _ S' => leaveV S S' .non
  | .ex x _ S' => leaveX S S' x
  | _ => .bad
/-- .. whose answer is a place made within -/
noncomputable def mDefR (n : Nat) (b : MSt) : List MV → Sto → Res MV := fun args S => match b (env0 n args) S with
  | .rt v S' => leaveR S S' v
  | .ex x _ S' => leaveX S S' x
  | _ => .bad
section
variable {C : Ct} {ι ι' : Io} {S S' : Sto} {H H' : Hp}
theorem leaveX_ok {α : Type} {x : MX} {cls : Value} {d : Option Addr} {r : Res α} (s : StR C ι S H) (e : Ext ι H ι' H') (s' : StR C ι' S' H') (xr : XR C ι' H' x cls d) (h : leaveX S S' x = r) : r = .bad ∨ ∃ S2, r = .ex x S2 ∧ Ext ι H ι H' ∧ StR C ι S2 H' ∧ XR C ι H' x cls d := by
  unfold leaveX at h
  split at h
  · rename_i k
    obtain ⟨e1, s1, ei⟩ := s.leave e s' k.1
    right
    refine ⟨_, h.symm, e1, s1, xr.1, ?_⟩
    have h2 := xr.2
    cases d with
    | none => exact h2
    | some a =>
      obtain ⟨na, fx, hx, hf⟩ := h2
      refine ⟨fun z => na (e.pre.subset z), fx, hx, ?_⟩
      have w := @Shr.take ι' S.length
      rw [ei] at w
      exact FRs.shrink w _ _ k.2 hf
  · exact .inl h.symm
theorem EnvR.start {N : List Str} {args : List MV} {vs : List V} (r : VRs C ι H args vs) : EnvR C ι H (env0 N.length args) (L2.start N vs) := by
  have hl := r.len
  refine ⟨by simp [env0, L2.start, hl], fun i x q => ?_⟩
  have key : ∀ (args : List MV) (vs : List V), VRs C ι H args vs → ∀ (i : Nat) (x : MV), args[i]? = some x → ∃ v, vs[i]? = some v ∧ VR C ι H x v := by
    intro args
    induction args with
    | nil => intro vs _ i x h; simp at h
    | cons a r ih =>
      intro vs rr i x h
      simp only [VRs] at rr
      obtain ⟨v, w, rfl, r1, r2⟩ := rr
      cases i with
      | zero => simp at h; subst h; exact ⟨v, rfl, r1⟩
      | succ i =>
        obtain ⟨u, h1, h2⟩ := ih w r2 i x (by simpa using h)
        exact ⟨u, by simpa using h1, h2⟩
  by_cases hi : i < args.length
  · unfold env0 at q
    rw [List.getElem?_append_left (by simpa using hi)] at q
    rw [List.getElem?_map] at q
    cases e : args[i]? with
    | none => rw [e] at q; cases q
    | some y =>
      rw [e] at q
      simp only [Option.map_some, Option.some.injEq] at q
      subst q
      obtain ⟨v, h1, h2⟩ := key args vs r i y e
      refine ⟨v, ?_, h2⟩
      unfold L2.start
      rw [List.getElem?_append_left (by simp [hl]; exact hi), List.getElem?_map, h1]
      rfl
  · unfold env0 at q
    rw [List.getElem?_append_right (by simpa using hi)] at q
    rw [List.getElem?_replicate] at q
    split at q
    · cases q
    · cases q
end
section
variable {P : Program} {w : World} {K : PySem.W.Frag} {mg : Str → Option Value} {base : Heap} {C : Ct}
theorem def_core {N : List Str} {n : Nat} {b : MSt} {g : List MV → Sto → Res MV} (hn : N.length = n) (hg : g = mDef n b ∨ g = mDefR n b) {m : Nat} {vs : List V} {H : Hp} {Q : VK} {E : XK} (h : spM C m g vs H Q E) :
    tMS C (fun cls d _ H' => E cls d H') b { nx := fun _ H' => Q .non H', rt := Q } (L2.start N vs) H := by
  obtain ⟨_, ι, S, args, hs, hr, hp⟩ := h
  refine ⟨ι, env0 n args, S, by rw [← hn]; exact EnvR.start hr, hs, ?_⟩
  rcases hg with rfl | rfl
  · unfold mDef at hp
    cases e : b (env0 n args) S with
    | nx e1 S1 =>
      rw [e] at hp
      intro ι1 H1 σ1 x1 s1 r1
      cases e2 : leaveV S S1 .non with
      | ok y S2 =>
        obtain ⟨a1, a2, a3⟩ := leaveV_ok hs x1 s1 (x := V.non) (by simp only [VR]) e2
        simp only [e2] at hp
        exact hp ι H1 .non a1 a2 a3
      | ex x S2 => unfold leaveV at e2; (repeat (split at e2)) <;> cases e2
      | bad => simp only [e2] at hp; exact hp.elim
    | rt v S1 =>
      rw [e] at hp
      intro ι1 H1 x x1 s1 r1
      cases e2 : leaveV S S1 v with
      | ok y S2 =>
        obtain ⟨a1, a2, a3⟩ := leaveV_ok hs x1 s1 r1 e2
        simp only [e2] at hp
        exact hp ι H1 x a1 a2 a3
      | ex x S2 => unfold leaveV at e2; (repeat (split at e2)) <;> cases e2
      | bad => simp only [e2] at hp; exact hp.elim
    | bk e1 S1 => rw [e] at hp; exact hp.elim
    | ct e1 S1 => rw [e] at hp; exact hp.elim
    | bad => rw [e] at hp; exact hp.elim
    | ex x e1 S1 =>
      rw [e] at hp
      intro ι1 H1 σ1 cls d x1 s1 r1 xr
      rcases leaveX_ok (α := MV) hs x1 s1 xr rfl with e2 | ⟨S2, e2, a1, a2, a3⟩
      · simp only [e2] at hp; exact hp.elim
      · simp only [e2] at hp; exact hp ι H1 cls d a1 a2 a3
  · unfold mDefR at hp
    cases e : b (env0 n args) S with
    | nx e1 S1 => rw [e] at hp; exact hp.elim
    | rt v S1 =>
      rw [e] at hp
      intro ι1 H1 x x1 s1 r1
      cases e2 : leaveR S S1 v with
      | ok y S2 =>
        obtain ⟨ι2, a1, a2, a3⟩ := leaveR_ok hs x1 s1 r1 e2
        simp only [e2] at hp
        exact hp ι2 H1 x a1 a2 a3
      | ex x S2 => unfold leaveR at e2; (repeat (split at e2)) <;> cases e2
      | bad => simp only [e2] at hp; exact hp.elim
    | bk e1 S1 => rw [e] at hp; exact hp.elim
    | ct e1 S1 => rw [e] at hp; exact hp.elim
    | bad => rw [e] at hp; exact hp.elim
    | ex x e1 S1 =>
      rw [e] at hp
      intro ι1 H1 σ1 cls d x1 s1 r1 xr
      rcases leaveX_ok (α := MV) hs x1 s1 xr rfl with e2 | ⟨S2, e2, a1, a2, a3⟩
      · simp only [e2] at hp; exact hp.elim
      · simp only [e2] at hp; exact hp ι H1 cls d a1 a2 a3
/-- THE RULE for a def: its body is the mirror's -/
theorem def_ok {x qual : Str} {st : Stmt} {f : Addr} {fd : FuncData} {N ps : List Str} {k n m : Nat} {b : MSt} {g : List MV → Sto → Res MV} (F : Fun K x qual st f fd) (Sc : FnScope N ps (defScope st)) (hg : g = mDef n b ∨ g = mDefR n b)
    (hb : ∀ (cdv : Value) (A : Around) (outer : List PySem.Env) (s : Shared) (H : Hp) (E : XK) (E₁ : Value → Shared → Prop) (X : Cx), X = cxOf (L2.CX P w) P w K mg base N qual (defScope st) f cdv A outer s H E → Room k X.A →
      PSs X (defBody st) (tMS C (fun cls d _ H' => E cls d H') b)) (hn : N.length = n := by rfl) (hm : ps.length = m := by rfl) :
    FnOk P w K mg base (L2.CX P w) (k + 1) f fd ps (spM C m g) :=
  F.okX Sc (fun vs H Q E h => h.1.trans hm.symm) fun cdv A outer s H vs Q E hr h => ⟨_, hb cdv A outer s H E (fun _ _ => False) _ rfl hr, def_core hn hg h⟩
end

/-- what a body's context is: for the rules below -/
structure Bx (C : Ct) (W : WX) (k : Nat) (X : Cx) : Prop where
  hK : X.K = C.K
  calm : X.calm = true
  tk : Takes X W
  room : Room k X.A
  own : PassesOwn (model X.prog X.w) X.A X.env X.xe
theorem bx_of {C : Ct} {P : Program} {w : World} {K : PySem.W.Frag} {mg : Str → Option Value} {base : Heap} {N : List Str} {qual : Str} {sc : Scope} {f : Addr} {cdv : Value} {A : Around} {outer : List PySem.Env} {s : Shared} {H : Hp} {E : XK} {k : Nat} {X : Cx}
    (hX : X = cxOf (L2.CX P w) P w K mg base N qual sc f cdv A outer s H E) (hK : K = C.K) (hr : Room k X.A) : Bx C (fun cls d _ H' => E cls d H') k X := by
  subst hX
  exact ⟨hK, rfl, takes_of rfl rfl rfl (E₁ := fun e' s'' => L2.CX P w outer H s E e' s'') rfl, hr, passes_of rfl⟩

/-! ### calls -/
section
variable {X : Cx} {C : Ct} {W : WX} {CX : CXT} {k j n : Nat} {f cl : Addr} {fd : FuncData} {ps : List Str} {sp : Sp} {dvs : List V} {ds : List Value} {E : L2.St → XK} {x m : Str} {p pos apos : Pos} {e o : Expr} {es : List Expr} {ta : TE} {t : TA}
theorem run_fnD {pins : List (Addr × Obj)} {σ : L2.St} {H : Hp} {s : Shared} {Q : VK} {us : List Value} {vs : List V} (F : FnOk X.prog X.w X.K X.mg X.base CX k f fd ps sp) (hr : Room k X.A) (hb : Binds X.K fd ps ds) (hd : Vals dvs ds) (hx : PassesAt CX X σ (E σ))
    (I : Inv X pins σ H s) (r : Vals vs us) (h : sp (vs ++ dvs) H Q (E σ)) : wpAny (model X.prog X.w) X.A (call (.ref f) us) (EP X pins σ Q) X.xe s := by
  have r2 : Vals (vs ++ dvs) (us ++ ds) := r.append hd
  have hl : (us ++ ds).length = ps.length := by rw [← r2.length]; exact F.len _ _ _ _ h
  refine wpAny_call (codeAny_mono (F.run X.A X.stack s H ⟨us, []⟩ (us ++ ds) (vs ++ dvs) Q (E σ) hr I.env0 (hb s us I.kIn hl) r2 h) fun r s' hq => ?_)
  cases r with
  | error e => exact hx pins H s e s' I hq
  | ok fl =>
    cases fl with
    | ret u => exact I.after hq
    | next => exact False.elim hq
    | brk => exact False.elim hq
    | cont => exact False.elim hq
def tCallD (sp : Sp) (dvs : List V) (E : L2.St → XK) (t : TA) : TE := fun σ H Q => t σ H fun vs H1 => sp (vs ++ dvs) H1 Q (E σ)
theorem pe_callD (F : FnOk X.prog X.w X.K X.mg X.base CX k f fd ps sp) (hr : Room k X.A) (hg : Gl X x) (hm : X.mg x = some (.ref f)) (hk : PySem.W.keepIn X.K (.ref f) = true) (hb : Binds X.K fd ps ds) (hd : Vals dvs ds) (hx : ∀ σ, PassesAt CX X σ (E σ))
    (ha : PA X (e :: es) t) (hdb : (x == ("__debug__" : Str)) = false := by decide) (he : starEach (e :: es) X.env = (false, eval e X.env) :: starEach es X.env := by rfl) (hpl : (backTo pos (starEach es X.env)).any (·.1) = false := by rfl) :
    PE X (.Call (.Name x p) (e :: es) [] pos) (tCallD sp dvs E t) := by
  refine ⟨fun pins s σ H Q I h => ?_⟩
  refine wpAny_Call_Name_kw (ld_glob I hg hm ?_ hdb)
  refine PySem.W.callWith_K (h₀ := X.base) I.ok.mod.kin hk (thn (ha.run pos pins s σ H _ I h) fun us s1 ⟨vs, H1, I1, r, q⟩ => ⟨I1.kIn, ?_⟩) he hpl
  exact run_fnD F hr hb hd (hx σ) I1 r q
theorem pe_callD0 (F : FnOk X.prog X.w X.K X.mg X.base CX k f fd ps sp) (hr : Room k X.A) (hg : Gl X x) (hm : X.mg x = some (.ref f)) (hk : PySem.W.keepIn X.K (.ref f) = true) (hb : Binds X.K fd ps ds) (hd : Vals dvs ds) (hx : ∀ σ, PassesAt CX X σ (E σ))
    (hdb : (x == ("__debug__" : Str)) = false := by decide) : PE X (.Call (.Name x p) [] [] pos) (tCallD sp dvs E tNil) := by
  refine ⟨fun pins s σ H Q I h => ?_⟩
  refine wpAny_Call_Name_kw (ld_glob I hg hm ?_ hdb)
  exact PySem.W.callWith_K0 I.kIn hk (run_fnD (us := []) F hr hb hd (hx σ) I .nil h)
/-- a def's call: ms the defaults that fill up -/
def mCall (n : Nat) (g : List MV → Sto → Res MV) (ms : List MV) (as : MA) : ME := fun env S => (as env S).bind fun vs S1 => if (vs ++ ms).length = n then g (vs ++ ms) S1 else .bad
/-- constants of the mirror -/
inductive CstR : List MV → List V → Prop where
  | nil : CstR [] []
  | non {ms vs} : CstR ms vs → CstR (.non :: ms) (.non :: vs)
  | int {i ms vs} : CstR ms vs → CstR (.int i :: ms) (.int i :: vs)
  | bl {i ms vs} : CstR ms vs → CstR (.bl i :: ms) (.bl i :: vs)
theorem CstR.vrs {ms : List MV} {vs : List V} (h : CstR ms vs) : ∀ {ι H}, VRs C ι H ms vs := by
  induction h with
  | nil => intro ι H; simp only [VRs]
  | non _ ih => intro ι H; simp only [VRs, VR]; exact ⟨_, _, rfl, rfl, ih⟩
  | int _ ih => intro ι H; simp only [VRs, VR]; exact ⟨_, _, rfl, rfl, ih⟩
  | bl _ ih => intro ι H; simp only [VRs, VR]; exact ⟨_, _, rfl, rfl, ih⟩
theorem VRs.append {ι : Io} {H : Hp} : ∀ {xs ys : List MV} {vs ws : List V}, VRs C ι H xs vs → VRs C ι H ys ws → VRs C ι H (xs ++ ys) (vs ++ ws)
  | [], ys, vs, ws, h, h2 => by simp only [VRs] at h; subst h; exact h2
  | x :: r, ys, vs, ws, h, h2 => by
    simp only [VRs] at h
    obtain ⟨v, w, rfl, h1, h3⟩ := h
    simp only [List.cons_append, VRs]
    exact ⟨v, w ++ ws, rfl, h1, VRs.append h3 h2⟩
theorem spM_of {g : List MV → Sto → Res MV} {ι : Io} {S : Sto} {H : Hp} {σ : L2.St} {vs : List MV} {us : List V} {Q : VK} (hs : StR C ι S H) (hr : VRs C ι H vs us) (hp : Post C W (VR C) ι σ H (if vs.length = n then g vs S else .bad) Q) : spM C n g us H Q (WE W σ) := by
  split at hp
  · rename_i hl
    refine ⟨by rw [hr.len]; exact hl, ι, S, vs, hs, hr, ?_⟩
    cases e : g vs S with
    | ok v S1 => rw [e] at hp; exact hp
    | ex v S1 => rw [e] at hp; exact hp
    | bad => rw [e] at hp; exact hp
  · exact hp.elim
theorem je_call {ms : List MV} {g : List MV → Sto → Res MV} {as : MA} (B : Bx C W j X) (F : FnOk X.prog X.w X.K X.mg X.base (L2.CX X.prog X.w) k f fd ps (spM C n g)) (hm : X.mg x = some (.ref f)) (hk : PySem.W.keepIn X.K (.ref f) = true) (hb : Binds X.K fd ps ds) (hd : Vals dvs ds) (hc : CstR ms dvs)
    (ha : PA X (e :: es) (tMA C W as)) (hkj : k ≤ j := by decide) (hg : Gl X x := by rfl) (hdb : (x == ("__debug__" : Str)) = false := by decide) (he : starEach (e :: es) X.env = (false, eval e X.env) :: starEach es X.env := by rfl) (hpl : (backTo pos (starEach es X.env)).any (·.1) = false := by rfl) :
    PE X (.Call (.Name x p) (e :: es) [] pos) (tM C W (mCall n g ms as)) :=
  peImp (pe_callD F (B.room.mono hkj) hg hm hk hb hd (fun σ => passAt B.tk σ) ha hdb he hpl) fun σ H Q h => by
    obtain ⟨ι, env, S, he, hs, hp⟩ := h
    refine ⟨ι, env, S, he, hs, Post.bind hp fun x S1 ι1 H1 v e1 s1 q1 p1 => ?_⟩
    exact spM_of s1 (q1.append hc.vrs) p1
theorem je_call0 {ms : List MV} {g : List MV → Sto → Res MV} (B : Bx C W j X) (F : FnOk X.prog X.w X.K X.mg X.base (L2.CX X.prog X.w) k f fd ps (spM C n g)) (hm : X.mg x = some (.ref f)) (hk : PySem.W.keepIn X.K (.ref f) = true) (hb : Binds X.K fd ps ds) (hd : Vals dvs ds) (hc : CstR ms dvs)
    (hkj : k ≤ j := by decide) (hg : Gl X x := by rfl) (hdb : (x == ("__debug__" : Str)) = false := by decide) :
    PE X (.Call (.Name x p) [] [] pos) (tM C W (mCall n g ms mNil)) :=
  peImp (pe_callD0 F (B.room.mono hkj) hg hm hk hb hd (fun σ => passAt B.tk σ) hdb) fun σ H Q h => by
    obtain ⟨ι, env, S, he, hs, hp⟩ := h
    exact spM_of hs hc.vrs hp

/-! ### methods of own classes -/
def tMethD (C : Addr) (m : Str) (sp : Sp) (dvs : List V) (E : L2.St → XK) (ta : TE) (t : TA) : TE := fun σ H Q => ta σ H fun x H1 => ∃ a dx fs, x = .ref a ∧ H1 a = some (.ins C dx fs) ∧ fs.lookup m = none ∧
  t σ H1 fun vs H2 => sp (x :: (vs ++ dvs)) H2 Q (E σ)
theorem pe_methD {pl : Sem Bool} (he : PE X o ta) (c : Cls X.K cl) (hm : Meth X.K cl m f) (F : FnOk X.prog X.w X.K X.mg X.base CX k f fd ps sp) (hr : Room k X.A) (hb : Binds X.K fd ps ds) (hd : Vals dvs ds) (hx : ∀ σ, PassesAt CX X σ (E σ)) (ha : PA X (e :: es) t)
    (hst : starEach (e :: es) X.env = (false, eval e X.env) :: starEach es X.env := by rfl) (hpl : (backTo pos (starEach es X.env)).any (·.1) = false := by rfl)
    (ht : eval (.Call (.Attribute o m apos) (e :: es) [] pos) X.env = (do
      let ov ← eval o X.env
      standAt apos.atName
      let (f, first) ← holding [ov] (getMethod ov m pl)
      callWith pos f first (backTo pos (starEach (e :: es) X.env)) (backToKw pos (keywordEach [] X.env))) := by rfl) :
    PE X (.Call (.Attribute o m apos) (e :: es) [] pos) (tMethD cl m sp dvs E ta t) := by
  refine ⟨fun pins s σ H Q I h => ?_⟩
  refine PySem.W.methodCall_KW (pl := pl) (thn (he.run pins s σ H _ I h) fun u s1 ⟨x, H1, I1, rx, a, dx, fs, ex, ea, l, q⟩ => ?_) ht
  subst ex
  obtain rfl : u = Value.ref a := rx
  refine getmeth_ok I1 ea c hm l ?_
  refine PySem.W.callWith_K (first := [.ref a]) (h₀ := X.base) I.ok.mod.kin hm.kp (thn (ha.run pos pins s1 σ H1 _ I1 q) fun us s2 ⟨vs, H2, I2, r, q2⟩ => ⟨I2.kIn, ?_⟩) hst hpl
  exact run_fnD (us := .ref a :: us) (vs := .ref a :: vs) F hr hb hd (hx σ) I2 (.cons rfl r) q2
theorem pe_methD0 {pl : Sem Bool} (he : PE X o ta) (c : Cls X.K cl) (hm : Meth X.K cl m f) (F : FnOk X.prog X.w X.K X.mg X.base CX k f fd ps sp) (hr : Room k X.A) (hb : Binds X.K fd ps ds) (hd : Vals dvs ds) (hx : ∀ σ, PassesAt CX X σ (E σ))
    (ht : eval (.Call (.Attribute o m apos) [] [] pos) X.env = (do
      let ov ← eval o X.env
      standAt apos.atName
      let (f, first) ← holding [ov] (getMethod ov m pl)
      callWith pos f first (backTo pos (starEach [] X.env)) (backToKw pos (keywordEach [] X.env))) := by rfl) :
    PE X (.Call (.Attribute o m apos) [] [] pos) (tMethD cl m sp dvs E ta tNil) := by
  refine ⟨fun pins s σ H Q I h => ?_⟩
  refine PySem.W.methodCall_KW (pl := pl) (thn (he.run pins s σ H _ I h) fun u s1 ⟨x, H1, I1, rx, a, dx, fs, ex, ea, l, q⟩ => ?_) ht
  subst ex
  obtain rfl : u = Value.ref a := rx
  refine getmeth_ok I1 ea c hm l ?_
  exact PySem.W.callWith_K0 (first := [.ref a]) I1.kIn hm.kp (run_fnD (us := [.ref a]) (vs := [.ref a]) F hr hb hd (hx σ) I1 (.cons rfl .nil) q)
/-- the attributes of an instance, by its class -/
def insOf (S : Sto) : MV → Option (Nat × List (Str × MV))
  | .ins c fs => some (c, fs)
  | .ref l => match S[l]? with
    | some (.ins c fs) => some (c, fs)
    | _ => none
  | _ => none
theorem insOf_ok {ι : Io} {S : Sto} {H : Hp} {x : MV} {v : V} {c : Nat} {fs : List (Str × MV)} (s : StR C ι S H) (r : VR C ι H x v) (h : insOf S x = some (c, fs)) : ∃ a dx fx, v = .ref a ∧ H a = some (.ins (C.cA c) dx fx) ∧ FRs C ι H fs fx := by
  cases x with
  | ins c' fs' =>
    simp only [insOf, Option.some.injEq, Prod.mk.injEq] at h
    obtain ⟨rfl, rfl⟩ := h
    simp only [VR] at r
    obtain ⟨a, dx, fx, rfl, _, h1, h2⟩ := r
    exact ⟨a, dx, fx, rfl, h1, h2⟩
  | ref l =>
    simp only [insOf] at h
    simp only [VR] at r
    obtain ⟨a, rfl, hl⟩ := r
    split at h
    · rename_i c' fs' e
      simp only [Option.some.injEq, Prod.mk.injEq] at h
      obtain ⟨rfl, rfl⟩ := h
      obtain ⟨dx, fx, h1, h2⟩ := s.ob l _ a e hl
      exact ⟨a, dx, fx, rfl, h1, h2⟩
    · cases h
  | _ => cases h
theorem FRs.look {ι : Io} {H : Hp} (f : Str) : ∀ {fs : List (Str × MV)} {fx : List (Str × V)}, FRs C ι H fs fx → (fs.lookup f = none → fx.lookup f = none) ∧ ∀ x, fs.lookup f = some x → ∃ v, fx.lookup f = some v ∧ VR C ι H x v
  | [], fx, h => by simp only [FRs] at h; subst h; exact ⟨fun _ => rfl, fun x h => by cases h⟩
  | (g, y) :: r, fx, h => by
    simp only [FRs] at h
    obtain ⟨q, w, rfl, h1, h2⟩ := h
    obtain ⟨qn, qv⟩ := q
    simp only [FR] at h1
    obtain ⟨rfl, h1⟩ := h1
    obtain ⟨i1, i2⟩ := FRs.look f h2
    cases hb : f == qn with
    | true =>
      simp only [List.lookup_cons, hb]
      exact ⟨fun z => (by cases z), fun x hx => by cases hx; exact ⟨qv, rfl, h1⟩⟩
    | false =>
      simp only [List.lookup_cons, hb]
      exact ⟨i1, i2⟩
def mMeth (c n : Nat) (m : Str) (g : List MV → Sto → Res MV) (ms : List MV) (o : ME) (as : MA) : ME := fun env S => (o env S).bind fun x S1 => match insOf S1 x with
  | some (c', fs) => if c' = c ∧ fs.lookup m = none then (as env S1).bind fun vs S2 => if (x :: (vs ++ ms)).length = n then g (x :: (vs ++ ms)) S2 else .bad else .bad
  | none => .bad
theorem meth_imp {c : Nat} {ms : List MV} {g : List MV → Sto → Res MV} {mo : ME} {as : MA} {σ : L2.St} {H : Hp} {Q : VK} (hcl : C.cA c = cl) (hc : CstR ms dvs) (h : tM C W (mMeth c n m g ms mo as) σ H Q) : tMethD cl m (spM C n g) dvs (WE W) (tM C W mo) (tMA C W as) σ H Q := by
  obtain ⟨ι, env, S, he, hs, hp⟩ := h
  refine ⟨ι, env, S, he, hs, Post.bind hp fun x S1 ι1 H1 v e1 s1 q1 p1 => ?_⟩
  split at p1
  · rename_i c' fs hi
    split at p1
    · rename_i hh
      obtain ⟨rfl, hl⟩ := hh
      obtain ⟨a, dx, fx, rfl, h1, h2⟩ := insOf_ok s1 q1 hi
      rw [hcl] at h1
      refine ⟨a, dx, fx, rfl, h1, (h2.look m).1 hl, ι1, env, S1, he.mono e1, s1, Post.bind p1 fun vs S2 ι2 H2 us e2 s2 q2 p2 => ?_⟩
      refine spM_of s2 ?_ p2
      simp only [VRs]
      exact ⟨_, _, rfl, q1.mono e2, q2.append hc.vrs⟩
    · exact p1.elim
  · exact p1.elim
theorem je_meth {pl : Sem Bool} {c : Nat} {ms : List MV} {g : List MV → Sto → Res MV} {mo : ME} {as : MA} (B : Bx C W j X) (hcl : C.cA c = cl) (ho : PE X o (tM C W mo)) (hc : Cls X.K cl) (hm : Meth X.K cl m f) (F : FnOk X.prog X.w X.K X.mg X.base (L2.CX X.prog X.w) k f fd ps (spM C n g)) (hb : Binds X.K fd ps ds) (hd : Vals dvs ds) (hcs : CstR ms dvs) (ha : PA X (e :: es) (tMA C W as))
    (hkj : k ≤ j := by decide) (hst : starEach (e :: es) X.env = (false, eval e X.env) :: starEach es X.env := by rfl) (hpl : (backTo pos (starEach es X.env)).any (·.1) = false := by rfl)
    (ht : eval (.Call (.Attribute o m apos) (e :: es) [] pos) X.env = (do
      let ov ← eval o X.env
      standAt apos.atName
      let (f, first) ← holding [ov] (getMethod ov m pl)
      callWith pos f first (backTo pos (starEach (e :: es) X.env)) (backToKw pos (keywordEach [] X.env))) := by rfl) :
    PE X (.Call (.Attribute o m apos) (e :: es) [] pos) (tM C W (mMeth c n m g ms mo as)) :=
  peImp (pe_methD ho hc hm F (B.room.mono hkj) hb hd (fun σ => passAt B.tk σ) ha hst hpl ht) fun σ H Q h => meth_imp hcl hcs h
theorem je_meth0 {pl : Sem Bool} {c : Nat} {ms : List MV} {g : List MV → Sto → Res MV} {mo : ME} (B : Bx C W j X) (hcl : C.cA c = cl) (ho : PE X o (tM C W mo)) (hc : Cls X.K cl) (hm : Meth X.K cl m f) (F : FnOk X.prog X.w X.K X.mg X.base (L2.CX X.prog X.w) k f fd ps (spM C n g)) (hb : Binds X.K fd ps ds) (hd : Vals dvs ds) (hcs : CstR ms dvs)
    (hkj : k ≤ j := by decide)
    (ht : eval (.Call (.Attribute o m apos) [] [] pos) X.env = (do
      let ov ← eval o X.env
      standAt apos.atName
      let (f, first) ← holding [ov] (getMethod ov m pl)
      callWith pos f first (backTo pos (starEach [] X.env)) (backToKw pos (keywordEach [] X.env))) := by rfl) :
    PE X (.Call (.Attribute o m apos) [] [] pos) (tM C W (mMeth c n m g ms mo mNil)) :=
  peImp (pe_methD0 ho hc hm F (B.room.mono hkj) hb hd (fun σ => passAt B.tk σ) ht) fun σ H Q h => by
    have q := meth_imp hcl hcs h
    obtain ⟨ι, env, S, he, hs, hp⟩ := q
    refine ⟨ι, env, S, he, hs, ?_⟩
    cases e : mo env S with
    | ok x S1 =>
      rw [e] at hp
      intro ι1 H1 v e1 s1 r1
      obtain ⟨a, dx, fs, h1, h2, h3, ι2, env2, S2, he2, hs2, hp2⟩ := hp ι1 H1 v e1 s1 r1
      exact ⟨a, dx, fs, h1, h2, h3, hp2 ι2 H1 [] .refl hs2 (by simp only [VRs])⟩
    | ex x S1 => rw [e] at hp; exact hp
    | bad => rw [e] at hp; exact hp
/-- o.f -/
def mFld (c : Nat) (f : Str) (o : ME) : ME := fun env S => (o env S).bind fun x S1 => match insOf S1 x with
  | some (c', fs) => if c' = c then (match fs.lookup f with
    | some v => .ok v S1
    | none => .bad) else .bad
  | none => .bad
theorem je_fld {c : Nat} {fl : Str} {mo : ME} (hcl : C.cA c = cl) (ho : PE X o (tM C W mo)) (hc : Cls X.K cl) (hn : NoAttr X.K cl fl) (hb : attributeBase o fl X.env (eval o X.env) = eval o X.env := by rfl) : PE X (.Attribute o fl pos) (tM C W (mFld c fl mo)) :=
  peImp (pe_fld ho hb) fun σ H Q h => by
    obtain ⟨ι, env, S, he, hs, hp⟩ := h
    refine ⟨ι, env, S, he, hs, Post.bind hp fun x S1 ι1 H1 v e1 s1 q1 p1 => ?_⟩
    split at p1
    · rename_i c' fs hi
      split at p1
      · rename_i hh
        subst hh
        obtain ⟨a, dx, fx, rfl, h1, h2⟩ := insOf_ok s1 q1 hi
        split at p1
        · rename_i y hy
          obtain ⟨u, h3, h4⟩ := (h2.look fl).2 y hy
          rw [hcl] at h1
          exact ⟨a, cl, dx, fx, u, rfl, h1, hc, hn, h3, p1 ι1 H1 u .refl s1 h4⟩
        · exact p1.elim
      · exact p1.elim
    · exact p1.elim
/-- o.f = e -/
def putM (f : Str) (v : MV) : List (Str × MV) → List (Str × MV)
  | [] => [(f, v)]
  | p :: r => if p.1 = f then (f, v) :: r else p :: putM f v r
theorem FRs.put {ι : Io} {H : Hp} {f : Str} {y : MV} {v : V} (r : VR C ι H y v) : ∀ {fs : List (Str × MV)} {fx : List (Str × V)}, FRs C ι H fs fx → FRs C ι H (putM f y fs) (putF f v fx)
  | [], fx, h => by simp only [FRs] at h; subst h; simp only [putM, putF, FRs, FR]; exact ⟨_, _, rfl, ⟨rfl, r⟩, rfl⟩
  | (g, z) :: fr, fx, h => by
    simp only [FRs] at h
    obtain ⟨q, w, rfl, h1, h2⟩ := h
    obtain ⟨qn, qv⟩ := q
    simp only [FR] at h1
    obtain ⟨rfl, h1⟩ := h1
    simp only [putM, putF]
    by_cases e : qn = f
    · subst e
      rw [if_pos rfl, if_pos rfl]
      simp only [FRs, FR]
      exact ⟨_, _, rfl, ⟨rfl, r⟩, h2⟩
    · rw [if_neg e, if_neg e]
      simp only [FRs, FR]
      exact ⟨_, _, rfl, ⟨rfl, h1⟩, FRs.put r h2⟩
theorem FRs.len {ι : Io} {H : Hp} : ∀ {xs : List (Str × MV)} {vs : List (Str × V)}, FRs C ι H xs vs → vs.length = xs.length
  | [], _, h => by simp only [FRs] at h; rw [h]; rfl
  | x :: r, _, h => by
    simp only [FRs] at h
    obtain ⟨v, w, e, _, h2⟩ := h
    rw [e, List.length_cons, List.length_cons, FRs.len h2]
def sFldM (c : Nat) (f : Str) (o m : ME) : MSt := fun env S => sBind (m env S) env fun y S1 => sBind (o env S1) env fun x S2 => match x with
  | .ref l => match S2[l]? with
    | some (.ins c' fs) => if c' = c ∧ fs.length < 1000 then .nx env (S2.set l (.ins c (putM f y fs))) else .bad
    | _ => .bad
  | _ => .bad
theorem js_fld {c : Nat} {fl : Str} {pos' : Pos} {mo m : ME} (hcl : C.cA c = cl) (ho : PE X o (tM C W mo)) (hc : Cls X.K cl) (hn : NoAttr X.K cl fl) (hv : PE X e (tM C W m)) (hs : swapsWith e (some (.Attribute o fl pos')) pos.line X.env = pure false := by rfl) : PS X (.Assign [.Attribute o fl pos'] e pos) (tMS C W (sFldM c fl mo m)) :=
  psImp (ps_fld ho hv hs) fun D σ H h => by
    obtain ⟨ι, env, S, he, hs, hp⟩ := h
    refine ⟨ι, env, S, he, hs, SPost.bind he hp fun y S1 ι1 H1 u e1 s1 q1 p1 => ?_⟩
    refine ⟨ι1, env, S1, he.mono e1, s1, SPost.bind (he.mono e1) p1 fun x S2 ι2 H2 v e2 s2 q2 p2 => ?_⟩
    split at p2
    · rename_i l
      split at p2
      · rename_i c' fs e3
        split at p2
        · rename_i hh
          obtain ⟨rfl, hl⟩ := hh
          simp only [VR] at q2
          obtain ⟨a, rfl, ha⟩ := q2
          obtain ⟨dx, fx, h1, h2⟩ := s2.ob l _ a e3 ha
          rw [hcl] at h1
          have ex : Ext ι2 H2 ι2 (upd H2 a (.ins cl dx (putF fl u fx))) := Ext.set ha
          refine ⟨a, cl, dx, fx, rfl, h1, hc, hn, by rw [h2.len]; exact hl, ?_⟩
          refine p2 ι2 _ σ ex (s2.set ha ⟨dx, _, by rw [upd_same, hcl], ?_⟩) (((he.mono e1).mono e2).mono ex)
          exact FRs.mono ex _ _ (FRs.put (q1.mono e2) h2)
        · exact p2.elim
      · exact p2.elim
    · exact p2.elim
end
end Mi

namespace Mi
open PySem L2

/-! ### lists and tuples read -/
def asL (S : Sto) : MV → Option (List MV)
  | .lst xs => some xs
  | .rol xs => some xs
  | .ref l => match S[l]? with
    | some (.lst xs) => some xs
    | _ => none
  | _ => none
/-- .. that may be an operand of + and * -/
def asH (S : Sto) : MV → Option (List MV)
  | .lst xs => some xs
  | .ref l => match S[l]? with
    | some (.lst xs) => some xs
    | _ => none
  | _ => none
def asU : MV → Option (List MV)
  | .tup xs => some xs
  | _ => none
section
variable {C : Ct} {ι : Io} {S : Sto} {H : Hp}
theorem asL_ok {x : MV} {v : V} {xs : List MV} (s : StR C ι S H) (r : VR C ι H x v) (h : asL S x = some xs) : ∃ a vs, v = .ref a ∧ SqL C.K H a vs ∧ VRs C ι H xs vs := by
  cases x with
  | lst ys =>
    simp only [asL, Option.some.injEq] at h; subst h
    simp only [VR] at r
    obtain ⟨a, vs, rfl, h0, h1, h2⟩ := r
    exact ⟨a, vs, rfl, SqL.of h1, h2⟩
  | rol ys =>
    simp only [asL, Option.some.injEq] at h; subst h
    simp only [VR] at r
    obtain ⟨a, vs, rfl, h1, h2⟩ := r
    exact ⟨a, vs, rfl, h1.sq, h2⟩
  | ref l =>
    simp only [asL] at h
    split at h
    · rename_i ys e
      simp only [Option.some.injEq] at h; subst h
      simp only [VR] at r
      obtain ⟨a, rfl, hl⟩ := r
      obtain ⟨vs, h1, h2⟩ := s.ob l _ a e hl
      exact ⟨a, vs, rfl, SqL.of h1, h2⟩
    · cases h
  | _ => cases h
theorem asH_ok {x : MV} {v : V} {xs : List MV} (s : StR C ι S H) (r : VR C ι H x v) (h : asH S x = some xs) : ∃ a vs, v = .ref a ∧ H a = some (.lst vs) ∧ VRs C ι H xs vs := by
  cases x with
  | lst ys =>
    simp only [asH, Option.some.injEq] at h; subst h
    simp only [VR] at r
    obtain ⟨a, vs, rfl, h0, h1, h2⟩ := r
    exact ⟨a, vs, rfl, h1, h2⟩
  | ref l =>
    simp only [asH] at h
    split at h
    · rename_i ys e
      simp only [Option.some.injEq] at h; subst h
      simp only [VR] at r
      obtain ⟨a, rfl, hl⟩ := r
      obtain ⟨vs, h1, h2⟩ := s.ob l _ a e hl
      exact ⟨a, vs, rfl, h1, h2⟩
    · cases h
  | _ => cases h
theorem asU_ok {x : MV} {v : V} {xs : List MV} (r : VR C ι H x v) (h : asU x = some xs) : ∃ a vs, v = .ref a ∧ FT C ι H a vs ∧ VRs C ι H xs vs := by
  cases x with
  | tup ys =>
    simp only [asU, Option.some.injEq] at h; subst h
    simp only [VR] at r
    obtain ⟨a, vs, rfl, h1, h2⟩ := r
    exact ⟨a, vs, rfl, h1, h2⟩
  | _ => cases h
theorem VRs.at {ι : Io} {H : Hp} : ∀ {xs : List MV} {vs : List V} {i : Nat} {x : MV}, VRs C ι H xs vs → xs[i]? = some x → ∃ v, vs[i]? = some v ∧ VR C ι H x v
  | [], _, i, x, _, h => by simp at h
  | y :: r, _, i, x, q, h => by
    simp only [VRs] at q
    obtain ⟨v, w, rfl, h1, h2⟩ := q
    cases i with
    | zero => simp at h; subst h; exact ⟨v, rfl, h1⟩
    | succ i =>
      obtain ⟨u, e1, e2⟩ := VRs.at h2 (i := i) (x := x) (by simpa using h)
      exact ⟨u, by simpa using e1, e2⟩
theorem VRs.at' {ι : Io} {H : Hp} : ∀ {xs : List MV} {vs : List V} {i : Nat} {v : V}, VRs C ι H xs vs → vs[i]? = some v → ∃ x, xs[i]? = some x ∧ VR C ι H x v
  | [], _, i, x, q, h => by simp only [VRs] at q; subst q; simp at h
  | y :: r, _, i, x, q, h => by
    simp only [VRs] at q
    obtain ⟨v, w, rfl, h1, h2⟩ := q
    cases i with
    | zero => simp at h; subst h; exact ⟨y, rfl, h1⟩
    | succ i =>
      obtain ⟨u, e1, e2⟩ := VRs.at' h2 (i := i) (v := x) (by simpa using h)
      exact ⟨u, by simpa using e1, e2⟩
theorem VRs.take {ι : Io} {H : Hp} (n : Nat) : ∀ {xs : List MV} {vs : List V}, VRs C ι H xs vs → VRs C ι H (xs.take n) (vs.take n) := by
  induction n with
  | zero => intro xs vs h; simp only [List.take_zero, VRs]
  | succ n ih =>
    intro xs vs h
    cases xs with
    | nil => simp only [VRs] at h; subst h; simp only [List.take_nil, VRs]
    | cons x r =>
      simp only [VRs] at h
      obtain ⟨v, w, rfl, h1, h2⟩ := h
      simp only [List.take_succ_cons, VRs]
      exact ⟨v, _, rfl, h1, ih h2⟩
theorem VRs.drop {ι : Io} {H : Hp} (n : Nat) : ∀ {xs : List MV} {vs : List V}, VRs C ι H xs vs → VRs C ι H (xs.drop n) (vs.drop n) := by
  induction n with
  | zero => intro xs vs h; exact h
  | succ n ih =>
    intro xs vs h
    cases xs with
    | nil => simp only [VRs] at h; subst h; simp only [List.drop_nil, VRs]
    | cons x r =>
      simp only [VRs] at h
      obtain ⟨v, w, rfl, h1, h2⟩ := h
      simp only [List.drop_succ_cons]
      exact ih h2
theorem VRs.set {ι : Io} {H : Hp} {y : MV} {u : V} (r : VR C ι H y u) : ∀ {xs : List MV} {vs : List V} (i : Nat), VRs C ι H xs vs → VRs C ι H (xs.set i y) (vs.set i u)
  | [], _, i, h => by simp only [VRs] at h; subst h; simp only [List.set_nil, VRs]
  | x :: xr, _, 0, h => by
    simp only [VRs] at h
    obtain ⟨v, w, rfl, h1, h2⟩ := h
    simp only [List.set_cons_zero, VRs]
    exact ⟨u, w, rfl, r, h2⟩
  | x :: xr, _, i + 1, h => by
    simp only [VRs] at h
    obtain ⟨v, w, rfl, h1, h2⟩ := h
    simp only [List.set_cons_succ, VRs]
    exact ⟨v, _, rfl, h1, VRs.set r i h2⟩
theorem VRs.erase {ι : Io} {H : Hp} : ∀ {xs : List MV} {vs : List V} (i : Nat), VRs C ι H xs vs → VRs C ι H (xs.eraseIdx i) (vs.eraseIdx i)
  | [], _, i, h => by simp only [VRs] at h; subst h; simp only [List.eraseIdx_nil, VRs]
  | x :: xr, _, 0, h => by
    simp only [VRs] at h
    obtain ⟨v, w, rfl, h1, h2⟩ := h
    simp only [List.eraseIdx_zero, List.tail_cons]
    exact h2
  | x :: xr, _, i + 1, h => by
    simp only [VRs] at h
    obtain ⟨v, w, rfl, h1, h2⟩ := h
    simp only [List.eraseIdx_cons_succ, VRs]
    exact ⟨v, _, rfl, h1, VRs.erase i h2⟩
theorem VRs.rev {ι : Io} {H : Hp} : ∀ {xs : List MV} {vs : List V}, VRs C ι H xs vs → VRs C ι H xs.reverse vs.reverse
  | [], _, h => by simp only [VRs] at h; subst h; simp only [List.reverse_nil, VRs]
  | x :: xr, _, h => by
    simp only [VRs] at h
    obtain ⟨v, w, rfl, h1, h2⟩ := h
    rw [List.reverse_cons, List.reverse_cons]
    exact (VRs.rev h2).append (by simp only [VRs]; exact ⟨v, [], rfl, h1, rfl⟩)
end

/-! ### == -/
def flat : MV → Bool
  | .non => true
  | .bl _ => true
  | .int _ => true
  | .str _ => true
  | _ => false
def eqF : MV → MV → Bool
  | .non, .non => true
  | .bl a, .bl b => a == b
  | .bl a, .int b => (if a then 1 else 0) == b
  | .int a, .bl b => a == (if b then 1 else 0)
  | .int a, .int b => a == b
  | .str a, .str b => a == b
  | _, _ => false
/-- all pairs from the left, as far as both go -/
def all2 (f : MV → MV → Option Bool) : List MV → List MV → Option Bool
  | x :: xs, y :: ys => match f x y, all2 f xs ys with
    | some a, some b => some (a && b)
    | _, _ => none
  | _, _ => some true
def deq : Nat → MV → MV → Option Bool
  | 0, x, y => if flat x && flat y then some (eqF x y) else none
  | d + 1, x, y => if flat x && flat y then some (eqF x y) else match x, y with
    | .tup xs, .tup ys => (all2 (deq d) xs ys).map fun b => b && xs.length == ys.length
    | .lst xs, .lst ys => if xs.length = ys.length then all2 (deq d) xs ys else some false
    | .tup _, .lst _ => some false
    | .lst _, .tup _ => some false
    | .tup _, y => if flat y then some false else none
    | .lst _, y => if flat y then some false else none
    | x, .tup _ => if flat x then some false else none
    | x, .lst _ => if flat x then some false else none
    | _, _ => none
/-- what a value looks like to a reader: a list's place, or its name, forgotten -/
def view (S : Sto) : MV → MV
  | .rol xs => .lst xs
  | .ref l => match S[l]? with
    | some (.lst xs) => .lst xs
    | _ => .ref l
  | x => x
def VW (C : Ct) (ι : Io) (H : Hp) (x : MV) (v : V) : Prop := match x with
  | .lst xs => ∃ a vs, v = .ref a ∧ SqL C.K H a vs ∧ VRs C ι H xs vs
  | .tup xs => ∃ a vs, v = .ref a ∧ SqT C.K H a vs ∧ VRs C ι H xs vs
  | x => flat x = true → VR C ι H x v
section
variable {C : Ct} {ι : Io} {S : Sto} {H : Hp}
theorem VR.vw {x : MV} {v : V} (h : VR C ι H x v) : VW C ι H x v := by
  cases x with
  | lst xs => simp only [VR] at h; obtain ⟨a, vs, rfl, _, h1, h2⟩ := h; exact ⟨a, vs, rfl, SqL.of h1, h2⟩
  | tup xs => simp only [VR] at h; obtain ⟨a, vs, rfl, h1, h2⟩ := h; exact ⟨a, vs, rfl, h1.sq, h2⟩
  | _ => exact fun _ => h
theorem view_ok {x : MV} {v : V} (s : StR C ι S H) (r : VR C ι H x v) : VW C ι H (view S x) v := by
  cases x with
  | rol xs => simp only [VR] at r; obtain ⟨a, vs, rfl, h1, h2⟩ := r; exact ⟨a, vs, rfl, h1.sq, h2⟩
  | ref l =>
    simp only [view]
    split
    · rename_i xs e
      simp only [VR] at r
      obtain ⟨a, rfl, hl⟩ := r
      obtain ⟨vs, h1, h2⟩ := s.ob l _ a e hl
      exact ⟨a, vs, rfl, SqL.of h1, h2⟩
    · exact fun h => by cases h
  | lst xs => exact r.vw
  | tup xs => exact r.vw
  | _ => exact fun _ => r
theorem VR.flatV {x : MV} {v : V} (h : VR C ι H x v) (f : flat x = true) : L2.flatV v = true := by
  cases x <;> first | (simp only [VR] at h; subst h; rfl) | cases f
theorem eqF_V {x y : MV} {v u : V} (h : VR C ι H x v) (h2 : VR C ι H y u) (f : flat x = true) (g : flat y = true) : eqV v u = eqF x y := by
  cases x <;> (first | cases f) <;> cases y <;> (first | cases g) <;> simp only [VR] at h h2 <;> subst h <;> subst h2 <;> try rfl
  rename_i a b
  show ((⟨a.toArray⟩ : Str) == ⟨b.toArray⟩) = (a == b)
  by_cases e : a = b
  · subst e; simp
  · rw [beq_eq_false_iff_ne.mpr e, beq_eq_false_iff_ne]
    intro z
    injection z with z
    exact e (by simpa using congrArg Array.toList z)
end
section
variable {X : Cx} {C : Ct} {ι : Io} {pins : List (Addr × Obj)} {σ : L2.St} {H : Hp} {s : Shared}
/-- the same object twice is equal to itself -/
theorem eqF_same {x y : MV} {v : V} (h : VR C ι H x v) (h2 : VR C ι H y v) (f : flat x = true) (g : flat y = true) : eqF x y = true := by
  rw [← eqF_V h h2 f g]
  have := h.flatV f
  cases v <;> first | rfl | (simp [eqV]; done) | (simp [L2.flatV] at this)
theorem all2_same {d : Nat} (ih : ∀ x y v b, VR C ι H x v → VR C ι H y v → deq d x y = some b → b = true) : ∀ {xs ys : List MV} {vs : List V} {b : Bool}, VRs C ι H xs vs → VRs C ι H ys vs → all2 (deq d) xs ys = some b → b = true
  | [], ys, vs, b, _, _, h => by simp only [all2, Option.some.injEq] at h; exact h.symm
  | x :: xr, [], vs, b, _, _, h => by simp only [all2, Option.some.injEq] at h; exact h.symm
  | x :: xr, y :: yr, vs, b, h1, h2, h => by
    simp only [VRs] at h1 h2
    obtain ⟨v, w, rfl, a1, a2⟩ := h1
    obtain ⟨v', w', e, b1, b2⟩ := h2
    obtain ⟨rfl, rfl⟩ := List.cons.inj e
    simp only [all2] at h
    split at h
    · rename_i c1 c2 e1 e2
      simp only [Option.some.injEq] at h
      rw [← h, ih _ _ _ _ a1 b1 e1, all2_same ih a2 b2 e2]
      rfl
    · cases h
theorem deq_same (hK : X.K = C.K) (I : Inv X pins σ H s) : ∀ (d : Nat) (x y : MV) (v : V) (b : Bool), VW C ι H x v → VW C ι H y v → deq d x y = some b → b = true
  | 0, x, y, v, b, h1, h2, h => by
    unfold deq at h
    split at h
    · rename_i hf
      rw [Bool.and_eq_true] at hf
      simp only [Option.some.injEq] at h
      have g1 : VR C ι H x v := by cases x <;> first | exact h1 rfl | cases hf.1
      have g2 : VR C ι H y v := by cases y <;> first | exact h2 rfl | cases hf.2
      rw [← h]; exact eqF_same g1 g2 hf.1 hf.2
    · cases h
  | d + 1, x, y, v, b, h1, h2, h => by
    have ih : ∀ x y v b, VR C ι H x v → VR C ι H y v → deq d x y = some b → b = true := fun x y v b a1 a2 => deq_same hK I d x y v b a1.vw a2.vw
    have flatref : ∀ {z : MV} {a : Addr}, flat z = true → VW C ι H z (.ref a) → False := fun {z a} hz q => by
      cases z <;> first | (have := q rfl; simp only [VR] at this; cases this) | cases hz
    have lt : ∀ {a : Addr} {vs ws : List V}, SqL C.K H a vs → SqT C.K H a ws → False := fun {a vs ws} p q => by
      rw [← hK] at p q
      obtain ⟨its, _, pl, _⟩ := I.list p
      obtain ⟨its2, _, pt, _⟩ := I.tuple q
      exact absurd rfl (SeqAt.ne_of_list_tuple pl.isList pt)
    unfold deq at h
    split at h
    · rename_i hf
      rw [Bool.and_eq_true] at hf
      simp only [Option.some.injEq] at h
      have g1 : VR C ι H x v := by cases x <;> first | exact h1 rfl | cases hf.1
      have g2 : VR C ι H y v := by cases y <;> first | exact h2 rfl | cases hf.2
      rw [← h]; exact eqF_same g1 g2 hf.1 hf.2
    · split at h
      · rename_i xs ys nf
        obtain ⟨a, vs, rfl, p1, p2⟩ := h1
        obtain ⟨a', ws, e, q1, q2⟩ := h2
        cases e
        have ev : vs = ws := I.tuple_inj (by rw [hK]; exact p1) (by rw [hK]; exact q1)
        subst ev
        cases e2 : all2 (deq d) xs ys with
        | none => rw [e2] at h; cases h
        | some c =>
          rw [e2] at h
          simp only [Option.map_some, Option.some.injEq] at h
          rw [← h, all2_same ih p2 q2 e2, ← p2.len, ← q2.len]
          simp
      · rename_i xs ys nf
        obtain ⟨a, vs, rfl, p1, p2⟩ := h1
        obtain ⟨a', ws, e, q1, q2⟩ := h2
        cases e
        have ev : vs = ws := I.list_inj (by rw [hK]; exact p1) (by rw [hK]; exact q1)
        subst ev
        rw [if_pos (by rw [← p2.len, ← q2.len])] at h
        exact all2_same ih p2 q2 h
      · obtain ⟨a, vs, rfl, p1, p2⟩ := h1
        obtain ⟨a', ws, e, q1, q2⟩ := h2
        cases e
        exact (lt q1 p1).elim
      · obtain ⟨a, vs, rfl, p1, p2⟩ := h1
        obtain ⟨a', ws, e, q1, q2⟩ := h2
        cases e
        exact (lt p1 q1).elim
      · obtain ⟨a, vs, rfl, p1, p2⟩ := h1
        split at h
        · rename_i hy; exact (flatref hy h2).elim
        · cases h
      · obtain ⟨a, vs, rfl, p1, p2⟩ := h1
        split at h
        · rename_i hy; exact (flatref hy h2).elim
        · cases h
      · obtain ⟨a, vs, rfl, p1, p2⟩ := h2
        split at h
        · rename_i hy; exact (flatref hy h1).elim
        · cases h
      · obtain ⟨a, vs, rfl, p1, p2⟩ := h2
        split at h
        · rename_i hy; exact (flatref hy h1).elim
        · cases h
      · cases h
theorem all2_at {f : MV → MV → Option Bool} : ∀ {xs ys : List MV} {b : Bool}, all2 f xs ys = some b → ∃ e : Nat → Bool, (∀ (j : Nat) (x y : MV), xs[j]? = some x → ys[j]? = some y → f x y = some (e j)) ∧ (List.range (min xs.length ys.length)).all e = b
  | [], ys, b, h => by
    simp only [all2, Option.some.injEq] at h
    exact ⟨fun _ => true, fun j x y h => by simp at h, by simp [h]⟩
  | x :: xr, [], b, h => by
    simp only [all2, Option.some.injEq] at h
    exact ⟨fun _ => true, fun j x y _ h => by simp at h, by simp [h]⟩
  | x :: xr, y :: yr, b, h => by
    simp only [all2] at h
    split at h
    · rename_i c1 c2 e1 e2
      simp only [Option.some.injEq] at h
      obtain ⟨e, h1, h2⟩ := all2_at e2
      refine ⟨fun j => match j with | 0 => c1 | j + 1 => e j, fun j u v hu hv => ?_, ?_⟩
      · cases j with
        | zero => simp at hu hv; subst hu; subst hv; exact e1
        | succ j => exact h1 j u v (by simpa using hu) (by simpa using hv)
      · rw [show min (x :: xr).length (y :: yr).length = min xr.length yr.length + 1 from by simp only [List.length_cons]; omega, List.range_succ_eq_map, List.all_cons, List.all_map, ← h, ← h2]
        rfl
    · cases h
theorem deq_run (hK : X.K = C.K) (I : Inv X pins σ H s) : ∀ (d : Nat) (A : Around), A.units + d < cLine → ∀ (x y : MV) (v u : V) (vv uu : Value) (b : Bool), VW C ι H x v → VW C ι H y u → RelV v vv → RelV u uu → deq d x y = some b → SeqAt.EqAt A s vv uu b
  | 0, A, hA, x, y, v, u, vv, uu, b, h1, h2, r1, r2, h => by
    unfold deq at h
    split at h
    · rename_i hf
      rw [Bool.and_eq_true] at hf
      simp only [Option.some.injEq] at h
      have g1 : VR C ι H x v := by cases x <;> first | exact h1 rfl | cases hf.1
      have g2 : VR C ι H y u := by cases y <;> first | exact h2 rfl | cases hf.2
      rw [← h, ← eqF_V g1 g2 hf.1 hf.2]
      exact eqAt_V r1 r2 (g1.flatV hf.1) (g2.flatV hf.2)
    · cases h
  | d + 1, A, hA, x, y, v, u, vv, uu, b, h1, h2, r1, r2, h => by
    have hu : A.units < cLine := by omega
    have ih := fun (x y : MV) (v u : V) (vv uu : Value) (b : Bool) (a1 : VR C ι H x v) (a2 : VR C ι H y u) => deq_run hK I d A.in1 (by show A.units + 1 + d < cLine; omega) x y v u vv uu b a1.vw a2.vw
    have same := fun (v : V) (b : Bool) (a1 : VW C ι H x v) (a2 : VW C ι H y v) => deq_same hK I (d + 1) x y v b a1 a2
    have lst : ∀ {a : Addr} {vs : List V}, SqL C.K H a vs → ∃ its : List Value, Vals vs its ∧ s.heap.IsList a its.toArray := fun {a vs} p => by
      rw [← hK] at p
      obtain ⟨its, rv, pl, _⟩ := I.list p
      exact ⟨its, rv, pl.isList⟩
    have tpl : ∀ {a : Addr} {vs : List V}, SqT C.K H a vs → ∃ its : List Value, Vals vs its ∧ s.heap.IsTuple a its.toArray := fun {a vs} p => by
      rw [← hK] at p
      obtain ⟨its, rv, pl, _⟩ := I.tuple p
      exact ⟨its, rv, pl⟩
    have items : ∀ {xs ys : List MV} {vs ws : List V} {its its2 : List Value} {e : Nat → Bool}, VRs C ι H xs vs → VRs C ι H ys ws → Vals vs its → Vals ws its2 → (∀ (j : Nat) (x y : MV), xs[j]? = some x → ys[j]? = some y → deq d x y = some (e j)) →
        ∀ j (h1 : j < its.toArray.size) (h2 : j < its2.toArray.size), SeqAt.EqAt A.in1 s its.toArray[j] its2.toArray[j] (e j) := fun {xs ys vs ws its its2 e} a1 a2 b1 b2 he j j1 j2 => by
      have j1' : j < its.length := by simpa using j1
      have j2' : j < its2.length := by simpa using j2
      have l1 := b1.length
      have l2 := b2.length
      obtain ⟨x, ex, rx⟩ := a1.at' (i := j) (v := vs[j]'(by omega)) (by simp)
      obtain ⟨y, ey, ry⟩ := a2.at' (i := j) (v := ws[j]'(by omega)) (by simp)
      obtain ⟨p, ep, rp⟩ := b1.get (i := j) (x := vs[j]'(by omega)) (by simp)
      obtain ⟨q, eq, rq⟩ := b2.get (i := j) (x := ws[j]'(by omega)) (by simp)
      have e1 : its.toArray[j] = p := by simp only [List.getElem_toArray]; rw [List.getElem?_eq_getElem j1'] at ep; exact Option.some.inj ep
      have e2 : its2.toArray[j] = q := by simp only [List.getElem_toArray]; rw [List.getElem?_eq_getElem j2'] at eq; exact Option.some.inj eq
      rw [e1, e2]
      exact ih x y _ _ p q _ rx ry rp rq (he j x y ex ey)
    have h' := h
    unfold deq at h
    split at h
    · rename_i hf
      rw [Bool.and_eq_true] at hf
      simp only [Option.some.injEq] at h
      have g1 : VR C ι H x v := by cases x <;> first | exact h1 rfl | cases hf.1
      have g2 : VR C ι H y u := by cases y <;> first | exact h2 rfl | cases hf.2
      rw [← h, ← eqF_V g1 g2 hf.1 hf.2]
      exact eqAt_V r1 r2 (g1.flatV hf.1) (g2.flatV hf.2)
    · split at h
      · rename_i xs ys nf
        obtain ⟨a, vs, rfl, p1, p2⟩ := id h1
        obtain ⟨a', ws, rfl, q1, q2⟩ := id h2
        cases r1; cases r2
        by_cases ea : a = a'
        · subst ea
          rw [same _ b h1 h2 h']
          exact SeqAt.EqAt.same _
        · obtain ⟨its, rv, il⟩ := tpl p1
          obtain ⟨its2, rv2, il2⟩ := tpl q1
          cases e2 : all2 (deq d) xs ys with
          | none => rw [e2] at h; cases h
          | some c =>
            rw [e2] at h
            simp only [Option.map_some, Option.some.injEq] at h
            obtain ⟨e, e3, e4⟩ := all2_at e2
            have z := SeqAt.RcAt.tuples il il2 hu (items p2 q2 rv rv2 e3)
            refine SeqAt.EqAt.of_refs ea ?_
            have l1 : its.toArray.size = xs.length := by rw [List.size_toArray, ← rv.length, p2.len]
            have l2 : its2.toArray.size = ys.length := by rw [List.size_toArray, ← rv2.length, q2.len]
            rw [l1, l2, e4, h] at z
            exact z
      · rename_i xs ys nf
        obtain ⟨a, vs, rfl, p1, p2⟩ := id h1
        obtain ⟨a', ws, rfl, q1, q2⟩ := id h2
        cases r1; cases r2
        by_cases ea : a = a'
        · subst ea
          rw [same _ b h1 h2 h']
          exact SeqAt.EqAt.same _
        · obtain ⟨its, rv, il⟩ := lst p1
          obtain ⟨its2, rv2, il2⟩ := lst q1
          have l1 : its.toArray.size = xs.length := by rw [List.size_toArray, ← rv.length, p2.len]
          have l2 : its2.toArray.size = ys.length := by rw [List.size_toArray, ← rv2.length, q2.len]
          refine SeqAt.EqAt.of_refs ea ?_
          split at h
          · rename_i hl
            obtain ⟨e, e3, e4⟩ := all2_at h
            have z := SeqAt.RcAt.lists il il2 (by rw [l1, l2, hl]) hu (items p2 q2 rv rv2 e3)
            rw [l1] at z
            rw [← hl, Nat.min_self] at e4
            rw [e4] at z
            exact z
          · rename_i hl
            simp only [Option.some.injEq] at h
            rw [← h]
            exact SeqAt.RcAt.lists_lengths il il2 (by rw [l1, l2]; exact bne_iff_ne.mpr hl) hu
      · rename_i xs ys nf
        obtain ⟨a, vs, rfl, p1, p2⟩ := id h1
        obtain ⟨a', ws, rfl, q1, q2⟩ := id h2
        cases r1; cases r2
        obtain ⟨its, rv, il⟩ := tpl p1
        obtain ⟨its2, rv2, il2⟩ := lst q1
        simp only [Option.some.injEq] at h
        rw [← h]; exact .tuple_list il il2 hu
      · rename_i xs ys nf
        obtain ⟨a, vs, rfl, p1, p2⟩ := id h1
        obtain ⟨a', ws, rfl, q1, q2⟩ := id h2
        cases r1; cases r2
        obtain ⟨its, rv, il⟩ := lst p1
        obtain ⟨its2, rv2, il2⟩ := tpl q1
        simp only [Option.some.injEq] at h
        rw [← h]; exact .list_tuple il il2 hu
      · obtain ⟨a, vs, rfl, p1, p2⟩ := id h1
        cases r1
        obtain ⟨its, rv, il⟩ := tpl p1
        split at h
        · rename_i hy
          simp only [Option.some.injEq] at h
          rw [← h]
          cases y with
          | non => have := h2 rfl; simp only [VR] at this; subst this; cases r2; exact .tuple_none il hu
          | bl b => have := h2 rfl; simp only [VR] at this; subst this; cases r2; exact .tuple_bool b il hu
          | int b => have := h2 rfl; simp only [VR] at this; subst this; obtain ⟨t, rfl⟩ := r2; exact .tuple_int b t il hu
          | str b => have := h2 rfl; simp only [VR] at this; subst this; obtain ⟨t, rfl⟩ := r2; exact .tuple_str _ t il hu
          | _ => cases hy
        · cases h
      · obtain ⟨a, vs, rfl, p1, p2⟩ := id h1
        cases r1
        obtain ⟨its, rv, il⟩ := lst p1
        split at h
        · rename_i hy
          simp only [Option.some.injEq] at h
          rw [← h]
          cases y with
          | non => have := h2 rfl; simp only [VR] at this; subst this; cases r2; exact .list_none il hu
          | bl b => have := h2 rfl; simp only [VR] at this; subst this; cases r2; exact .list_bool b il hu
          | int b => have := h2 rfl; simp only [VR] at this; subst this; obtain ⟨t, rfl⟩ := r2; exact .list_int b t il hu
          | str b => have := h2 rfl; simp only [VR] at this; subst this; obtain ⟨t, rfl⟩ := r2; exact .list_str _ t il hu
          | _ => cases hy
        · cases h
      · obtain ⟨a, vs, rfl, p1, p2⟩ := id h2
        cases r2
        obtain ⟨its, rv, il⟩ := tpl p1
        split at h
        · rename_i hy
          simp only [Option.some.injEq] at h
          rw [← h]
          cases x with
          | non => have := h1 rfl; simp only [VR] at this; subst this; cases r1; exact .none_tuple il hu
          | bl b => have := h1 rfl; simp only [VR] at this; subst this; cases r1; exact .bool_tuple b il hu
          | int b => have := h1 rfl; simp only [VR] at this; subst this; obtain ⟨t, rfl⟩ := r1; exact .int_tuple b t il hu
          | str b => have := h1 rfl; simp only [VR] at this; subst this; obtain ⟨t, rfl⟩ := r1; exact .str_tuple _ t il hu
          | _ => cases hy
        · cases h
      · obtain ⟨a, vs, rfl, p1, p2⟩ := id h2
        cases r2
        obtain ⟨its, rv, il⟩ := lst p1
        split at h
        · rename_i hy
          simp only [Option.some.injEq] at h
          rw [← h]
          cases x with
          | non => have := h1 rfl; simp only [VR] at this; subst this; cases r1; exact .none_list il hu
          | bl b => have := h1 rfl; simp only [VR] at this; subst this; cases r1; exact .bool_list b il hu
          | int b => have := h1 rfl; simp only [VR] at this; subst this; obtain ⟨t, rfl⟩ := r1; exact .int_list b t il hu
          | str b => have := h1 rfl; simp only [VR] at this; subst this; obtain ⟨t, rfl⟩ := r1; exact .str_list _ t il hu
          | _ => cases hy
        · cases h
      · cases h
end
end Mi

namespace Mi
open PySem L2
section
variable {X : Cx} {C : Ct} {ι : Io} {pins : List (Addr × Obj)} {σ : L2.St} {H : Hp} {s : Shared}
theorem strEq (a b : List Nat) : ((⟨a.toArray⟩ : Str) == ⟨b.toArray⟩) = (a == b) := by
  by_cases e : a = b
  · subst e; simp
  · rw [beq_eq_false_iff_ne.mpr e, beq_eq_false_iff_ne]
    intro z
    injection z with z
    exact e (by simpa using congrArg Array.toList z)
theorem rc_flat {A : Around} {x y : MV} {v u : V} {vv uu : Value} {b : Bool} (h1 : VR C ι H x v) (h2 : VR C ι H y u) (r1 : RelV v vv) (r2 : RelV u uu) (f : flat x = true) (g : flat y = true) (h : eqF x y = b) : SeqAt.RcAt A s vv uu b ∧ SeqAt.RcNeAt A s vv uu (!b) := by
  subst h
  cases x with
  | non =>
    simp only [VR] at h1; subst h1; cases r1
    cases y with
    | non => simp only [VR] at h2; subst h2; cases r2; exact ⟨SeqAt.RcAt.none_none, SeqAt.RcNeAt.none_none⟩
    | bl j => simp only [VR] at h2; subst h2; cases r2; exact ⟨SeqAt.RcAt.none_bool j, SeqAt.RcNeAt.none_bool j⟩
    | int j => simp only [VR] at h2; subst h2; obtain ⟨t2, rfl⟩ := r2; exact ⟨SeqAt.RcAt.none_int j _, SeqAt.RcNeAt.none_int j _⟩
    | str j => simp only [VR] at h2; subst h2; obtain ⟨t2, rfl⟩ := r2; exact ⟨SeqAt.RcAt.none_str _ _, SeqAt.RcNeAt.none_str _ _⟩
    | _ => cases g
  | bl i =>
    simp only [VR] at h1; subst h1; cases r1
    cases y with
    | non => simp only [VR] at h2; subst h2; cases r2; exact ⟨SeqAt.RcAt.bool_none i, SeqAt.RcNeAt.bool_none i⟩
    | bl j => simp only [VR] at h2; subst h2; cases r2; exact ⟨SeqAt.RcAt.bool_bool i j, SeqAt.RcNeAt.bool_bool i j⟩
    | int j => simp only [VR] at h2; subst h2; obtain ⟨t2, rfl⟩ := r2; exact ⟨SeqAt.RcAt.bool_int i j _, SeqAt.RcNeAt.bool_int i j _⟩
    | str j => simp only [VR] at h2; subst h2; obtain ⟨t2, rfl⟩ := r2; exact ⟨SeqAt.RcAt.bool_str i _ _, SeqAt.RcNeAt.bool_str i _ _⟩
    | _ => cases g
  | int i =>
    simp only [VR] at h1; subst h1; obtain ⟨t1, rfl⟩ := r1
    cases y with
    | non => simp only [VR] at h2; subst h2; cases r2; exact ⟨SeqAt.RcAt.int_none i _, SeqAt.RcNeAt.int_none i _⟩
    | bl j => simp only [VR] at h2; subst h2; cases r2; exact ⟨SeqAt.RcAt.int_bool i _ j, SeqAt.RcNeAt.int_bool i _ j⟩
    | int j => simp only [VR] at h2; subst h2; obtain ⟨t2, rfl⟩ := r2; exact ⟨SeqAt.RcAt.int_int i _ j _, SeqAt.RcNeAt.int_int i _ j _⟩
    | str j => simp only [VR] at h2; subst h2; obtain ⟨t2, rfl⟩ := r2; exact ⟨SeqAt.RcAt.int_str i _ _ _, SeqAt.RcNeAt.int_str i _ _ _⟩
    | _ => cases g
  | str i =>
    simp only [VR] at h1; subst h1; obtain ⟨t1, rfl⟩ := r1
    cases y with
    | non => simp only [VR] at h2; subst h2; cases r2; exact ⟨SeqAt.RcAt.str_none _ _, SeqAt.RcNeAt.str_none _ _⟩
    | bl j => simp only [VR] at h2; subst h2; cases r2; exact ⟨SeqAt.RcAt.str_bool _ _ j, SeqAt.RcNeAt.str_bool _ _ j⟩
    | int j => simp only [VR] at h2; subst h2; obtain ⟨t2, rfl⟩ := r2; exact ⟨SeqAt.RcAt.str_int _ _ j _, SeqAt.RcNeAt.str_int _ _ j _⟩
    | str j => simp only [VR] at h2; subst h2; obtain ⟨t2, rfl⟩ := r2; have e := strEq i j; simp only [eqF]; rw [← e]; exact ⟨SeqAt.RcAt.str_str _ _ _ _, SeqAt.RcNeAt.str_str _ _ _ _⟩
    | _ => cases g
  | _ => cases f
theorem rc_core (hK : X.K = C.K) (I : Inv X pins σ H s) (d : Nat) (A : Around) (hA : A.units + (d + 1) < cLine) (x y : MV) (v u : V) (vv uu : Value) (b : Bool) (h1 : VW C ι H x v) (h2 : VW C ι H y u) (r1 : RelV v vv) (r2 : RelV u uu) (h : deq (d + 1) x y = some b) : SeqAt.RcAt A s vv uu b ∧ SeqAt.RcNeAt A s vv uu (!b) := by
  have hu : A.units < cLine := by omega
  have ih := fun (x y : MV) (v u : V) (vv uu : Value) (b : Bool) (a1 : VR C ι H x v) (a2 : VR C ι H y u) => deq_run hK I d A.in1 (by show A.units + 1 + d < cLine; omega) x y v u vv uu b a1.vw a2.vw
  have lst : ∀ {a : Addr} {vs : List V}, SqL C.K H a vs → ∃ its : List Value, Vals vs its ∧ s.heap.IsList a its.toArray := fun {a vs} p => by
    rw [← hK] at p
    obtain ⟨its, rv, pl, _⟩ := I.list p
    exact ⟨its, rv, pl.isList⟩
  have tpl : ∀ {a : Addr} {vs : List V}, SqT C.K H a vs → ∃ its : List Value, Vals vs its ∧ s.heap.IsTuple a its.toArray := fun {a vs} p => by
    rw [← hK] at p
    obtain ⟨its, rv, pl, _⟩ := I.tuple p
    exact ⟨its, rv, pl⟩
  have items : ∀ {xs ys : List MV} {vs ws : List V} {its its2 : List Value} {e : Nat → Bool}, VRs C ι H xs vs → VRs C ι H ys ws → Vals vs its → Vals ws its2 → (∀ (j : Nat) (x y : MV), xs[j]? = some x → ys[j]? = some y → deq d x y = some (e j)) →
      ∀ j (h1 : j < its.toArray.size) (h2 : j < its2.toArray.size), SeqAt.EqAt A.in1 s its.toArray[j] its2.toArray[j] (e j) := fun {xs ys vs ws its its2 e} a1 a2 b1 b2 he j j1 j2 => by
    have j1' : j < its.length := by simpa using j1
    have j2' : j < its2.length := by simpa using j2
    have l1 := b1.length
    have l2 := b2.length
    obtain ⟨x, ex, rx⟩ := a1.at' (i := j) (v := vs[j]'(by omega)) (by simp)
    obtain ⟨y, ey, ry⟩ := a2.at' (i := j) (v := ws[j]'(by omega)) (by simp)
    obtain ⟨p, ep, rp⟩ := b1.get (i := j) (x := vs[j]'(by omega)) (by simp)
    obtain ⟨q, eq, rq⟩ := b2.get (i := j) (x := ws[j]'(by omega)) (by simp)
    have e1 : its.toArray[j] = p := by simp only [List.getElem_toArray]; rw [List.getElem?_eq_getElem j1'] at ep; exact Option.some.inj ep
    have e2 : its2.toArray[j] = q := by simp only [List.getElem_toArray]; rw [List.getElem?_eq_getElem j2'] at eq; exact Option.some.inj eq
    rw [e1, e2]
    exact ih x y _ _ p q _ rx ry rp rq (he j x y ex ey)
  unfold deq at h
  split at h
  · rename_i hf
    rw [Bool.and_eq_true] at hf
    simp only [Option.some.injEq] at h
    have g1 : VR C ι H x v := by cases x <;> first | exact h1 rfl | cases hf.1
    have g2 : VR C ι H y u := by cases y <;> first | exact h2 rfl | cases hf.2
    exact rc_flat g1 g2 r1 r2 hf.1 hf.2 h
  · split at h
    · rename_i xs ys nf
      obtain ⟨a, vs, rfl, p1, p2⟩ := id h1
      obtain ⟨a', ws, rfl, q1, q2⟩ := id h2
      cases r1; cases r2
      obtain ⟨its, rv, il⟩ := tpl p1
      obtain ⟨its2, rv2, il2⟩ := tpl q1
      cases e2 : all2 (deq d) xs ys with
      | none => rw [e2] at h; cases h
      | some c =>
        rw [e2] at h
        simp only [Option.map_some, Option.some.injEq] at h
        obtain ⟨e, e3, e4⟩ := all2_at e2
        have z := SeqAt.RcAt.tuples il il2 hu (items p2 q2 rv rv2 e3)
        have z2 := SeqAt.RcNeAt.tuples il il2 hu (items p2 q2 rv rv2 e3)
        have l1 : its.toArray.size = xs.length := by rw [List.size_toArray, ← rv.length, p2.len]
        have l2 : its2.toArray.size = ys.length := by rw [List.size_toArray, ← rv2.length, q2.len]
        rw [l1, l2, e4, h] at z z2
        exact ⟨z, z2⟩
    · rename_i xs ys nf
      obtain ⟨a, vs, rfl, p1, p2⟩ := id h1
      obtain ⟨a', ws, rfl, q1, q2⟩ := id h2
      cases r1; cases r2
      obtain ⟨its, rv, il⟩ := lst p1
      obtain ⟨its2, rv2, il2⟩ := lst q1
      have l1 : its.toArray.size = xs.length := by rw [List.size_toArray, ← rv.length, p2.len]
      have l2 : its2.toArray.size = ys.length := by rw [List.size_toArray, ← rv2.length, q2.len]
      split at h
      · rename_i hl
        obtain ⟨e, e3, e4⟩ := all2_at h
        have z := SeqAt.RcAt.lists il il2 (by rw [l1, l2, hl]) hu (items p2 q2 rv rv2 e3)
        have z2 := SeqAt.RcNeAt.lists il il2 (by rw [l1, l2, hl]) hu (items p2 q2 rv rv2 e3)
        rw [l1] at z z2
        rw [← hl, Nat.min_self] at e4
        rw [e4] at z z2
        exact ⟨z, z2⟩
      · rename_i hl
        simp only [Option.some.injEq] at h
        rw [← h]
        exact ⟨SeqAt.RcAt.lists_lengths il il2 (by rw [l1, l2]; exact bne_iff_ne.mpr hl) hu, SeqAt.RcNeAt.lists_lengths il il2 (by rw [l1, l2]; exact bne_iff_ne.mpr hl) hu⟩
    · obtain ⟨a, vs, rfl, p1, p2⟩ := id h1
      obtain ⟨a', ws, rfl, q1, q2⟩ := id h2
      cases r1; cases r2
      obtain ⟨its, rv, il⟩ := tpl p1
      obtain ⟨its2, rv2, il2⟩ := lst q1
      simp only [Option.some.injEq] at h
      rw [← h]; exact ⟨.tuple_list il il2 hu, .tuple_list il il2 hu⟩
    · obtain ⟨a, vs, rfl, p1, p2⟩ := id h1
      obtain ⟨a', ws, rfl, q1, q2⟩ := id h2
      cases r1; cases r2
      obtain ⟨its, rv, il⟩ := lst p1
      obtain ⟨its2, rv2, il2⟩ := tpl q1
      simp only [Option.some.injEq] at h
      rw [← h]; exact ⟨.list_tuple il il2 hu, .list_tuple il il2 hu⟩
    · obtain ⟨a, vs, rfl, p1, p2⟩ := id h1
      cases r1
      obtain ⟨its, rv, il⟩ := tpl p1
      split at h
      · rename_i hy
        simp only [Option.some.injEq] at h
        rw [← h]
        cases y with
        | non => have h2 := h2 rfl; simp only [VR] at h2; subst h2; cases r2; exact ⟨.tuple_none il hu, .tuple_none il hu⟩
        | bl j => have h2 := h2 rfl; simp only [VR] at h2; subst h2; cases r2; exact ⟨.tuple_bool j il hu, .tuple_bool j il hu⟩
        | int j => have h2 := h2 rfl; simp only [VR] at h2; subst h2; obtain ⟨t2, rfl⟩ := r2; exact ⟨.tuple_int j _ il hu, .tuple_int j _ il hu⟩
        | str j => have h2 := h2 rfl; simp only [VR] at h2; subst h2; obtain ⟨t2, rfl⟩ := r2; exact ⟨.tuple_str _ _ il hu, .tuple_str _ _ il hu⟩
        | _ => cases hy
      · cases h
    · obtain ⟨a, vs, rfl, p1, p2⟩ := id h1
      cases r1
      obtain ⟨its, rv, il⟩ := lst p1
      split at h
      · rename_i hy
        simp only [Option.some.injEq] at h
        rw [← h]
        cases y with
        | non => have h2 := h2 rfl; simp only [VR] at h2; subst h2; cases r2; exact ⟨.list_none il hu, .list_none il hu⟩
        | bl j => have h2 := h2 rfl; simp only [VR] at h2; subst h2; cases r2; exact ⟨.list_bool j il hu, .list_bool j il hu⟩
        | int j => have h2 := h2 rfl; simp only [VR] at h2; subst h2; obtain ⟨t2, rfl⟩ := r2; exact ⟨.list_int j _ il hu, .list_int j _ il hu⟩
        | str j => have h2 := h2 rfl; simp only [VR] at h2; subst h2; obtain ⟨t2, rfl⟩ := r2; exact ⟨.list_str _ _ il hu, .list_str _ _ il hu⟩
        | _ => cases hy
      · cases h
    · obtain ⟨a, vs, rfl, p1, p2⟩ := id h2
      cases r2
      obtain ⟨its, rv, il⟩ := tpl p1
      split at h
      · rename_i hy
        simp only [Option.some.injEq] at h
        rw [← h]
        cases x with
        | non => have h1 := h1 rfl; simp only [VR] at h1; subst h1; cases r1; exact ⟨.none_tuple il hu, .none_tuple il hu⟩
        | bl j => have h1 := h1 rfl; simp only [VR] at h1; subst h1; cases r1; exact ⟨.bool_tuple j il hu, .bool_tuple j il hu⟩
        | int j => have h1 := h1 rfl; simp only [VR] at h1; subst h1; obtain ⟨t1, rfl⟩ := r1; exact ⟨.int_tuple j _ il hu, .int_tuple j _ il hu⟩
        | str j => have h1 := h1 rfl; simp only [VR] at h1; subst h1; obtain ⟨t1, rfl⟩ := r1; exact ⟨.str_tuple _ _ il hu, .str_tuple _ _ il hu⟩
        | _ => cases hy
      · cases h
    · obtain ⟨a, vs, rfl, p1, p2⟩ := id h2
      cases r2
      obtain ⟨its, rv, il⟩ := lst p1
      split at h
      · rename_i hy
        simp only [Option.some.injEq] at h
        rw [← h]
        cases x with
        | non => have h1 := h1 rfl; simp only [VR] at h1; subst h1; cases r1; exact ⟨.none_list il hu, .none_list il hu⟩
        | bl j => have h1 := h1 rfl; simp only [VR] at h1; subst h1; cases r1; exact ⟨.bool_list j il hu, .bool_list j il hu⟩
        | int j => have h1 := h1 rfl; simp only [VR] at h1; subst h1; obtain ⟨t1, rfl⟩ := r1; exact ⟨.int_list j _ il hu, .int_list j _ il hu⟩
        | str j => have h1 := h1 rfl; simp only [VR] at h1; subst h1; obtain ⟨t1, rfl⟩ := r1; exact ⟨.str_list _ _ il hu, .str_list _ _ il hu⟩
        | _ => cases hy
      · cases h
    · cases h
end

/-! ### comparisons -/
def fEq (x y : MV) (S : Sto) : Res MV := match deq 60 (view S x) (view S y) with
  | some b => .ok (.bl b) S
  | none => .bad
def fNe (x y : MV) (S : Sto) : Res MV := match deq 60 (view S x) (view S y) with
  | some b => .ok (.bl (!b)) S
  | none => .bad
def rEqM (C : Ct) : R2 := fun v u H Q => ∃ ι S x y b, StR C ι S H ∧ VR C ι H x v ∧ VR C ι H y u ∧ deq 60 (view S x) (view S y) = some b ∧ Q (.bl b) H
def rNeM (C : Ct) : R2 := fun v u H Q => ∃ ι S x y b, StR C ι S H ∧ VR C ι H x v ∧ VR C ι H y u ∧ deq 60 (view S x) (view S y) = some b ∧ Q (.bl (!b)) H
section
variable {X : Cx} {C : Ct}
theorem op_eqM (hK : X.K = C.K) (hu : X.A.units + 64 < cLine) : OpR X (compareOp .Eq) (rEqM C) := by
  intro pins s σ H x y v u Q I rx ry h
  obtain ⟨ι, S, a, b, c, hs, h1, h2, h3, q⟩ := h
  exact (rc_core hK I 59 X.A (by omega) _ _ _ _ _ _ _ (view_ok hs h1) (view_ok hs h2) rx ry h3).1 _ _ _ _ ⟨.bl c, H, I, rfl, q⟩
theorem op_neM (hK : X.K = C.K) (hu : X.A.units + 64 < cLine) : OpR X (compareOp .NotEq) (rNeM C) := by
  intro pins s σ H x y v u Q I rx ry h
  obtain ⟨ι, S, a, b, c, hs, h1, h2, h3, q⟩ := h
  exact (rc_core hK I 59 X.A (by omega) _ _ _ _ _ _ _ (view_ok hs h1) (view_ok hs h2) rx ry h3).2 _ _ _ _ ⟨.bl (!c), H, I, rfl, q⟩
theorem opm_eq : OpM C fEq (rEqM C) := by
  intro W ι σ S H x y v u Q hs h1 h2 hp
  unfold fEq at hp
  split at hp
  · rename_i b e
    exact ⟨ι, S, x, y, b, hs, h1, h2, e, hp ι H _ .refl hs (by simp only [VR])⟩
  · exact hp.elim
theorem opm_ne : OpM C fNe (rNeM C) := by
  intro W ι σ S H x y v u Q hs h1 h2 hp
  unfold fNe at hp
  split at hp
  · rename_i b e
    exact ⟨ι, S, x, y, b, hs, h1, h2, e, hp ι H _ .refl hs (by simp only [VR])⟩
  · exact hp.elim
end
end Mi

namespace Mi
open PySem L2 TL
/-! ### texts by their codes -/
abbrev st (l : List Nat) : Str := ⟨l.toArray⟩
theorem st_tl (z : Str) : st (tl z) = z := mk_tl z
theorem st_app (a b : List Nat) : (st a ++ st b : Str) = st (a ++ b) := ext_tl (by rw [tl_append])
theorem st_len (a : List Nat) : (st a).length = a.length := by rw [len_tl]
theorem VR_str {C : Ct} {ι : Io} {H : Hp} {l : List Nat} {z : Str} (h : tl z = l) : VR C ι H (.str l) (.str z) := by
  simp only [VR]
  rw [← h, mk_tl]

/-- a new list: a value, or a new place -/
def mkL (mu : Bool) (xs : List MV) (S : Sto) : Res MV := if mu then .ok (.ref S.length) (S ++ [.lst xs]) else .ok (.lst xs) S
theorem mkL_ok {C : Ct} {W : WX} {mu : Bool} {xs : List MV} {vs : List V} {ι : Io} {σ : L2.St} {S : Sto} {H : Hp} {Q : VK} (hs : StR C ι S H) (r : VRs C ι H xs vs) (hp : Post C W (VR C) ι σ H (mkL mu xs S) Q) : ∀ p, H p = none → Q (.ref p) (upd H p (.lst vs)) := by
  intro p hn
  cases mu with
  | true =>
    have e := Ext.push (o := .lst vs) hs hn
    refine hp (ι ++ [p]) _ _ e (hs.push hn ⟨vs, upd_same, VRs.mono e _ _ r⟩) ?_
    simp only [VR]
    exact ⟨p, rfl, by rw [← hs.len]; simp⟩
  | false =>
    have e := Ext.upd (o := .lst vs) hs hn
    refine hp ι _ _ e (hs.upd hn) ?_
    simp only [VR]
    exact ⟨p, vs, rfl, hs.fresh hn, upd_same, VRs.mono e _ _ r⟩
theorem mkT_ok {C : Ct} {W : WX} {xs : List MV} {vs : List V} {ι : Io} {σ : L2.St} {S : Sto} {H : Hp} {Q : VK} (hs : StR C ι S H) (r : VRs C ι H xs vs) (hp : Post C W (VR C) ι σ H (.ok (.tup xs) S) Q) : ∀ p, H p = none → Q (.ref p) (upd H p (.tup vs)) := by
  intro p hn
  have e := Ext.upd (o := .tup vs) hs hn
  refine hp ι _ _ e (hs.upd hn) ?_
  simp only [VR]
  exact ⟨p, vs, rfl, .inl ⟨hs.fresh hn, .inl upd_same⟩, VRs.mono e _ _ r⟩

/-! ### + -/
def fAdd (mu : Bool) (x y : MV) (S : Sto) : Res MV := match x, y with
  | .int i, .int j => .ok (.int (i + j)) S
  | .str a, .str b => if a.length + b.length ≤ sizeLine then .ok (.str (a ++ b)) S else .bad
  | .tup xs, .tup ys => if xs.length + ys.length ≤ sizeLine then .ok (.tup (xs ++ ys)) S else .bad
  | x, y => match asH S x, asH S y with
    | some xs, some ys => if xs.length + ys.length ≤ sizeLine then mkL mu (xs ++ ys) S else .bad
    | _, _ => .bad
def rAddM (K : PySem.W.Frag) : R2 := fun x y H Q => (∃ i j, x = .int i ∧ y = .int j ∧ Q (.int (i + j)) H) ∨ (∃ i j, x = .str i ∧ y = .str j ∧ i.length + j.length ≤ sizeLine ∧ Q (.str (i ++ j)) H) ∨ rCatA K x y H Q ∨ rCat x y H Q
section
variable {X : Cx} {C : Ct}
theorem op_addM : OpR X (binaryOp .Add) (rAddM X.K) := op_add.or (op_add_str.or (op_catA.or op_cat))
theorem opm_add (mu : Bool) : OpM C (fAdd mu) (rAddM C.K) := by
  intro W ι σ S H x y v u Q hs h1 h2 hp
  unfold fAdd at hp
  split at hp
  · simp only [VR] at h1 h2
    exact .inl ⟨_, _, h1, h2, hp ι H _ .refl hs (by simp only [VR])⟩
  · simp only [VR] at h1 h2
    split at hp
    · rename_i hl
      exact .inr (.inl ⟨_, _, h1, h2, by simpa [Str.length] using hl, hp ι H _ .refl hs (VR_str (by rw [tl_append]))⟩)
    · exact hp.elim
  · split at hp
    · rename_i xs ys hl
      simp only [VR] at h1 h2
      obtain ⟨a, vs, rfl, f1, r1⟩ := h1
      obtain ⟨b, ws, rfl, f2, r2⟩ := h2
      have l1 := r1.len
      have l2 := r2.len
      refine .inr (.inr (.inl ⟨a, b, vs, ws, rfl, rfl, f1.sq, f2.sq, by rw [l1, l2]; exact hl, fun e => ?_, fun e e2 => ?_, fun e e2 => ?_⟩))
      · have : xs = [] := List.length_eq_zero_iff.mp (by rw [← l1, e]; rfl)
        subst this
        exact hp ι H _ .refl hs (by simp only [VR, List.nil_append]; exact ⟨b, ws, rfl, f2, r2⟩)
      · have : ys = [] := List.length_eq_zero_iff.mp (by rw [← l2, e2]; rfl)
        subst this
        exact hp ι H _ .refl hs (by simp only [VR, List.append_nil]; exact ⟨a, vs, rfl, f1, r1⟩)
      · exact mkT_ok hs (r1.append r2) hp
    · exact hp.elim
  · split at hp
    · rename_i xs ys e1 e2
      split at hp
      · rename_i hl
        obtain ⟨a, vs, rfl, f1, r1⟩ := asH_ok hs h1 e1
        obtain ⟨b, ws, rfl, f2, r2⟩ := asH_ok hs h2 e2
        exact .inr (.inr (.inr ⟨a, b, vs, ws, rfl, rfl, f1, f2, by rw [r1.len, r2.len]; exact hl, mkL_ok hs (r1.append r2) hp⟩))
      · exact hp.elim
    · exact hp.elim

/-! ### the other operators -/
def fSub (x y : MV) (S : Sto) : Res MV := match x, y with
  | .int i, .int j => .ok (.int (i - j)) S
  | _, _ => .bad
theorem opm_int {g : Int → Int → MV} {g' : Int → Int → V} {cond : Int → Int → Prop} {f : MV → MV → Sto → Res MV} (hg : ∀ ι H i j, VR C ι H (g i j) (g' i j))
    (hf : ∀ x y S, f x y S = .bad ∨ ∃ i j, x = .int i ∧ y = .int j ∧ cond i j ∧ f x y S = .ok (g i j) S) : OpM C f (rI cond g') := by
  intro W ι σ S H x y v u Q hs h1 h2 hp
  rcases hf x y S with e | ⟨i, j, rfl, rfl, c, e⟩
  · rw [e] at hp; exact hp.elim
  · rw [e] at hp
    simp only [VR] at h1 h2
    exact ⟨i, j, h1, h2, c, hp ι H _ .refl hs (hg _ _ _ _)⟩
theorem opm_int0 {g : Int → Int → MV} {g' : Int → Int → V} {f : MV → MV → Sto → Res MV} (hg : ∀ ι H i j, VR C ι H (g i j) (g' i j))
    (hf : ∀ x y S, f x y S = .bad ∨ ∃ i j, x = .int i ∧ y = .int j ∧ f x y S = .ok (g i j) S) : OpM C f (rI0 g') := by
  intro W ι σ S H x y v u Q hs h1 h2 hp
  rcases hf x y S with e | ⟨i, j, rfl, rfl, e⟩
  · rw [e] at hp; exact hp.elim
  · rw [e] at hp
    simp only [VR] at h1 h2
    exact ⟨i, j, h1, h2, hp ι H _ .refl hs (hg _ _ _ _)⟩
theorem opm_sub : OpM C fSub (rI0 fun i j => .int (i - j)) := opm_int0 (g := fun i j => .int (i - j)) (fun _ _ _ _ => by simp only [VR]) fun x y S => by
  unfold fSub; split
  · exact .inr ⟨_, _, rfl, rfl, rfl⟩
  · exact .inl rfl
def fMod (x y : MV) (S : Sto) : Res MV := match x, y with
  | .int i, .int j => if 0 < j then .ok (.int (i % j)) S else .bad
  | _, _ => .bad
theorem opm_mod : OpM C fMod (rI (fun _ j => 0 < j) fun i j => .int (i % j)) := opm_int (g := fun i j => .int (i % j)) (fun _ _ _ _ => by simp only [VR]) fun x y S => by
  unfold fMod; split
  · split
    · rename_i h; exact .inr ⟨_, _, rfl, rfl, h, rfl⟩
    · exact .inl rfl
  · exact .inl rfl
def fDiv (x y : MV) (S : Sto) : Res MV := match x, y with
  | .int i, .int j => if 0 < j ∧ j.natAbs.log2 < 9000 then .ok (.int (i / j)) S else .bad
  | _, _ => .bad
theorem opm_div : OpM C fDiv (rI CDivW fun i j => .int (i / j)) := opm_int (g := fun i j => .int (i / j)) (fun _ _ _ _ => by simp only [VR]) fun x y S => by
  unfold fDiv; split
  · split
    · rename_i h; exact .inr ⟨_, _, rfl, rfl, h, rfl⟩
    · exact .inl rfl
  · exact .inl rfl
def CPowW (i j : Int) : Prop := 0 ≤ j ∧ (Builtin.Int.intBits i : Int) * j ≤ 2 ^ 27
theorem op_powW : OpR X (binaryOp .Pow) (rI CPowW fun i j => .int (i ^ j.toNat)) := opI fun _ _ _ _ _ _ _ hc q => PyProof.Rows.pow_int hc.1 hc.2 q
/-- powers with a small written exponent -/
def fPow (x y : MV) (S : Sto) : Res MV := match x, y with
  | .int i, .int j => if 0 ≤ j ∧ (Builtin.Int.intBits i : Int) * j ≤ 2 ^ 27 then .ok (.int (i ^ j.toNat)) S else .bad
  | _, _ => .bad
theorem opm_pow : OpM C fPow (rI CPowW fun i j => .int (i ^ j.toNat)) := opm_int (g := fun i j => .int (i ^ j.toNat)) (fun _ _ _ _ => by simp only [VR]) fun x y S => by
  unfold fPow; split
  · split
    · rename_i h; exact .inr ⟨_, _, rfl, rfl, h, rfl⟩
    · exact .inl rfl
  · exact .inl rfl
/-! ### * -/
def rMulS : R2 := fun x y H Q => ∃ (z : Str) (k : Int), x = .str z ∧ y = .int k ∧ k < 2 ^ 20 ∧ -(2 ^ 20) < k ∧ z.length * k.toNat ≤ sizeLine ∧ Q (.str (st (List.replicate k.toNat (tl z)).flatten)) H
theorem fold_cps (l : Array Nat) : ∀ (k : Nat) (acc : Array Nat), ((List.replicate k l).foldl (· ++ ·) acc).toList = acc.toList ++ (List.replicate k l.toList).flatten
  | 0, acc => by simp
  | k + 1, acc => by
    rw [List.replicate_succ, List.foldl_cons, fold_cps l k, List.replicate_succ, List.flatten_cons, Array.toList_append, List.append_assoc]
theorem op_mulS : OpR X (binaryOp .Mult) rMulS := by
  intro pins s σ H x y v u Q I rx ry h
  obtain ⟨z, k, rfl, rfl, h1, h2, hz, q⟩ := h
  obtain ⟨t, rfl⟩ := rx
  obtain ⟨t', rfl⟩ := ry
  refine PySem.P.mul_str ?_ ?_ ?_ ?_
  · rw [decide_eq_false (by omega), decide_eq_false (by omega)]; rfl
  · intro a1 _
    have hk : (1 : Int) ≤ k := by omega
    have h4 : (z.length : Int) * k ≤ 2 ^ 63 - 1 := by
      have h5 : ((z.length * k.toNat : Nat) : Int) ≤ (sizeLine : Nat) := by exact_mod_cast hz
      have h6 : ((sizeLine : Nat) : Int) ≤ 2 ^ 63 - 1 := by rw [sizeLine_eq]; decide
      rw [Int.natCast_mul, Int.toNat_of_nonneg (by omega)] at h5
      omega
    have h7 := Int.le_ediv_of_mul_le (by omega : (0 : Int) < k) h4
    omega
  · intro a1 _
    exact decide_eq_false (by omega)
  · split
    · rename_i hk
      have e : k.toNat = 0 := by omega
      refine ⟨by decide, .str _, H, I.tok _, ⟨_, rfl⟩, ?_⟩
      rw [e] at q
      exact q
    · split
      · rename_i hk h3
        refine ⟨.str z, H, I, ⟨_, rfl⟩, ?_⟩
        rw [Bool.or_eq_true] at h3
        have e : st (List.replicate k.toNat (tl z)).flatten = z := by
          rcases h3 with h3 | h3
          · have : k = 1 := by simpa using h3
            subst this
            exact ext_tl (by simp)
          · have h0 : tl z = [] := by
              have : z.length = 0 := by simpa using h3
              rw [len_tl] at this
              exact List.length_eq_zero_iff.mp this
            refine ext_tl ?_
            rw [h0]
            show (List.replicate k.toNat ([] : List Nat)).flatten = []
            simp
        rw [e] at q
        exact q
      · rename_i hk h3
        have e : (⟨(List.replicate k.toNat z.cps).foldl (· ++ ·) #[]⟩ : Str) = st (List.replicate k.toNat (tl z)).flatten := ext_tl (by
          show ((List.replicate k.toNat z.cps).foldl (· ++ ·) #[]).toList = _
          rw [fold_cps]
          simp)
        rw [e]
        refine ⟨?_, .str _, H, I.tok _, ⟨_, rfl⟩, q⟩
        rw [st_len]
        have : (List.replicate k.toNat (tl z)).flatten.length = k.toNat * (tl z).length := by simp
        rw [this, ← len_tl, Nat.mul_comm]
        exact hz
end
end Mi

namespace Mi
open PySem L2 TL

/-! ### * -/
def fMul (mu : Bool) (x y : MV) (S : Sto) : Res MV := match x, y with
  | .int i, .int j => if i.natAbs.log2 + j.natAbs.log2 < 1000000 then .ok (.int (i * j)) S else .bad
  | .str a, .int k => if k < 2 ^ 20 ∧ -(2 ^ 20) < k ∧ a.length * k.toNat ≤ sizeLine then .ok (.str (List.replicate k.toNat a).flatten) S else .bad
  | x, .int k => match asH S x with
    | some xs => if k < 2 ^ 20 ∧ -(2 ^ 20) < k ∧ xs.length * k.toNat ≤ sizeLine then mkL mu (List.replicate k.toNat xs).flatten S else .bad
    | none => .bad
  | _, _ => .bad
def rMulM : R2 := fun x y H Q => rI CMulW (fun i j => .int (i * j)) x y H Q ∨ rMulS x y H Q ∨ rRep x y H Q
theorem VRs.rep {C : Ct} {ι : Io} {H : Hp} {xs : List MV} {vs : List V} (h : VRs C ι H xs vs) : ∀ k : Nat, VRs C ι H (List.replicate k xs).flatten (List.replicate k vs).flatten
  | 0 => by simp only [List.replicate_zero, List.flatten_nil, VRs]
  | k + 1 => by
    rw [List.replicate_succ, List.replicate_succ, List.flatten_cons, List.flatten_cons]
    exact h.append (VRs.rep h k)
section
variable {X : Cx} {C : Ct}
theorem op_mulM : OpR X (binaryOp .Mult) rMulM := op_mulW.or (op_mulS.or op_rep)
theorem opm_mul (mu : Bool) : OpM C (fMul mu) rMulM := by
  intro W ι σ S H x y v u Q hs h1 h2 hp
  unfold fMul at hp
  split at hp
  · simp only [VR] at h1 h2
    split at hp
    · rename_i hl
      exact .inl ⟨_, _, h1, h2, hl, hp ι H _ .refl hs (by simp only [VR])⟩
    · exact hp.elim
  · simp only [VR] at h1 h2
    split at hp
    · rename_i hl
      exact .inr (.inl ⟨_, _, h1, h2, hl.1, hl.2.1, by rw [st_len]; exact hl.2.2, hp ι H _ .refl hs (by simp only [VR])⟩)
    · exact hp.elim
  · split at hp
    · rename_i xs e
      simp only [VR] at h2
      subst h2
      obtain ⟨a, vs, rfl, f1, r1⟩ := asH_ok hs h1 e
      split at hp
      · rename_i hl
        exact .inr (.inr ⟨a, _, vs, rfl, rfl, f1, by omega, by omega, by rw [r1.len]; exact hl.2.2, mkL_ok hs (r1.rep _) hp⟩)
      · exact hp.elim
    · exact hp.elim
  · exact hp.elim

/-! ### order of ints and of texts -/
def fLt (x y : MV) (S : Sto) : Res MV := match x, y with
  | .int i, .int j => .ok (.bl (decide (i < j))) S
  | .str a, .str b => .ok (.bl (decide (a < b))) S
  | _, _ => .bad
def fLe (x y : MV) (S : Sto) : Res MV := match x, y with
  | .int i, .int j => .ok (.bl (decide (i ≤ j))) S
  | .str a, .str b => .ok (.bl (!decide (b < a))) S
  | _, _ => .bad
def fGt (x y : MV) (S : Sto) : Res MV := match x, y with
  | .int i, .int j => .ok (.bl (decide (j < i))) S
  | .str a, .str b => .ok (.bl (decide (b < a))) S
  | _, _ => .bad
def fGe (x y : MV) (S : Sto) : Res MV := match x, y with
  | .int i, .int j => .ok (.bl (decide (j ≤ i))) S
  | .str a, .str b => .ok (.bl (!decide (a < b))) S
  | _, _ => .bad
def rOrd (p : Int → Int → Bool) (q : List Nat → List Nat → Bool) : R2 := fun x y H Q => (∃ i j, x = .int i ∧ y = .int j ∧ Q (.bl (p i j)) H) ∨ ∃ i j, x = .str i ∧ y = .str j ∧ Q (.bl (q i.cps.toList j.cps.toList)) H
theorem op_ltM : OpR X (compareOp .Lt) (rOrd (fun i j => decide (i < j)) fun a b => decide (a < b)) := op_lt.or op_lt_str
theorem op_leM : OpR X (compareOp .LtE) (rOrd (fun i j => decide (i ≤ j)) fun a b => !decide (b < a)) := op_le.or op_le_str
theorem op_gtM : OpR X (compareOp .Gt) (rOrd (fun i j => decide (j < i)) fun a b => decide (b < a)) := op_gt.or op_gt_str
theorem op_geM : OpR X (compareOp .GtE) (rOrd (fun i j => decide (j ≤ i)) fun a b => !decide (a < b)) := op_ge.or op_ge_str
theorem opm_ord {p : Int → Int → Bool} {q : List Nat → List Nat → Bool} {f : MV → MV → Sto → Res MV}
    (hf : ∀ x y S, f x y S = .bad ∨ (∃ i j, x = .int i ∧ y = .int j ∧ f x y S = .ok (.bl (p i j)) S) ∨ ∃ i j, x = .str i ∧ y = .str j ∧ f x y S = .ok (.bl (q i j)) S) : OpM C f (rOrd p q) := by
  intro W ι σ S H x y v u Q hs h1 h2 hp
  rcases hf x y S with e | ⟨i, j, rfl, rfl, e⟩ | ⟨i, j, rfl, rfl, e⟩
  · rw [e] at hp; exact hp.elim
  · rw [e] at hp
    simp only [VR] at h1 h2
    exact .inl ⟨i, j, h1, h2, hp ι H _ .refl hs (by simp only [VR])⟩
  · rw [e] at hp
    simp only [VR] at h1 h2
    exact .inr ⟨_, _, h1, h2, hp ι H _ .refl hs (by simp only [VR])⟩
theorem opm_lt : OpM C fLt (rOrd (fun i j => decide (i < j)) fun a b => decide (a < b)) := opm_ord fun x y S => by
  unfold fLt; split
  · exact .inr (.inl ⟨_, _, rfl, rfl, rfl⟩)
  · exact .inr (.inr ⟨_, _, rfl, rfl, rfl⟩)
  · exact .inl rfl
theorem opm_le : OpM C fLe (rOrd (fun i j => decide (i ≤ j)) fun a b => !decide (b < a)) := opm_ord fun x y S => by
  unfold fLe; split
  · exact .inr (.inl ⟨_, _, rfl, rfl, rfl⟩)
  · exact .inr (.inr ⟨_, _, rfl, rfl, rfl⟩)
  · exact .inl rfl
theorem opm_gt : OpM C fGt (rOrd (fun i j => decide (j < i)) fun a b => decide (b < a)) := opm_ord fun x y S => by
  unfold fGt; split
  · exact .inr (.inl ⟨_, _, rfl, rfl, rfl⟩)
  · exact .inr (.inr ⟨_, _, rfl, rfl, rfl⟩)
  · exact .inl rfl
theorem opm_ge : OpM C fGe (rOrd (fun i j => decide (j ≤ i)) fun a b => !decide (a < b)) := opm_ord fun x y S => by
  unfold fGe; split
  · exact .inr (.inl ⟨_, _, rfl, rfl, rfl⟩)
  · exact .inr (.inr ⟨_, _, rfl, rfl, rfl⟩)
  · exact .inl rfl
/-- a < b < c -/
def mChain (f g : MV → MV → Sto → Res MV) (a b c : ME) : ME := fun env S => (a env S).bind fun x S1 => (b env S1).bind fun y S2 => (f x y S2).bind fun z S3 => match z with
  | .bl true => (c env S3).bind fun w S4 => g y w S4
  | .bl false => .ok (.bl false) S3
  | _ => .bad
/-- an operation that leaves the store as it is, and its operands' names alone -/
theorem chain_core {W : WX} {f g : MV → MV → Sto → Res MV} {r r' : R2} (hf : OpM C f r) (hg : OpM C g r') {a b c : ME} {σ : L2.St} {H : Hp} {Q : VK} (h : tM C W (mChain f g a b c) σ H Q) :
    tM C W a σ H fun x H1 => tM C W b σ H1 fun y H2 => r x y H2 fun z H3 => ∃ k, z = .bl k ∧ (if k = true then tM C W c σ H3 fun w H4 => r' y w H4 Q else Q (.bl false) H3) := by
  obtain ⟨ι, env, S, he, hs, hp⟩ := h
  refine ⟨ι, env, S, he, hs, Post.bind hp fun x S1 ι1 H1 v e1 s1 q1 p1 => ?_⟩
  refine ⟨ι1, env, S1, he.mono e1, s1, Post.bind p1 fun y S2 ι2 H2 u e2 s2 q2 p2 => ?_⟩
  refine hf W ι2 σ S2 H2 x y v u _ s2 (q1.mono e2) q2 (Post.bind p2 fun z S3 ι3 H3 t e3 s3 q3 p3 => ?_)
  split at p3
  · simp only [VR] at q3
    refine ⟨true, q3, ?_⟩
    rw [if_pos rfl]
    refine ⟨ι3, env, S3, ((he.mono e1).mono e2).mono e3, s3, Post.bind p3 fun w S4 ι4 H4 t4 e4 s4 q4 p4 => ?_⟩
    exact hg W ι4 σ S4 H4 y w u t4 Q s4 ((q2.mono e3).mono e4) q4 p4
  · simp only [VR] at q3
    refine ⟨false, q3, ?_⟩
    rw [if_neg Bool.false_ne_true]
    exact p3 ι3 H3 _ .refl s3 (by simp only [VR])
  · exact p3.elim
end
end Mi

namespace Mi
open PySem PySem.Spec PyProof.Rows L2 TL
section
variable {X : Cx} {C : Ct} {W : WX} {pos : Pos} {k : Nat}
theorem Bx.u64 (B : Bx C W k X) : X.A.units + 64 < cLine := B.room.units
theorem Bx.u1 (B : Bx C W k X) : X.A.units + 1 < cLine := hu_of B.room
theorem je_chain {op op' : CmpOp} {f g : MV → MV → Sto → Res MV} {r r' : R2} {ea eb ec : Expr} {a b c : ME} (ho : OpR X (compareOp op) r) (hf : OpM C f r) (ho' : OpR X (compareOp op') r') (hg : OpM C g r') (ha : PE X ea (tM C W a)) (hb : PE X eb (tM C W b)) (hc : PE X ec (tM C W c))
    (hm : lastMarks [op, op'] [eb, ec] = false := by with_unfolding_all rfl) : PE X (.Compare ea [op, op'] [eb, ec] pos) (tM C W (mChain f g a b c)) :=
  peImp (pe_chain ho ho' ha hb hc hm) fun σ H Q h => chain_core hf hg h
theorem jt_chain {op op' : CmpOp} {f g : MV → MV → Sto → Res MV} {r r' : R2} {ea eb ec : Expr} {a b c : ME} (ho : OpR X (compareOp op) r) (hf : OpM C f r) (ho' : OpR X (compareOp op') r') (hg : OpM C g r') (ha : PE X ea (tM C W a)) (hb : PE X eb (tM C W b)) (hc : PE X ec (tM C W c))
    (hm : lastMarks [op, op'] [eb, ec] = false := by with_unfolding_all rfl) : PT X (.Compare ea [op, op'] [eb, ec] pos) (tMB C W (asB (mChain f g a b c))) :=
  ptImp (pt_chain ho ho' ha hb hc hm) fun σ H Q h => by
    have q := tMB_of h
    exact chain_core hf hg q

/-! ### is None -/
def isN : MV → Bool
  | .non => true
  | _ => false
def mIsN (m : ME) : ME := fun env S => (m env S).bind fun x S1 => .ok (.bl (isN x)) S1
def mNotN (m : ME) : ME := fun env S => (m env S).bind fun x S1 => .ok (.bl (!isN x)) S1
theorem isN_ok {ι : Io} {H : Hp} {x : MV} {v : V} (r : VR C ι H x v) : decide (v = .non) = isN x := by
  cases x with
  | non => simp only [VR] at r; subst r; rfl
  | bl b => simp only [VR] at r; subst r; rfl
  | int b => simp only [VR] at r; subst r; rfl
  | str b => simp only [VR] at r; subst r; rfl
  | ty b => simp only [VR] at r; subst r; rfl
  | tup b => simp only [VR] at r; obtain ⟨a, _, rfl, _⟩ := r; rfl
  | lst b => simp only [VR] at r; obtain ⟨a, _, rfl, _⟩ := r; rfl
  | rol b => simp only [VR] at r; obtain ⟨a, _, rfl, _⟩ := r; rfl
  | dic b => simp only [VR] at r; obtain ⟨a, _, rfl, _⟩ := r; rfl
  | ins c b => simp only [VR] at r; obtain ⟨a, _, _, rfl, _⟩ := r; rfl
  | ref b => simp only [VR] at r; obtain ⟨a, rfl, _⟩ := r; rfl
  | fn b => simp only [VR] at r; subst r; rfl
  | clo b c => simp only [VR] at r
theorem isN_imp {m : ME} {σ : L2.St} {H : Hp} {Q : VK} (h : tM C W (mIsN m) σ H Q) : tIsN (tM C W m) σ H Q := by
  obtain ⟨ι, env, S, he, hs, hp⟩ := h
  refine ⟨ι, env, S, he, hs, Post.bind hp fun x S1 ι1 H1 v e1 s1 q1 p1 => ?_⟩
  rw [isN_ok q1]
  exact p1 ι1 H1 _ .refl s1 (by simp only [VR])
theorem notN_imp {m : ME} {σ : L2.St} {H : Hp} {Q : VK} (h : tM C W (mNotN m) σ H Q) : tNotN (tM C W m) σ H Q := by
  obtain ⟨ι, env, S, he, hs, hp⟩ := h
  refine ⟨ι, env, S, he, hs, Post.bind hp fun x S1 ι1 H1 v e1 s1 q1 p1 => ?_⟩
  rw [isN_ok q1]
  exact p1 ι1 H1 _ .refl s1 (by simp only [VR])
theorem je_isN {e : Expr} {m : ME} {j pos'} (h : PE X e (tM C W m)) : PE X (.Compare e [.Is] [.Constant .none j pos'] pos) (tM C W (mIsN m)) := peImp (pe_cmp (pc_isN h) rfl) fun _ _ _ => isN_imp
theorem je_notN {e : Expr} {m : ME} {j pos'} (h : PE X e (tM C W m)) : PE X (.Compare e [.IsNot] [.Constant .none j pos'] pos) (tM C W (mNotN m)) := peImp (pe_cmp (pc_notN h) rfl) fun _ _ _ => notN_imp
theorem jt_isN {e : Expr} {m : ME} {j pos'} (h : PE X e (tM C W m)) : PT X (.Compare e [.Is] [.Constant .none j pos'] pos) (tMB C W (asB (mIsN m))) := ptImp (pt_cmp (pc_isN h) rfl) fun _ _ _ h => isN_imp (tMB_of h)
theorem jt_notN {e : Expr} {m : ME} {j pos'} (h : PE X e (tM C W m)) : PT X (.Compare e [.IsNot] [.Constant .none j pos'] pos) (tMB C W (asB (mNotN m))) := ptImp (pt_cmp (pc_notN h) rfl) fun _ _ _ h => notN_imp (tMB_of h)

/-! ### dicts read -/
def keyB : MV → MV → Bool
  | .int i, .int j => i == j
  | .str a, .str b => a == b
  | _, _ => false
def isKey : MV → Bool
  | .int _ => true
  | .str _ => true
  | _ => false
def kLook : List (MV × MV) → MV → Option MV
  | [], _ => none
  | (k, x) :: r, y => if keyB k y then some x else kLook r y
def asD (S : Sto) : MV → Option (List (MV × MV))
  | .dic kvs => some kvs
  | .ref l => match S[l]? with
    | some (.dic kvs) => some kvs
    | _ => none
  | _ => none
def keyOf : MV → Key
  | .int i => .inl i
  | .str s => .inr (st s)
  | _ => .inl 0
theorem keyOf_ok {ι : Io} {H : Hp} {x : MV} {v : V} (r : VR C ι H x v) (k : isKey x = true) : v = kV (keyOf x) := by
  cases x <;> first | (simp only [VR] at r; subst r; rfl) | cases k
theorem keyR_eq {x : MV} {k : Key} (h : KeyR x k) : isKey x = true ∧ k = keyOf x := by
  cases x <;> first | exact ⟨rfl, h⟩ | exact h.elim
theorem st_inj {a b : List Nat} (h : st a = st b) : a = b := by
  have := congrArg tl h
  simpa using this
theorem keyB_ok {x y : MV} (hx : isKey x = true) (hy : isKey y = true) : keyB x y = decide (keyOf x = keyOf y) := by
  cases x with
  | int i => cases y with
    | int j => simp only [keyB, keyOf, Sum.inl.injEq]; by_cases h : i = j <;> simp [h]
    | str b => simp [keyB, keyOf]
    | _ => cases hy
  | str a => cases y with
    | int j => simp [keyB, keyOf]
    | str b =>
      simp only [keyB, keyOf, Sum.inr.injEq]
      by_cases h : a = b
      · simp [h]
      · have : ¬ st a = st b := fun z => h (st_inj z)
        simp [h]
    | _ => cases hy
  | _ => cases hx
theorem KRs.look {ι : Io} {H : Hp} {y : MV} (hy : isKey y = true) : ∀ {kvs : List (MV × MV)} {kx : List (Key × V)}, KRs C ι H kvs kx → (kLook kvs y = none → valV kx (keyOf y) = none) ∧ ∀ x, kLook kvs y = some x → ∃ v, valV kx (keyOf y) = some v ∧ VR C ι H x v
  | [], kx, h => by simp only [KRs] at h; subst h; exact ⟨fun _ => rfl, fun x h => by cases h⟩
  | (k, z) :: r, kx, h => by
    simp only [KRs] at h
    obtain ⟨⟨key, v⟩, w, rfl, h1, h2⟩ := h
    simp only [KR] at h1
    obtain ⟨h1, h3⟩ := h1
    obtain ⟨hk, rfl⟩ := keyR_eq h1
    obtain ⟨i1, i2⟩ := KRs.look hy h2
    have e := keyB_ok hk hy
    by_cases hb : keyOf k = keyOf y
    · rw [decide_eq_true hb] at e
      simp only [kLook, e, if_true]
      exact ⟨fun z => (by cases z), fun x hx => by cases hx; exact ⟨v, valV_pos hb, h3⟩⟩
    · rw [decide_eq_false hb] at e
      simp only [kLook, e, Bool.false_eq_true, if_false]
      rw [valV_neg (p := (keyOf k, v)) hb]
      exact ⟨i1, i2⟩
theorem asD_ok {ι : Io} {S : Sto} {H : Hp} {x : MV} {v : V} {kvs : List (MV × MV)} (s : StR C ι S H) (r : VR C ι H x v) (h : asD S x = some kvs) : ∃ a kx, v = .ref a ∧ Rd H a (.dK kx) ∧ KRs C ι H kvs kx := by
  cases x with
  | dic ys =>
    simp only [asD, Option.some.injEq] at h; subst h
    simp only [VR] at r
    obtain ⟨a, kx, rfl, h0, h1, h2⟩ := r
    exact ⟨a, kx, rfl, h1, h2⟩
  | ref l =>
    simp only [asD] at h
    split at h
    · rename_i ys e
      simp only [Option.some.injEq] at h; subst h
      simp only [VR] at r
      obtain ⟨a, rfl, hl⟩ := r
      obtain ⟨kx, h1, h2⟩ := s.ob l _ a e hl
      exact ⟨a, kx, rfl, .inl h1, h2⟩
    · cases h
  | _ => cases h

/-! ### in -/
def rInD' : R2 := fun x y H Q => ∃ a o, y = .ref a ∧ DGet H a x o ∧ Q (.bl o.isSome) H
def rNotInD' : R2 := fun x y H Q => ∃ a o, y = .ref a ∧ DGet H a x o ∧ Q (.bl (!o.isSome)) H
theorem op_inD' (hu : X.A.units + 1 < cLine) : OpR X (compareOp .In) rInD' := by
  intro pins s σ H x y v u Q I rx ry h
  obtain ⟨a, o, rfl, g, q⟩ := h
  cases ry
  exact d_in hu I g rx fun s3 I3 => ⟨.bl o.isSome, H, I3, rfl, q⟩
theorem op_notInD' (hu : X.A.units + 1 < cLine) : OpR X (compareOp .NotIn) rNotInD' := by
  intro pins s σ H x y v u Q I rx ry h
  obtain ⟨a, o, rfl, g, q⟩ := h
  cases ry
  exact d_notIn hu I g rx fun s3 I3 => ⟨.bl (!o.isSome), H, I3, rfl, q⟩
def rInS' : R2 := fun x y H Q => ∃ (c : Nat) (z : Str), x = .str ⟨#[c]⟩ ∧ y = .str z ∧ Q (.bl (decide (c ∈ z.cps.toList))) H
def rNotInS' : R2 := fun x y H Q => ∃ (c : Nat) (z : Str), x = .str ⟨#[c]⟩ ∧ y = .str z ∧ Q (.bl (!decide (c ∈ z.cps.toList))) H
def rInM (K : PySem.W.Frag) : R2 := fun x y H Q => rInS' x y H Q ∨ rIn K false x y H Q ∨ rInD' x y H Q
def rNotInM (K : PySem.W.Frag) : R2 := fun x y H Q => rNotInS' x y H Q ∨ rIn K true x y H Q ∨ rNotInD' x y H Q
theorem op_inM (hu : X.A.units + 1 < cLine) : OpR X (compareOp .In) (rInM X.K) := OpR.or op_in_sign (OpR.or op_in_seq (op_inD' hu))
theorem op_notInM (hu : X.A.units + 1 < cLine) : OpR X (compareOp .NotIn) (rNotInM X.K) := OpR.or op_notIn_sign (OpR.or op_notIn_seq (op_notInD' hu))
/-- a list or a tuple -/
def asSq (S : Sto) (x : MV) : Option (List MV) := match asU x with
  | some xs => some xs
  | none => asL S x
theorem asSq_ok {ι : Io} {S : Sto} {H : Hp} {x : MV} {v : V} {xs : List MV} (s : StR C ι S H) (r : VR C ι H x v) (h : asSq S x = some xs) : ∃ a vs, v = .ref a ∧ (SqL C.K H a vs ∨ SqT C.K H a vs) ∧ VRs C ι H xs vs := by
  unfold asSq at h
  split at h
  · rename_i ys e
    simp only [Option.some.injEq] at h; subst h
    obtain ⟨a, vs, rfl, h1, h2⟩ := asU_ok r e
    exact ⟨a, vs, rfl, .inr h1.sq, h2⟩
  · obtain ⟨a, vs, rfl, h1, h2⟩ := asL_ok s r h
    exact ⟨a, vs, rfl, .inl h1, h2⟩
theorem VRs.flats {ι : Io} {H : Hp} : ∀ {xs : List MV} {vs : List V}, VRs C ι H xs vs → xs.all flat = true → vs.all L2.flatV = true
  | [], _, h, _ => by simp only [VRs] at h; subst h; rfl
  | x :: r, _, h, f => by
    simp only [VRs] at h
    obtain ⟨v, w, rfl, h1, h2⟩ := h
    rw [List.all_cons, Bool.and_eq_true] at f
    rw [List.all_cons, h1.flatV f.1, VRs.flats h2 f.2]
    rfl
theorem VRs.inV {ι : Io} {H : Hp} {y : MV} {u : V} (hy : VR C ι H y u) (fy : flat y = true) : ∀ {xs : List MV} {vs : List V}, VRs C ι H xs vs → xs.all flat = true → L2.inV u vs = xs.any fun x => eqF x y
  | [], _, h, _ => by simp only [VRs] at h; subst h; rfl
  | x :: r, _, h, f => by
    simp only [VRs] at h
    obtain ⟨v, w, rfl, h1, h2⟩ := h
    rw [List.all_cons, Bool.and_eq_true] at f
    have ih := VRs.inV hy fy h2 f.2
    unfold L2.inV at ih ⊢
    rw [List.any_cons, List.any_cons, ih, eqF_V h1 hy f.1 fy]
/-- whether x is in y -/
def isIn (S : Sto) (x y : MV) : Option Bool := match x, y with
  | .str [c], .str z => some (decide (c ∈ z))
  | x, y => match asSq S y with
    | some xs => if flat x && xs.all flat then some (xs.any fun z => eqF z x) else none
    | none => match asD S y with
      | some kvs => if isKey x then some (kLook kvs x).isSome else none
      | none => none
def fIn (x y : MV) (S : Sto) : Res MV := match isIn S x y with
  | some b => .ok (.bl b) S
  | none => .bad
def fNotIn (x y : MV) (S : Sto) : Res MV := match isIn S x y with
  | some b => .ok (.bl (!b)) S
  | none => .bad
theorem isIn_ok {ι : Io} {S : Sto} {H : Hp} {x y : MV} {v u : V} {b : Bool} (hs : StR C ι S H) (h1 : VR C ι H x v) (h2 : VR C ι H y u) (h : isIn S x y = some b) :
    (∃ (c : Nat) (z : Str), v = .str ⟨#[c]⟩ ∧ u = .str z ∧ decide (c ∈ z.cps.toList) = b) ∨ (∃ p xs, u = .ref p ∧ (SqL C.K H p xs ∨ SqT C.K H p xs) ∧ L2.flatV v = true ∧ xs.all L2.flatV = true ∧ L2.inV v xs = b) ∨ ∃ a o, u = .ref a ∧ DGet H a v o ∧ o.isSome = b := by
  unfold isIn at h
  split at h
  · simp only [VR] at h1 h2
    simp only [Option.some.injEq] at h
    exact .inl ⟨_, _, h1, h2, h⟩
  · split at h
    · rename_i xs e
      split at h
      · rename_i hf
        rw [Bool.and_eq_true] at hf
        simp only [Option.some.injEq] at h
        obtain ⟨a, vs, rfl, g1, g2⟩ := asSq_ok hs h2 e
        exact .inr (.inl ⟨a, vs, rfl, g1, h1.flatV hf.1, g2.flats hf.2, by rw [g2.inV h1 hf.1 hf.2]; exact h⟩)
      · cases h
    · split at h
      · rename_i kvs e
        split at h
        · rename_i hk
          simp only [Option.some.injEq] at h
          obtain ⟨a, kx, rfl, g1, g2⟩ := asD_ok hs h2 e
          refine .inr (.inr ⟨a, valV kx (keyOf x), rfl, .inl ⟨kx, _, g1, keyOf_ok h1 hk, rfl⟩, ?_⟩)
          obtain ⟨l1, l2⟩ := g2.look hk
          cases hl : kLook kvs x with
          | none => rw [l1 hl, ← h, hl]; rfl
          | some z =>
            obtain ⟨w, ew, _⟩ := l2 z hl
            rw [ew, ← h, hl]; rfl
        · cases h
      · cases h
theorem opm_in : OpM C fIn (rInM C.K) := by
  intro W ι σ S H x y v u Q hs h1 h2 hp
  unfold fIn at hp
  split at hp
  · rename_i b e
    have q := hp ι H (.bl b) .refl hs (by simp only [VR])
    rcases isIn_ok hs h1 h2 e with ⟨c, z, rfl, rfl, e⟩ | ⟨p, xs, rfl, g1, g2, g3, e⟩ | ⟨a, o, rfl, g, e⟩
    · exact .inl ⟨c, z, rfl, rfl, by rw [e]; exact q⟩
    · exact .inr (.inl ⟨p, xs, rfl, g1, g2, g3, by rw [if_neg Bool.false_ne_true, e]; exact q⟩)
    · exact .inr (.inr ⟨a, o, rfl, g, by rw [e]; exact q⟩)
  · exact hp.elim
theorem opm_notIn : OpM C fNotIn (rNotInM C.K) := by
  intro W ι σ S H x y v u Q hs h1 h2 hp
  unfold fNotIn at hp
  split at hp
  · rename_i b e
    have q := hp ι H (.bl (!b)) .refl hs (by simp only [VR])
    rcases isIn_ok hs h1 h2 e with ⟨c, z, rfl, rfl, e⟩ | ⟨p, xs, rfl, g1, g2, g3, e⟩ | ⟨a, o, rfl, g, e⟩
    · exact .inl ⟨c, z, rfl, rfl, by rw [e]; exact q⟩
    · exact .inr (.inl ⟨p, xs, rfl, g1, g2, g3, by rw [if_pos rfl, e]; exact q⟩)
    · exact .inr (.inr ⟨a, o, rfl, g, by rw [e]; exact q⟩)
  · exact hp.elim

/-! ### a[b] -/
def rIxD : R2 := fun x y H Q => ∃ a v, x = .ref a ∧ DGet H a y (some v) ∧ Q v H
theorem ix_dict (hu : X.A.units + 1 < cLine) : IxR X rIxD := by
  intro value slice pins s σ H x y v u Q I rx ry h hs
  obtain ⟨a, z, rfl, g, q⟩ := h
  cases rx
  have hT := dict_typeIs I g
  unfold subscriptTail
  refine wpAny_bind ?_
  rw [getitemInPython_of_ne hT.not_modules]
  refine wpAny_bind (wpAny_specialOf hT PySem.F.slot_dict_getitem.lookup ?_)
  have fin : wpAny (model X.prog X.w) X.A (subscripted slice false (.ref a) u) (fun r s₃ => wpAny (model X.prog X.w) X.A (letTemporaryGo value (.ref a) r >>= fun _ => pure r) (EP X pins σ Q) X.xe s₃) X.xe s := by
    rw [hs]
    exact wpAny_operating (d_getItem hu I g ry fun w' s3 I3 rw' => wpAny_bind (wpAny_letTemporaryGo (wpAny_pure ⟨z, H, I3, rw', q⟩)))
  first
    | exact wpAny_pure (wpAny_bind fin)
    | exact wpAny_bind (wpAny_pure (wpAny_bind fin))
    | exact wpAny_bind fin
def rIxM (K : PySem.W.Frag) : R2 := fun x y H Q => rIx K x y H Q ∨ rIxD x y H Q
theorem ix_M (hu : X.A.units + 1 < cLine) : IxR X (rIxM X.K) := IxR.or ix_seq (ix_dict hu)
def fIx (x y : MV) (S : Sto) : Res MV := match x, y with
  | .str z, .int i => if z.length ≤ sizeLine then (match atI z i with
    | some c => .ok (.str [c]) S
    | none => .bad) else .bad
  | x, y => match asSq S x with
    | some xs => (match y with
      | .int i => (match atI xs i with
        | some v => .ok v S
        | none => .bad)
      | _ => .bad)
    | none => match asD S x with
      | some kvs => if isKey y then (match kLook kvs y with
        | some v => .ok v S
        | none => .bad) else .bad
      | none => .bad
theorem VRs.atI {ι : Io} {H : Hp} {xs : List MV} {vs : List V} {i : Int} {x : MV} (r : VRs C ι H xs vs) (h : L2.atI xs i = some x) : ∃ v, L2.atI vs i = some v ∧ VR C ι H x v := by
  unfold L2.atI at h ⊢
  rw [r.len]
  cases e : ixN xs.length i with
  | none => rw [e] at h; cases h
  | some j =>
    rw [e] at h
    exact r.at h
theorem opm_ix : OpM C fIx (rIxM C.K) := by
  intro W ι σ S H x y v u Q hs h1 h2 hp
  unfold fIx at hp
  split at hp
  · split at hp
    · rename_i hl
      split at hp
      · rename_i z i _ c e
        simp only [VR] at h1 h2
        exact .inl (.inr (.inr ⟨_, _, c, h1, h2, by rw [st_len]; exact hl, e, hp ι H _ .refl hs (by simp only [VR])⟩))
      · exact hp.elim
    · exact hp.elim
  · split at hp
    · rename_i xs e
      obtain ⟨a, vs, rfl, g1, g2⟩ := asSq_ok hs h1 e
      split at hp
      · split at hp
        · rename_i i _ z e2
          simp only [VR] at h2
          obtain ⟨w, e3, r3⟩ := g2.atI e2
          have q := hp ι H w .refl hs r3
          rcases g1 with g1 | g1
          · exact .inl (.inl ⟨a, vs, _, w, rfl, h2, g1, e3, q⟩)
          · exact .inl (.inr (.inl ⟨a, vs, _, w, rfl, h2, g1, e3, q⟩))
        · exact hp.elim
      · exact hp.elim
    · split at hp
      · rename_i kvs e
        split at hp
        · rename_i hk
          split at hp
          · rename_i z e2
            obtain ⟨a, kx, rfl, g1, g2⟩ := asD_ok hs h1 e
            obtain ⟨w, e3, r3⟩ := (g2.look hk).2 z e2
            exact .inr ⟨a, w, rfl, .inl ⟨kx, _, g1, keyOf_ok h2 hk, e3.symm⟩, hp ι H w .refl hs r3⟩
          · exact hp.elim
        · exact hp.elim
      · exact hp.elim
theorem je_ix {ea eb : Expr} {a b : ME} (B : Bx C W k X) (ha : PE X ea (tM C W a)) (hb : PE X eb (tM C W b)) (hs : PlainIx eb := by exact fun _ _ => rfl) : PE X (.Subscript ea eb pos) (tM C W (mBin fIx a b)) :=
  peImp (pe_ix (ix_M B.u1) ha hb hs) fun _ _ _ h => by rw [B.hK]; exact tM_bin opm_ix h

/-! ### slices -/
def cutL {α : Type} (xs : List α) (lo hi : Option Int) : List α := (xs.drop (HT.sIx xs.length 0 lo)).take (HT.sIx xs.length xs.length hi - HT.sIx xs.length 0 lo)
abbrev MO' := Env → Sto → Res (Option Int)
def tMO (C : Ct) (W : WX) (m : MO') : TO := fun σ H Q => ∃ ι env S, EnvR C ι H env σ ∧ StR C ι S H ∧ Post C W (fun _ _ x v => v = x) ι σ H (m env S) Q
theorem poImp {e : Option Expr} {t t' : TO} (h : PO X e t) (i : ∀ σ H Q, t' σ H Q → t σ H Q) : PO X e t' := ⟨fun pins s σ H Q I q => h.run pins s σ H Q I (i σ H Q q)⟩
def mNoPart : MO' := fun _ S => .ok none S
def mPart (m : ME) : MO' := fun env S => (m env S).bind fun x S1 => match x with
  | .int i => .ok (some i) S1
  | _ => .bad
theorem jo_none : PO X none (tMO C W mNoPart) := poImp po_none fun σ H Q h => by
  obtain ⟨ι, env, S, he, hs, hp⟩ := h
  exact hp ι H _ .refl hs rfl
theorem jo_some {e : Expr} {m : ME} (h : PE X e (tM C W m)) : PO X (some e) (tMO C W (mPart m)) := poImp (po_some h) fun σ H Q h => by
  obtain ⟨ι, env, S, he, hs, hp⟩ := h
  refine ⟨ι, env, S, he, hs, Post.bind hp fun x S1 ι1 H1 v e1 s1 q1 p1 => ?_⟩
  split at p1
  · simp only [VR] at q1
    exact ⟨_, q1, p1 ι1 H1 _ .refl s1 rfl⟩
  · exact p1.elim
def fSl (mu : Bool) (x : MV) (lo hi : Option Int) (S : Sto) : Res MV := match x with
  | .str z => if z.length ≤ sizeLine then .ok (.str (cutL z lo hi)) S else .bad
  | .tup xs => .ok (.tup (cutL xs lo hi)) S
  | x => match asL S x with
    | some xs => mkL mu (cutL xs lo hi) S
    | none => .bad
def mSl (mu : Bool) (a : ME) (lo hi : MO') : ME := fun env S => (a env S).bind fun x S1 => (lo env S1).bind fun l S2 => (hi env S2).bind fun h S3 => fSl mu x l h S3
def rSlM (K : PySem.W.Frag) : V → Option Int → Option Int → Hp → VK → Prop := fun x lo hi H Q => rSlL K x lo hi H Q ∨ rSlA K x lo hi H Q ∨ rSlS x lo hi H Q
theorem sl_M : SlR X (rSlM X.K) := SlR.or sl_list (SlR.or sl_tupA sl_str)
theorem VRs.cut {ι : Io} {H : Hp} {xs : List MV} {vs : List V} (lo hi : Option Int) (r : VRs C ι H xs vs) : VRs C ι H (cutL xs lo hi) (cutV vs lo hi) := by
  unfold cutL cutV
  rw [r.len]
  exact (r.drop _).take _
theorem fSl_ok {mu : Bool} {ι : Io} {σ : L2.St} {S : Sto} {H : Hp} {x : MV} {v : V} {lo hi : Option Int} {Q : VK} (hs : StR C ι S H) (h1 : VR C ι H x v) (hp : Post C W (VR C) ι σ H (fSl mu x lo hi S) Q) : rSlM C.K v lo hi H Q := by
  unfold fSl at hp
  split at hp
  · split at hp
    · rename_i z hl
      simp only [VR] at h1
      refine .inr (.inr ⟨_, h1, by rw [st_len]; exact hl, hp ι H _ .refl hs ?_⟩)
      refine VR_str ?_
      unfold cutS cutL
      simp [Str.length]
    · exact hp.elim
  · rename_i xs
    simp only [VR] at h1
    obtain ⟨a, vs, rfl, f1, r1⟩ := h1
    refine .inr (.inl ⟨a, vs, rfl, f1.sq, fun e => ?_, fun e => mkT_ok hs (r1.cut lo hi) hp⟩)
    refine hp ι H _ .refl hs ?_
    have e2 : cutL xs lo hi = xs := by
      unfold cutL
      rw [← r1.len, e.1, e.2, List.drop_zero, Nat.sub_zero, r1.len, List.take_length]
    rw [e2]
    simp only [VR]
    exact ⟨a, vs, rfl, f1, r1⟩
  · split at hp
    · rename_i xs e
      obtain ⟨a, vs, rfl, g1, g2⟩ := asL_ok hs h1 e
      exact .inl ⟨a, vs, rfl, g1, mkL_ok hs (g2.cut lo hi) hp⟩
    · exact hp.elim
theorem je_sl (mu : Bool) {e : Expr} {lo hi : Option Expr} {p2 : Pos} {a : ME} {l h : MO'} (hK : X.K = C.K) (ha : PE X e (tM C W a)) (hl : PO X lo (tMO C W l)) (hh : PO X hi (tMO C W h)) : PE X (.Subscript e (.Slice lo hi none p2) pos) (tM C W (mSl mu a l h)) :=
  peImp (pe_slice sl_M ha hl hh) fun σ H Q h => by
    obtain ⟨ι, env, S, he, hs, hp⟩ := h
    refine ⟨ι, env, S, he, hs, Post.bind hp fun x S1 ι1 H1 v e1 s1 q1 p1 => ?_⟩
    refine ⟨ι1, env, S1, he.mono e1, s1, Post.bind p1 fun y S2 ι2 H2 u e2 s2 q2 p2 => ?_⟩
    refine ⟨ι2, env, S2, (he.mono e1).mono e2, s2, Post.bind p2 fun z S3 ι3 H3 t e3 s3 q3 p3 => ?_⟩
    subst q2; subst q3
    rw [hK]
    exact fSl_ok s3 ((q1.mono e2).mono e3) p3

/-! ### displays -/
def mTup (as : MA) : ME := fun env S => (as env S).bind fun xs S1 => if xs.length ≤ sizeLine then .ok (.tup xs) S1 else .bad
def mLst (mu : Bool) (as : MA) : ME := fun env S => (as env S).bind fun xs S1 => if xs.length ≤ sizeLine then mkL mu xs S1 else .bad
theorem je_tup {es : List Expr} {x1} {as : MA} (h : PA X es (tMA C W as)) : PE X (.Tuple es x1 pos) (tM C W (mTup as)) := peImp (pe_tup h) fun σ H Q h => by
  obtain ⟨ι, env, S, he, hs, hp⟩ := h
  refine ⟨ι, env, S, he, hs, Post.bind hp fun xs S1 ι1 H1 vs e1 s1 q1 p1 => ?_⟩
  split at p1
  · rename_i hl
    exact ⟨by rw [q1.len]; exact hl, mkT_ok s1 q1 p1⟩
  · exact p1.elim
theorem je_lst (mu : Bool) {es : List Expr} {as : MA} (h : PA X es (tMA C W as)) : PE X (.List es pos) (tM C W (mLst mu as)) := peImp (pe_lst h) fun σ H Q h => by
  obtain ⟨ι, env, S, he, hs, hp⟩ := h
  refine ⟨ι, env, S, he, hs, Post.bind hp fun xs S1 ι1 H1 vs e1 s1 q1 p1 => ?_⟩
  split at p1
  · rename_i hl
    exact ⟨by rw [q1.len]; exact hl, mkL_ok s1 q1 p1⟩
  · exact p1.elim
end
end Mi

namespace Mi
open PySem PySem.Spec PyProof.Rows L2 TL

/-! ### what is walked -/
theorem piImp {X : Cx} {tg e : Expr} {t t' : TI} (h : PI X tg e t) (i : ∀ σ H R, t' σ H R → t σ H R) : PI X tg e t' := ⟨fun pins s σ H R I q => h.run pins s σ H R I (i σ H R q)⟩
theorem piOr {X : Cx} {tg e : Expr} {t t' : TI} (h : PI X tg e t) (h' : PI X tg e t') : PI X tg e (fun σ H R => t σ H R ∨ t' σ H R) := ⟨fun pins s σ H R I q => q.elim (h.run pins s σ H R I) (h'.run pins s σ H R I)⟩
/-- which place an iteration leans on -/
def depsOf : MV → List MV → List (Nat × List MV)
  | .ref l, xs => [(l, xs)]
  | _, _ => []
theorem asL_chk {S S' : Sto} {x : MV} {xs : List MV} {its : List MV} (h : asL S x = some xs) (c : (Itv.mk its (depsOf x xs)).chk S') : asL S' x = some xs := by
  cases x with
  | ref l =>
    have := c (l, xs) (by simp [depsOf])
    simp only at this
    simp only [asL, this]
  | _ => exact h
section
variable {X : Cx} {C : Ct} {W : WX} {pos : Pos} {k : Nat} {tg : Expr}
def itL (S : Sto) (x : MV) : Option Itv := match asU x with
  | some xs => some ⟨xs, []⟩
  | none => (asL S x).map fun xs => ⟨xs, depsOf x xs⟩
/-- a list or a tuple -/
def mItS (m : ME) : Env → Sto → Res Itv := fun env S => (m env S).bind fun x S1 => match itL S1 x with
  | some t => .ok t S1
  | none => .bad
theorem walkL {ι : Io} {S : Sto} {H : Hp} {x : MV} {a : Addr} {xs : List MV} (hs : StR C ι S H) (r : VR C ι H x (.ref a)) (h : asL S x = some xs) : WalkOk C ι H ⟨xs, depsOf x xs⟩ (Itl C.K a) := by
  refine ⟨fun H' => ∃ vs, vs.length = xs.length ∧ SqL C.K H' a vs, fun i H' y H2 => H2 = H' ∧ ∀ vs, SqL C.K H' a vs → vs[i]? = some y, ⟨?_, ?_, ?_⟩, ?_, ?_⟩
  · rintro i H' hi ⟨vs, hl, q⟩
    have hi : i < xs.length := hi
    exact ⟨vs, vs[i]'(by omega), q, by simp [show i < vs.length by omega]⟩
  · rintro H' ⟨vs, hl, q⟩
    exact ⟨vs, q, by rw [hl]; exact Nat.le_refl _⟩
  · rintro i H' y H2 hi ⟨vs, hl, q⟩ z
    exact ⟨z.1, z.2⟩
  · intro ι' S' H' e s' c
    obtain ⟨a', vs, ea, q, rr⟩ := asL_ok s' (r.mono e) (asL_chk h c)
    cases ea
    exact ⟨vs, rr.len, q⟩
  · rintro i ι' S' H1 y H2 e s' c hi ⟨rfl, hy⟩
    obtain ⟨a', vs, ea, q, rr⟩ := asL_ok s' (r.mono e) (asL_chk h c)
    cases ea
    obtain ⟨mv, em, rm⟩ := rr.at' (hy vs q)
    exact ⟨mv, em, .refl, s', rm⟩
theorem walkT {ι : Io} {S : Sto} {H : Hp} {x : MV} {a : Addr} {xs : List MV} (r : VR C ι H x (.ref a)) (h : asU x = some xs) : WalkOk C ι H ⟨xs, []⟩ (Itt C.K a) := by
  refine ⟨fun H' => ∃ vs, vs.length = xs.length ∧ SqT C.K H' a vs, fun i H' y H2 => H2 = H' ∧ ∀ vs, SqT C.K H' a vs → vs[i]? = some y, ⟨?_, ?_, ?_⟩, ?_, ?_⟩
  · rintro i H' hi ⟨vs, hl, q⟩
    have hi : i < xs.length := hi
    exact ⟨vs, vs[i]'(by omega), q, by simp [show i < vs.length by omega]⟩
  · rintro H' ⟨vs, hl, q⟩
    exact ⟨vs, q, by rw [hl]; exact Nat.le_refl _⟩
  · rintro i H' y H2 hi ⟨vs, hl, q⟩ z
    exact ⟨z.1, z.2⟩
  · intro ι' S' H' e s' c
    obtain ⟨a', vs, ea, q, rr⟩ := asU_ok (r.mono e) h
    cases ea
    exact ⟨vs, rr.len, q.sq⟩
  · rintro i ι' S' H1 y H2 e s' c hi ⟨rfl, hy⟩
    obtain ⟨a', vs, ea, q, rr⟩ := asU_ok (r.mono e) h
    cases ea
    obtain ⟨mv, em, rm⟩ := rr.at' (hy vs q.sq)
    exact ⟨mv, em, .refl, s', rm⟩
theorem ji_seq {e : Expr} {m : ME} (hK : X.K = C.K) (h : PE X e (tM C W m)) : PI X tg e (tMI C W (mItS m)) :=
  piImp (piOr (pi_list h) (pi_tup h)) fun σ H R h => by
    obtain ⟨ι, env, S, he, hs, hp⟩ := h
    unfold mItS at hp
    cases em : m env S with
    | bad => rw [em] at hp; exact hp.elim
    | ex x S1 => refine .inl ⟨ι, env, S, he, hs, ?_⟩; rw [em] at hp ⊢; exact hp
    | ok x S1 =>
      rw [em] at hp
      simp only [bind_ok] at hp
      unfold itL at hp
      cases eu : asU x with
      | some xs =>
        rw [eu] at hp
        refine .inr ⟨ι, env, S, he, hs, ?_⟩
        rw [em]
        intro ι1 H1 v e1 s1 q1
        obtain ⟨a, vs, rfl, g1, g2⟩ := asU_ok q1 eu
        refine ⟨a, rfl, ⟨vs, by rw [hK]; exact g1.sq⟩, ?_⟩
        rw [hK]
        exact hp ι1 H1 _ e1 s1 (walkT (S := S1) q1 eu)
      | none =>
        rw [eu] at hp
        simp only at hp
        cases el : asL S1 x with
        | none => rw [el] at hp; exact hp.elim
        | some xs =>
          rw [el] at hp
          refine .inl ⟨ι, env, S, he, hs, ?_⟩
          rw [em]
          intro ι1 H1 v e1 s1 q1
          obtain ⟨a, vs, rfl, g1, g2⟩ := asL_ok s1 q1 el
          refine ⟨a, rfl, ⟨vs, by rw [hK]; exact g1⟩, ?_⟩
          rw [hK]
          exact hp ι1 H1 _ e1 s1 (walkL s1 q1 el)
/-- range -/
def rngL (lo : Int) (n : Nat) : List MV := (List.range n).map fun (i : Nat) => MV.int (lo + (i : Int))
def mItR1 (as : MA) : Env → Sto → Res Itv := fun env S => (as env S).bind fun xs S1 => match xs with
  | [.int j] => if -(2 ^ 62) ≤ j ∧ j < 2 ^ 62 then .ok ⟨rngL 0 j.toNat, []⟩ S1 else .bad
  | _ => .bad
def mItR2 (as : MA) : Env → Sto → Res Itv := fun env S => (as env S).bind fun xs S1 => match xs with
  | [.int i, .int j] => if -(2 ^ 62) ≤ i ∧ i < 2 ^ 62 ∧ -(2 ^ 62) ≤ j ∧ j < 2 ^ 62 then .ok ⟨rngL i (j - i).toNat, []⟩ S1 else .bad
  | _ => .bad
theorem walkR {ι : Io} {H : Hp} (lo : Int) (n : Nat) : WalkOk C ι H ⟨rngL lo n, []⟩ (Itr lo n) := by
  have hl : (rngL lo n).length = n := by simp [rngL]
  refine ⟨fun _ => True, YFn fun i => .int (lo + (i : Int)), ?_, fun _ _ _ _ _ _ => trivial, ?_⟩
  · show Walk _ (rngL lo n).length _ _
    rw [hl]
    exact walk_range
  · rintro i ι' S' H1 y H2 e s' c hi ⟨rfl, rfl⟩
    have hi : i < (rngL lo n).length := hi
    rw [hl] at hi
    exact ⟨.int (lo + (i : Int)), by simp [rngL, hi], .refl, s', by simp only [VR]⟩
theorem ji_range1 {e : Expr} {as : MA} {p : Pos} (hg : Gl X "range" := by rfl) (hm : X.mg "range" = none) (ha : PA X [e] (tMA C W as)) (hs : starEach [e] X.env = [(false, eval e X.env)] := by rfl) : PI X tg (.Call (.Name "range" p) [e] [] pos) (tMI C W (mItR1 as)) :=
  piImp (pi_range1 hg hm ha hs) fun σ H R h => by
    obtain ⟨ι, env, S, he, hs, hp⟩ := h
    refine ⟨ι, env, S, he, hs, Post.bind hp fun xs S1 ι1 H1 vs e1 s1 q1 p1 => ?_⟩
    split at p1
    · rename_i j
      split at p1
      · rename_i hb
        simp only [VRs, VR] at q1
        obtain ⟨v, w, rfl, rfl, rfl⟩ := q1
        exact ⟨j, rfl, hb.1, hb.2, p1 ι1 H1 _ .refl s1 (walkR 0 j.toNat)⟩
      · exact p1.elim
    · exact p1.elim
theorem ji_range2 {e e2 : Expr} {as : MA} {p : Pos} (hg : Gl X "range" := by rfl) (hm : X.mg "range" = none) (ha : PA X [e, e2] (tMA C W as)) (hs : starEach [e, e2] X.env = [(false, eval e X.env), (false, eval e2 X.env)] := by rfl) (hs2 : starEach [e2] X.env = [(false, eval e2 X.env)] := by rfl) : PI X tg (.Call (.Name "range" p) [e, e2] [] pos) (tMI C W (mItR2 as)) :=
  piImp (pi_range2 hg hm ha hs hs2) fun σ H R h => by
    obtain ⟨ι, env, S, he, hs, hp⟩ := h
    refine ⟨ι, env, S, he, hs, Post.bind hp fun xs S1 ι1 H1 vs e1 s1 q1 p1 => ?_⟩
    split at p1
    · rename_i i j
      split at p1
      · rename_i hb
        simp only [VRs, VR] at q1
        obtain ⟨v, w, rfl, rfl, v', w', rfl, rfl, rfl⟩ := q1
        exact ⟨i, j, rfl, ⟨hb.1, hb.2.1, hb.2.2.1, hb.2.2.2⟩, p1 ι1 H1 _ .refl s1 (walkR i (j - i).toNat)⟩
      · exact p1.elim
    · exact p1.elim
/-- a text, sign by sign -/
def mItT (m : ME) : Env → Sto → Res Itv := fun env S => (m env S).bind fun x S1 => match x with
  | .str z => .ok ⟨z.map fun c => .str [c], []⟩ S1
  | _ => .bad
theorem ji_str {e : Expr} {m : ME} (h : PE X e (tM C W m)) : PI X tg e (tMI C W (mItT m)) :=
  piImp (pi_str h) fun σ H R h => by
    obtain ⟨ι, env, S, he, hs, hp⟩ := h
    refine ⟨ι, env, S, he, hs, Post.bind hp fun x S1 ι1 H1 v e1 s1 q1 p1 => ?_⟩
    split at p1
    · rename_i z
      simp only [VR] at q1
      refine ⟨_, q1, p1 ι1 H1 _ .refl s1 ⟨fun _ => True, fun i H v H' => H' = H ∧ ∃ c, (st z).cps[i]? = some c ∧ v = .str ⟨#[c]⟩, ?_, fun _ _ _ _ _ _ => trivial, ?_⟩⟩
      · show Walk _ (z.map fun c => (MV.str [c])).length _ _
        rw [List.length_map]
        exact walk_str (z := st z)
      · rintro i ι' S' H1 y H2 e s' c hi ⟨rfl, cc, hc, rfl⟩
        have : z[i]? = some cc := by simpa using hc
        exact ⟨.str [cc], by simp [this], .refl, s', by simp only [VR]⟩
    · exact p1.elim
/-- enumerate of a list -/
def enuL (xs : List MV) : List MV := (List.range xs.length).map fun (i : Nat) => MV.tup [.int (i : Int), xs.getD i .non]
def mItE (as : MA) : Env → Sto → Res Itv := fun env S => (as env S).bind fun xs S1 => match xs with
  | [x] => (match asL S1 x with
    | some ys => .ok ⟨enuL ys, depsOf x ys⟩ S1
    | none => .bad)
  | _ => .bad
theorem pairNew {ι : Io} {S : Sto} {H : Hp} {T : Addr} {x y : MV} {v u : V} (s : StR C ι S H) (h : H T = none) (r1 : VR C ι H x v) (r2 : VR C ι H y u) : Ext ι H ι (upd H T (.tup [v, u])) ∧ StR C ι S (upd H T (.tup [v, u])) ∧ VR C ι (upd H T (.tup [v, u])) (.tup [x, y]) (.ref T) := by
  have e := Ext.upd (o := .tup [v, u]) s h
  refine ⟨e, s.upd h, ?_⟩
  simp only [VR]
  refine ⟨T, [v, u], rfl, .inl ⟨s.fresh h, .inl upd_same⟩, ?_⟩
  simp only [VRs]
  exact ⟨v, [u], rfl, r1.mono e, u, [], rfl, r2.mono e, rfl⟩
theorem ji_enum {e : Expr} {as : MA} {p tpos : Pos} {elts : List Expr} {kk : Nat} (hK : X.K = C.K) (hg : Gl X "enumerate" := by rfl) (hm : X.mg "enumerate" = none) (ha : PA X [e] (tMA C W as)) (hs : starEach [e] X.env = [(false, eval e X.env)] := by rfl) : PI X (.Tuple elts kk tpos) (.Call (.Name "enumerate" p) [e] [] pos) (tMI C W (mItE as)) :=
  piImp (pi_enum hg hm ha hs) fun σ H R h => by
    obtain ⟨ι, env, S, he, hs, hp⟩ := h
    refine ⟨ι, env, S, he, hs, Post.bind hp fun xs S1 ι1 H1 vs e1 s1 q1 p1 => ?_⟩
    split at p1
    · rename_i x
      split at p1
      · rename_i ys el
        simp only [VRs] at q1
        obtain ⟨v, w, rfl, q1, rfl⟩ := q1
        obtain ⟨a, zs, rfl, g1, g2⟩ := asL_ok s1 q1 el
        refine ⟨a, zs, rfl, by rw [hK]; exact g1, ?_⟩
        rw [hK]
        have hl : (enuL ys).length = ys.length := by simp [enuL]
        refine p1 ι1 H1 _ .refl s1 ⟨fun H' => ∃ vs, vs.length = ys.length ∧ SqL C.K H' a vs, fun i H v H' => ∃ T x, v = .ref T ∧ H T = none ∧ H' = upd H T (.tup [.int (i : Nat), x]) ∧ ∀ vs, SqL C.K H a vs → vs[i]? = some x, ⟨?_, ?_, ?_⟩, ?_, ?_⟩
        · rintro i H' hi ⟨vs, hl2, q⟩
          have hi : i < (enuL ys).length := hi
          exact ⟨vs, vs[i]'(by omega), q, by simp [show i < vs.length by omega]⟩
        · rintro H' ⟨vs, hl2, q⟩
          exact ⟨vs, q, by show vs.length ≤ (enuL ys).length; omega⟩
        · rintro i H' y H2 hi ⟨vs, hl2, q⟩ z
          exact z
        · intro ι' S' H' e s' c
          obtain ⟨a', vs, ea, q, rr⟩ := asL_ok s' (q1.mono e) (asL_chk el c)
          cases ea
          exact ⟨vs, rr.len, q⟩
        · rintro i ι' S' H1 y H2 e s' c hi ⟨T, u, rfl, hT, rfl, hu⟩
          have hi : i < (enuL ys).length := hi
          rw [hl] at hi
          obtain ⟨a', vs, ea, q, rr⟩ := asL_ok s' (q1.mono e) (asL_chk el c)
          cases ea
          obtain ⟨mv, em, rm⟩ := rr.at' (hu vs q)
          obtain ⟨x1, x2, x3⟩ := pairNew s' hT (x := .int (i : Int)) (v := .int (i : Int)) (by simp only [VR]) rm
          refine ⟨.tup [.int (i : Int), mv], ?_, x1, x2, x3⟩
          show (enuL ys)[i]? = _
          unfold enuL
          rw [List.getElem?_map, List.getElem?_range hi, Option.map_some, List.getD_eq_getElem?_getD, em]
          rfl
      · exact p1.elim
    · exact p1.elim
/-- zip of two lists -/
def zipL (xs ys : List MV) : List MV := (List.range (min xs.length ys.length)).map fun (i : Nat) => MV.tup [xs.getD i .non, ys.getD i .non]
def mItZ (as : MA) : Env → Sto → Res Itv := fun env S => (as env S).bind fun xs S1 => match xs with
  | [x, y] => (match asL S1 x, asL S1 y with
    | some a, some b => .ok ⟨zipL a b, depsOf x a ++ depsOf y b⟩ S1
    | _, _ => .bad)
  | _ => .bad
theorem chk_app {its its2 : List MV} {d1 d2 : List (Nat × List MV)} {S : Sto} (c : (Itv.mk its (d1 ++ d2)).chk S) : (Itv.mk its2 d1).chk S ∧ (Itv.mk its2 d2).chk S :=
  ⟨fun p hp => c p (List.mem_append_left _ hp), fun p hp => c p (List.mem_append_right _ hp)⟩
theorem ji_zip {e e2 : Expr} {as : MA} {p tpos : Pos} {elts : List Expr} {kk : Nat} (hK : X.K = C.K) (hg : Gl X "zip" := by rfl) (hm : X.mg "zip" = none) (ha : PA X [e, e2] (tMA C W as)) (hs : starEach [e, e2] X.env = (false, eval e X.env) :: starEach [e2] X.env := by rfl) (hs2 : (backTo pos (starEach [e2] X.env)).any (·.1) = false := by rfl) : PI X (.Tuple elts kk tpos) (.Call (.Name "zip" p) [e, e2] [] pos) (tMI C W (mItZ as)) :=
  piImp (pi_zip hg hm ha hs hs2) fun σ H R h => by
    obtain ⟨ι, env, S, he, hs, hp⟩ := h
    refine ⟨ι, env, S, he, hs, Post.bind hp fun xs S1 ι1 H1 vs e1 s1 q1 p1 => ?_⟩
    split at p1
    · rename_i x y
      split at p1
      · rename_i xs ys ex ey
        simp only [VRs] at q1
        obtain ⟨v, w, rfl, q1, v2, w2, rfl, q2, rfl⟩ := q1
        obtain ⟨a, zs, rfl, g1, g2⟩ := asL_ok s1 q1 ex
        obtain ⟨b, zt, rfl, g3, g4⟩ := asL_ok s1 q2 ey
        refine ⟨a, b, zs, zt, rfl, by rw [hK]; exact g1, by rw [hK]; exact g3, ?_⟩
        rw [hK]
        have hl : (zipL xs ys).length = min xs.length ys.length := by simp [zipL]
        refine p1 ι1 H1 _ .refl s1 ⟨fun H' => ∃ vs ws, vs.length = xs.length ∧ ws.length = ys.length ∧ SqL C.K H' a vs ∧ SqL C.K H' b ws, fun i H v H' => ∃ T x y, v = .ref T ∧ H T = none ∧ H' = upd H T (.tup [x, y]) ∧ (∀ vs, SqL C.K H a vs → vs[i]? = some x) ∧ ∀ vs, SqL C.K H b vs → vs[i]? = some y, ⟨?_, ?_, ?_⟩, ?_, ?_⟩
        · rintro i H' hi ⟨vs, ws, l1, l2, q, q'⟩
          have hi : i < (zipL xs ys).length := hi
          exact ⟨vs, ws, vs[i]'(by omega), ws[i]'(by omega), q, q', by simp [show i < vs.length by omega], by simp [show i < ws.length by omega]⟩
        · rintro H' ⟨vs, ws, l1, l2, q, q'⟩
          exact ⟨vs, ws, q, q', by show vs.length ≤ (zipL xs ys).length ∨ ws.length ≤ (zipL xs ys).length; omega⟩
        · rintro i H' y H2 hi ⟨vs, ws, l1, l2, q, q'⟩ z
          exact z
        · intro ι' S' H' e s' c
          obtain ⟨a', vs, ea, q, rr⟩ := asL_ok s' (q1.mono e) (asL_chk ex (chk_app c).1 (its := []))
          obtain ⟨b', ws, eb, q', rr'⟩ := asL_ok s' (q2.mono e) (asL_chk ey (chk_app c).2 (its := []))
          cases ea
          cases eb
          exact ⟨vs, ws, rr.len, rr'.len, q, q'⟩
        · rintro i ι' S' H1 y' H2 e s' c hi ⟨T, u, u2, rfl, hT, rfl, hu, hu2⟩
          have hi : i < (zipL xs ys).length := hi
          rw [hl] at hi
          obtain ⟨a', vs, ea, q, rr⟩ := asL_ok s' (q1.mono e) (asL_chk ex (chk_app c).1 (its := []))
          obtain ⟨b', ws, eb, q', rr'⟩ := asL_ok s' (q2.mono e) (asL_chk ey (chk_app c).2 (its := []))
          cases ea
          cases eb
          obtain ⟨mv, em, rm⟩ := rr.at' (hu vs q)
          obtain ⟨mw, em2, rm2⟩ := rr'.at' (hu2 ws q')
          obtain ⟨x1, x2, x3⟩ := pairNew s' hT rm rm2
          refine ⟨.tup [mv, mw], ?_, x1, x2, x3⟩
          show (zipL xs ys)[i]? = _
          unfold zipL
          rw [List.getElem?_map, List.getElem?_range hi, Option.map_some, List.getD_eq_getElem?_getD, em, List.getD_eq_getElem?_getD, em2]
          rfl
      · exact p1.elim
    · exact p1.elim
end
end Mi

namespace Mi
open PySem PySem.Spec PyProof.Rows L2 TL

/-! ### comprehensions -/
def noX {α : Type} : Res α → Res α
  | .ok a S => .ok a S
  | _ => .bad
abbrev W0 : WX := fun _ _ _ _ => False
def wipeE (env : Env) : List Nat → Env
  | [] => env
  | v :: vs => (wipeE env vs).set v none
open Classical in
/-- the turns of a comprehension whose new list is the place l -/
noncomputable def compL (t : Itv) (g : MG) (c : MB) (e : ME) (l : Nat) : List MV → Env → Sto → Res Unit
  | [], env, S => if t.chk S then .ok () S else .bad
  | v :: vs, env, S => if t.chk S then (match g v env with
    | none => .bad
    | some e1 => match c e1 S with
      | .ok true S1 => (match e e1 S1 with
        | .ok y S2 => (match S2[l]? with
          | some (.lst acc) => if acc.length < sizeLine then compL t g c e l vs env (S2.set l (.lst (acc ++ [y]))) else .bad
          | _ => .bad)
        | _ => .bad)
      | .ok false S1 => compL t g c e l vs env S1
      | _ => .bad) else .bad
noncomputable def compE (mu : Bool) (S S2 : Sto) : Res MV := if mu then .ok (.ref S.length) S2 else leaveV S S2 (.ref S.length)
noncomputable def mComp (mu : Bool) (mi : Env → Sto → Res Itv) (vs : List Nat) (g : MG) (c : MB) (e : ME) : ME := fun env S => (mi env S).bind fun t S1 => (compL t g c e S1.length t.items (wipeE env vs) (S1 ++ [.lst []])).bind fun _ S2 => compE mu S1 S2
def mYes : MB := fun _ S => .ok true S
section
variable {X : Cx} {C : Ct} {W : WX} {pos : Pos} {k : Nat} {tg : Expr}
theorem noX_post {α β : Type} {R : Io → Hp → α → β → Prop} {ι : Io} {σ : L2.St} {H : Hp} {r : Res α} {Q : β → Hp → Prop} (h : Post C W R ι σ H (noX r) Q) : Post C W0 R ι σ H r Q := by
  cases r with
  | ok a S => exact h
  | ex x S => exact h.elim
  | bad => exact h
theorem wipeE_len (env : Env) : ∀ vs, (wipeE env vs).length = env.length
  | [] => rfl
  | v :: vs => by unfold wipeE; rw [List.length_set, wipeE_len env vs]
theorem wipeE_at {env : Env} {i : Nat} : ∀ {vs : List Nat}, (i ∉ vs → (wipeE env vs)[i]? = env[i]?) ∧ (∀ x, (wipeE env vs)[i]? = some (some x) → i ∉ vs)
  | [] => ⟨fun _ => rfl, fun _ _ => by simp⟩
  | v :: vs => by
    obtain ⟨h1, h2⟩ := wipeE_at (env := env) (i := i) (vs := vs)
    unfold wipeE
    refine ⟨fun hi => ?_, fun x hx => ?_⟩
    · simp only [List.mem_cons, not_or] at hi
      rw [List.getElem?_set_ne (fun e => hi.1 e.symm)]
      exact h1 hi.2
    · by_cases hv : v = i
      · subst hv
        by_cases hl : v < (wipeE env vs).length
        · rw [List.getElem?_set_self hl] at hx; cases hx
        · rw [List.getElem?_eq_none (by simpa using hl)] at hx; cases hx
      · rw [List.getElem?_set_ne hv] at hx
        simp only [List.mem_cons, not_or]
        exact ⟨fun e => hv e.symm, h2 x hx⟩
theorem wipe_at {σ : L2.St} {i : Nat} : ∀ {vs : List Nat}, i ∉ vs → (wipe σ vs)[i]? = σ[i]?
  | [], _ => rfl
  | v :: vs, hi => by
    simp only [List.mem_cons, not_or] at hi
    unfold wipe
    rw [List.getElem?_set_ne (fun e => hi.1 e.symm)]
    exact wipe_at hi.2
theorem wipe_in {σ : L2.St} {i : Nat} : ∀ {vs : List Nat}, i ∈ vs → i < σ.length → (wipe σ vs)[i]? = some none
  | v :: vs, hi, hl => by
    unfold wipe
    by_cases hv : v = i
    · subst hv
      rw [List.getElem?_set_self (by rw [wipe_length]; exact hl)]
    · rw [List.getElem?_set_ne hv]
      refine wipe_in ?_ hl
      rcases List.mem_cons.mp hi with e | e
      · exact absurd e.symm hv
      · exact e
theorem EnvR.wipe {ι : Io} {H : Hp} {env : Env} {σ : L2.St} (h : EnvR C ι H env σ) (vs : List Nat) : EnvR C ι H (wipeE env vs) (L2.wipe σ vs) := by
  refine ⟨by rw [wipeE_len, wipe_length]; exact h.1, fun i x q => ?_⟩
  have hi := (wipeE_at (env := env) (i := i) (vs := vs)).2 x q
  rw [(wipeE_at (env := env) (i := i) (vs := vs)).1 hi] at q
  rw [wipe_at hi]
  exact h.2 i x q
theorem wipe_but {σ σ' : L2.St} {ws vs : List Nat} (h : ButS ws (L2.wipe σ vs) σ') (hs : ∀ i ∈ ws, i ∈ vs) : L2.wipe σ' vs = L2.wipe σ vs := by
  have hl : σ'.length = σ.length := by rw [h.1, wipe_length]
  apply List.ext_getElem?
  intro i
  by_cases hi : i ∈ vs
  · by_cases hlt : i < σ.length
    · rw [wipe_in hi hlt, wipe_in hi (by rw [hl]; exact hlt)]
    · rw [List.getElem?_eq_none (by rw [wipe_length]; omega), List.getElem?_eq_none (by rw [wipe_length]; omega)]
  · rw [wipe_at hi, wipe_at hi]
    have := h.2 i fun z => hi (hs i z)
    rw [this, wipe_at hi]
theorem comp_core {mu : Bool} {t : Itv} {J : It} {g : MG} {ws : List Nat} {c : MB} {e : ME} {vs : List Nat} {ι : Io} {σ : L2.St} {H : Hp} {env : Env} {S : Sto} {Q : VK} (hw : ∀ i ∈ ws, i ∈ vs) (he : EnvR C ι H env σ) (hs : StR C ι S H) (w : WalkOk C ι H t J)
    (hp : Post C W (VR C) ι σ H ((compL t g c e S.length t.items (wipeE env vs) (S ++ [.lst []])).bind fun _ S2 => compE mu S S2) Q) :
    ∀ D, H D = none → ∃ W' : Nat → Nat → Hp → Prop, (∃ m, W' 0 m (upd H D (.lst []))) ∧ ∀ i m H, W' i m H →
      (J.stop i H ∧ Q (.ref D) H) ∨ (J.go i H ∧ ∃ Nx : Hp → Prop, (∀ H', Nx H' → ∃ m', m' < m ∧ W' (i + 1) m' H') ∧ ∀ x H', J.yld i H x H' → tMG C ws g x (L2.wipe σ vs) H' fun σ2 H2 => L2.wipe σ2 vs = L2.wipe σ vs ∧ tMB C W0 c σ2 H2 fun b H3 =>
        if b = true then tM C W0 e σ2 H3 fun y H4 => ∃ acc, H4 D = some (.lst acc) ∧ acc.length < sizeLine ∧ Nx (upd H4 D (.lst (acc ++ [y]))) else Nx H3) := by
  intro D hD
  obtain ⟨G, Y, wk, hG, hY⟩ := w
  have atD : (ι ++ [D])[S.length]? = some D := by rw [← hs.len]; simp
  refine lc_it wk (fun i H' => ∃ ι' S', Ext ι H ι' H' ∧ StR C ι' S' H' ∧ ι'[S.length]? = some D ∧
      Post C W (VR C) ι σ H ((compL t g c e S.length (t.items.drop i) (wipeE env vs) S').bind fun _ S2 => compE mu S S2) Q) ?_ ?_ ?_ ?_
  · exact ⟨ι ++ [D], S ++ [.lst []], Ext.push hs hD, hs.push (m := .lst []) hD ⟨[], upd_same, by simp only [VRs]⟩, atD, by rw [List.drop_zero]; exact hp⟩
  · rintro i H' hi ⟨ι', S', e1, s1, _, hp'⟩
    have hc : t.chk S' := by
      cases hd : t.items.drop i with
      | nil => rw [hd] at hp'; unfold compL at hp'; split at hp'; assumption; exact hp'.elim
      | cons v vs => rw [hd] at hp'; unfold compL at hp'; split at hp'; assumption; exact hp'.elim
    exact hG ι' S' H' e1 s1 hc
  · rintro i x H' H2 hi ⟨ι', S', e1, s1, hDl, hp'⟩ y
    rw [List.drop_eq_getElem_cons hi] at hp'
    unfold compL at hp'
    split at hp'
    · rename_i hc
      obtain ⟨mv, em, e2, s2, r2⟩ := hY i ι' S' H' x H2 e1 s1 hc hi y
      have : t.items[i] = mv := by rw [List.getElem?_eq_getElem hi] at em; exact Option.some.inj em
      rw [this] at hp'
      refine ⟨ι', wipeE env vs, S', mv, ((he.mono e1).wipe vs).mono e2, s2, r2, ?_⟩
      cases eg : g mv (wipeE env vs) with
      | none => rw [eg] at hp'; exact hp'
      | some en =>
        rw [eg] at hp'
        intro σ2 he2 hb2
        refine ⟨wipe_but hb2 hw, ι', en, S', he2, s2, ?_⟩
        simp only at hp'
        cases ec : c en S' with
        | bad => rw [ec] at hp'; exact hp'.elim
        | ex x S1 => rw [ec] at hp'; exact hp'.elim
        | ok b S1 =>
          rw [ec] at hp'
          intro ι1 H1 b' x1 s1' rb
          have rb : b' = b := rb
          subst rb
          cases b' with
          | false =>
            rw [if_neg Bool.false_ne_true]
            exact ⟨ι1, S1, (e1.trans e2).trans x1, s1', x1.at hDl, hp'⟩
          | true =>
            rw [if_pos rfl]
            refine ⟨ι1, en, S1, he2.mono x1, s1', ?_⟩
            simp only at hp'
            cases ee : e en S1 with
            | bad => rw [ee] at hp'; exact hp'.elim
            | ex x S1 => rw [ee] at hp'; exact hp'.elim
            | ok yv S2 =>
              rw [ee] at hp'
              intro ι2 H2' v x2 s2' rv
              simp only at hp'
              have hD2 : ι2[S.length]? = some D := x2.at (x1.at hDl)
              split at hp'
              · rename_i acc ea
                obtain ⟨vacc, hv, hr⟩ := s2'.ob _ _ D ea hD2
                split at hp'
                · rename_i hl
                  refine ⟨vacc, hv, by rw [hr.len]; exact hl, ι2, _, ?_, s2'.set hD2 (m := .lst (acc ++ [yv])) ⟨vacc ++ [v], upd_same, ?_⟩, hD2, hp'⟩
                  · exact ((e1.trans e2).trans (x1.trans x2)).trans (Ext.set hD2)
                  · exact VRs.mono (Ext.set hD2) _ _ (hr.append (by simp only [VRs]; exact ⟨v, [], rfl, rv, rfl⟩))
                · exact hp'.elim
              · exact hp'.elim
    · exact hp'.elim
  · rintro H' ⟨ι', S', e1, s1, hDl, hp'⟩
    rw [List.drop_length] at hp'
    unfold compL at hp'
    split at hp'
    · simp only [bind_ok] at hp'
      have rD : VR C ι' H' (.ref S.length) (.ref D) := by simp only [VR]; exact ⟨D, rfl, hDl⟩
      unfold compE at hp'
      split at hp'
      · exact hp' ι' H' _ e1 s1 rD
      · cases el : leaveV S S' (.ref S.length) with
        | ok y S3 =>
          rw [el] at hp'
          obtain ⟨a1, a2, a3⟩ := leaveV_ok hs e1 s1 rD el
          exact hp' ι H' _ a1 a2 a3
        | ex x S3 => unfold leaveV at el; (repeat (split at el)) <;> cases el
        | bad => rw [el] at hp'; exact hp'.elim
    · exact hp'.elim
theorem bx_blk {s : Shared} {H : Hp} {scope : Scope} {cenv : PySem.Env} {fp : List Addr} (B : Bx C W k X) : Bx C W0 k (X.blk s H scope cenv fp) :=
  ⟨B.hK, B.calm, takes0, B.room, PassesOwn.never⟩
theorem jts_nil : PTs X [] (tMB C W mYes) := ⟨fun pins s σ H Q I h => (pts_nil (X := X)).run pins s σ H Q I (by
  obtain ⟨ι, env, S, he, hs, hp⟩ := h
  exact hp ι H _ .refl hs rfl)⟩
theorem jts_one {c : Expr} {m : MB} (h : PT X c (tMB C W m)) : PTs X [c] (tMB C W m) := pts_one h
theorem lc_imp {mu : Bool} {mi : Env → Sto → Res Itv} {g : MG} {ws vs : List Nat} {c : MB} {e : ME} {σ : L2.St} {H : Hp} {Q : VK} (hw : ∀ i ∈ ws, i ∈ vs) (h : tM C W (mComp mu mi vs g c e) σ H Q) : tLc (tMI C W mi) (tMG C ws g) (tMB C W0 c) (tM C W0 e) vs σ H Q := by
  obtain ⟨ι, env, S, he, hs, hp⟩ := h
  refine ⟨ι, env, S, he, hs, Post.bind hp fun t S1 ι1 H1 J e1 s1 q1 p1 => ?_⟩
  exact comp_core hw (he.mono e1) s1 q1 p1
theorem je_lc (mu : Bool) {elt tg iter : Expr} {ifs : List Expr} {scope : Scope} {own : List (Str × Nat)} {mi : Env → Sto → Res Itv} {g : MG} {ws : List Nat} {c : MB} {e : ME} (B : Bx C W k X) (hN : X.N.Nodup) (hi : PI X tg iter (tMI C W mi)) (ok : BlkOk X.N X.env.scope scope own)
    (hg : ∀ (Y : Cx), Bx C W0 k Y → Y.N = X.N → (∃ (s : Shared) (H : Hp) (A : Addr) (cl : List (Str × Addr)) (fp : List Addr), Y = X.blk s H scope (compEnvC scope cl A X.env) fp) → PG Y tg (tMG C ws g))
    (ht : ∀ (s : Shared) (H : Hp) (A : Addr) (cl : List (Str × Addr)) (fp : List Addr), Bx C W0 k (X.blk s H scope (compEnvC scope cl A X.env) fp) → PTs (X.blk s H scope (compEnvC scope cl A X.env) fp) ifs (tMB C W0 c))
    (he : ∀ (s : Shared) (H : Hp) (A : Addr) (cl : List (Str × Addr)) (fp : List Addr), Bx C W0 k (X.blk s H scope (compEnvC scope cl A X.env) fp) → PE (X.blk s H scope (compEnvC scope cl A X.env) fp) elt (tM C W0 e)) (hw : ∀ i ∈ ws, i ∈ own.map (·.2) := by decide)
    (hs : ∀ x, foldedSetIterable iter X.env x = pure x := by intro _; rfl) :
    PE X (.ListComp elt [⟨tg, iter, ifs, 0⟩] scope pos) (tM C W (mComp mu mi (own.map (·.2)) g c e)) :=
  peImp (pe_lc B.calm hN hi ok (fun s H A cl fp => hg _ (bx_blk B) rfl ⟨s, H, A, cl, fp, rfl⟩) (fun s H A cl fp => ht s H A cl fp (bx_blk B)) (fun s H A cl fp => he s H A cl fp (bx_blk B)) hs) fun σ H Q h => lc_imp hw h
theorem js_setLc (mu : Bool) {i : Nat} {y : Str} {py : Pos} {elt tg iter : Expr} {ifs : List Expr} {scope : Scope} {own : List (Str × Nat)} {spos : Pos} {mi : Env → Sto → Res Itv} {g : MG} {ws : List Nat} {c : MB} {e : ME} (B : Bx C W k X) (hN : X.N.Nodup) (hi : PI X tg iter (tMI C W mi)) (ok : BlkOk X.N X.env.scope scope own)
    (hg : ∀ (Y : Cx), Bx C W0 k Y → Y.N = X.N → (∃ (s : Shared) (H : Hp) (A : Addr) (cl : List (Str × Addr)) (fp : List Addr), Y = X.blk s H scope (compEnvC scope cl A X.env) fp) → PG Y tg (tMG C ws g))
    (ht : ∀ (s : Shared) (H : Hp) (A : Addr) (cl : List (Str × Addr)) (fp : List Addr), Bx C W0 k (X.blk s H scope (compEnvC scope cl A X.env) fp) → PTs (X.blk s H scope (compEnvC scope cl A X.env) fp) ifs (tMB C W0 c))
    (he : ∀ (s : Shared) (H : Hp) (A : Addr) (cl : List (Str × Addr)) (fp : List Addr), Bx C W0 k (X.blk s H scope (compEnvC scope cl A X.env) fp) → PE (X.blk s H scope (compEnvC scope cl A X.env) fp) elt (tM C W0 e)) (hw : ∀ i ∈ ws, i ∈ own.map (·.2) := by decide)
    (hy : X.N[i]? = some y := by rfl) (hyl : X.env.scope.names.lookup y = some .local := by rfl)
    (hsw : swapsWith (.ListComp elt [⟨tg, iter, ifs, 0⟩] scope pos) (some (.Name y py)) spos.line X.env = pure true := by exact sw_true rfl rfl rfl (by decide +kernel)) (hs : ∀ x, foldedSetIterable iter X.env x = pure x := by intro _; rfl) :
    PS X (.Assign [.Name y py] (.ListComp elt [⟨tg, iter, ifs, 0⟩] scope pos) spos) (tMS C W (sSet i (mComp mu mi (own.map (·.2)) g c e))) :=
  psImp (ps_setLc B.calm hN hy hyl hsw hi ok (fun s H A cl fp => hg _ (bx_blk B) rfl ⟨s, H, A, cl, fp, rfl⟩) (fun s H A cl fp => ht s H A cl fp (bx_blk B)) (fun s H A cl fp => he s H A cl fp (bx_blk B)) hs) fun D σ H h => by
    have q := asg_name h
    exact lc_imp hw q
end
end Mi

namespace Mi
open PySem PySem.Spec PyProof.Rows L2 TL

/-! ### built-in functions and types called -/
def mB (f : List MV → Sto → Res MV) (as : MA) : ME := fun env S => (as env S).bind fun xs S1 => f xs S1
def CallM (C : Ct) (f : List MV → Sto → Res MV) (r : List V → Hp → VK → Prop) : Prop := ∀ (W : WX) (ι : Io) (σ : L2.St) (S : Sto) (H : Hp) (xs : List MV) (vs : List V) (Q : VK), StR C ι S H → VRs C ι H xs vs → Post C W (VR C) ι σ H (f xs S) Q → r vs H Q
section
variable {X : Cx} {C : Ct} {W : WX} {pos p : Pos} {k : Nat} {x : Str} {e : Expr} {es : List Expr} {as : MA} {bid T : String} {r : List V → Hp → VK → Prop} {f : List MV → Sto → Res MV}
theorem tCB_imp (hf : CallM C f r) {σ : L2.St} {H : Hp} {Q : VK} (h : tM C W (mB f as) σ H Q) : tCB r (tMA C W as) σ H Q := by
  obtain ⟨ι, env, S, he, hs, hp⟩ := h
  exact ⟨ι, env, S, he, hs, Post.bind hp fun xs S1 ι1 H1 vs e1 s1 q1 p1 => hf W ι1 σ S1 H1 xs vs Q s1 q1 p1⟩
theorem je_b (hc : CallR X (.builtin bid) r) (hf : CallM C f r) (hm : X.mg x = none) (hv : bootBuiltins x = some (.builtin bid)) (ha : PA X (e :: es) (tMA C W as)) (hg : Gl X x := by rfl) (hn : x ≠ "__name__" := by decide) (hdb : (x == ("__debug__" : Str)) = false := by decide)
    (he : starEach (e :: es) X.env = (false, eval e X.env) :: starEach es X.env := by rfl) (hpl : (backTo pos (starEach es X.env)).any (·.1) = false := by rfl) : PE X (.Call (.Name x p) (e :: es) [] pos) (tM C W (mB f as)) :=
  peImp (pe_callB hc hg hm hv ha hn hdb he hpl) fun _ _ _ => tCB_imp hf
theorem je_ty (hc : CallR X (.type T) r) (hf : CallM C f r) (hm : X.mg x = none) (hv : bootBuiltins x = some (.type T)) (ha : PA X (e :: es) (tMA C W as)) (hg : Gl X x := by rfl) (hn : x ≠ "__name__" := by decide) (hdb : (x == ("__debug__" : Str)) = false := by decide)
    (he : starEach (e :: es) X.env = (false, eval e X.env) :: starEach es X.env := by rfl) (hpl : (backTo pos (starEach es X.env)).any (·.1) = false := by rfl) : PE X (.Call (.Name x p) (e :: es) [] pos) (tM C W (mB f as)) :=
  peImp (pe_callTy hc hg hm hv ha hn hdb he hpl) fun _ _ _ => tCB_imp hf
theorem vrs1 {ι : Io} {H : Hp} {x : MV} {vs : List V} (h : VRs C ι H [x] vs) : ∃ v, vs = [v] ∧ VR C ι H x v := by
  simp only [VRs] at h
  obtain ⟨v, w, rfl, h1, rfl⟩ := h
  exact ⟨v, rfl, h1⟩
theorem vrs2 {ι : Io} {H : Hp} {x y : MV} {vs : List V} (h : VRs C ι H [x, y] vs) : ∃ v u, vs = [v, u] ∧ VR C ι H x v ∧ VR C ι H y u := by
  simp only [VRs] at h
  obtain ⟨v, w, rfl, h1, u, z, rfl, h2, rfl⟩ := h
  exact ⟨v, u, rfl, h1, h2⟩
/-- a built-in type as a value -/
theorem je_tyv {n : String} (hm : X.mg x = none) (hv : bootBuiltins x = some (.type n)) (hg : Gl X x := by rfl) (hn : x ≠ "__name__" := by decide) (hdb : (x == ("__debug__" : Str)) = false := by decide) : PE X (.Name x pos) (tM C W (mC (.ty n))) :=
  peImp (pe_bltn (v := .ty n) hg hm hv rfl hn hdb) fun _ _ _ => tM_c fun _ _ => by simp only [VR]

/-! ### len -/
theorem call_lenD' : CallR X (.builtin "len") (fun xs H Q => ∃ a kvs, xs = [V.ref a] ∧ Rd H a (.dK kvs) ∧ Q (.int kvs.length) H) := by
  intro pins s σ H xs us Q I r h
  obtain ⟨a, kvs, rfl, ha, q⟩ := h
  obtain ⟨u, rfl, ru⟩ := vals1 r
  cases ru
  exact d_len I ha fun t s' I' => ⟨.int kvs.length, H, I', ⟨t, rfl⟩, q⟩
def rLenM (K : PySem.W.Frag) : List V → Hp → VK → Prop := fun xs H Q => (∃ x n, xs = [x] ∧ LenV K x H n ∧ Q (.int n) H) ∨ ∃ a kvs, xs = [V.ref a] ∧ Rd H a (.dK kvs) ∧ Q (.int kvs.length) H
theorem call_lenM : CallR X (.builtin "len") (rLenM X.K) := CallR.or call_len call_lenD'
def lenM (S : Sto) (x : MV) : Option Nat := match x with
  | .str z => if z.length ≤ sizeLine then some z.length else none
  | x => match asSq S x with
    | some xs => some xs.length
    | none => (asD S x).map List.length
def fLen (xs : List MV) (S : Sto) : Res MV := match xs with
  | [x] => (match lenM S x with
    | some n => .ok (.int (n : Int)) S
    | none => .bad)
  | _ => .bad
theorem cm_len : CallM C fLen (rLenM C.K) := by
  intro W ι σ S H xs vs Q hs hr hp
  unfold fLen at hp
  split at hp
  · rename_i x
    obtain ⟨v, rfl, r⟩ := vrs1 hr
    split at hp
    · rename_i n hn
      have q := hp ι H (.int (n : Int)) .refl hs (by simp only [VR])
      unfold lenM at hn
      split at hn
      · split at hn
        · rename_i z hl
          simp only [Option.some.injEq] at hn
          simp only [VR] at r
          subst r
          exact .inl ⟨_, n, rfl, ⟨by rw [st_len]; exact hl, by rw [st_len]; exact hn.symm⟩, q⟩
        · cases hn
      · split at hn
        · rename_i ys e
          simp only [Option.some.injEq] at hn
          obtain ⟨a, ws, rfl, g1, g2⟩ := asSq_ok hs r e
          rcases g1 with g1 | g1
          · exact .inl ⟨_, n, rfl, .inl ⟨ws, g1, by rw [g2.len]; exact hn.symm⟩, q⟩
          · exact .inl ⟨_, n, rfl, .inr ⟨ws, g1, by rw [g2.len]; exact hn.symm⟩, q⟩
        · cases e : asD S x with
          | none => rw [e] at hn; cases hn
          | some kvs =>
            rw [e] at hn
            simp only [Option.map_some, Option.some.injEq] at hn
            obtain ⟨a, kx, rfl, g1, g2⟩ := asD_ok hs r e
            exact .inr ⟨a, kx, rfl, g1, by rw [g2.len, hn]; exact q⟩
    · exact hp.elim
  · exact hp.elim

/-! ### list(x), tuple(x) -/
def rListM (K : PySem.W.Frag) : List V → Hp → VK → Prop := fun xs H Q => ∃ p ys, xs = [.ref p] ∧ (SqL K H p ys ∨ SqT K H p ys) ∧ ∀ l, H l = none → Q (.ref l) (upd H l (.lst ys))
theorem call_listM : CallR X (.type "list") (rListM X.K) := call_list_of
def fList (mu : Bool) (xs : List MV) (S : Sto) : Res MV := match xs with
  | [x] => (match asSq S x with
    | some ys => mkL mu ys S
    | none => .bad)
  | _ => .bad
theorem cm_list (mu : Bool) : CallM C (fList mu) (rListM C.K) := by
  intro W ι σ S H xs vs Q hs hr hp
  unfold fList at hp
  split at hp
  · obtain ⟨v, rfl, r⟩ := vrs1 hr
    split at hp
    · rename_i ys e
      obtain ⟨a, ws, rfl, g1, g2⟩ := asSq_ok hs r e
      exact ⟨a, ws, rfl, g1, mkL_ok hs g2 hp⟩
    · exact hp.elim
  · exact hp.elim
def rTupM (K : PySem.W.Frag) : List V → Hp → VK → Prop := fun xs H Q => ∃ p ys, xs = [.ref p] ∧ ((SqL K H p ys ∧ ∀ l, H l = none → Q (.ref l) (upd H l (.tup ys))) ∨ (SqT K H p ys ∧ Q (.ref p) H))
theorem call_tupM : CallR X (.type "tuple") (rTupM X.K) := call_tuple_of
def fTuple (xs : List MV) (S : Sto) : Res MV := match xs with
  | [.tup ys] => .ok (.tup ys) S
  | [x] => (match asL S x with
    | some ys => .ok (.tup ys) S
    | none => .bad)
  | _ => .bad
theorem cm_tup : CallM C fTuple (rTupM C.K) := by
  intro W ι σ S H xs vs Q hs hr hp
  unfold fTuple at hp
  split at hp
  · obtain ⟨v, rfl, r⟩ := vrs1 hr
    have r' := r
    simp only [VR] at r
    obtain ⟨a, ws, rfl, f1, r1⟩ := r
    exact ⟨a, ws, rfl, .inr ⟨f1.sq, hp ι H _ .refl hs r'⟩⟩
  · obtain ⟨v, rfl, r⟩ := vrs1 hr
    split at hp
    · rename_i ys e
      obtain ⟨a, ws, rfl, g1, g2⟩ := asL_ok hs r e
      exact ⟨a, ws, rfl, .inl ⟨g1, mkT_ok hs g2 hp⟩⟩
    · exact hp.elim
  · exact hp.elim

/-! ### all, any, sum, max, min -/
def boolsOf : List MV → Option (List Bool)
  | [] => some []
  | .bl b :: r => (boolsOf r).map (b :: ·)
  | _ => none
theorem boolsOf_ok {ι : Io} {H : Hp} : ∀ {xs : List MV} {vs : List V} {bs : List Bool}, VRs C ι H xs vs → boolsOf xs = some bs → vs = bs.map V.bl
  | [], vs, bs, h, e => by simp only [VRs] at h; simp only [boolsOf, Option.some.injEq] at e; subst h; subst e; rfl
  | .bl b :: r, vs, bs, h, e => by
    simp only [VRs, VR] at h
    obtain ⟨v, w, rfl, rfl, h2⟩ := h
    simp only [boolsOf] at e
    cases e2 : boolsOf r with
    | none => rw [e2] at e; cases e
    | some cs =>
      rw [e2] at e
      simp only [Option.map_some, Option.some.injEq] at e
      subst e
      rw [boolsOf_ok h2 e2]
      rfl
  | .non :: _, _, _, _, e => by cases e
  | .int _ :: _, _, _, _, e => by cases e
  | .str _ :: _, _, _, _, e => by cases e
  | .ty _ :: _, _, _, _, e => by cases e
  | .tup _ :: _, _, _, _, e => by cases e
  | .lst _ :: _, _, _, _, e => by cases e
  | .rol _ :: _, _, _, _, e => by cases e
  | .dic _ :: _, _, _, _, e => by cases e
  | .ins _ _ :: _, _, _, _, e => by cases e
  | .ref _ :: _, _, _, _, e => by cases e
  | .fn _ :: _, _, _, _, e => by cases e
  | .clo _ _ :: _, _, _, _, e => by cases e
def fAll (xs : List MV) (S : Sto) : Res MV := match xs with
  | [x] => (match (asL S x).bind boolsOf with
    | some bs => .ok (.bl (bs.all id)) S
    | none => .bad)
  | _ => .bad
def fAny (xs : List MV) (S : Sto) : Res MV := match xs with
  | [x] => (match (asL S x).bind boolsOf with
    | some bs => .ok (.bl (bs.any id)) S
    | none => .bad)
  | _ => .bad
theorem cm_all : CallM C fAll (rAll C.K) := by
  intro W ι σ S H xs vs Q hs hr hp
  unfold fAll at hp
  split at hp
  · rename_i x
    obtain ⟨v, rfl, r⟩ := vrs1 hr
    cases e : asL S x with
    | none => rw [e] at hp; exact hp.elim
    | some ys =>
      rw [e] at hp
      simp only [Option.bind_some] at hp
      cases e2 : boolsOf ys with
      | none => rw [e2] at hp; exact hp.elim
      | some bs =>
        rw [e2] at hp
        obtain ⟨a, ws, rfl, g1, g2⟩ := asL_ok hs r e
        rw [boolsOf_ok g2 e2] at g1
        exact ⟨a, bs, rfl, g1, hp ι H _ .refl hs (by simp only [VR])⟩
  · exact hp.elim
theorem cm_any : CallM C fAny (rAny C.K) := by
  intro W ι σ S H xs vs Q hs hr hp
  unfold fAny at hp
  split at hp
  · rename_i x
    obtain ⟨v, rfl, r⟩ := vrs1 hr
    cases e : asL S x with
    | none => rw [e] at hp; exact hp.elim
    | some ys =>
      rw [e] at hp
      simp only [Option.bind_some] at hp
      cases e2 : boolsOf ys with
      | none => rw [e2] at hp; exact hp.elim
      | some bs =>
        rw [e2] at hp
        obtain ⟨a, ws, rfl, g1, g2⟩ := asL_ok hs r e
        rw [boolsOf_ok g2 e2] at g1
        exact ⟨a, bs, rfl, g1, hp ι H _ .refl hs (by simp only [VR])⟩
  · exact hp.elim
def rMax2' : List V → Hp → VK → Prop := fun xs H Q => ∃ i j, xs = [.int i, .int j] ∧ Q (.int (if j > i then j else i)) H
def rMin2' : List V → Hp → VK → Prop := fun xs H Q => ∃ i j, xs = [.int i, .int j] ∧ Q (.int (if j < i then j else i)) H
theorem call_max2' (hc : X.calm = true) : CallR X (.builtin "max") rMax2' := call_max2 hc
theorem call_min2' (hc : X.calm = true) : CallR X (.builtin "min") rMin2' := call_min2 hc
def fMax2 (xs : List MV) (S : Sto) : Res MV := match xs with
  | [.int i, .int j] => .ok (.int (if j > i then j else i)) S
  | _ => .bad
def fMin2 (xs : List MV) (S : Sto) : Res MV := match xs with
  | [.int i, .int j] => .ok (.int (if j < i then j else i)) S
  | _ => .bad
theorem cm_max2 : CallM C fMax2 rMax2' := by
  intro W ι σ S H xs vs Q hs hr hp
  unfold fMax2 at hp
  split at hp
  · obtain ⟨v, u, rfl, r1, r2⟩ := vrs2 hr
    simp only [VR] at r1 r2
    subst r1; subst r2
    exact ⟨_, _, rfl, hp ι H _ .refl hs (by simp only [VR])⟩
  · exact hp.elim
theorem cm_min2 : CallM C fMin2 rMin2' := by
  intro W ι σ S H xs vs Q hs hr hp
  unfold fMin2 at hp
  split at hp
  · obtain ⟨v, u, rfl, r1, r2⟩ := vrs2 hr
    simp only [VR] at r1 r2
    subst r1; subst r2
    exact ⟨_, _, rfl, hp ι H _ .refl hs (by simp only [VR])⟩
  · exact hp.elim

/-! ### isinstance of built-in types -/
def tyName (S : Sto) : MV → Option String
  | .non => some "NoneType"
  | .bl _ => some "bool"
  | .int _ => some "int"
  | .str _ => some "str"
  | .tup _ => some "tuple"
  | .lst _ => some "list"
  | .rol _ => some "list"
  | .dic _ => some "dict"
  | .ref l => match S[l]? with
    | some (.lst _) => some "list"
    | some (.dic _) => some "dict"
    | _ => none
  | _ => none
def isiB (a b : String) : Bool := a == b || (a == "bool" && b == "int")
def fIsi (xs : List MV) (S : Sto) : Res MV := match xs with
  | [x, .ty b] => (match tyName S x with
    | some a => if ["str", "int", "bool", "list", "tuple", "dict"].contains b then .ok (.bl (isiB a b)) S else .bad
    | none => .bad)
  | _ => .bad
theorem kit_isi : ∀ a ∈ ["NoneType", "bool", "int", "str", "tuple", "list", "dict"], ∀ b ∈ ["str", "int", "bool", "list", "tuple", "dict"], kitB a b = some (isiB a b) := by decide +kernel
theorem tyName_ok {ι : Io} {S : Sto} {H : Hp} {x : MV} {v : V} {a : String} (s : StR C ι S H) (r : VR C ι H x v) (h : tyName S x = some a) : a ∈ ["NoneType", "bool", "int", "str", "tuple", "list", "dict"] ∧ TyX C.K H v (.type a) := by
  have tl : ∀ {p : Addr} {ws : List V}, SqL C.K H p ws → TyX C.K H (.ref p) (.type "list") := fun {p ws} q => by
    rcases q with (q | ⟨o, q⟩) | ⟨o, its, n, q, c, _⟩
    · exact .base (.lst q)
    · exact .base (.frz q)
    · exact .kList q c
  cases x with
  | non => simp only [tyName, Option.some.injEq] at h; subst h; simp only [VR] at r; subst r; exact ⟨by decide, .base .non⟩
  | bl b => simp only [tyName, Option.some.injEq] at h; subst h; simp only [VR] at r; subst r; exact ⟨by decide, .base (.bl _)⟩
  | int b => simp only [tyName, Option.some.injEq] at h; subst h; simp only [VR] at r; subst r; exact ⟨by decide, .base (.int _)⟩
  | str b => simp only [tyName, Option.some.injEq] at h; subst h; simp only [VR] at r; subst r; exact ⟨by decide, .base (.str _)⟩
  | tup xs =>
    simp only [tyName, Option.some.injEq] at h; subst h
    simp only [VR] at r
    obtain ⟨p, ws, rfl, g, _⟩ := r
    refine ⟨by decide, ?_⟩
    rcases g.sq with (q | ⟨o, q⟩) | ⟨o, its, n, q, c, _⟩
    · exact .base (.tup q)
    · exact .fTuple q
    · exact .kTuple q c
  | lst xs =>
    simp only [tyName, Option.some.injEq] at h; subst h
    simp only [VR] at r
    obtain ⟨p, ws, rfl, _, g, _⟩ := r
    exact ⟨by decide, .base (.lst g)⟩
  | rol xs =>
    simp only [tyName, Option.some.injEq] at h; subst h
    simp only [VR] at r
    obtain ⟨p, ws, rfl, g, _⟩ := r
    exact ⟨by decide, tl g.sq⟩
  | dic kvs =>
    simp only [tyName, Option.some.injEq] at h; subst h
    simp only [VR] at r
    obtain ⟨p, ws, rfl, _, g, _⟩ := r
    refine ⟨by decide, ?_⟩
    rcases g with q | ⟨o, q⟩
    · exact .base (.dK q)
    · exact .fDict q
  | ref l =>
    simp only [tyName] at h
    simp only [VR] at r
    obtain ⟨p, rfl, hl⟩ := r
    split at h
    · rename_i xs e
      simp only [Option.some.injEq] at h; subst h
      obtain ⟨vs, h1, _⟩ := s.ob l _ p e hl
      exact ⟨by decide, .base (.lst h1)⟩
    · rename_i xs e
      simp only [Option.some.injEq] at h; subst h
      obtain ⟨vs, h1, _⟩ := s.ob l _ p e hl
      exact ⟨by decide, .base (.dK h1)⟩
    · cases h
  | _ => cases h
theorem cm_isi : CallM C fIsi (rIsi C.K) := by
  intro W ι σ S H xs vs Q hs hr hp
  unfold fIsi at hp
  split at hp
  · rename_i x b
    obtain ⟨v, u, rfl, r1, r2⟩ := vrs2 hr
    simp only [VR] at r2
    subst r2
    split at hp
    · rename_i a ha
      split at hp
      · rename_i hb
        obtain ⟨h1, h2⟩ := tyName_ok hs r1 ha
        have hb' : b ∈ ["str", "int", "bool", "list", "tuple", "dict"] := by simpa using hb
        exact ⟨v, .ty b, _, _, _, rfl, .ty b, h2, kit_ty (kit_isi a h1 b hb'), hp ι H _ .refl hs (by simp only [VR])⟩
      · exact hp.elim
    · exact hp.elim
  · exact hp.elim

/-! ### methods of built-in types -/
def tyM (T : String) (S : Sto) (x : MV) : Bool := match x with
  | .str _ => T == "str"
  | .int _ => T == "int"
  | x => T == "list" && (asL S x).isSome
theorem tyM_ok {ι : Io} {S : Sto} {H : Hp} {x : MV} {v : V} {T : String} (s : StR C ι S H) (r : VR C ι H x v) (h : tyM T S x = true) : tyV C.K T v H := by
  have key : (T == "list" && (asL S x).isSome) = true → tyV C.K T v H := fun h => by
    rw [Bool.and_eq_true] at h
    obtain ⟨h1, h2⟩ := h
    obtain ⟨xs, e⟩ := Option.isSome_iff_exists.mp h2
    obtain ⟨a, vs, rfl, g, _⟩ := asL_ok s r e
    exact .inl ⟨by simpa using h1, vs, g⟩
  cases x with
  | str z => simp only [VR] at r; subst r; exact (by simpa [tyM] using h : T = "str")
  | int z => simp only [VR] at r; subst r; exact (by simpa [tyM] using h : T = "int")
  | _ => exact key h
def mBM (T : String) (f : MV → List MV → Sto → Res MV) (o : ME) (as : MA) : ME := fun env S => (o env S).bind fun x S1 => if tyM T S1 x = true then (as env S1).bind fun xs S2 => f x xs S2 else .bad
def MethM (C : Ct) (f : MV → List MV → Sto → Res MV) (r : V → List V → Hp → VK → Prop) : Prop := ∀ (W : WX) (ι : Io) (σ : L2.St) (S : Sto) (H : Hp) (x : MV) (xs : List MV) (v : V) (vs : List V) (Q : VK), StR C ι S H → VR C ι H x v → VRs C ι H xs vs → Post C W (VR C) ι σ H (f x xs S) Q → r v vs H Q
variable {o : Expr} {mo : ME} {name : Str} {apos cpos : Pos} {rm : V → List V → Hp → VK → Prop} {fm : MV → List MV → Sto → Res MV}
theorem bm_imp (hK : X.K = C.K) (hf : MethM C fm rm) {σ : L2.St} {H : Hp} {Q : VK} (h : tM C W (mBM T fm mo as) σ H Q) : tBM X.K T rm (tM C W mo) (tMA C W as) σ H Q := by
  obtain ⟨ι, env, S, he, hs, hp⟩ := h
  refine ⟨ι, env, S, he, hs, Post.bind hp fun x S1 ι1 H1 v e1 s1 q1 p1 => ?_⟩
  split at p1
  · rename_i ht
    refine ⟨by rw [hK]; exact tyM_ok s1 q1 ht, ι1, env, S1, he.mono e1, s1, Post.bind p1 fun xs S2 ι2 H2 vs e2 s2 q2 p2 => ?_⟩
    exact hf W ι2 σ S2 H2 x xs v vs Q s2 (q1.mono e2) q2 p2
  · exact p1.elim
theorem je_bm (hK : X.K = C.K) (pa : PlainAttrs T) (slot : Slot T name bid) (hty : typeOf (.builtin bid) = pure (.type "method_descriptor")) (hm : MtR X bid rm) (hf : MethM C fm rm) (ho : PE X o (tM C W mo)) (ha : PA X (e :: es) (tMA C W as))
    (hbase : attributeBase o name X.env (eval o X.env) = eval o X.env := by rfl)
    (hfew : ((backTo cpos (starEach (e :: es) X.env)).all (fun x => !x.1) && (backToKw cpos (keywordEach [] X.env)).all (fun x => x.1.isSome)
      && decide ((e :: es).length + ([] : List Keyword).length + (if ([] : List Keyword).isEmpty then 0 else 1) < 30)) = true := by rfl)
    (hline : (apos.endLine == cpos.line) = true := by rfl) (hs : starEach (e :: es) X.env = (false, eval e X.env) :: starEach es X.env := by rfl) (hplain : (backTo cpos (starEach es X.env)).any (·.1) = false := by rfl) :
    PE X (.Call (.Attribute o name apos) (e :: es) [] cpos) (tM C W (mBM T fm mo as)) :=
  peImp (pe_bm pa slot hty hm ho ha hbase hfew hline hs hplain) fun _ _ _ => bm_imp hK hf
theorem je_bm0 (hK : X.K = C.K) (pa : PlainAttrs T) (slot : Slot T name bid) (hty : typeOf (.builtin bid) = pure (.type "method_descriptor")) (hm : MtR X bid rm) (hf : MethM C fm rm) (ho : PE X o (tM C W mo))
    (hbase : attributeBase o name X.env (eval o X.env) = eval o X.env := by rfl) (hline : (apos.endLine == cpos.line) = true := by rfl) : PE X (.Call (.Attribute o name apos) [] [] cpos) (tM C W (mBM T fm mo mNil)) :=
  peImp (pe_bm0 pa slot hty hm ho hbase hline) fun σ H Q h => by
    obtain ⟨ι, env, S, he, hs, hp⟩ := h
    refine ⟨ι, env, S, he, hs, Post.bind hp fun x S1 ι1 H1 v e1 s1 q1 p1 => ?_⟩
    split at p1
    · rename_i ht
      exact ⟨by rw [hK]; exact tyM_ok s1 q1 ht, hf W ι1 σ S1 H1 x [] v [] Q s1 q1 (by simp only [VRs]) p1⟩
    · exact p1.elim
/-- a place that holds a list -/
def onL (x : MV) (S : Sto) (g : Nat → List MV → Res MV) : Res MV := match x with
  | .ref l => (match S[l]? with
    | some (.lst xs) => g l xs
    | _ => .bad)
  | _ => .bad
theorem onL_ok {ι : Io} {σ : L2.St} {S : Sto} {H : Hp} {x : MV} {v : V} {g : Nat → List MV → Res MV} {Q : VK} (hs : StR C ι S H) (r : VR C ι H x v) (hp : Post C W (VR C) ι σ H (onL x S g) Q) :
    ∃ l a xs vs, v = .ref a ∧ ι[l]? = some a ∧ S[l]? = some (.lst xs) ∧ H a = some (.lst vs) ∧ VRs C ι H xs vs ∧ Post C W (VR C) ι σ H (g l xs) Q := by
  unfold onL at hp
  split at hp
  · rename_i l
    split at hp
    · rename_i xs e
      simp only [VR] at r
      obtain ⟨a, rfl, hl⟩ := r
      obtain ⟨vs, h1, h2⟩ := hs.ob l _ a e hl
      exact ⟨l, a, xs, vs, rfl, hl, e, h1, h2, hp⟩
    · exact hp.elim
  · exact hp.elim
theorem setL_ok {ι : Io} {σ : L2.St} {S : Sto} {H : Hp} {l : Nat} {a : Addr} {ys : List MV} {ws : List V} {z : MV} {u : V} {Q : VK} (hs : StR C ι S H) (hl : ι[l]? = some a) (r : VRs C ι H ys ws) (rz : VR C ι H z u) (hp : Post C W (VR C) ι σ H (.ok z (S.set l (.lst ys))) Q) : Q u (upd H a (.lst ws)) :=
  hp ι _ u (Ext.set hl) (hs.set hl (m := .lst ys) ⟨ws, upd_same, VRs.mono (Ext.set hl) _ _ r⟩) (rz.mono (Ext.set hl))
def fAppend (x : MV) (vs : List MV) (S : Sto) : Res MV := match vs with
  | [y] => onL x S fun l xs => if xs.length < sizeLine then .ok .non (S.set l (.lst (xs ++ [y]))) else .bad
  | _ => .bad
theorem mm_append : MethM C fAppend rAppend := by
  intro W ι σ S H x xs v vs Q hs r1 r2 hp
  unfold fAppend at hp
  split at hp
  · obtain ⟨u, rfl, r3⟩ := vrs1 r2
    obtain ⟨l, a, ys, ws, rfl, hl, _, h1, h2, hp⟩ := onL_ok hs r1 hp
    split at hp
    · rename_i hz
      exact ⟨a, ws, u, rfl, rfl, h1, by rw [h2.len]; exact hz, setL_ok hs hl (h2.append (by simp only [VRs]; exact ⟨u, [], rfl, r3, rfl⟩)) (by simp only [VR]) hp⟩
    · exact hp.elim
  · exact hp.elim
def fPop (x : MV) (vs : List MV) (S : Sto) : Res MV := match vs with
  | [] => onL x S fun l xs => (match xs[xs.length - 1]? with
    | some y => .ok y (S.set l (.lst xs.dropLast))
    | none => .bad)
  | [.int i] => onL x S fun l xs => if -(2 ^ 63) ≤ i ∧ i < 2 ^ 63 then (match seqIndex? i xs.length with
    | some k => (match xs[k]? with
      | some y => .ok y (S.set l (.lst (xs.eraseIdx k)))
      | none => .bad)
    | none => .bad) else .bad
  | _ => .bad
def rPopM : V → List V → Hp → VK → Prop := fun x vs H Q => rPop x vs H Q ∨ rPopAt x vs H Q
theorem mt_popM : MtR X "list.pop" rPopM := MtR.or mt_pop mt_popAt
theorem VRs.dropLast {ι : Io} {H : Hp} {xs : List MV} {vs : List V} (h : VRs C ι H xs vs) : VRs C ι H xs.dropLast vs.dropLast := by
  rw [List.dropLast_eq_take, List.dropLast_eq_take, h.len]
  exact h.take _
theorem mm_pop : MethM C fPop rPopM := by
  intro W ι σ S H x xs v vs Q hs r1 r2 hp
  unfold fPop at hp
  split at hp
  · simp only [VRs] at r2
    subst r2
    obtain ⟨l, a, ys, ws, rfl, hl, _, h1, h2, hp⟩ := onL_ok hs r1 hp
    split at hp
    · rename_i y hy
      obtain ⟨u, e, ru⟩ := h2.at hy
      exact .inl ⟨a, ws, u, rfl, rfl, h1, by rw [h2.len]; exact e, setL_ok hs hl h2.dropLast ru hp⟩
    · exact hp.elim
  · obtain ⟨u0, rfl, r3⟩ := vrs1 r2
    obtain ⟨l, a, ys, ws, rfl, hl, _, h1, h2, hp⟩ := onL_ok hs r1 hp
    split at hp
    · rename_i hi
      split at hp
      · rename_i kk hk
        split at hp
        · rename_i y hy
          obtain ⟨u, e, ru⟩ := h2.at hy
          simp only [VR] at r3
          subst r3
          exact .inr ⟨a, ws, _, kk, u, rfl, rfl, h1, hi.1, hi.2, by rw [h2.len]; exact hk, e, setL_ok hs hl (h2.erase kk) ru hp⟩
        · exact hp.elim
      · exact hp.elim
    · exact hp.elim
  · exact hp.elim
def rInsM : V → List V → Hp → VK → Prop := fun x vs H Q => ∃ (l : Addr) (xs : List V) (i : Int) (y : V), x = .ref l ∧ vs = [.int i, y] ∧ H l = some (.lst xs) ∧ xs.length < sizeLine ∧ 0 ≤ i ∧ i < 2 ^ 63 ∧ Q .non (upd H l (.lst (xs.take i.toNat ++ [y] ++ xs.drop i.toNat)))
theorem mt_insM : MtR X "list.insert" rInsM := mt_insert
def fInsert (x : MV) (vs : List MV) (S : Sto) : Res MV := match vs with
  | [.int i, y] => onL x S fun l xs => if xs.length < sizeLine ∧ 0 ≤ i ∧ i < 2 ^ 63 then .ok .non (S.set l (.lst (xs.take i.toNat ++ [y] ++ xs.drop i.toNat))) else .bad
  | _ => .bad
theorem mm_insert : MethM C fInsert rInsM := by
  intro W ι σ S H x xs v vs Q hs r1 r2 hp
  unfold fInsert at hp
  split at hp
  · obtain ⟨u, w, rfl, r4, r3⟩ := vrs2 r2
    obtain ⟨l, a, ys, ws, rfl, hl, _, h1, h2, hp⟩ := onL_ok hs r1 hp
    simp only [VR] at r4
    subst r4
    split at hp
    · rename_i hz
      exact ⟨a, ws, _, w, rfl, rfl, h1, by rw [h2.len]; exact hz.1, hz.2.1, hz.2.2, setL_ok hs hl (((h2.take _).append (by simp only [VRs]; exact ⟨w, [], rfl, r3, rfl⟩)).append (h2.drop _)) (by simp only [VR]) hp⟩
    · exact hp.elim
  · exact hp.elim
/-- sep.join -/
def strsOf : List MV → Option (List (List Nat))
  | [] => some []
  | .str z :: r => (strsOf r).map (z :: ·)
  | _ => none
theorem strsOf_ok {ι : Io} {H : Hp} : ∀ {xs : List MV} {vs : List V} {zs : List (List Nat)}, VRs C ι H xs vs → strsOf xs = some zs → vs = (zs.map st).map V.str
  | [], vs, bs, h, e => by simp only [VRs] at h; simp only [strsOf, Option.some.injEq] at e; subst h; subst e; rfl
  | .str b :: r, vs, bs, h, e => by
    simp only [VRs, VR] at h
    obtain ⟨v, w, rfl, rfl, h2⟩ := h
    simp only [strsOf] at e
    cases e2 : strsOf r with
    | none => rw [e2] at e; cases e
    | some cs =>
      rw [e2] at e
      simp only [Option.map_some, Option.some.injEq] at e
      subst e
      rw [strsOf_ok h2 e2]
      rfl
  | .non :: _, _, _, _, e => by cases e
  | .int _ :: _, _, _, _, e => by cases e
  | .bl _ :: _, _, _, _, e => by cases e
  | .ty _ :: _, _, _, _, e => by cases e
  | .tup _ :: _, _, _, _, e => by cases e
  | .lst _ :: _, _, _, _, e => by cases e
  | .rol _ :: _, _, _, _, e => by cases e
  | .dic _ :: _, _, _, _, e => by cases e
  | .ins _ _ :: _, _, _, _, e => by cases e
  | .ref _ :: _, _, _, _, e => by cases e
  | .fn _ :: _, _, _, _, e => by cases e
  | .clo _ _ :: _, _, _, _, e => by cases e
def rJoinM (K : PySem.W.Frag) : V → List V → Hp → VK → Prop := fun x xs H Q => ∃ a p, ∃ ys : List Str, x = .str a ∧ xs = [.ref p] ∧ (SqL K H p (ys.map V.str) ∨ SqT K H p (ys.map V.str)) ∧ (ys.map (·.length)).sum + ys.length * a.length ≤ 16777216 ∧ Q (.str (Txt.join a ys)) H
theorem mt_joinM : MtR X "str.join" (rJoinM X.K) := mt_join
def fJoin (x : MV) (vs : List MV) (S : Sto) : Res MV := match x, vs with
  | .str a, [y] => (match (asSq S y).bind strsOf with
    | some zs => if (zs.map List.length).sum + zs.length * a.length ≤ 16777216 then .ok (.str (joinL a zs)) S else .bad
    | none => .bad)
  | _, _ => .bad
theorem mm_join : MethM C fJoin (rJoinM C.K) := by
  intro W ι σ S H x xs v vs Q hs r1 r2 hp
  unfold fJoin at hp
  split at hp
  · rename_i a y
    obtain ⟨u, rfl, r3⟩ := vrs1 r2
    cases e : asSq S y with
    | none => rw [e] at hp; exact hp.elim
    | some ys =>
      rw [e] at hp
      simp only [Option.bind_some] at hp
      cases e2 : strsOf ys with
      | none => rw [e2] at hp; exact hp.elim
      | some zs =>
        rw [e2] at hp
        simp only at hp
        split at hp
        · rename_i hz
          obtain ⟨p, ws, rfl, g1, g2⟩ := asSq_ok hs r3 e
          rw [strsOf_ok g2 e2] at g1
          simp only [VR] at r1
          subst r1
          refine ⟨_, p, zs.map st, rfl, rfl, g1, ?_, hp ι H _ .refl hs (VR_str ?_)⟩
          · rw [List.map_map, List.length_map, st_len]
            have : ((fun x : Str => x.length) ∘ st) = List.length := by funext l; exact st_len l
            rw [this]
            exact hz
          · rw [join_eq, tl_join, List.map_map]
            have : (tl ∘ st) = id := by funext l; simp
            rw [this, List.map_id]
        · exact hp.elim
  · exact hp.elim

/-! ### o[i] = e -/
def sSub (o i m : ME) : MSt := fun env S => sBind (m env S) env fun y S1 => sBind (o env S1) env fun x S2 => sBind (i env S2) env fun j S3 => match x, j with
  | .ref l, .int n => (match S3[l]? with
    | some (.lst xs) => (match ixN xs.length n with
      | some q => .nx env (S3.set l (.lst (xs.set q y)))
      | none => .bad)
    | _ => .bad)
  | _, _ => .bad
theorem js_sub {oe ie ee : Expr} {pos' : Pos} {i m : ME} (ho : PE X oe (tM C W mo)) (hi : PE X ie (tM C W i)) (he : PE X ee (tM C W m)) (hs : swapsWithSole [.Subscript oe ie pos'] ee pos.line X.env = pure false := by rfl) (hw : swappedStores [.Subscript oe ie pos'] ee X.env = pure none := by rfl)
    (h1 : (assignEach [.Subscript oe ie pos'] X.env).map (·.2) = [assign (.Subscript oe ie pos') X.env] := by rfl)
    (ha : ∀ v, assign (.Subscript oe ie pos') X.env v = (do
      let ov ← holding [v] (eval oe X.env)
      let iv ← holding [v, ov] (eval ie X.env)
      standAt pos'
      holding [v, ov, iv] (setItem ov iv v)
      release [v, ov, iv] []) := by intro _; rfl) : PS X (.Assign [.Subscript oe ie pos'] ee pos) (tMS C W (sSub mo i m)) :=
  psImp (ps_asg he (pg_sub ho hi set_list ha) hs hw h1) fun D σ H h => by
    obtain ⟨ι, env, S, he, hs, hp⟩ := h
    refine ⟨ι, env, S, he, hs, SPost.bind he hp fun y S1 ι1 H1 v e1 s1 q1 p1 => ?_⟩
    refine ⟨ι1, env, S1, he.mono e1, s1, SPost.bind (he.mono e1) p1 fun x S2 ι2 H2 u e2 s2 q2 p2 => ?_⟩
    refine ⟨ι2, env, S2, (he.mono e1).mono e2, s2, SPost.bind ((he.mono e1).mono e2) p2 fun j S3 ι3 H3 w e3 s3 q3 p3 => ?_⟩
    split at p3
    · rename_i l n
      split at p3
      · rename_i xs ex
        split at p3
        · rename_i q hq
          have q2 := q2.mono e3
          simp only [VR] at q2 q3
          obtain ⟨a, rfl, hl⟩ := q2
          obtain ⟨vs, g1, g2⟩ := s3.ob l _ a ex hl
          refine ⟨a, vs, n, q, rfl, q3, g1, by rw [g2.len]; exact hq, ?_⟩
          exact p3 ι3 _ σ (Ext.set hl) (s3.set hl (m := .lst (xs.set q y)) ⟨_, upd_same, VRs.mono (Ext.set hl) _ _ (VRs.set ((q1.mono e2).mono e3) q g2)⟩) ((((he.mono e1).mono e2).mono e3).mono (Ext.set hl))
        · exact p3.elim
      · exact p3.elim
    · exact p3.elim
end
end Mi

namespace Mi
open PySem L2

/-! ### or, and, not of any values -/
section
variable {X : Cx} {C : Ct} {W : WX} {pos : Pos}
def mOrT (a b : ME) : ME := fun env S => (a env S).bind fun x S1 => match tru S1 x with
  | some k => if k = true then .ok x S1 else b env S1
  | none => .bad
def mAndT (a b : ME) : ME := fun env S => (a env S).bind fun x S1 => match tru S1 x with
  | some k => if k = true then b env S1 else .ok x S1
  | none => .bad
def mNotT (a : ME) : ME := fun env S => (a env S).bind fun x S1 => match tru S1 x with
  | some k => .ok (.bl (!k)) S1
  | none => .bad
theorem je_orT (hK : X.K = C.K) {a b : Expr} {rest : List Expr} {m n : ME} (h : PE X a (tM C W m)) (h2 : PE X (.BoolOp .Or (b :: rest) pos) (tM C W n)) : PE X (.BoolOp .Or (a :: b :: rest) pos) (tM C W (mOrT m n)) :=
  peImp (pe_orT h h2) fun σ H Q h => by
    obtain ⟨ι, env, S, he, hs, hp⟩ := h
    refine ⟨ι, env, S, he, hs, Post.bind hp fun x S1 ι1 H1 v e1 s1 q1 p1 => ?_⟩
    split at p1
    · rename_i k hk
      refine ⟨k, by rw [hK]; exact tru_ok' s1 q1 hk, ?_⟩
      cases k with
      | true => exact p1 ι1 H1 v .refl s1 q1
      | false => exact ⟨ι1, env, S1, he.mono e1, s1, p1⟩
    · exact p1.elim
theorem je_andT (hK : X.K = C.K) {a b : Expr} {rest : List Expr} {m n : ME} (h : PE X a (tM C W m)) (h2 : PE X (.BoolOp .And (b :: rest) pos) (tM C W n)) : PE X (.BoolOp .And (a :: b :: rest) pos) (tM C W (mAndT m n)) :=
  peImp (pe_andT h h2) fun σ H Q h => by
    obtain ⟨ι, env, S, he, hs, hp⟩ := h
    refine ⟨ι, env, S, he, hs, Post.bind hp fun x S1 ι1 H1 v e1 s1 q1 p1 => ?_⟩
    split at p1
    · rename_i k hk
      refine ⟨k, by rw [hK]; exact tru_ok' s1 q1 hk, ?_⟩
      cases k with
      | false => exact p1 ι1 H1 v .refl s1 q1
      | true => exact ⟨ι1, env, S1, he.mono e1, s1, p1⟩
    · exact p1.elim
theorem je_notT (hK : X.K = C.K) {a : Expr} {m : ME} (h : PE X a (tM C W m)) : PE X (.UnaryOp .Not a pos) (tM C W (mNotT m)) :=
  peImp (pe_notT h) fun σ H Q h => by
    obtain ⟨ι, env, S, he, hs, hp⟩ := h
    refine ⟨ι, env, S, he, hs, Post.bind hp fun x S1 ι1 H1 v e1 s1 q1 p1 => ?_⟩
    split at p1
    · rename_i k hk
      exact ⟨k, by rw [hK]; exact tru_ok' s1 q1 hk, p1 ι1 H1 _ .refl s1 (by simp only [VR])⟩
    · exact p1.elim

/-! ### dicts written -/
def putKM (kvs : List (MV × MV)) (k x : MV) : List (MV × MV) :=
  if (kvs.any fun p => keyB p.1 k) = true then kvs.map (fun p => if keyB p.1 k = true then (p.1, x) else p) else kvs ++ [(k, x)]
def mergeKM (kvs more : List (MV × MV)) : List (MV × MV) := more.foldl (fun acc p => putKM acc p.1 p.2) kvs
theorem KRs.any {ι : Io} {H : Hp} {y : MV} (hy : isKey y = true) : ∀ {kvs : List (MV × MV)} {kx : List (Key × V)}, KRs C ι H kvs kx → (kx.any fun kv => decide (kv.1 = keyOf y)) = (kvs.any fun p => keyB p.1 y)
  | [], kx, h => by simp only [KRs] at h; subst h; rfl
  | (k, z) :: r, kx, h => by
    simp only [KRs] at h
    obtain ⟨⟨key, v⟩, w, rfl, h1, h2⟩ := h
    simp only [KR] at h1
    obtain ⟨hk, rfl⟩ := keyR_eq h1.1
    rw [List.any_cons, List.any_cons, KRs.any hy h2, keyB_ok hk hy]
theorem KRs.mapPut {ι : Io} {H : Hp} {y x : MV} {u : V} (hy : isKey y = true) (r : VR C ι H x u) : ∀ {kvs : List (MV × MV)} {kx : List (Key × V)}, KRs C ι H kvs kx → KRs C ι H (kvs.map (fun p => if keyB p.1 y = true then (p.1, x) else p)) (kx.map (fun kv => if kv.1 = keyOf y then (kv.1, u) else kv))
  | [], kx, h => by simp only [KRs] at h; subst h; simp only [List.map_nil, KRs]
  | (k, z) :: rr, kx, h => by
    simp only [KRs] at h
    obtain ⟨⟨key, v⟩, w, rfl, h1, h2⟩ := h
    simp only [KR] at h1
    obtain ⟨hk, e⟩ := keyR_eq h1.1
    rw [List.map_cons, List.map_cons]
    simp only [KRs]
    refine ⟨_, _, rfl, ?_, KRs.mapPut hy r h2⟩
    subst e
    have eb := keyB_ok hk hy
    by_cases hb : keyOf k = keyOf y
    · rw [decide_eq_true hb] at eb
      simp only [eb, if_true, hb, KR]
      rw [← hb]
      exact ⟨h1.1, r⟩
    · rw [decide_eq_false hb] at eb
      simp only [eb, hb, if_false, KR, Bool.false_eq_true]
      exact h1
theorem KRs.snoc {ι : Io} {H : Hp} {p : MV × MV} {q : Key × V} (r : KR C ι H p q) : ∀ {kvs : List (MV × MV)} {kx : List (Key × V)}, KRs C ι H kvs kx → KRs C ι H (kvs ++ [p]) (kx ++ [q])
  | [], kx, h => by simp only [KRs] at h; subst h; simp only [List.nil_append, KRs]; exact ⟨_, _, rfl, r, rfl⟩
  | z :: rr, kx, h => by
    simp only [KRs] at h
    obtain ⟨v, w, rfl, h1, h2⟩ := h
    simp only [List.cons_append, KRs]
    exact ⟨_, _, rfl, h1, KRs.snoc r h2⟩
theorem keyR_of {x : MV} (h : isKey x = true) : KeyR x (keyOf x) := by
  cases x <;> first | rfl | cases h
theorem KRs.put {ι : Io} {H : Hp} {y x : MV} {u : V} (hy : isKey y = true) (r : VR C ι H x u) {kvs : List (MV × MV)} {kx : List (Key × V)} (h : KRs C ι H kvs kx) : KRs C ι H (putKM kvs y x) (putK kx (keyOf y) u) := by
  unfold putKM putK
  rw [KRs.any hy h]
  split
  · exact KRs.mapPut hy r h
  · exact KRs.snoc (by simp only [KR]; exact ⟨keyR_of hy, r⟩) h
theorem KRs.merge {ι : Io} {H : Hp} : ∀ {more : List (MV × MV)} {mx : List (Key × V)} {kvs : List (MV × MV)} {kx : List (Key × V)}, KRs C ι H more mx → KRs C ι H kvs kx → KRs C ι H (mergeKM kvs more) (mergeK kx mx)
  | [], mx, kvs, kx, h, h2 => by simp only [KRs] at h; subst h; exact h2
  | (k, z) :: rr, mx, kvs, kx, h, h2 => by
    simp only [KRs] at h
    obtain ⟨⟨key, v⟩, w, rfl, h1, h3⟩ := h
    simp only [KR] at h1
    obtain ⟨hk, e⟩ := keyR_eq h1.1
    obtain rfl : key = keyOf k := e
    show KRs C ι H (mergeKM (putKM kvs k z) rr) (mergeK (putK kx (keyOf k) v) w)
    exact KRs.merge h3 (KRs.put hk h1.2 h2)
def mPrs : List (ME × ME) → Env → Sto → Res (List (MV × MV))
  | [], _, S => .ok [] S
  | (k, v) :: r, env, S => (k env S).bind fun x S1 => (v env S1).bind fun y S2 => if isKey x = true then (mPrs r env S2).bind fun ps S3 => .ok ((x, y) :: ps) S3 else .bad
def RPs (C : Ct) (ι : Io) (H : Hp) (kv : List (MV × MV)) (vs : List (V × V)) : Prop := ∃ kx : List (Key × V), vs = kx.map (fun p => (kV p.1, p.2)) ∧ KRs C ι H kv kx
theorem prs_ok : ∀ (ps : List (ME × ME)) {ι : Io} {env : Env} {S : Sto} {σ : L2.St} {H : Hp} {Q : List (V × V) → Hp → Prop}, EnvR C ι H env σ → StR C ι S H → Post C W (RPs C) ι σ H (mPrs ps env S) Q →
    tPairs (ps.map fun p => (tM C W p.1, tM C W p.2)) σ H Q
  | [], ι, env, S, σ, H, Q, he, hs, hp => hp ι H [] .refl hs ⟨[], rfl, by simp only [KRs]⟩
  | (k, v) :: r, ι, env, S, σ, H, Q, he, hs, hp => by
    refine ⟨ι, env, S, he, hs, Post.bind hp fun x S1 ι1 H1 vx e1 s1 q1 p1 => ?_⟩
    refine ⟨ι1, env, S1, he.mono e1, s1, Post.bind p1 fun y S2 ι2 H2 vy e2 s2 q2 p2 => ?_⟩
    split at p2
    · rename_i hk
      refine prs_ok r ((he.mono e1).mono e2) s2 (Post.bind p2 fun kv S3 ι3 H3 vs e3 s3 q3 p3 => ?_)
      obtain ⟨kx, rfl, h3⟩ := q3
      refine p3 ι3 H3 _ .refl s3 ⟨(keyOf x, vy) :: kx, ?_, ?_⟩
      · rw [List.map_cons, keyOf_ok q1 hk]
      · simp only [KRs]
        exact ⟨_, _, rfl, by simp only [KR]; exact ⟨keyR_of hk, q2.mono e3⟩, h3⟩
    · exact p2.elim
noncomputable def mDic (mu : Bool) (ps : List (ME × ME)) : ME := fun env S => (mPrs ps env (S ++ [.dic []])).bind fun kvs S1 => match S1[S.length]? with
  | some (.dic []) => if kvs.length ≤ 15 then compE mu S (S1.set S.length (.dic (mergeKM [] kvs))) else .bad
  | _ => .bad
theorem je_dic (mu : Bool) {keys : List (Option Expr)} {values : List Expr} (ps : List (ME × ME)) (h : PPs X pos keys values (ps.map fun p => (tM C W p.1, tM C W p.2))) (hall : keys.all (·.isSome) = true := by rfl) (hl : keys.length = values.length := by rfl) (h0 : keys ≠ [] := by exact fun z => by cases z)
    (h15 : keys.length ≤ 15 := by decide) : PE X (.Dict keys values pos) (tM C W (mDic mu ps)) :=
  peImp (pe_disp h hall hl h0 h15) fun σ H Q h => by
    obtain ⟨ι, env, S, he, hs, hp⟩ := h
    intro p hn
    have e0 := Ext.push (o := .dK []) hs hn
    have s0 : StR C (ι ++ [p]) (S ++ [.dic []]) (upd H p (.dK [])) := hs.push hn ⟨[], upd_same, by simp only [KRs]⟩
    have hx0 : ∀ {x : MX} {S2 : Sto}, mPrs ps env (S ++ [.dic []]) = .ex x S2 → mDic mu ps env S = .ex x S2 := fun e => by unfold mDic; rw [e]; rfl
    refine prs_ok ps (he.mono e0) s0 ?_
    unfold mDic at hp
    cases e : mPrs ps env (S ++ [.dic []]) with
    | bad => rw [e] at hp; exact hp.elim
    | ex x S2 =>
      rw [e] at hp
      intro ι1 H1 cls d e1 s1 r1
      exact hp ι1 H1 cls d (e0.trans e1) s1 r1
    | ok kvs S1 =>
      rw [e] at hp
      simp only [bind_ok] at hp
      intro ι1 H1 vs e1 s1 q1
      obtain ⟨kx, rfl, hkr⟩ := q1
      have hpi : ι1[S.length]? = some p := e1.at (by rw [← hs.len]; simp)
      split at hp
      · rename_i hS
        obtain ⟨kx0, hp0, hk0⟩ := s1.ob _ _ _ hS hpi
        simp only [KRs] at hk0
        subst hk0
        split at hp
        · rename_i h15
          refine ⟨hp0, kx, rfl, by rw [hkr.len]; exact h15, ?_⟩
          have ex : Ext ι1 H1 ι1 (upd H1 p (.dK (mergeK [] kx))) := Ext.set hpi
          have hm : KRs C ι1 (upd H1 p (.dK (mergeK [] kx))) (mergeKM [] kvs) (mergeK [] kx) := KRs.mono ex _ _ (KRs.merge hkr (by simp only [KRs]))
          have sF : StR C ι1 (S1.set S.length (.dic (mergeKM [] kvs))) (upd H1 p (.dK (mergeK [] kx))) := s1.set hpi ⟨_, upd_same, hm⟩
          have eF := (e0.trans e1).trans ex
          have rD : VR C ι1 (upd H1 p (.dK (mergeK [] kx))) (.ref S.length) (.ref p) := by simp only [VR]; exact ⟨p, rfl, hpi⟩
          cases mu with
          | true => exact hp ι1 _ _ eF sF rD
          | false =>
            cases el : leaveV S (S1.set S.length (.dic (mergeKM [] kvs))) (.ref S.length) with
            | ok y S3 =>
              simp only [compE, el] at hp
              obtain ⟨a1, a2, a3⟩ := leaveV_ok hs eF sF rD el
              exact hp ι _ _ a1 a2 a3
            | ex x S3 => unfold leaveV at el; (repeat (split at el)) <;> cases el
            | bad => simp only [compE, el] at hp; exact hp.elim
        · exact hp.elim
      · exact hp.elim
end
end Mi

namespace Mi
open PySem L2

/-! ### a def as its callers see it -/
structure FnIn (P : Program) (w : World) (C : Ct) (mg : Str → Option Value) (base : Heap) (x : Str) (k n : Nat) (g : List MV → Sto → Res MV) (ms : List MV) : Prop where
  ex : ∃ (f : Addr) (fd : FuncData) (ps : List Str) (dvs : List V) (ds : List Value), mg x = some (.ref f) ∧ PySem.W.keepIn C.K (.ref f) = true ∧ Binds C.K fd ps ds ∧ Vals dvs ds ∧ CstR ms dvs ∧ FnOk P w C.K mg base (L2.CX P w) k f fd ps (spM C n g)
section
variable {X : Cx} {C : Ct} {W : WX} {k j n : Nat} {x : Str} {p pos : Pos} {e : Expr} {es : List Expr} {ms : List MV} {g : List MV → Sto → Res MV} {as : MA}
theorem je_f (B : Bx C W j X) (G : FnIn X.prog X.w C X.mg X.base x k n g ms) (ha : PA X (e :: es) (tMA C W as)) (hkj : k ≤ j := by decide) (hg : Gl X x := by rfl) (hdb : (x == ("__debug__" : Str)) = false := by decide)
    (he : starEach (e :: es) X.env = (false, eval e X.env) :: starEach es X.env := by rfl) (hpl : (backTo pos (starEach es X.env)).any (·.1) = false := by rfl) :
    PE X (.Call (.Name x p) (e :: es) [] pos) (tM C W (mCall n g ms as)) := by
  obtain ⟨f, fd, ps, dvs, ds, h1, h2, h3, h4, h5, h6⟩ := G.ex
  rw [← B.hK] at h2 h3 h6
  exact je_call B h6 h1 h2 h3 h4 h5 ha hkj hg hdb he hpl
theorem je_f0 (B : Bx C W j X) (G : FnIn X.prog X.w C X.mg X.base x k n g ms) (hkj : k ≤ j := by decide) (hg : Gl X x := by rfl) (hdb : (x == ("__debug__" : Str)) = false := by decide) :
    PE X (.Call (.Name x p) [] [] pos) (tM C W (mCall n g ms mNil)) := by
  obtain ⟨f, fd, ps, dvs, ds, h1, h2, h3, h4, h5, h6⟩ := G.ex
  rw [← B.hK] at h2 h3 h6
  exact je_call0 B h6 h1 h2 h3 h4 h5 hkj hg hdb
end
/-! ### the end -/
theorem cx_none {P : Program} {w : World} {H : Hp} {s : Shared} {e : Value} {s' : Shared} (h : L2.CX P w [] H s (fun _ _ _ => False) e s') : False := by
  unfold L2.CX at h
  obtain ⟨_, _, _, _, _, _, _, _, _, _, _, _, h⟩ := h
  exact h

def spE (K : PySem.W.Frag) : Sp := fun vs H Q _ => ∃ (a : Addr) (ns : List Int), vs = [.ref a] ∧ ns.length ≤ 63 ∧ SqL K H a (ns.map V.int) ∧ ∀ H', Q (.bl true) H'
theorem law_sp {C : Ct} {g : List MV → Sto → Res MV} (h : ∀ ns : List Int, ns.length ≤ 63 → ∃ S, g [.rol (ns.map MV.int)] [] = .ok (.bl true) S) (vs : List V) (H : Hp) (Q : VK) (E : XK) (hs : spE C.K vs H Q E) : spM C 1 g vs H Q E := by
  obtain ⟨a, ns, rfl, hl, hS, hQ⟩ := hs
  obtain ⟨S', h⟩ := h ns hl
  refine ⟨rfl, [], [], [.rol (ns.map MV.int)], ⟨rfl, by simp, fun l o a h => by simp at h⟩, ?_, ?_⟩
  · have hv : ∀ ns : List Int, VRs C [] H (ns.map MV.int) (ns.map V.int) := by
      intro ns
      induction ns with
      | nil => simp only [List.map_nil, VRs]
      | cons i r ih => simp only [List.map_cons, VRs]; exact ⟨_, _, rfl, by simp only [VR], ih⟩
    simp only [VRs, VR]
    refine ⟨_, _, rfl, ⟨a, _, rfl, ?_, hv ns⟩, rfl⟩
    rcases hS with hS | hS
    · exact .inl ⟨by simp, hS⟩
    · exact .inr hS
  · rw [h]
    intro ι1 H1 v e1 s1 r1
    have r2 : v = .bl true := by simpa only [VR] using r1
    rw [r2]
    exact hQ H1
theorem law_walk {l : PySem.W.OpenLaw} {k : Nat} {q : Program} {loose : List Str} {XP : (Str → Option Value) → Heap → Prop} {YP : World → Heap → Prop} {d : DefRec} {K : Params → PySem.W.Frag} {x : Str} {g : List MV → Sto → Res MV} (hn : l.most = some 63) (hdf : d.params.defaults = [])
    (hr : Room k callerA) (hY : ∀ (w : World) (h : Heap), YP w h → (K w.params).In h) (hg : ∀ ns : List Int, ns.length ≤ 63 → ∃ S, g [.rol (ns.map MV.int)] [] = .ok (.bl true) S)
    (F : ∀ (w : World) (mg : Str → Option Value) (fa : Addr) (h : Heap), (K w.params).In h → h.Ns mainGlobals mg → mg d.name = some (.ref fa) →
      ∃ fd : FuncData, (∀ (s : Shared) (u : Value), BindsTo s fd ⟨[u], []⟩ [(x, u)]) ∧ ∃ C : Ct, C.K = K w.params ∧ ∀ base : Heap, (K w.params).In base → base.Ns mainGlobals mg → FnOk l.prog w C.K mg base (L2.CX l.prog w) k fa fd [x] (spM C 1 g)) :
    PySem.W.WalkO q loose XP YP l.row.toRowW d [] (fun f vs => PySem.call f vs) := by
  refine L2.walk_of (n := 63) (k := k) (x := x) (CX := fun w => L2.CX l.prog w) (sp := fun w => spE (K w.params)) hn (by decide) hdf hr hY ?_ ?_ ?_
  · intro w mg fa h hK hG hmg
    obtain ⟨fd, hb, C, hC, hF⟩ := F w mg fa h hK hG hmg
    refine ⟨fd, hb, fun base h1 h2 => ?_⟩
    have q := (hF base h1 h2).imp (law_sp hg)
    rw [hC] at q
    exact q
  · intro w H a ns hl _ hS
    exact ⟨a, ns, rfl, hl, hS, fun _ => rfl⟩
  · intro w H s e s' h
    exact cx_none h
end Mi

namespace Mi
open PySem L2

/-! ### plain: leaving a def -/
theorem leaveV_cl {S S' : Sto} {v : MV} (k : Keeps S S') (h : Cl S.length v) : leaveV S S' v = .ok v (S'.take S.length) := by
  unfold leaveV
  rw [if_pos k, fz_cl h]
theorem keeps_refl (S : Sto) : Keeps S S := ⟨Nat.le_refl _, fun l _ => .inl rfl⟩
theorem keeps_app {S S' : Sto} (T : Sto) (k : Keeps S S') : Keeps S (S' ++ T) := by
  refine ⟨by rw [List.length_append]; have := k.1; omega, fun l hl => ?_⟩
  have h2 : l < S'.length := by have := k.1; omega
  rw [List.getElem?_append_left h2]
  exact k.2 l hl
theorem keeps_set {S S' : Sto} {l : Nat} {o : MO} (k : Keeps S S') (h : ClO S.length o) : Keeps S (S'.set l o) := by
  refine ⟨by rw [List.length_set]; exact k.1, fun j hj => ?_⟩
  by_cases e : l = j
  · subst e
    have h2 : l < S'.length := by have := k.1; omega
    exact .inr ⟨o, by rw [List.getElem?_set_self h2], h⟩
  · rw [List.getElem?_set_ne e]
    exact k.2 j hj
theorem leaveR_push {S : Sto} {o : MO} (h : ClO S.length o) : leaveR S (S ++ [o]) (.ref S.length) = .ok (.ref S.length) (S ++ [o]) := by
  unfold leaveR
  rw [if_pos (keeps_app _ (keeps_refl S))]
  simp [h]

/-! ### plain: draws -/
abbrev dr (a b c : Int) : MO := .lst [.int a, .int b, .int c]
theorem dr_cl (n : Nat) (a b c : Int) : ClO n (dr a b c) := by simp [ClO, ClL, Cl]
def HasDr (l n : Nat) (S : Sto) : Prop := ∃ a b c : Int, S[l]? = some (dr a b c) ∧ 0 ≤ c ∧ c ≤ n
def Draws (l q : Nat) (S S' : Sto) : Prop := ∃ a b c a' c' : Int, S[l]? = some (dr a b c) ∧ S' = S.set l (dr a' b c') ∧ c ≤ c' ∧ c' ≤ c + q
theorem HasDr.lt {l n : Nat} {S : Sto} (h : HasDr l n S) : l < S.length := by
  obtain ⟨a, b, c, h, _⟩ := h
  exact (List.getElem?_eq_some_iff.mp h).1
theorem HasDr.draws {l n q : Nat} {S S' : Sto} (h : HasDr l n S) (d : Draws l q S S') : HasDr l (n + q) S' := by
  have hl := h.lt
  obtain ⟨a, b, c, h, h1, h2⟩ := h
  obtain ⟨a1, b1, c1, a', c', g, rfl, g2, g3⟩ := d
  rw [h] at g; cases g
  exact ⟨a', b, c', by rw [List.getElem?_set_self hl], by omega, by omega⟩
theorem HasDr.mono {l n m : Nat} {S : Sto} (h : HasDr l n S) (k : n ≤ m) : HasDr l m S := by
  obtain ⟨a, b, c, h, h1, h2⟩ := h
  exact ⟨a, b, c, h, h1, by omega⟩
theorem Draws.trans {l q r : Nat} {S S1 S2 : Sto} (d : Draws l q S S1) (e : Draws l r S1 S2) : Draws l (q + r) S S2 := by
  obtain ⟨a, b, c, a', c', g, rfl, g2, g3⟩ := d
  have hl := (List.getElem?_eq_some_iff.mp g).1
  obtain ⟨a1, b1, c1, a2, c2, h, rfl, h2, h3⟩ := e
  rw [List.getElem?_set_self hl] at h; cases h
  exact ⟨a, b, c, a2, c2, g, by rw [List.set_set], by omega, by omega⟩
theorem Draws.mono {l q r : Nat} {S S1 : Sto} (d : Draws l q S S1) (h : q ≤ r) : Draws l r S S1 := by
  obtain ⟨a, b, c, a', c', g, e, g2, g3⟩ := d
  exact ⟨a, b, c, a', c', g, e, g2, by omega⟩
theorem Draws.len {l q : Nat} {S S1 : Sto} (d : Draws l q S S1) : S1.length = S.length := by
  obtain ⟨a, b, c, a', c', g, rfl, g2, g3⟩ := d
  simp
theorem Draws.zero {l n : Nat} {S : Sto} (h : HasDr l n S) : Draws l 0 S S := by
  obtain ⟨a, b, c, h, h1, h2⟩ := h
  refine ⟨a, b, c, a, c, h, ?_, by omega, by omega⟩
  obtain ⟨h3, h4⟩ := List.getElem?_eq_some_iff.mp h
  rw [← h4]; simp
theorem Draws.ne {l q j : Nat} {S S1 : Sto} (d : Draws l q S S1) (h : l ≠ j) : S1[j]? = S[j]? := by
  obtain ⟨a, b, c, a', c', g, rfl, g2, g3⟩ := d
  rw [List.getElem?_set_ne h]
theorem Draws.keeps {l q : Nat} {S S1 : Sto} (d : Draws l q S S1) : Keeps S S1 := by
  obtain ⟨a, b, c, a', c', g, rfl, g2, g3⟩ := d
  exact keeps_set (keeps_refl S) (dr_cl _ _ _ _)
theorem Draws.leave {l q : Nat} {S S1 : Sto} {v : MV} (d : Draws l q S S1) (h : Cl S.length v) : leaveV S S1 v = .ok v S1 := by
  rw [leaveV_cl d.keeps h, ← d.len, List.take_length]
/-- behind new places of the def's own -/
theorem Draws.app {l q : Nat} {S S1 : Sto} {T : Sto} (d : Draws l q (S ++ T) S1) (h : l < S.length) : ∃ S2, S1 = S2 ++ T ∧ Draws l q S S2 := by
  obtain ⟨a, b, c, a', c', g, rfl, g2, g3⟩ := d
  rw [List.getElem?_append_left h] at g
  exact ⟨S.set l (dr a' b c'), by rw [List.set_append_left _ _ h], a, b, c, a', c', g, rfl, g2, g3⟩
theorem HasDr.app {l n : Nat} {S : Sto} (T : Sto) (h : HasDr l n S) : HasDr l n (S ++ T) := by
  have hl := h.lt
  obtain ⟨a, b, c, h, h1⟩ := h
  exact ⟨a, b, c, by rw [List.getElem?_append_left hl]; exact h, h1⟩
theorem ix_dr {l : Nat} {S : Sto} {a b c : Int} (h : S[l]? = some (dr a b c)) : fIx (.ref l) (.int 0) S = .ok (.int a) S ∧ fIx (.ref l) (.int 1) S = .ok (.int b) S ∧ fIx (.ref l) (.int 2) S = .ok (.int c) S := by
  refine ⟨?_, ?_, ?_⟩ <;> simp [fIx, asSq, asU, asL, h, L2.atI, ixN]

/-! ### plain: comprehensions -/
theorem cl_mono {n m : Nat} (h : n ≤ m) : True := trivial
theorem optL_cl {S : Sto} {n d : Nat} : ∀ {xs : List MV}, ClL n xs → optL (fz S n d) xs = some xs
  | [], _ => rfl
  | x :: r, h => by
    simp only [ClL] at h
    simp only [optL, fz_cl h.1, optL_cl h.2, Option.bind_some, Option.map_some]
theorem leaveV_new {S S1 : Sto} {xs : List MV} (k : Keeps S S1) (hl : S1.length = S.length) (h : ClL S.length xs) : leaveV S (S1 ++ [.lst xs]) (.ref S.length) = .ok (.lst xs) S1 := by
  unfold leaveV
  rw [if_pos (keeps_app _ k)]
  have e : (S1 ++ [MO.lst xs])[S.length]? = some (.lst xs) := by rw [← hl]; simp
  have f : fz (S1 ++ [MO.lst xs]) S.length 6 (.ref S.length) = some (.lst xs) := by
    unfold fz
    rw [if_neg (by simp [Cl])]
    simp only [e, optL_cl h, Option.map_some]
  rw [f]
  simp only [← hl]
  rw [List.take_left]
theorem clL_app {n : Nat} : ∀ {xs ys : List MV}, ClL n xs → ClL n ys → ClL n (xs ++ ys)
  | [], _, _, h => h
  | x :: r, ys, h, g => by simp only [ClL] at h; simp only [List.cons_append, ClL]; exact ⟨h.1, clL_app h.2 g⟩
theorem chk_nil {t : Itv} (h : t.deps = []) (S : Sto) : t.chk S := by
  unfold Itv.chk; rw [h]; intro p hp; cases hp
theorem compL_pure {t : Itv} {g : MG} {c : MB} {e : ME} {env : Env} {S0 : Sto} {p : MV → Bool} {F : MV → MV} (ht : ∀ acc, t.chk (S0 ++ [.lst acc])) :
    ∀ (items acc : List MV), (∀ v ∈ items, ∃ env1, g v env = some env1 ∧ ∀ acc, c env1 (S0 ++ [.lst acc]) = .ok (p v) (S0 ++ [.lst acc]) ∧ (p v = true → e env1 (S0 ++ [.lst acc]) = .ok (F v) (S0 ++ [.lst acc]))) → acc.length + items.length ≤ sizeLine →
    compL t g c e S0.length items env (S0 ++ [.lst acc]) = .ok () (S0 ++ [.lst (acc ++ (items.filter p).map F)])
  | [], acc, _, _ => by unfold compL; rw [if_pos (ht _)]; simp
  | v :: r, acc, h, hs => by
    obtain ⟨env1, h1, h2⟩ := h v (by simp)
    obtain ⟨h3, h4⟩ := h2 acc
    have hr : ∀ u ∈ r, _ := fun u hu => h u (List.mem_cons_of_mem _ hu)
    unfold compL
    rw [if_pos (ht _)]
    simp only [h1, h3]
    rw [List.length_cons] at hs
    cases hp : p v with
    | true =>
      have e1 : (S0 ++ [MO.lst acc])[S0.length]? = some (.lst acc) := by simp
      have e2 : (S0 ++ [MO.lst acc]).set S0.length (.lst (acc ++ [F v])) = S0 ++ [.lst (acc ++ [F v])] := by simp
      simp only [h4 hp, e1, e2]
      rw [if_pos (by omega), compL_pure ht r (acc ++ [F v]) hr (by rw [List.length_append]; simp; omega)]
      simp [List.filter_cons, hp]
    | false =>
      simp only []
      rw [compL_pure ht r acc hr (by omega)]
      simp [List.filter_cons, hp]
theorem mComp_pure {mu : Bool} {mi : Env → Sto → Res Itv} {vs : List Nat} {g : MG} {c : MB} {e : ME} {env : Env} {S : Sto} {t : Itv} {p : MV → Bool} {F : MV → MV} (hi : mi env S = .ok t S) (ht : ∀ acc, t.chk (S ++ [.lst acc]))
    (h : ∀ v ∈ t.items, ∃ env1, g v (wipeE env vs) = some env1 ∧ ∀ acc, c env1 (S ++ [.lst acc]) = .ok (p v) (S ++ [.lst acc]) ∧ (p v = true → e env1 (S ++ [.lst acc]) = .ok (F v) (S ++ [.lst acc]))) (hs : t.items.length ≤ sizeLine) (hc : ClL S.length ((t.items.filter p).map F)) :
    mComp mu mi vs g c e env S = if mu = true then .ok (.ref S.length) (S ++ [.lst ((t.items.filter p).map F)]) else .ok (.lst ((t.items.filter p).map F)) S := by
  unfold mComp
  have q := compL_pure (t := t) (g := g) (c := c) (e := e) (env := wipeE env vs) (S0 := S) (p := p) (F := F) ht t.items [] h (by simpa using hs)
  simp only [List.nil_append] at q
  simp only [hi, bind_ok, q, compE]
  cases mu with
  | true => rfl
  | false => simp only [Bool.false_eq_true, if_false]; exact leaveV_new (keeps_refl S) rfl hc
theorem compL_draws {t : Itv} {g : MG} {e : ME} {P : MV → Prop} {l m q : Nat} {env : Env} (ht : t.deps = []) (hlm : l ≠ m) {N : Nat} :
    ∀ (items : List MV) (n : Nat) (S : Sto) (acc : List MV), (∀ v ∈ items, ∃ env1, g v env = some env1 ∧ ∀ (n : Nat) (S : Sto), n + q ≤ N → m < S.length → HasDr l n S → ∃ y S1, e env1 S = .ok y S1 ∧ Draws l q S S1 ∧ P y) →
      HasDr l n S → n + q * items.length ≤ N → S[m]? = some (.lst acc) → acc.length + items.length ≤ sizeLine →
      ∃ S1 ys, compL t g mYes e m items env S = .ok () (S1.set m (.lst (acc ++ ys))) ∧ ys.length = items.length ∧ (∀ y ∈ ys, P y) ∧ Draws l (q * items.length) S S1
  | [], n, S, acc, _, hd, _, hm, _ => by
    refine ⟨S, [], ?_, rfl, by simp, (Draws.zero hd).mono (by omega)⟩
    unfold compL
    rw [if_pos (chk_nil ht S), List.append_nil]
    obtain ⟨h1, h2⟩ := List.getElem?_eq_some_iff.mp hm
    congr 1
    rw [← h2]; simp
  | v :: r, n, S, acc, h, hd, hn, hm, hs => by
    rw [List.length_cons, Nat.mul_add, Nat.mul_one] at hn
    rw [List.length_cons] at hs
    obtain ⟨env1, h1, h2⟩ := h v (by simp)
    have hml : m < S.length := (List.getElem?_eq_some_iff.mp hm).1
    obtain ⟨y, S1, e1, d1, py⟩ := h2 n S (by omega) hml hd
    have hm1 : S1[m]? = some (.lst acc) := by rw [d1.ne hlm]; exact hm
    have hml1 : m < S1.length := by rw [d1.len]; exact hml
    have hd1 := hd.draws d1
    have hd2 : HasDr l (n + q) (S1.set m (.lst (acc ++ [y]))) := by
      obtain ⟨a, b, c, g1, g2⟩ := hd1
      exact ⟨a, b, c, by rw [List.getElem?_set_ne (Ne.symm hlm)]; exact g1, g2⟩
    obtain ⟨S3, ys, e3, l3, p3, d3⟩ := compL_draws ht hlm r (n + q) (S1.set m (.lst (acc ++ [y]))) (acc ++ [y]) (fun u hu => h u (List.mem_cons_of_mem _ hu)) hd2 (by omega) (by rw [List.getElem?_set_self hml1]) (by rw [List.length_append]; simp; omega)
    obtain ⟨a, b, c, a', c', g1, rfl, g3, g4⟩ := d3
    rw [List.getElem?_set_ne (Ne.symm hlm)] at g1
    have d4 : Draws l (q * r.length) S1 (S1.set l (dr a' b c')) := ⟨a, b, c, a', c', g1, rfl, g3, g4⟩
    refine ⟨S1.set l (dr a' b c'), y :: ys, ?_, by simp [l3], ?_, (d1.trans d4).mono (by rw [List.length_cons, Nat.mul_add, Nat.mul_one]; omega)⟩
    · unfold compL
      rw [if_pos (chk_nil ht S)]
      simp only [h1, mYes, e1, hm1]
      rw [if_pos (by omega)]
      rw [e3, List.set_comm _ _ (Ne.symm hlm), List.set_set, List.append_assoc]
      try rfl
    · intro u hu
      rcases List.mem_cons.mp hu with rfl | hu
      · exact py
      · exact p3 u hu
/-- a comprehension whose turns draw -/
theorem mComp_draws {mu : Bool} {mi : Env → Sto → Res Itv} {vs : List Nat} {g : MG} {e : ME} {env : Env} {S S1 : Sto} {t : Itv} {P : MV → Prop} {l n q k N : Nat} (hi : mi env S = .ok t S1) (hd : HasDr l n S) (d0 : Draws l k S S1) (ht : t.deps = [])
    (h : ∀ v ∈ t.items, ∃ env1, g v (wipeE env vs) = some env1 ∧ ∀ (n : Nat) (S' : Sto), n + q ≤ N → S.length < S'.length → HasDr l n S' → ∃ y S2, e env1 S' = .ok y S2 ∧ Draws l q S' S2 ∧ P y) (hn : n + k + q * t.items.length ≤ N) (hs : t.items.length ≤ sizeLine) (hc : ∀ y, P y → Cl S.length y) :
    ∃ S2 ys, mComp mu mi vs g mYes e env S = (if mu = true then .ok (.ref S.length) (S2 ++ [.lst ys]) else .ok (.lst ys) S2) ∧ ys.length = t.items.length ∧ (∀ y ∈ ys, P y) ∧ Draws l (k + q * t.items.length) S S2 := by
  have hd1 := hd.draws d0
  have hl1 := hd1.lt
  have hne : l ≠ S1.length := by omega
  obtain ⟨S3, ys, e3, l3, p3, d3⟩ := compL_draws (t := t) (g := g) (e := e) (P := P) (l := l) (m := S1.length) (q := q) (env := wipeE env vs) (N := N) ht hne t.items (n + k) (S1 ++ [.lst []]) [] (by
    rw [d0.len]
    exact h) (hd1.app _) (by omega) (by simp) (by simpa using hs)
  obtain ⟨S4, rfl, d4⟩ := d3.app hl1
  have h4 := d4.len
  have hcl : ClL S.length ys := by
    clear e3 l3 d3
    induction ys with
    | nil => simp only [ClL]
    | cons a b ih => simp only [ClL]; exact ⟨hc a (p3 a (by simp)), ih fun y hy => p3 y (List.mem_cons_of_mem _ hy)⟩
  refine ⟨S4, ys, ?_, l3, p3, d0.trans d4⟩
  unfold mComp
  have e5 : (S4 ++ [MO.lst []]).set S1.length (.lst ([] ++ ys)) = S4 ++ [.lst ys] := by rw [← h4]; simp
  rw [e5] at e3
  simp only [hi, bind_ok, e3, compE]
  cases mu with
  | true => simp only [if_true, d0.len]
  | false =>
    simp only [Bool.false_eq_true, if_false]
    exact leaveV_new d4.keeps h4 (by rw [d0.len]; exact hcl)

/-! ### plain: equality of flat values, dicts written -/
theorem deq_flat {n : Nat} {x y : MV} (h : flat x = true) (g : flat y = true) : deq n x y = some (eqF x y) := by
  cases n <;> (unfold deq; rw [h, g]; rfl)
theorem fEq_flat {x y : MV} {S : Sto} (h : flat x = true) (g : flat y = true) (hx : view S x = x) (hy : view S y = y) : fEq x y S = .ok (.bl (eqF x y)) S := by
  unfold fEq; rw [hx, hy, deq_flat h g]
theorem fNe_flat {x y : MV} {S : Sto} (h : flat x = true) (g : flat y = true) (hx : view S x = x) (hy : view S y = y) : fNe x y S = .ok (.bl (!eqF x y)) S := by
  unfold fNe; rw [hx, hy, deq_flat h g]
theorem fEq_int (i j : Int) (S : Sto) : fEq (.int i) (.int j) S = .ok (.bl (decide (i = j))) S := by
  rw [fEq_flat rfl rfl rfl rfl]; first | rfl | (congr 2; by_cases h : i = j <;> simp [eqF, h])
theorem fNe_int (i j : Int) (S : Sto) : fNe (.int i) (.int j) S = .ok (.bl (!decide (i = j))) S := by
  rw [fNe_flat rfl rfl rfl rfl]; first | rfl | (congr 3; by_cases h : i = j <;> simp [eqF, h])
theorem fEq_bl (i j : Bool) (S : Sto) : fEq (.bl i) (.bl j) S = .ok (.bl (decide (i = j))) S := by
  rw [fEq_flat rfl rfl rfl rfl]; cases i <;> cases j <;> rfl
theorem fNe_bl (i j : Bool) (S : Sto) : fNe (.bl i) (.bl j) S = .ok (.bl (!decide (i = j))) S := by
  rw [fNe_flat rfl rfl rfl rfl]; cases i <;> cases j <;> rfl
theorem fEq_str (i j : List Nat) (S : Sto) : fEq (.str i) (.str j) S = .ok (.bl (decide (i = j))) S := by
  rw [fEq_flat rfl rfl rfl rfl]; first | rfl | (congr 2; by_cases h : i = j <;> simp [eqF, h])
theorem fNe_str (i j : List Nat) (S : Sto) : fNe (.str i) (.str j) S = .ok (.bl (!decide (i = j))) S := by
  rw [fNe_flat rfl rfl rfl rfl]; first | rfl | (congr 3; by_cases h : i = j <;> simp [eqF, h])
theorem optL_clk {S : Sto} {n d : Nat} : ∀ {kvs : List (MV × MV)}, Clk n kvs → optL (fun p => (fz S n d p.2).map fun y => (p.1, y)) kvs = some kvs
  | [], _ => rfl
  | (k, v) :: r, h => by
    simp only [Clk, Clp] at h
    have h1 := optL_clk (S := S) (d := d) h.2
    simp only [optL, h1]
    rw [fz_cl h.1]
    rfl
theorem mDic_lit {ps : List (ME × ME)} {env : Env} {S : Sto} {kvs : List (MV × MV)} (h : mPrs ps env (S ++ [.dic []]) = .ok kvs (S ++ [.dic []])) (h15 : kvs.length ≤ 15) (hc : Clk S.length (mergeKM [] kvs)) :
    mDic false ps env S = .ok (.dic (mergeKM [] kvs)) S := by
  have e1 : (S ++ [MO.dic []])[S.length]? = some (.dic []) := by simp
  have e2 : (S ++ [MO.dic []]).set S.length (.dic (mergeKM [] kvs)) = S ++ [.dic (mergeKM [] kvs)] := by simp
  unfold mDic
  simp only [h, bind_ok, e1, if_pos h15, e2, compE, Bool.false_eq_true, if_false]
  unfold leaveV
  rw [if_pos (keeps_app _ (keeps_refl S))]
  have e : (S ++ [MO.dic (mergeKM [] kvs)])[S.length]? = some (.dic (mergeKM [] kvs)) := by simp
  have f : fz (S ++ [MO.dic (mergeKM [] kvs)]) S.length 6 (.ref S.length) = some (.dic (mergeKM [] kvs)) := by
    unfold fz
    rw [if_neg (by simp [Cl])]
    simp only [e, optL_clk hc, Option.map_some]
  rw [f]
  simp

/-! ### plain: walks -/
theorem forL_inv {t : Itv} {g : MG} {mb : MSt} (ht : t.deps = []) (Inv : Nat → Env → Sto → Prop) : ∀ (items : List MV) (i : Nat) (env : Env) (S : Sto), Inv i env S →
    (∀ (j : Nat) (v : MV), items[j]? = some v → ∀ env S, Inv (i + j) env S → ∃ e1, g v env = some e1 ∧ ∃ e2 S2, (mb e1 S = .nx e2 S2 ∨ mb e1 S = .ct e2 S2) ∧ Inv (i + j + 1) e2 S2) →
    ∃ e2 S2, forL t g mb items env S = .nx e2 S2 ∧ Inv (i + items.length) e2 S2
  | [], i, env, S, h, _ => ⟨env, S, by unfold forL; rw [if_pos (chk_nil ht S)], h⟩
  | v :: r, i, env, S, h, hv => by
    obtain ⟨e1, h1, e2, S2, h2, h3⟩ := hv 0 v rfl env S h
    obtain ⟨e3, S3, h4, h5⟩ := forL_inv ht Inv r (i + 1) e2 S2 h3 fun j u hj env S hI => by
      obtain ⟨e1, h1, e2, S2, h2, h3⟩ := hv (j + 1) u (by simpa using hj) env S (by rw [show i + (j + 1) = i + 1 + j by omega]; exact hI)
      exact ⟨e1, h1, e2, S2, h2, by rw [show i + 1 + j + 1 = i + (j + 1) + 1 by omega]; exact h3⟩
    refine ⟨e3, S3, ?_, by rw [List.length_cons, show i + (r.length + 1) = i + 1 + r.length by omega]; exact h5⟩
    unfold forL
    rw [if_pos (chk_nil ht S)]
    simp only [h1]
    rcases h2 with h2 | h2 <;> (rw [h2]; exact h4)
theorem lt1 (c d : Nat) : decide ([c] < [d]) = decide (c < d) := by
  simp [List.cons_lt_cons_iff]
theorem leave_top {S' : Sto} (b : Bool) : leaveV [] S' (.bl b) = .ok (.bl b) [] := by
  rw [leaveV_cl ⟨Nat.zero_le _, fun l hl => by simp at hl⟩ (by simp [Cl])]
  simp
/-- the script's first so many numbers -/
theorem cut_none {α : Type} (xs : List α) (n : Nat) : cutL xs none (some (n : Int)) = xs.take n := by
  unfold cutL
  rw [HT.sIx_none, HT.sIx_nat, List.drop_zero, Nat.sub_zero, List.take_eq_take_iff]
  omega
theorem head_ok {ns d : List Int} {k : Nat} {env : Env} {S : Sto} {a : ME} (h0 : env[0]? = some (some (.rol (ns.map MV.int)))) (ha : a env S = .ok (.lst (d.map MV.int)) S) : mSl false (mOrT (mV 0) a) mNoPart (mPart (mC (.int k))) env S = .ok (.lst (((if ns = [] then d else ns).take k).map MV.int)) S := by
  simp only [mSl, mOrT, mV, h0, bind_ok, tru]
  cases ns with
  | nil => simp only [List.map_nil, List.isEmpty_nil, Bool.not_true, Bool.false_eq_true, if_false, ha, bind_ok, mNoPart, mPart, mC, fSl, asL, mkL, cut_none, if_true, List.map_take]
  | cons x r => simp only [List.map_cons, List.isEmpty_cons, Bool.not_false, if_true, bind_ok, mNoPart, mPart, mC, fSl, asL, mkL, cut_none, Bool.false_eq_true, if_false, List.map_take, reduceCtorEq]
theorem enu_at {xs : List MV} {j : Nat} {v : MV} (h : (enuL xs)[j]? = some v) : ∃ x, xs[j]? = some x ∧ v = .tup [.int (j : Int), x] := by
  unfold enuL at h
  rw [List.getElem?_map] at h
  by_cases hj : j < xs.length
  · rw [List.getElem?_range hj] at h
    simp only [Option.map_some, Option.some.injEq] at h
    exact ⟨xs[j], by simp [hj], by rw [← h]; simp [List.getD, hj]⟩
  · have : (List.range xs.length)[j]? = none := by simp; omega
    rw [this] at h; cases h
theorem ints_at {xs : List Int} {j : Nat} {x : MV} (h : (xs.map MV.int)[j]? = some x) : j < xs.length ∧ ∃ c, x = .int c := by
  rw [List.getElem?_map] at h
  cases e : xs[j]? with
  | none => rw [e] at h; cases h
  | some c => rw [e] at h; exact ⟨(List.getElem?_eq_some_iff.mp e).1, c, by simpa using h.symm⟩
def NxP (P : Env → Sto → Prop) : SRes → Prop
  | .nx e S => P e S
  | .ct e S => P e S
  | _ => False
theorem NxP.ex {P : Env → Sto → Prop} {r : SRes} (h : NxP P r) : ∃ e S, (r = .nx e S ∨ r = .ct e S) ∧ P e S := by
  cases r with
  | nx e S => exact ⟨e, S, .inl rfl, h⟩
  | ct e S => exact ⟨e, S, .inr rfl, h⟩
  | _ => exact h.elim
theorem env9 {e : Env} (h : e.length = 9) : ∃ x0 x1 x2 x3 x4 x5 x6 x7 x8, e = [x0, x1, x2, x3, x4, x5, x6, x7, x8] := by
  match e, h with
  | [x0, x1, x2, x3, x4, x5, x6, x7, x8], _ => exact ⟨_, _, _, _, _, _, _, _, _, rfl⟩
end Mi

namespace Mi
namespace Sh
open PySem L2
noncomputable def b_law_begun : MSt :=
  (sRet (mLst true (mCons (mB fMax2 (mCons (mC (.int 0)) (mCons (mBin fSub (mV 0) (mBin fPow (mC (.int 10)) (mC (.int 18)))) mNil))) (mCons (mBin (fAdd false) (mV 0) (mBin (fMul false) (mC (.int 977)) (mV 1))) (mCons (mC (.int 0)) mNil)))))
noncomputable def m_law_begun : List MV → Sto → Res MV := mDefR 2 b_law_begun
noncomputable def b_law_next : MSt :=
  (sSeq (sIf (asB (mBin fGt (mBin fIx (mV 0) (mC (.int 0))) (mC (.int 0)))) (sSeq (sSet 2 (mBin fMod (mBin fIx (mV 0) (mC (.int 0))) (mV 1)))
    (sSeq (sSub (mV 0) (mC (.int 0)) (mBin fDiv (mBin fIx (mV 0) (mC (.int 0))) (mV 1)))
    (sRet (mV 2)))) sNext)
  (sSeq (sSub (mV 0) (mC (.int 2)) (mBin (fAdd false) (mBin fIx (mV 0) (mC (.int 2))) (mC (.int 1))))
  (sSeq (sSet 2 (mBin (fAdd false) (mBin fMod (mBin fIx (mV 0) (mC (.int 1))) (mC (.int 2147483629))) (mBin (fMul false) (mC (.int 104729)) (mBin fIx (mV 0) (mC (.int 2))))))
  (sSeq (sSet 2 (mBin (fMul false) (mV 2) (mBin (fAdd false) (mBin (fAdd false) (mBin fMod (mBin fIx (mV 0) (mC (.int 1))) (mC (.int 2147483587))) (mBin (fMul false) (mBin (fMul false) (mC (.int 7919)) (mBin fIx (mV 0) (mC (.int 2)))) (mBin fIx (mV 0) (mC (.int 2))))) (mC (.int 11)))))
  (sRet (mBin fMod (mBin fDiv (mBin fMod (mBin fPow (mV 2) (mC (.int 3))) (mC (.int 2147483647))) (mC (.int 11))) (mV 1)))))))
noncomputable def m_law_next : List MV → Sto → Res MV := mDef 3 b_law_next
noncomputable def b_law_pick : MSt :=
  (sRet (mBin fIx (mV 1) (mCall 2 m_law_next [] (mCons (mV 0) (mCons (mB fLen (mCons (mV 1) mNil)) mNil)))))
noncomputable def m_law_pick : List MV → Sto → Res MV := mDef 2 b_law_pick
/-! ### sizes -/
def Bd (x : Int) (k : Nat) : Prop := x.natAbs < 2 ^ k
theorem Bd.lg {x : Int} {k : Nat} (h : Bd x k) (hk : 0 < k) : x.natAbs.log2 < k := by
  unfold Bd at h
  by_cases e : x.natAbs = 0
  · rw [e]; simpa using hk
  · exact (Nat.log2_lt e).mpr h
theorem Bd.mul {x y : Int} {i j : Nat} (h : Bd x i) (g : Bd y j) : Bd (x * y) (i + j) := by
  unfold Bd at *
  rw [Int.natAbs_mul, Nat.pow_add]
  exact Nat.mul_lt_mul'' h g
theorem Bd.add {x y : Int} {i : Nat} (h : Bd x i) (g : Bd y i) : Bd (x + y) (i + 1) := by
  unfold Bd at *
  have := Int.natAbs_add_le x y
  rw [Nat.pow_succ]; omega
theorem Bd.mono {x : Int} {i j : Nat} (h : Bd x i) (g : i ≤ j) : Bd x j :=
  Nat.lt_of_lt_of_le h (Nat.pow_le_pow_right (by decide) g)
theorem Bd.mod {x y : Int} {i : Nat} (h : Bd y i) (g : 0 < y) : Bd (x % y) i := by
  unfold Bd at *
  have h1 := Int.emod_nonneg x (by omega : y ≠ 0)
  have h2 := Int.emod_lt_of_pos x g
  omega
theorem Bd.bits {x : Int} {k : Nat} (h : Bd x k) (hk : 0 < k) : Builtin.Int.intBits x ≤ k := by
  have q := h.lg hk
  have : Builtin.Int.intBits x ≤ x.natAbs.log2 + 1 := by
    unfold Builtin.Int.intBits
    split <;> omega
  omega
theorem begun_ok (c k : Int) (S : Sto) (hk : Bd k 60) : m_law_begun [.int c, .int k] S = .ok (.ref S.length) (S ++ [dr (if c - 10 ^ 18 > 0 then c - 10 ^ 18 else 0) (c + 977 * k) 0]) := by
  have e1 : (977 : Int).natAbs.log2 + k.natAbs.log2 < 1000000 := by
    have h1 : (977 : Int).natAbs.log2 = 9 := by decide +kernel
    have h2 := hk.lg (by decide)
    omega
  have e2 : (0 : Int) ≤ 18 ∧ (Builtin.Int.intBits 10 : Int) * 18 ≤ 2 ^ 27 := by decide +kernel
  have e3 : ((10 : Int) ^ (18 : Int).toNat) = 10 ^ 18 := rfl
  have hl := leaveR_push (dr_cl S.length (if c - 10 ^ 18 > 0 then c - 10 ^ 18 else 0) (c + 977 * k) 0)
  unfold m_law_begun mDefR b_law_begun
  simp only [env0, sRet, sBind, sSeq, sIf, sSet, sSub, sNext, sRetN, sDrop, mLst, mTup, mCons, mB, mBin, mV, mC, mNil, mCall, asB, asT, bind_ok, List.map_cons, List.map_nil, List.length_cons, List.length_nil, List.cons_append, List.nil_append, List.append_nil, List.getElem?_cons_zero, List.getElem?_cons_succ, List.set_cons_zero, List.set_cons_succ, List.replicate_zero, List.replicate_succ, List.replicate_one, if_true, if_false, Bool.false_eq_true, Nat.reduceSub, Nat.reduceAdd, Nat.sub_self, fMax2, fSub, fPow, fAdd, fMul, e1, e2, e3, mkL, sizeLine, and_self, reduceIte]
  simp (decide := true) only [reduceIte, hl]
theorem next_ok {l n : Nat} {S : Sto} {sz : Int} (h : HasDr l n S) (hn : n < 2 ^ 20) (h0 : 0 < sz) (h1 : Bd sz 60) : ∃ (r : Int) (S' : Sto), m_law_next [.ref l, .int sz] S = .ok (.int r) S' ∧ Draws l 1 S S' ∧ 0 ≤ r ∧ r < sz := by
  have hl := h.lt
  obtain ⟨a, b, c, h, hc, hcn⟩ := h
  obtain ⟨i0, i1, i2⟩ := ix_dr h
  have hlg : sz.natAbs.log2 < 9000 := Nat.lt_of_lt_of_le (h1.lg (by decide)) (by decide)
  have h3 : ∀ v : MV, ([MV.int a, .int b, .int c].set 0 v) = [v, .int b, .int c] := fun v => rfl
  have h4 : ∀ v : MV, ([MV.int a, .int b, .int c].set 2 v) = [.int a, .int b, v] := fun v => rfl
  have x0 : ixN 3 0 = some 0 := by decide
  have x2 : ixN 3 2 = some 2 := by decide
  unfold m_law_next mDef b_law_next
  by_cases ha : 0 < a
  · have d : Draws l 1 S (S.set l (dr (a / sz) b c)) := ⟨a, b, c, _, c, h, rfl, by omega, by omega⟩
    refine ⟨a % sz, _, ?_, d, Int.emod_nonneg a (by omega), Int.emod_lt_of_pos a h0⟩
    have dl := d.leave (v := .int (a % sz)) (by simp [Cl])
    simp only [env0, sRet, sBind, sSeq, sIf, sSet, sSub, sNext, sRetN, sDrop, mLst, mTup, mCons, mB, mBin, mV, mC, mNil, mCall, asB, asT, bind_ok, List.map_cons, List.map_nil, List.length_cons, List.length_nil, List.cons_append, List.nil_append, List.append_nil, List.getElem?_cons_zero, List.getElem?_cons_succ, List.set_cons_zero, List.set_cons_succ, List.replicate_zero, List.replicate_succ, List.replicate_one, if_true, if_false, Bool.false_eq_true, Nat.reduceSub, Nat.reduceAdd, Nat.sub_self, i0, fGt, ha, decide_true, fMod, h0, fDiv, hlg, and_self, h, x0, h3, dl]
  · have hc2 : Bd (c + 1) 21 := by unfold Bd; have : (2:Nat)^20 = 1048576 := rfl; have : (2:Nat)^21 = 2097152 := rfl; omega
    have k1 : Bd 104729 17 := by unfold Bd; decide
    have k2 : Bd 7919 13 := by unfold Bd; decide
    have k3 : Bd 11 47 := by unfold Bd; decide
    have m1 : Bd (b % 2147483629) 38 := (Bd.mod (i := 31) (by unfold Bd; decide) (by decide)).mono (by decide)
    have m2 : Bd (b % 2147483587) 55 := (Bd.mod (i := 31) (by unfold Bd; decide) (by decide)).mono (by decide)
    have t1 : Bd (104729 * (c + 1)) 38 := k1.mul hc2
    have t2 : Bd (7919 * (c + 1)) 34 := k2.mul hc2
    have t3 : Bd (7919 * (c + 1) * (c + 1)) 55 := t2.mul hc2
    have f1 := m1.add t1
    have f2 := (m2.add t3).add (k3.mono (j := 56) (by decide))
    have f3 := f1.mul f2
    have l1 : (104729 : Int).natAbs.log2 + (c + 1).natAbs.log2 < 1000000 := by have := k1.lg (by decide); have := hc2.lg (by decide); omega
    have l2 : (7919 : Int).natAbs.log2 + (c + 1).natAbs.log2 < 1000000 := by have := k2.lg (by decide); have := hc2.lg (by decide); omega
    have l3 : (7919 * (c + 1)).natAbs.log2 + (c + 1).natAbs.log2 < 1000000 := by have := t2.lg (by decide); have := hc2.lg (by decide); omega
    have l4 : (b % 2147483629 + 104729 * (c + 1)).natAbs.log2 + (b % 2147483587 + 7919 * (c + 1) * (c + 1) + 11).natAbs.log2 < 1000000 := by have := f1.lg (by decide); have := f2.lg (by decide); omega
    have l5 : (0 : Int) ≤ 3 ∧ (Builtin.Int.intBits ((b % 2147483629 + 104729 * (c + 1)) * (b % 2147483587 + 7919 * (c + 1) * (c + 1) + 11)) : Int) * 3 ≤ 2 ^ 27 := by
      have := f3.bits (by decide)
      refine ⟨by decide, ?_⟩
      have : (2 : Int) ^ 27 = 134217728 := rfl
      omega
    have l6 : (0 : Int) < 11 ∧ (11 : Int).natAbs.log2 < 9000 := by decide +kernel
    have d : Draws l 1 S (S.set l (dr a b (c + 1))) := ⟨a, b, c, a, c + 1, h, rfl, by omega, by omega⟩
    obtain ⟨j0, j1, j2⟩ := ix_dr (S := S.set l (dr a b (c + 1))) (by rw [List.getElem?_set_self hl])
    refine ⟨((b % 2147483629 + 104729 * (c + 1)) * (b % 2147483587 + 7919 * (c + 1) * (c + 1) + 11)) ^ 3 % 2147483647 / 11 % sz, _, ?_, d, Int.emod_nonneg _ (by omega), Int.emod_lt_of_pos _ h0⟩
    have dl : ∀ x : Int, leaveV S (S.set l (dr a b (c + 1))) (.int x) = .ok (.int x) (S.set l (dr a b (c + 1))) := fun x => d.leave (by simp [Cl])
    have p3 : (3 : Int).toNat = 3 := rfl
    simp only [env0, sRet, sBind, sSeq, sIf, sSet, sSub, sNext, sRetN, sDrop, mLst, mTup, mCons, mB, mBin, mV, mC, mNil, mCall, asB, asT, bind_ok, List.map_cons, List.map_nil, List.length_cons, List.length_nil, List.cons_append, List.nil_append, List.append_nil, List.getElem?_cons_zero, List.getElem?_cons_succ, List.set_cons_zero, List.set_cons_succ, List.replicate_zero, List.replicate_succ, List.replicate_one, if_true, if_false, Bool.false_eq_true, Nat.reduceSub, Nat.reduceAdd, Nat.sub_self, i0, i2, fGt, ha, decide_false, fAdd, h, x2, h4]
    simp only [env0, sRet, sBind, sSeq, sIf, sSet, sSub, sNext, sRetN, sDrop, mLst, mTup, mCons, mB, mBin, mV, mC, mNil, mCall, asB, asT, bind_ok, List.map_cons, List.map_nil, List.length_cons, List.length_nil, List.cons_append, List.nil_append, List.append_nil, List.getElem?_cons_zero, List.getElem?_cons_succ, List.set_cons_zero, List.set_cons_succ, List.replicate_zero, List.replicate_succ, List.replicate_one, if_true, if_false, Bool.false_eq_true, Nat.reduceSub, Nat.reduceAdd, Nat.sub_self, j0, j1, j2, fMod, (by decide : (0:Int) < 2147483629), (by decide : (0:Int) < 2147483587), (by decide : (0:Int) < 2147483647), fMul, fAdd, l1, l2, l3, l4, l5, l6, fPow, fDiv, h0, p3, dl, and_self]
theorem pick_gen {l n N : Nat} {S : Sto} {x : MV} {P : MV → Prop} (h : HasDr l n S) (hn : n < 2 ^ 20) (hL : lenM S x = some N) (h0 : 0 < N) (h1 : N < 2 ^ 60)
    (hI : ∀ (r : Int) (S' : Sto), 0 ≤ r → r < N → Draws l 1 S S' → ∃ v, fIx x (.int r) S' = .ok v S' ∧ Cl S.length v ∧ P v) :
    ∃ (v : MV) (S' : Sto), m_law_pick [.ref l, x] S = .ok v S' ∧ Draws l 1 S S' ∧ P v := by
  obtain ⟨r, S1, e1, d1, r0, r1⟩ := next_ok (sz := (N : Int)) h hn (by omega) (by unfold Bd; omega)
  obtain ⟨v, e2, cv, pv⟩ := hI r S1 r0 r1 d1
  refine ⟨v, S1, ?_, d1, pv⟩
  unfold m_law_pick mDef b_law_pick
  simp only [env0, sRet, sBind, sSeq, sIf, sSet, sSub, sNext, sRetN, sDrop, mLst, mTup, mCons, mB, mBin, mV, mC, mNil, mCall, asB, asT, bind_ok, List.map_cons, List.map_nil, List.length_cons, List.length_nil, List.cons_append, List.nil_append, List.append_nil, List.getElem?_cons_zero, List.getElem?_cons_succ, List.set_cons_zero, List.set_cons_succ, List.replicate_zero, List.replicate_succ, List.replicate_one, if_true, if_false, Bool.false_eq_true, Nat.reduceSub, Nat.reduceAdd, Nat.sub_self, fLen, hL, e1, e2, d1.leave cv]
theorem pick_at {xs : List MV} {r : Int} (r0 : 0 ≤ r) (r1 : r < xs.length) : ∃ v, L2.atI xs r = some v ∧ v ∈ xs := by
  have h2 : r.toNat < xs.length := by omega
  refine ⟨xs[r.toNat], ?_, List.getElem_mem h2⟩
  unfold L2.atI L2.ixN
  simp [r0, r1, h2]
theorem clL_mem {n : Nat} : ∀ {xs : List MV} {x : MV}, ClL n xs → x ∈ xs → Cl n x
  | y :: r, x, h, hm => by
    simp only [ClL] at h
    rcases List.mem_cons.mp hm with e | e
    · rw [e]; exact h.1
    · exact clL_mem h.2 e
/-- one of a written list -/
theorem pick_lst {l n : Nat} {S : Sto} {xs : List MV} (h : HasDr l n S) (hn : n < 2 ^ 20) (h0 : xs ≠ []) (h1 : xs.length < 2 ^ 60) (hc : ClL S.length xs) :
    ∃ (v : MV) (S' : Sto), m_law_pick [.ref l, .lst xs] S = .ok v S' ∧ Draws l 1 S S' ∧ v ∈ xs := by
  refine pick_gen h hn (N := xs.length) rfl (List.length_pos_iff.mpr h0) h1 fun r S' r0 r1 _ => ?_
  obtain ⟨v, e, m⟩ := pick_at r0 r1
  exact ⟨v, by simp only [fIx, asSq, asU, asL, e], clL_mem hc m, m⟩
theorem pick_tup {l n : Nat} {S : Sto} {xs : List MV} (h : HasDr l n S) (hn : n < 2 ^ 20) (h0 : xs ≠ []) (h1 : xs.length < 2 ^ 60) (hc : ClL S.length xs) :
    ∃ (v : MV) (S' : Sto), m_law_pick [.ref l, .tup xs] S = .ok v S' ∧ Draws l 1 S S' ∧ v ∈ xs := by
  refine pick_gen h hn (N := xs.length) rfl (List.length_pos_iff.mpr h0) h1 fun r S' r0 r1 _ => ?_
  obtain ⟨v, e, m⟩ := pick_at r0 r1
  exact ⟨v, by simp only [fIx, asSq, asU, e], clL_mem hc m, m⟩
theorem pick_str {l n : Nat} {S : Sto} {z : List Nat} (h : HasDr l n S) (hn : n < 2 ^ 20) (h0 : z ≠ []) (h1 : z.length ≤ sizeLine) :
    ∃ (v : MV) (S' : Sto), m_law_pick [.ref l, .str z] S = .ok v S' ∧ Draws l 1 S S' ∧ ∃ c ∈ z, v = .str [c] := by
  refine pick_gen h hn (N := z.length) (by simp only [lenM, if_pos h1]) (List.length_pos_iff.mpr h0) (Nat.lt_of_le_of_lt h1 (by decide)) fun r S' r0 r1 _ => ?_
  have h2 : r.toNat < z.length := by omega
  refine ⟨.str [z[r.toNat]], ?_, by simp [Cl], z[r.toNat], List.getElem_mem h2, rfl⟩
  have e : L2.atI z r = some z[r.toNat] := by unfold L2.atI L2.ixN; simp [r0, r1, h2]
  simp only [fIx, if_pos h1, e]
end Sh
end Mi

namespace Mi
namespace K13
open PySem L2 Sh
noncomputable def b_law_signs : MSt :=
  (sSeq (sSet 0 (mBin (fAdd false) (mBin (fAdd false) (mC (.str [32, 33])) (mC (.str [34]))) (mC (.str [35, 36, 38, 39, 40, 41, 42, 43, 44, 45, 46, 47, 48, 49, 50, 51, 52, 53, 54, 55, 56, 57, 58, 59, 60, 61, 62, 63, 64, 65, 66, 67, 68, 69, 70, 71, 72, 73, 74, 75, 76, 77, 78, 79, 80, 81, 82, 83, 84, 85, 86, 87, 88, 89, 90, 91, 92, 93, 94, 95, 96]))))
  (sRet (mBin (fAdd false) (mV 0) (mC (.str [97, 98, 99, 100, 101, 102, 103, 104, 105, 106, 107, 108, 109, 110, 111, 112, 113, 114, 115, 116, 117, 118, 119, 120, 121, 122, 123, 124, 125, 126])))))
noncomputable def m_law_signs : List MV → Sto → Res MV := mDef 1 b_law_signs
noncomputable def b_law_thing_c1 : ME :=
  (mComp true (mItR1 (mCons (mCall 2 m_law_next [] (mCons (mV 0) (mCons (mC (.int 11)) mNil))) mNil)) [3] (gN 3) mYes (mCall 2 m_law_pick [] (mCons (mV 0) (mCons (mC (.str [97, 98, 99, 100, 101, 102, 103, 104, 105, 106, 107, 108, 109, 110, 111, 112, 113, 114, 115, 116, 117, 118, 119, 120, 121, 122])) mNil))))
noncomputable def b_law_thing : MSt :=
  (sSeq (sIf (asB (mBin fEq (mV 1) (mC (.int 2)))) (sRet (mCall 2 m_law_pick [] (mCons (mV 0) (mCons (mLst false (mCons (mC .non) (mCons (mC (.int 7)) (mCons (mLst false mNil) (mCons (mLst false (mCons (mC (.str [97])) mNil)) (mCons (mTup (mCons (mC (.str [97])) (mCons (mC (.str [98])) mNil))) (mCons (mDic false [((mC (.str [97])), (mC (.int 1)))]) (mCons (mTup mNil) (mCons (mC (.int 0)) mNil))))))))) mNil)))) sNext)
  (sSeq (sSet 2 b_law_thing_c1)
  (sSeq (sIf (asB (mBin fEq (mV 1) (mC (.int 1)))) (sDrop (mBM "list" fInsert (mV 2) (mCons (mCall 2 m_law_next [] (mCons (mV 0) (mCons (mBin (fAdd false) (mB fLen (mCons (mV 2) mNil)) (mC (.int 1))) mNil))) (mCons (mCall 2 m_law_pick [] (mCons (mV 0) (mCons (mCall 0 m_law_signs [] mNil) mNil))) mNil)))) sNext)
  (sRet (mBM "str" fJoin (mC (.str [])) (mCons (mV 2) mNil))))))
noncomputable def m_law_thing : List MV → Sto → Res MV := mDef 4 b_law_thing
noncomputable def b_is_name_c1 : ME :=
  (mComp false (mItT (mV 0)) [1] (gN 1) mYes (mBin fIn (mV 1) (mC (.str [97, 98, 99, 100, 101, 102, 103, 104, 105, 106, 107, 108, 109, 110, 111, 112, 113, 114, 115, 116, 117, 118, 119, 120, 121, 122]))))
noncomputable def b_is_name : MSt :=
  (sSeq (sIf (mOrB (mNotB (asT (mB fIsi (mCons (mV 0) (mCons (mC (.ty "str")) mNil))))) (mNotB (asB (mChain fLe fLe (mC (.int 1)) (mB fLen (mCons (mV 0) mNil)) (mC (.int 8)))))) (sRet (mC (.bl false))) sNext)
  (sRet (mB fAll (mCons b_is_name_c1 mNil))))
noncomputable def m_is_name : List MV → Sto → Res MV := mDef 2 b_is_name
noncomputable def b_law_c1 : ME :=
  (mComp false (mItT (mV 5)) [8] (gN 8) (asB (mChain fLe fLe (mC (.str [97])) (mV 8) (mC (.str [122])))) (mV 8))
noncomputable def b_law_l1 : MSt :=
  (sSeq (sSet 3 (mCall 2 m_law_begun [] (mCons (mV 2) (mCons (mV 1) mNil))))
    (sSeq (sSet 4 (mCall 2 m_law_pick [] (mCons (mV 3) (mCons (mLst false (mCons (mC (.int 0)) (mCons (mC (.int 0)) (mCons (mC (.int 1)) (mCons (mC (.int 1)) (mCons (mC (.int 2)) mNil)))))) mNil))))
    (sSeq (sSet 5 (mCall 2 m_law_thing [] (mCons (mV 3) (mCons (mV 4) mNil))))
    (sSeq (sSet 6 (mAndT (mB fIsi (mCons (mV 5) (mCons (mC (.ty "str")) mNil))) (mChain fLt fLt (mC (.int 0)) (mB fLen (mCons (mV 5) mNil)) (mC (.int 9)))))
    (sSeq (sIf (asT (mV 6)) (sSet 6 (mBin fEq (mB fLen (mCons b_law_c1 mNil)) (mB fLen (mCons (mV 5) mNil)))) sNext)
    (sSeq (sSet 7 (mCall 1 m_is_name [] (mCons (mV 5) mNil)))
    (sIf (mOrB (mNotB (asT (mB fIsi (mCons (mV 7) (mCons (mC (.ty "bool")) mNil))))) (asB (mBin fNe (mV 7) (mV 6)))) (sRet (mC (.bl false))) sNext)))))))
noncomputable def b_law : MSt :=
  (sSeq (sFor (mItE (mCons (mSl false (mOrT (mV 0) (mLst false (mCons (mC (.int 5)) mNil))) mNoPart (mPart (mC (.int 30)))) mNil)) (gT 2 (gCs (gN 1) (gCs (gN 2) gNl))) b_law_l1)
  (sRet (mC (.bl true))))
noncomputable def m_law : List MV → Sto → Res MV := mDef 9 b_law
end K13
end Mi

namespace Mi
namespace K13
open PySem L2 Sh
def top (i : Nat) : Stmt := PySem.Challenge.pw_underrows_k13_names.main.body.getD i (.Pass ⟨0, 0, 0, 0⟩)
abbrev s_law_begun : Stmt := top 3
abbrev s_law_next : Stmt := top 4
abbrev s_law_pick : Stmt := top 5
abbrev s_law_signs : Stmt := top 6
abbrev s_law_thing : Stmt := top 7
abbrev s_is_name : Stmt := top 1
abbrev s_law : Stmt := top 8
section
variable {P : Program} {w : World} {C : Ct} {mg : Str → Option Value} {base : Heap}
theorem sc_law_begun : FnScope ["_law_cell", "_law_k"] ["_law_cell", "_law_k"] (defScope s_law_begun) := ⟨rfl, rfl, rfl, by decide +kernel, rfl, by decide +kernel, by decide +kernel⟩
theorem ok_law_begun {f : Addr} {fd : FuncData} (F : Fun C.K "_law_begun" "_law_begun" s_law_begun f fd) (z_max : mg "max" = none) : FnOk P w C.K mg base (L2.CX P w) 1 f fd ["_law_cell", "_law_k"] (spM C 2 m_law_begun) := by
  refine def_ok (N := ["_law_cell", "_law_k"]) (n := 2) (b := b_law_begun) (k := 0) F sc_law_begun (.inr rfl) ?_
  intro cdv A outer s H E E₁ X hX hr
  have B := bx_of hX rfl hr
  subst hX
  exact (js_one (js_ret (je_lst true (ja_cons (je_b (call_max2' B.calm) cm_max2 z_max (by decide +kernel) (ja_cons je_int (ja_cons (je_op op_sub opm_sub (je_v 0) (je_op op_powW opm_pow je_int je_int)) ja_nil))) (ja_cons (je_op op_addM (opm_add false) (je_v 0) (je_op op_mulM (opm_mul false) je_int (je_v 1))) (ja_cons je_int ja_nil))))))
theorem sc_law_next : FnScope ["_law_draw", "_law_size", "_law_found"] ["_law_draw", "_law_size"] (defScope s_law_next) := ⟨rfl, rfl, rfl, by decide +kernel, rfl, by decide +kernel, by decide +kernel⟩
theorem ok_law_next {f : Addr} {fd : FuncData} (F : Fun C.K "_law_next" "_law_next" s_law_next f fd) : FnOk P w C.K mg base (L2.CX P w) 1 f fd ["_law_draw", "_law_size"] (spM C 2 m_law_next) := by
  refine def_ok (N := ["_law_draw", "_law_size", "_law_found"]) (n := 3) (b := b_law_next) (k := 0) F sc_law_next (.inl rfl) ?_
  intro cdv A outer s H E E₁ X hX hr
  have B := bx_of hX rfl hr
  subst hX
  exact (js_cons (js_if (jt_cmp op_gtM opm_gt (je_ix B (je_v 0) je_int) je_int (nomark _)) (js_cons (js_set (i := 2) sc_law_next.nd (je_op op_mod opm_mod (je_ix B (je_v 0) je_int) (je_v 1)))
    (js_cons (js_sub (je_v 0) je_int (je_op op_fdivW opm_div (je_ix B (je_v 0) je_int) (je_v 1)))
    (js_one (js_ret (je_v 2))))) js_nil)
  (js_cons (js_sub (je_v 0) je_int (je_op op_addM (opm_add false) (je_ix B (je_v 0) je_int) je_int))
  (js_cons (js_set (i := 2) sc_law_next.nd (je_op op_addM (opm_add false) (je_op op_mod opm_mod (je_ix B (je_v 0) je_int) je_int) (je_op op_mulM (opm_mul false) je_int (je_ix B (je_v 0) je_int))))
  (js_cons (js_set (i := 2) sc_law_next.nd (je_op op_mulM (opm_mul false) (je_v 2) (je_op op_addM (opm_add false) (je_op op_addM (opm_add false) (je_op op_mod opm_mod (je_ix B (je_v 0) je_int) je_int) (je_op op_mulM (opm_mul false) (je_op op_mulM (opm_mul false) je_int (je_ix B (je_v 0) je_int)) (je_ix B (je_v 0) je_int))) je_int)))
  (js_one (js_ret (je_op op_mod opm_mod (je_op op_fdivW opm_div (je_op op_mod opm_mod (je_op op_powW opm_pow (je_v 2) je_int) je_int) je_int) (je_v 1))))))))
theorem sc_law_pick : FnScope ["_law_draw", "_law_some"] ["_law_draw", "_law_some"] (defScope s_law_pick) := ⟨rfl, rfl, rfl, by decide +kernel, rfl, by decide +kernel, by decide +kernel⟩
theorem ok_law_pick {f : Addr} {fd : FuncData} (F : Fun C.K "_law_pick" "_law_pick" s_law_pick f fd) (z_len : mg "len" = none) (G_law_next : FnIn P w C mg base "_law_next" 1 2 m_law_next []) : FnOk P w C.K mg base (L2.CX P w) 2 f fd ["_law_draw", "_law_some"] (spM C 2 m_law_pick) := by
  refine def_ok (N := ["_law_draw", "_law_some"]) (n := 2) (b := b_law_pick) (k := 1) F sc_law_pick (.inl rfl) ?_
  intro cdv A outer s H E E₁ X hX hr
  have B := bx_of hX rfl hr
  subst hX
  exact (js_one (js_ret (je_ix B (je_v 1) (je_f B G_law_next (ja_cons (je_v 0) (ja_cons (je_b call_lenM cm_len z_len (by decide +kernel) (ja_cons (je_v 1) ja_nil)) ja_nil))))))
theorem sc_law_signs : FnScope ["_law_found"] [] (defScope s_law_signs) := ⟨rfl, rfl, rfl, by decide +kernel, rfl, by decide +kernel, by decide +kernel⟩
theorem ok_law_signs {f : Addr} {fd : FuncData} (F : Fun C.K "_law_signs" "_law_signs" s_law_signs f fd) : FnOk P w C.K mg base (L2.CX P w) 1 f fd [] (spM C 0 m_law_signs) := by
  refine def_ok (N := ["_law_found"]) (n := 1) (b := b_law_signs) (k := 0) F sc_law_signs (.inl rfl) ?_
  intro cdv A outer s H E E₁ X hX hr
  have B := bx_of hX rfl hr
  subst hX
  exact (js_cons (js_set (i := 0) sc_law_signs.nd (je_op op_addM (opm_add false) (je_op op_addM (opm_add false) (je_str [32, 33]) (je_str [34])) (je_str [35, 36, 38, 39, 40, 41, 42, 43, 44, 45, 46, 47, 48, 49, 50, 51, 52, 53, 54, 55, 56, 57, 58, 59, 60, 61, 62, 63, 64, 65, 66, 67, 68, 69, 70, 71, 72, 73, 74, 75, 76, 77, 78, 79, 80, 81, 82, 83, 84, 85, 86, 87, 88, 89, 90, 91, 92, 93, 94, 95, 96])))
  (js_one (js_ret (je_op op_addM (opm_add false) (je_v 0) (je_str [97, 98, 99, 100, 101, 102, 103, 104, 105, 106, 107, 108, 109, 110, 111, 112, 113, 114, 115, 116, 117, 118, 119, 120, 121, 122, 123, 124, 125, 126])))))
theorem sc_law_thing : FnScope ["_law_draw", "_law_spoilt", "_law_found", "_law_k"] ["_law_draw", "_law_spoilt"] (defScope s_law_thing) := ⟨rfl, rfl, rfl, by decide +kernel, rfl, by decide +kernel, by decide +kernel⟩
theorem ok_law_thing {f : Addr} {fd : FuncData} (F : Fun C.K "_law_thing" "_law_thing" s_law_thing f fd) (z_range : mg "range" = none) (z_len : mg "len" = none) (G_law_pick : FnIn P w C mg base "_law_pick" 2 2 m_law_pick []) (G_law_next : FnIn P w C mg base "_law_next" 1 2 m_law_next []) (G_law_signs : FnIn P w C mg base "_law_signs" 1 0 m_law_signs []) : FnOk P w C.K mg base (L2.CX P w) 3 f fd ["_law_draw", "_law_spoilt"] (spM C 2 m_law_thing) := by
  refine def_ok (N := ["_law_draw", "_law_spoilt", "_law_found", "_law_k"]) (n := 4) (b := b_law_thing) (k := 2) F sc_law_thing (.inl rfl) ?_
  intro cdv A outer s H E E₁ X hX hr
  have B := bx_of hX rfl hr
  subst hX
  exact (js_cons (js_if (jt_cmp (op_eqM B.hK B.u64) opm_eq (je_v 1) je_int (nomark _)) (js_one (js_ret (je_f B G_law_pick (ja_cons (je_v 0) (ja_cons (je_lst false (ja_cons je_non (ja_cons je_int (ja_cons (je_lst false ja_nil) (ja_cons (je_lst false (ja_cons (je_str [97]) ja_nil)) (ja_cons (je_tup (ja_cons (je_str [97]) (ja_cons (je_str [98]) ja_nil))) (ja_cons (je_dic false [((mC (.str [97])), (mC (.int 1)))] (pps_cons (je_str [97]) je_int pps_nil)) (ja_cons (je_tup ja_nil) (ja_cons je_int ja_nil))))))))) ja_nil))))) js_nil)
  (js_cons (js_setLc true (i := 2) B sc_law_thing.nd (ji_range1 (hm := z_range) (ha := (ja_cons (je_f B G_law_next (ja_cons (je_v 0) (ja_cons je_int ja_nil))) ja_nil))) (blkOk_by (own := [("_law_k", 3)]) (by kernel_rfl)) (fun Y BY eN ⟨s, H, A, cl, fp, eY⟩ => by subst eY; exact (jg_n (i := 3) sc_law_thing.nd)) (fun s H A cl fp B1 => jts_nil) (fun s H A cl fp B1 => (je_f B1 G_law_pick (ja_cons (je_v 0) (ja_cons (je_str [97, 98, 99, 100, 101, 102, 103, 104, 105, 106, 107, 108, 109, 110, 111, 112, 113, 114, 115, 116, 117, 118, 119, 120, 121, 122]) ja_nil)))))
  (js_cons (js_if (jt_cmp (op_eqM B.hK B.u64) opm_eq (je_v 1) je_int (nomark _)) (js_one (js_expr (je_bm B.hK PySem.F.plainAttrs_list PySem.F.slot_list_insert PySem.F.type_list_insert mt_insM mm_insert (je_v 2) (ja_cons (je_f B G_law_next (ja_cons (je_v 0) (ja_cons (je_op op_addM (opm_add false) (je_b call_lenM cm_len z_len (by decide +kernel) (ja_cons (je_v 2) ja_nil)) je_int) ja_nil))) (ja_cons (je_f B G_law_pick (ja_cons (je_v 0) (ja_cons (je_f0 B G_law_signs) ja_nil))) ja_nil))))) js_nil)
  (js_one (js_ret (je_bm B.hK PySem.F.plainAttrs_str PySem.F.slot_str_join PySem.F.type_str_join mt_joinM mm_join (je_str []) (ja_cons (je_v 2) ja_nil)))))))
theorem sc_is_name : FnScope ["text", "sign"] ["text"] (defScope s_is_name) := ⟨rfl, rfl, rfl, by decide +kernel, rfl, by decide +kernel, by decide +kernel⟩
theorem ok_is_name {f : Addr} {fd : FuncData} (F : Fun C.K "is_name" "is_name" s_is_name f fd) (z_str : mg "str" = none) (z_isinstance : mg "isinstance" = none) (z_len : mg "len" = none) (z_all : mg "all" = none) : FnOk P w C.K mg base (L2.CX P w) 1 f fd ["text"] (spM C 1 m_is_name) := by
  refine def_ok (N := ["text", "sign"]) (n := 2) (b := b_is_name) (k := 0) F sc_is_name (.inl rfl) ?_
  intro cdv A outer s H E E₁ X hX hr
  have B := bx_of hX rfl hr
  subst hX
  exact (js_cons (js_if (jw_or (jt_not (jt_tru B.hK (je_b call_isi cm_isi z_isinstance (by decide +kernel) (ja_cons (je_v 0) (ja_cons (je_tyv z_str (by decide +kernel)) ja_nil))))) (jw_one_or (jt_not (jt_chain op_leM opm_le op_leM opm_le je_int (je_b call_lenM cm_len z_len (by decide +kernel) (ja_cons (je_v 0) ja_nil)) je_int)))).pt (js_one (js_ret je_bl)) js_nil)
  (js_one (js_ret (je_b (cr_all B.calm) cm_all z_all (by decide +kernel) (ja_cons (je_lc false B sc_is_name.nd (ji_str (je_v 0)) (blkOk_by (own := [("sign", 1)]) (by kernel_rfl)) (fun Y BY eN ⟨s, H, A, cl, fp, eY⟩ => by subst eY; exact (jg_n (i := 1) sc_is_name.nd)) (fun s H A cl fp B1 => jts_nil) (fun s H A cl fp B1 => (je_cmp (op_inM B1.u1) opm_in (je_v 1) (je_str [97, 98, 99, 100, 101, 102, 103, 104, 105, 106, 107, 108, 109, 110, 111, 112, 113, 114, 115, 116, 117, 118, 119, 120, 121, 122]) rfl))) ja_nil)))))
theorem sc_law : FnScope ["_law_script", "_law_k", "_law_cell", "_law_draw", "_law_spoilt", "_law_thing_here", "_law_due", "_law_found", "_law_sign"] ["_law_script"] (defScope s_law) := ⟨rfl, rfl, rfl, by decide +kernel, rfl, by decide +kernel, by decide +kernel⟩
theorem ok_law {f : Addr} {fd : FuncData} (F : Fun C.K "law" "law" s_law f fd) (z_enumerate : mg "enumerate" = none) (z_str : mg "str" = none) (z_isinstance : mg "isinstance" = none) (z_len : mg "len" = none) (z_bool : mg "bool" = none) (G_law_begun : FnIn P w C mg base "_law_begun" 1 2 m_law_begun []) (G_law_pick : FnIn P w C mg base "_law_pick" 2 2 m_law_pick []) (G_law_thing : FnIn P w C mg base "_law_thing" 3 2 m_law_thing []) (G_is_name : FnIn P w C mg base "is_name" 1 1 m_is_name []) : FnOk P w C.K mg base (L2.CX P w) 4 f fd ["_law_script"] (spM C 1 m_law) := by
  refine def_ok (N := ["_law_script", "_law_k", "_law_cell", "_law_draw", "_law_spoilt", "_law_thing_here", "_law_due", "_law_found", "_law_sign"]) (n := 9) (b := b_law) (k := 3) F sc_law (.inl rfl) ?_
  intro cdv A outer s H E E₁ X hX hr
  have B := bx_of hX rfl hr
  subst hX
  exact (js_cons (js_for B.own B.calm (ji_enum B.hK (hm := z_enumerate) (ha := (ja_cons (je_sl false B.hK (je_orT B.hK (je_v 0) (pe_one (je_lst false (ja_cons je_int ja_nil)))) jo_none (jo_some je_int)) ja_nil))) (jg_t B.hK B.calm (jgs_cons (jg_n (i := 1) sc_law.nd) (jgs_cons (jg_n (i := 2) sc_law.nd) jgs_nil))) (js_cons (js_set (i := 3) sc_law.nd (je_f B G_law_begun (ja_cons (je_v 2) (ja_cons (je_v 1) ja_nil))))
    (js_cons (js_set (i := 4) sc_law.nd (je_f B G_law_pick (ja_cons (je_v 3) (ja_cons (je_lst false (ja_cons je_int (ja_cons je_int (ja_cons je_int (ja_cons je_int (ja_cons je_int ja_nil)))))) ja_nil))))
    (js_cons (js_set (i := 5) sc_law.nd (je_f B G_law_thing (ja_cons (je_v 3) (ja_cons (je_v 4) ja_nil))))
    (js_cons (js_set (i := 6) sc_law.nd (je_andT B.hK (je_b call_isi cm_isi z_isinstance (by decide +kernel) (ja_cons (je_v 5) (ja_cons (je_tyv z_str (by decide +kernel)) ja_nil))) (pe_one (je_chain op_ltM opm_lt op_ltM opm_lt je_int (je_b call_lenM cm_len z_len (by decide +kernel) (ja_cons (je_v 5) ja_nil)) je_int))))
    (js_cons (js_if (jt_tru B.hK (je_v 6)) (js_one (js_set (i := 6) sc_law.nd (je_cmp (op_eqM B.hK B.u64) opm_eq (je_b call_lenM cm_len z_len (by decide +kernel) (ja_cons (je_lc false B sc_law.nd (ji_str (je_v 5)) (blkOk_by (own := [("_law_sign", 8)]) (by kernel_rfl)) (fun Y BY eN ⟨s, H, A, cl, fp, eY⟩ => by subst eY; exact (jg_n (i := 8) sc_law.nd)) (fun s H A cl fp B1 => (jts_one (jt_chain op_leM opm_le op_leM opm_le (je_str [97]) (je_v 8) (je_str [122])))) (fun s H A cl fp B1 => (je_v 8))) ja_nil)) (je_b call_lenM cm_len z_len (by decide +kernel) (ja_cons (je_v 5) ja_nil)) (nomark _)))) js_nil)
    (js_cons (js_set (i := 7) sc_law.nd (je_f B G_is_name (ja_cons (je_v 5) ja_nil)))
    (js_one (js_if (jw_or (jt_not (jt_tru B.hK (je_b call_isi cm_isi z_isinstance (by decide +kernel) (ja_cons (je_v 7) (ja_cons (je_tyv z_bool (by decide +kernel)) ja_nil))))) (jw_one_or (jt_cmp (op_neM B.hK B.u64) opm_ne (je_v 7) (je_v 6) (nomark _)))).pt (js_one (js_ret je_bl)) js_nil)))))))))
  (js_one (js_ret je_bl)))
end
theorem all_mk {l : PySem.W.OpenLaw} {w : World} {K : PySem.W.Frag} {h : Heap} {mg : Str → Option Value} {fa f0 f1 f2 f3 f4 f5 f6 : Addr} (X : K.In h) (G : h.Ns mainGlobals mg) (hfa : mg "law" = some (.ref fa))
    {od0 an0 od1 an1 od2 an2 od3 an3 od4 an4 od5 an5 od6 an6 : Option Addr} {sl0 sl1 sl2 sl3 sl4 sl5 sl6 : Array (Option Value)} {oc0 kV0 dc0 pm0 cd0 ct0 oc1 kV1 dc1 pm1 cd1 ct1 oc2 kV2 dc2 pm2 cd2 ct2 oc3 kV3 dc3 pm3 cd3 ct3 oc4 kV4 dc4 pm4 cd4 ct4 oc5 kV5 dc5 pm5 cd5 ct5 oc6 kV6 dc6 pm6 cd6 ct6 : Value}
    (a0 : PySem.W.nsIn K mainGlobals "_law_begun" = some (some (.ref f0))) (l0 : K.lookup f0 = some ⟨oc0, od0, .func (PySem.W.fnOf "_law_begun" "_law_begun" (defArgs s_law_begun) (defBody s_law_begun) (defScope s_law_begun) .none kV0 dc0 pm0 an0 cd0 ct0), sl0⟩) (c0 : PySem.W.codeIn K cd0 "_law_begun" = true) (k0 : PySem.W.keepIn K (.ref f0) = true)
    (a1 : PySem.W.nsIn K mainGlobals "_law_next" = some (some (.ref f1))) (l1 : K.lookup f1 = some ⟨oc1, od1, .func (PySem.W.fnOf "_law_next" "_law_next" (defArgs s_law_next) (defBody s_law_next) (defScope s_law_next) .none kV1 dc1 pm1 an1 cd1 ct1), sl1⟩) (c1 : PySem.W.codeIn K cd1 "_law_next" = true) (k1 : PySem.W.keepIn K (.ref f1) = true)
    (a2 : PySem.W.nsIn K mainGlobals "_law_pick" = some (some (.ref f2))) (l2 : K.lookup f2 = some ⟨oc2, od2, .func (PySem.W.fnOf "_law_pick" "_law_pick" (defArgs s_law_pick) (defBody s_law_pick) (defScope s_law_pick) .none kV2 dc2 pm2 an2 cd2 ct2), sl2⟩) (c2 : PySem.W.codeIn K cd2 "_law_pick" = true) (k2 : PySem.W.keepIn K (.ref f2) = true)
    (a3 : PySem.W.nsIn K mainGlobals "_law_signs" = some (some (.ref f3))) (l3 : K.lookup f3 = some ⟨oc3, od3, .func (PySem.W.fnOf "_law_signs" "_law_signs" (defArgs s_law_signs) (defBody s_law_signs) (defScope s_law_signs) .none kV3 dc3 pm3 an3 cd3 ct3), sl3⟩) (c3 : PySem.W.codeIn K cd3 "_law_signs" = true) (k3 : PySem.W.keepIn K (.ref f3) = true)
    (a4 : PySem.W.nsIn K mainGlobals "_law_thing" = some (some (.ref f4))) (l4 : K.lookup f4 = some ⟨oc4, od4, .func (PySem.W.fnOf "_law_thing" "_law_thing" (defArgs s_law_thing) (defBody s_law_thing) (defScope s_law_thing) .none kV4 dc4 pm4 an4 cd4 ct4), sl4⟩) (c4 : PySem.W.codeIn K cd4 "_law_thing" = true) (k4 : PySem.W.keepIn K (.ref f4) = true)
    (a5 : PySem.W.nsIn K mainGlobals "is_name" = some (some (.ref f5))) (l5 : K.lookup f5 = some ⟨oc5, od5, .func (PySem.W.fnOf "is_name" "is_name" (defArgs s_is_name) (defBody s_is_name) (defScope s_is_name) .none kV5 dc5 pm5 an5 cd5 ct5), sl5⟩) (c5 : PySem.W.codeIn K cd5 "is_name" = true) (k5 : PySem.W.keepIn K (.ref f5) = true)
    (a6 : PySem.W.nsIn K mainGlobals "law" = some (some (.ref f6))) (l6 : K.lookup f6 = some ⟨oc6, od6, .func (PySem.W.fnOf "law" "law" (defArgs s_law) (defBody s_law) (defScope s_law) .none kV6 dc6 pm6 an6 cd6 ct6), sl6⟩) (c6 : PySem.W.codeIn K cd6 "law" = true) (k6 : PySem.W.keepIn K (.ref f6) = true)
    (zmax : PySem.W.nsIn K mainGlobals "max" = some none)
    (zlen : PySem.W.nsIn K mainGlobals "len" = some none)
    (zrange : PySem.W.nsIn K mainGlobals "range" = some none)
    (zstr : PySem.W.nsIn K mainGlobals "str" = some none)
    (zisinstance : PySem.W.nsIn K mainGlobals "isinstance" = some none)
    (zall : PySem.W.nsIn K mainGlobals "all" = some none)
    (zenumerate : PySem.W.nsIn K mainGlobals "enumerate" = some none)
    (zbool : PySem.W.nsIn K mainGlobals "bool" = some none) :
    ∃ fd : FuncData, (∀ (s : Shared) (v : Value), BindsTo s fd ⟨[v], []⟩ [("_law_script", v)]) ∧ ∃ C : Ct, C.K = K ∧ ∀ base : Heap, K.In base → base.Ns mainGlobals mg → FnOk l.prog w C.K mg base (L2.CX l.prog w) 4 fa fd ["_law_script"] (spM C 1 m_law) := by
  have e := hfa.symm.trans (PySem.W.mg_of X G a6)
  cases e
  have F0 := fun_mk (st := s_law_begun) l0 c0 k0
  have b0 := F0.binds (ps := ["_law_cell", "_law_k"]) fun _ _ _ _ _ _ us hl => match us, hl with | [_, _], _ => rfl
  have F1 := fun_mk (st := s_law_next) l1 c1 k1
  have b1 := F1.binds (ps := ["_law_draw", "_law_size"]) fun _ _ _ _ _ _ us hl => match us, hl with | [_, _], _ => rfl
  have F2 := fun_mk (st := s_law_pick) l2 c2 k2
  have b2 := F2.binds (ps := ["_law_draw", "_law_some"]) fun _ _ _ _ _ _ us hl => match us, hl with | [_, _], _ => rfl
  have F3 := fun_mk (st := s_law_signs) l3 c3 k3
  have b3 := F3.binds (ps := []) fun _ _ _ _ _ _ us hl => match us, hl with | [], _ => rfl
  have F4 := fun_mk (st := s_law_thing) l4 c4 k4
  have b4 := F4.binds (ps := ["_law_draw", "_law_spoilt"]) fun _ _ _ _ _ _ us hl => match us, hl with | [_, _], _ => rfl
  have F5 := fun_mk (st := s_is_name) l5 c5 k5
  have b5 := F5.binds (ps := ["text"]) fun _ _ _ _ _ _ us hl => match us, hl with | [_], _ => rfl
  have F6 := fun_mk (st := s_law) l6 c6 k6
  have b6 := F6.binds (ps := ["_law_script"]) fun _ _ _ _ _ _ us hl => match us, hl with | [_], _ => rfl
  refine ⟨PySem.W.fnOf "law" "law" (defArgs s_law) (defBody s_law) (defScope s_law) .none kV6 dc6 pm6 an6 cd6 ct6, fun s v => .of_eq rfl, ⟨K, fun _ => 0, fun _ => 0⟩, rfl, fun base _ _ => ?_⟩
  have G0 : FnIn l.prog w ⟨K, fun _ => 0, fun _ => 0⟩ mg base "_law_begun" 1 2 m_law_begun [] := ⟨f0, _, _, [], [], PySem.W.mg_of X G a0, k0, b0, .nil, .nil, ok_law_begun (C := ⟨K, fun _ => 0, fun _ => 0⟩) F0 (PySem.W.mg_none_of X G zmax)⟩
  have G1 : FnIn l.prog w ⟨K, fun _ => 0, fun _ => 0⟩ mg base "_law_next" 1 2 m_law_next [] := ⟨f1, _, _, [], [], PySem.W.mg_of X G a1, k1, b1, .nil, .nil, ok_law_next (C := ⟨K, fun _ => 0, fun _ => 0⟩) F1⟩
  have G2 : FnIn l.prog w ⟨K, fun _ => 0, fun _ => 0⟩ mg base "_law_pick" 2 2 m_law_pick [] := ⟨f2, _, _, [], [], PySem.W.mg_of X G a2, k2, b2, .nil, .nil, ok_law_pick (C := ⟨K, fun _ => 0, fun _ => 0⟩) F2 (PySem.W.mg_none_of X G zlen) G1⟩
  have G3 : FnIn l.prog w ⟨K, fun _ => 0, fun _ => 0⟩ mg base "_law_signs" 1 0 m_law_signs [] := ⟨f3, _, _, [], [], PySem.W.mg_of X G a3, k3, b3, .nil, .nil, ok_law_signs (C := ⟨K, fun _ => 0, fun _ => 0⟩) F3⟩
  have G4 : FnIn l.prog w ⟨K, fun _ => 0, fun _ => 0⟩ mg base "_law_thing" 3 2 m_law_thing [] := ⟨f4, _, _, [], [], PySem.W.mg_of X G a4, k4, b4, .nil, .nil, ok_law_thing (C := ⟨K, fun _ => 0, fun _ => 0⟩) F4 (PySem.W.mg_none_of X G zrange) (PySem.W.mg_none_of X G zlen) G2 G1 G3⟩
  have G5 : FnIn l.prog w ⟨K, fun _ => 0, fun _ => 0⟩ mg base "is_name" 1 1 m_is_name [] := ⟨f5, _, _, [], [], PySem.W.mg_of X G a5, k5, b5, .nil, .nil, ok_is_name (C := ⟨K, fun _ => 0, fun _ => 0⟩) F5 (PySem.W.mg_none_of X G zstr) (PySem.W.mg_none_of X G zisinstance) (PySem.W.mg_none_of X G zlen) (PySem.W.mg_none_of X G zall)⟩
  exact ok_law (C := ⟨K, fun _ => 0, fun _ => 0⟩) F6 (PySem.W.mg_none_of X G zenumerate) (PySem.W.mg_none_of X G zstr) (PySem.W.mg_none_of X G zisinstance) (PySem.W.mg_none_of X G zlen) (PySem.W.mg_none_of X G zbool) G0 G2 G4 G5
end K13
end Mi

namespace Mi
namespace K13
open PySem L2 Sh
abbrev abc : List Nat := [97, 98, 99, 100, 101, 102, 103, 104, 105, 106, 107, 108, 109, 110, 111, 112, 113, 114, 115, 116, 117, 118, 119, 120, 121, 122]
def signs : List Nat := [32, 33, 34, 35, 36, 38, 39, 40, 41, 42, 43, 44, 45, 46, 47, 48, 49, 50, 51, 52, 53, 54, 55, 56, 57, 58, 59, 60, 61, 62, 63, 64, 65, 66, 67, 68, 69, 70, 71, 72, 73, 74, 75, 76, 77, 78, 79, 80, 81, 82, 83, 84, 85, 86, 87, 88, 89, 90, 91, 92, 93, 94, 95, 96, 97, 98, 99, 100, 101, 102, 103, 104, 105, 106, 107, 108, 109, 110, 111, 112, 113, 114, 115, 116, 117, 118, 119, 120, 121, 122, 123, 124, 125, 126]
theorem signs_ok (S : Sto) : m_law_signs [] S = .ok (.str signs) S := by
  have h := leaveV_cl (keeps_refl S) (v := .str signs) (by simp [Cl])
  rw [List.take_length] at h
  unfold m_law_signs mDef b_law_signs
  simp only [env0, sRet, sBind, sSeq, sIf, sSet, sSub, sNext, sRetN, sDrop, mLst, mTup, mCons, mB, mBin, mV, mC, mNil, mCall, asB, asT, bind_ok, List.map_cons, List.map_nil, List.length_cons, List.length_nil, List.cons_append, List.nil_append, List.append_nil, List.getElem?_cons_zero, List.getElem?_cons_succ, List.set_cons_zero, List.set_cons_succ, List.replicate_zero, List.replicate_succ, List.replicate_one, if_true, if_false, Bool.false_eq_true, Nat.reduceSub, Nat.reduceAdd, Nat.sub_self, fAdd, sizeLine]
  simp (decide := true) only [reduceIte, List.cons_append, List.nil_append]
  exact h
def Dull : MV → Prop := fun v => v ∈ [MV.non, .int 7, .lst [], .lst [.str [97]], .tup [.str [97], .str [98]], .dic [(.str [97], .int 1)], .tup [], .int 0]
theorem thing2_ok {l n : Nat} {S : Sto} (h : HasDr l n S) (hn : n < 2 ^ 20) : ∃ v S', m_law_thing [.ref l, .int 2] S = .ok v S' ∧ Draws l 1 S S' ∧ Dull v := by
  have hd : ∀ env S, mDic false [(mC (.str [97]), mC (.int 1))] env S = .ok (.dic [(.str [97], .int 1)]) S := fun env S => mDic_lit (kvs := [(.str [97], .int 1)]) (by simp [mPrs, mC, isKey]) (by decide) (by simp [mergeKM, putKM, Clk, Clp, Cl])
  obtain ⟨v, S1, e1, d1, m1⟩ := pick_lst (xs := [MV.non, .int 7, .lst [], .lst [.str [97]], .tup [.str [97], .str [98]], .dic [(.str [97], .int 1)], .tup [], .int 0]) h hn (by simp) (by decide) (by simp [ClL, Cl, Clk, Clp])
  refine ⟨v, S1, ?_, d1, m1⟩
  have hc : Cl S.length v := by
    simp only [List.mem_cons, List.not_mem_nil, or_false] at m1
    rcases m1 with rfl | rfl | rfl | rfl | rfl | rfl | rfl | rfl <;> simp [ClL, Cl, Clk, Clp]
  have q := d1.leave hc
  unfold m_law_thing mDef b_law_thing
  simp (decide := true) only [env0, sRet, sBind, sSeq, sIf, sSet, sSub, sNext, sRetN, sDrop, mLst, mTup, mCons, mB, mBin, mV, mC, mNil, mCall, asB, asT, bind_ok, List.map_cons, List.map_nil, List.length_cons, List.length_nil, List.cons_append, List.nil_append, List.append_nil, List.getElem?_cons_zero, List.getElem?_cons_succ, List.set_cons_zero, List.set_cons_succ, List.replicate_zero, List.replicate_succ, List.replicate_one, if_true, if_false, Bool.false_eq_true, Nat.reduceSub, Nat.reduceAdd, Nat.sub_self, hd, fEq_int, mkL, sizeLine, reduceIte, e1, q]
theorem letters_ok {l n : Nat} {S : Sto} {sp : Int} (h : HasDr l n S) (hn : n + 12 ≤ 2 ^ 20) : ∃ S2 ys, b_law_thing_c1 [some (.ref l), some (.int sp), none, none] S =
    .ok (.ref S.length) (S2 ++ [.lst ys]) ∧ ys.length ≤ 10 ∧ (∀ y ∈ ys, ∃ c, y = .str [c]) ∧ Draws l 11 S S2 := by
  obtain ⟨r, S1, e1, d1, r0, r1⟩ := next_ok (sz := 11) h (by omega) (by decide) (by unfold Bd; decide)
  have hi : mItR1 (mCons (mCall 2 m_law_next [] (mCons (mV 0) (mCons (mC (.int 11)) mNil))) mNil) [some (.ref l), some (.int sp), none, none] S = .ok ⟨rngL 0 r.toNat, []⟩ S1 := by
    unfold mItR1
    simp (decide := true) only [env0, sRet, sBind, sSeq, sIf, sSet, sSub, sNext, sRetN, sDrop, mLst, mTup, mCons, mB, mBin, mV, mC, mNil, mCall, asB, asT, bind_ok, List.map_cons, List.map_nil, List.length_cons, List.length_nil, List.cons_append, List.nil_append, List.append_nil, List.getElem?_cons_zero, List.getElem?_cons_succ, List.set_cons_zero, List.set_cons_succ, List.replicate_zero, List.replicate_succ, List.replicate_one, if_true, if_false, Bool.false_eq_true, Nat.reduceSub, Nat.reduceAdd, Nat.sub_self, reduceIte, e1]
    exact if_pos ⟨by omega, by omega⟩
  obtain ⟨S2, ys, e2, l2, p2, d2⟩ := mComp_draws (mu := true) (vs := [3]) (g := gN 3) (e := mCall 2 m_law_pick [] (mCons (mV 0) (mCons (mC (.str [97, 98, 99, 100, 101, 102, 103, 104, 105, 106, 107, 108, 109, 110, 111, 112, 113, 114, 115, 116, 117, 118, 119, 120, 121, 122])) mNil))) (P := fun y => ∃ c, y = .str [c]) (q := 1) (N := 2 ^ 20 - 1) hi h d1 rfl (by
      intro v hv
      refine ⟨_, rfl, fun n S' hn hl hd => ?_⟩
      obtain ⟨y, S3, e3, d3, c, hc, rfl⟩ := pick_str (z := abc) hd (by omega) (by decide) (by decide)
      refine ⟨_, S3, ?_, d3, c, rfl⟩
      simp (decide := true) only [env0, sRet, sBind, sSeq, sIf, sSet, sSub, sNext, sRetN, sDrop, mLst, mTup, mCons, mB, mBin, mV, mC, mNil, mCall, asB, asT, bind_ok, List.map_cons, List.map_nil, List.length_cons, List.length_nil, List.cons_append, List.nil_append, List.append_nil, List.getElem?_cons_zero, List.getElem?_cons_succ, List.set_cons_zero, List.set_cons_succ, List.replicate_zero, List.replicate_succ, List.replicate_one, if_true, if_false, Bool.false_eq_true, Nat.reduceSub, Nat.reduceAdd, Nat.sub_self, reduceIte, wipeE, e3]) (by simp [rngL]; omega) (by simp [rngL]; unfold sizeLine; omega) (by rintro y ⟨c, rfl⟩; simp [Cl])
  refine ⟨S2, ys, by unfold b_law_thing_c1; simpa using e2, ?_, p2, d2.mono ?_⟩
  · rw [l2]; simp [rngL]; omega
  · simp [rngL]; omega
theorem ones {ys : List MV} (h : ∀ y ∈ ys, ∃ c, y = .str [c]) : ∃ cs : List Nat, ys = cs.map fun c => .str [c] := by
  induction ys with
  | nil => exact ⟨[], rfl⟩
  | cons y r ih =>
    obtain ⟨c, rfl⟩ := h y (by simp)
    obtain ⟨cs, rfl⟩ := ih fun y hy => h y (List.mem_cons_of_mem _ hy)
    exact ⟨c :: cs, rfl⟩
theorem strs_ones : ∀ cs : List Nat, strsOf (cs.map fun c => .str [c]) = some (cs.map fun c => [c])
  | [] => rfl
  | c :: r => by simp only [List.map_cons, strsOf, strs_ones r, Option.map_some]
theorem join_ones : ∀ cs : List Nat, TL.joinL [] (cs.map fun c => [c]) = cs
  | [] => rfl
  | [c] => rfl
  | c :: d :: r => by
    have := join_ones (d :: r)
    simp only [List.map_cons] at this ⊢
    simp only [TL.joinL, this]
    simp
theorem join_ok {S : Sto} {l : Nat} {cs : List Nat} (h : S[l]? = some (.lst (cs.map fun c => .str [c]))) (hl : cs.length ≤ 2 ^ 20) : fJoin (.str []) [.ref l] S = .ok (.str cs) S := by
  have e1 : asSq S (.ref l) = some (cs.map fun c => .str [c]) := by simp only [asSq, asU, asL, h]
  have e2 : (List.map List.length (List.map (fun c => [c]) cs)).sum = cs.length := by
    clear h e1 hl
    induction cs with
    | nil => rfl
    | cons a r ih => simp only [List.map_cons, List.sum_cons, ih, List.length_cons, List.length_nil]; omega
  simp only [fJoin, e1, Option.bind_some, strs_ones, join_ones]
  rw [if_pos]
  rw [e2]; simp; omega
theorem ins_ones (cs : List Nat) (d : Nat) (r : Nat) : (cs.map fun c => MV.str [c]).take r ++ [.str [d]] ++ (cs.map fun c => MV.str [c]).drop r = (cs.take r ++ [d] ++ cs.drop r).map fun c => MV.str [c] := by
  simp [List.map_take, List.map_drop]
theorem thing01_ok {l n : Nat} {S : Sto} {sp : Int} (h : HasDr l n S) (hn : n + 20 ≤ 2 ^ 20) (hs : sp = 0 ∨ sp = 1) : ∃ z S', m_law_thing [.ref l, .int sp] S = .ok (.str z) S' ∧ Draws l 20 S S' ∧ z.length ≤ 11 := by
  obtain ⟨S2, ys, e2, l2, p2, d2⟩ := letters_ok (sp := sp) h (by omega)
  obtain ⟨cs, rfl⟩ := ones p2
  rw [List.length_map] at l2
  have hl := h.lt
  have h2 := h.draws d2
  have hg : ∀ S : Sto, ∀ o : MO, (S ++ [o])[S.length]? = some o := fun S o => by simp
  rcases hs with rfl | rfl
  · have d3 := d2.mono (r := 20) (by omega)
    refine ⟨cs, S2, ?_, d3, by omega⟩
    have q : leaveV S (S2 ++ [.lst (cs.map fun c => .str [c])]) (.str cs) = .ok (.str cs) S2 := by
      rw [leaveV_cl (keeps_app _ d2.keeps) (by simp [Cl]), ← d2.len, List.take_left]
    have j := join_ok (S := S2 ++ [.lst (cs.map fun c => .str [c])]) (l := S.length) (cs := cs) (by rw [← d2.len]; exact hg _ _) (by omega)
    unfold m_law_thing mDef b_law_thing
    simp (decide := true) only [env0, sRet, sBind, sSeq, sIf, sSet, sSub, sNext, sRetN, sDrop, mLst, mTup, mCons, mB, mBin, mV, mC, mNil, mCall, asB, asT, bind_ok, List.map_cons, List.map_nil, List.length_cons, List.length_nil, List.cons_append, List.nil_append, List.append_nil, List.getElem?_cons_zero, List.getElem?_cons_succ, List.set_cons_zero, List.set_cons_succ, List.replicate_zero, List.replicate_succ, List.replicate_one, if_true, if_false, Bool.false_eq_true, Nat.reduceSub, Nat.reduceAdd, Nat.sub_self, fEq_int, reduceIte, e2, mBM, tyM, j, q]
  · obtain ⟨r, S3, e3, d3, r0, r1⟩ := next_ok (sz := ((cs.map fun c => MV.str [c]).length : Int) + 1) (h2.app [.lst (cs.map fun c => .str [c])]) (by omega) (by omega) (by unfold Bd; rw [List.length_map]; omega)
    obtain ⟨S4, rfl, d4⟩ := d3.app h2.lt
    have h4 := h2.draws d4
    obtain ⟨y, S5, e5, d5, d, hd, rfl⟩ := pick_str (z := signs) (h4.app [.lst (cs.map fun c => .str [c])]) (by omega) (by decide) (by decide)
    obtain ⟨S6, rfl, d6⟩ := d5.app h4.lt
    have d7 := ((d2.trans d4).trans d6)
    have l7 := d7.len
    rw [List.length_map] at r1
    refine ⟨cs.take r.toNat ++ [d] ++ cs.drop r.toNat, S6, ?_, d7.mono (by omega), by simp; omega⟩
    have q : leaveV S (S6 ++ [.lst ((cs.take r.toNat ++ [d] ++ cs.drop r.toNat).map fun c => .str [c])]) (.str (cs.take r.toNat ++ [d] ++ cs.drop r.toNat)) = .ok (.str (cs.take r.toNat ++ [d] ++ cs.drop r.toNat)) S6 := by
      rw [leaveV_cl (keeps_app _ d7.keeps) (by simp [Cl]), ← l7, List.take_left]
    have j := join_ok (S := S6 ++ [.lst ((cs.take r.toNat ++ [d] ++ cs.drop r.toNat).map fun c => .str [c])]) (l := S.length) (cs := cs.take r.toNat ++ [d] ++ cs.drop r.toNat) (by rw [← l7]; exact hg _ _) (by simp; omega)
    have g2 : (S2 ++ [MO.lst (cs.map fun c => .str [c])])[S.length]? = some (.lst (cs.map fun c => .str [c])) := by rw [← d2.len]; exact hg _ _
    have g6 : (S6 ++ [MO.lst (cs.map fun c => .str [c])])[S.length]? = some (.lst (cs.map fun c => .str [c])) := by rw [← l7]; exact hg _ _
    have s6 : ∀ o, (S6 ++ [MO.lst (cs.map fun c => .str [c])]).set S.length o = S6 ++ [o] := fun o => by rw [← l7]; simp
    have c1 : (cs.map fun c => MV.str [c]).length < sizeLine ∧ 0 ≤ r ∧ r < 2 ^ 63 := by rw [List.length_map]; unfold sizeLine; omega
    unfold m_law_thing mDef b_law_thing
    simp (decide := true) only [env0, sRet, sBind, sSeq, sIf, sSet, sSub, sNext, sRetN, sDrop, mLst, mTup, mCons, mB, mBin, mV, mC, mNil, mCall, asB, asT, bind_ok, List.map_cons, List.map_nil, List.length_cons, List.length_nil, List.cons_append, List.nil_append, List.append_nil, List.getElem?_cons_zero, List.getElem?_cons_succ, List.set_cons_zero, List.set_cons_succ, List.replicate_zero, List.replicate_succ, List.replicate_one, if_true, if_false, Bool.false_eq_true, Nat.reduceSub, Nat.reduceAdd, Nat.sub_self, fEq_int, reduceIte, e2, mBM, tyM, asL, g2, Option.isSome_some, Bool.and_true, fLen, lenM, asSq, asU, fAdd, e3, signs_ok, e5, fInsert, onL, g6, if_pos c1, s6, ins_ones, j, q]
/-! ### is_name and the law's own test -/
def isAbc (c : Nat) : Bool := decide (97 ≤ c ∧ c ≤ 122)
theorem abc_iff (c : Nat) : decide (c ∈ abc) = isAbc c := by
  unfold isAbc abc
  simp only [List.mem_cons, List.not_mem_nil, or_false, decide_eq_decide]
  omega
theorem boolsOf_map (f : Nat → Bool) : ∀ z : List Nat, boolsOf (z.map fun c => MV.bl (f c)) = some (z.map f)
  | [] => rfl
  | c :: r => by simp only [List.map_cons, boolsOf, boolsOf_map f r, Option.map_some]
theorem clL_bools (n : Nat) (f : Nat → Bool) : ∀ z : List Nat, ClL n (z.map fun c => MV.bl (f c))
  | [] => by simp only [List.map_nil, ClL]
  | c :: r => by simp only [List.map_cons, ClL]; exact ⟨by simp only [Cl], clL_bools n f r⟩
def codeOf : MV → Nat
  | .str [c] => c
  | _ => 0
theorem is_name_str (z : List Nat) (S : Sto) (hz : z.length ≤ 2 ^ 20) : m_is_name [.str z] S = .ok (.bl (decide (1 ≤ z.length ∧ z.length ≤ 8) && z.all isAbc)) S := by
  have q : ∀ b : Bool, leaveV S S (.bl b) = .ok (.bl b) S := fun b => by rw [leaveV_cl (keeps_refl S) (by simp [Cl]), List.take_length]
  have hz2 : z.length ≤ sizeLine := by unfold sizeLine; omega
  have hc : b_is_name_c1 [some (.str z), none] S = .ok (.lst (z.map fun c => .bl (isAbc c))) S := by
    have w := mComp_pure (mu := false) (mi := mItT (mV 0)) (vs := [1]) (g := gN 1) (c := mYes) (e := mBin fIn (mV 1) (mC (.str [97, 98, 99, 100, 101, 102, 103, 104, 105, 106, 107, 108, 109, 110, 111, 112, 113, 114, 115, 116, 117, 118, 119, 120, 121, 122]))) (env := [some (.str z), none]) (S := S) (t := ⟨z.map fun c => .str [c], []⟩) (p := fun _ => true) (F := fun v => .bl (isAbc (codeOf v)))
      (by simp only [env0, sRet, sBind, sSeq, sIf, sSet, sSub, sNext, sRetN, sDrop, mLst, mTup, mCons, mB, mBin, mV, mC, mNil, mCall, asB, asT, bind_ok, List.map_cons, List.map_nil, List.length_cons, List.length_nil, List.cons_append, List.nil_append, List.append_nil, List.getElem?_cons_zero, List.getElem?_cons_succ, List.set_cons_zero, List.set_cons_succ, List.replicate_zero, List.replicate_succ, List.replicate_one, if_true, if_false, Bool.false_eq_true, Nat.reduceSub, Nat.reduceAdd, Nat.sub_self, mItT]) (fun acc => chk_nil rfl _) (by
        intro v hv
        obtain ⟨c, _, rfl⟩ := List.mem_map.mp hv
        refine ⟨_, rfl, fun acc => ⟨rfl, fun _ => ?_⟩⟩
        have := abc_iff c
        unfold abc at this
        simp (decide := true) only [env0, sRet, sBind, sSeq, sIf, sSet, sSub, sNext, sRetN, sDrop, mLst, mTup, mCons, mB, mBin, mV, mC, mNil, mCall, asB, asT, bind_ok, List.map_cons, List.map_nil, List.length_cons, List.length_nil, List.cons_append, List.nil_append, List.append_nil, List.getElem?_cons_zero, List.getElem?_cons_succ, List.set_cons_zero, List.set_cons_succ, List.replicate_zero, List.replicate_succ, List.replicate_one, if_true, if_false, Bool.false_eq_true, Nat.reduceSub, Nat.reduceAdd, Nat.sub_self, wipeE, fIn, isIn, codeOf, this]) (by simpa using hz2) (by
        rw [List.filter_eq_self.mpr (by simp), List.map_map]
        exact clL_bools _ _ z)
    unfold b_is_name_c1
    rw [w]
    simp only [Bool.false_eq_true, if_false]
    rw [List.filter_eq_self.mpr (by simp), List.map_map]
    rfl
  unfold m_is_name mDef b_is_name
  by_cases h : 1 ≤ z.length ∧ z.length ≤ 8
  · have h1 : (1 : Int) ≤ (z.length : Int) := by omega
    have h2 : (z.length : Int) ≤ 8 := by omega
    simp (decide := true) only [env0, sRet, sBind, sSeq, sIf, sSet, sSub, sNext, sRetN, sDrop, mLst, mTup, mCons, mB, mBin, mV, mC, mNil, mCall, asB, asT, bind_ok, List.map_cons, List.map_nil, List.length_cons, List.length_nil, List.cons_append, List.nil_append, List.append_nil, List.getElem?_cons_zero, List.getElem?_cons_succ, List.set_cons_zero, List.set_cons_succ, List.replicate_zero, List.replicate_succ, List.replicate_one, if_true, if_false, Bool.false_eq_true, Nat.reduceSub, Nat.reduceAdd, Nat.sub_self, mOrB, mNotB, fIsi, tyName, isiB, tru, mChain, fLe, fLen, lenM, if_pos hz2, h1, h2, decide_true, reduceIte, hc, fAll, asL, Option.bind_some, boolsOf_map, q, h, and_self, Bool.true_and, List.all_map, Function.comp_def, id]
  · by_cases h1 : 1 ≤ z.length
    · have h1' : (1 : Int) ≤ (z.length : Int) := by omega
      have h2 : ¬ (z.length : Int) ≤ 8 := by omega
      simp (decide := true) only [env0, sRet, sBind, sSeq, sIf, sSet, sSub, sNext, sRetN, sDrop, mLst, mTup, mCons, mB, mBin, mV, mC, mNil, mCall, asB, asT, bind_ok, List.map_cons, List.map_nil, List.length_cons, List.length_nil, List.cons_append, List.nil_append, List.append_nil, List.getElem?_cons_zero, List.getElem?_cons_succ, List.set_cons_zero, List.set_cons_succ, List.replicate_zero, List.replicate_succ, List.replicate_one, if_true, if_false, Bool.false_eq_true, Nat.reduceSub, Nat.reduceAdd, Nat.sub_self, mOrB, mNotB, fIsi, tyName, isiB, tru, mChain, fLe, fLen, lenM, if_pos hz2, h1', h2, decide_true, decide_false, reduceIte, q, h, Bool.false_and, Bool.not_true, Bool.not_false]
    · have h1' : ¬ (1 : Int) ≤ (z.length : Int) := by omega
      simp (decide := true) only [env0, sRet, sBind, sSeq, sIf, sSet, sSub, sNext, sRetN, sDrop, mLst, mTup, mCons, mB, mBin, mV, mC, mNil, mCall, asB, asT, bind_ok, List.map_cons, List.map_nil, List.length_cons, List.length_nil, List.cons_append, List.nil_append, List.append_nil, List.getElem?_cons_zero, List.getElem?_cons_succ, List.set_cons_zero, List.set_cons_succ, List.replicate_zero, List.replicate_succ, List.replicate_one, if_true, if_false, Bool.false_eq_true, Nat.reduceSub, Nat.reduceAdd, Nat.sub_self, mOrB, mNotB, fIsi, tyName, isiB, tru, mChain, fLe, fLen, lenM, if_pos hz2, h1', decide_true, decide_false, reduceIte, q, h, Bool.false_and, Bool.not_true, Bool.not_false]
theorem is_name_dull (v : MV) (S : Sto) (h : Dull v) : m_is_name [v] S = .ok (.bl false) S := by
  have q : ∀ b : Bool, leaveV S S (.bl b) = .ok (.bl b) S := fun b => by rw [leaveV_cl (keeps_refl S) (by simp [Cl]), List.take_length]
  unfold Dull at h
  simp only [List.mem_cons, List.not_mem_nil, or_false] at h
  unfold m_is_name mDef b_is_name
  rcases h with rfl | rfl | rfl | rfl | rfl | rfl | rfl | rfl <;> simp (decide := true) only [env0, sRet, sBind, sSeq, sIf, sSet, sSub, sNext, sRetN, sDrop, mLst, mTup, mCons, mB, mBin, mV, mC, mNil, mCall, asB, asT, bind_ok, List.map_cons, List.map_nil, List.length_cons, List.length_nil, List.cons_append, List.nil_append, List.append_nil, List.getElem?_cons_zero, List.getElem?_cons_succ, List.set_cons_zero, List.set_cons_succ, List.replicate_zero, List.replicate_succ, List.replicate_one, if_true, if_false, Bool.false_eq_true, Nat.reduceSub, Nat.reduceAdd, Nat.sub_self, mOrB, mNotB, fIsi, tyName, isiB, tru, reduceIte, q]
theorem small_ok (z : List Nat) (S : Sto) (hz : z.length ≤ 2 ^ 20) {x0 x1 x2 x3 x4 x6 x7 x8 : Option MV} : b_law_c1 [x0, x1, x2, x3, x4, some (.str z), x6, x7, x8] S = .ok (.lst ((z.filter isAbc).map fun c => .str [c])) S := by
  have hz2 : z.length ≤ sizeLine := by unfold sizeLine; omega
  unfold b_law_c1
  have w := mComp_pure (mu := false) (mi := mItT (mV 5)) (vs := [8]) (g := gN 8) (c := asB (mChain fLe fLe (mC (.str [97])) (mV 8) (mC (.str [122])))) (e := mV 8) (env := [x0, x1, x2, x3, x4, some (.str z), x6, x7, x8]) (S := S) (t := ⟨z.map fun c => .str [c], []⟩) (p := fun v => isAbc (codeOf v)) (F := fun v => v)
      (by simp only [env0, sRet, sBind, sSeq, sIf, sSet, sSub, sNext, sRetN, sDrop, mLst, mTup, mCons, mB, mBin, mV, mC, mNil, mCall, asB, asT, bind_ok, List.map_cons, List.map_nil, List.length_cons, List.length_nil, List.cons_append, List.nil_append, List.append_nil, List.getElem?_cons_zero, List.getElem?_cons_succ, List.set_cons_zero, List.set_cons_succ, List.replicate_zero, List.replicate_succ, List.replicate_one, if_true, if_false, Bool.false_eq_true, Nat.reduceSub, Nat.reduceAdd, Nat.sub_self, mItT]) (fun acc => chk_nil rfl _) (by
        intro v hv
        obtain ⟨c, _, rfl⟩ := List.mem_map.mp hv
        refine ⟨_, rfl, fun acc => ⟨?_, fun _ => ?_⟩⟩
        · simp only [env0, sRet, sBind, sSeq, sIf, sSet, sSub, sNext, sRetN, sDrop, mLst, mTup, mCons, mB, mBin, mV, mC, mNil, mCall, asB, asT, bind_ok, List.map_cons, List.map_nil, List.length_cons, List.length_nil, List.cons_append, List.nil_append, List.append_nil, List.getElem?_cons_zero, List.getElem?_cons_succ, List.set_cons_zero, List.set_cons_succ, List.replicate_zero, List.replicate_succ, List.replicate_one, if_true, if_false, Bool.false_eq_true, Nat.reduceSub, Nat.reduceAdd, Nat.sub_self, wipeE, mChain, fLe, lt1, codeOf, isAbc]
          by_cases h1 : c < 97
          · have : ¬ (97 ≤ c ∧ c ≤ 122) := by omega
            simp only [h1, this, decide_true, decide_false, Bool.not_true, Bool.not_false]
            try rfl
          · by_cases h2 : 122 < c
            · have : ¬ (97 ≤ c ∧ c ≤ 122) := by omega
              simp only [h1, h2, this, decide_true, decide_false, Bool.not_true, Bool.not_false]
              try rfl
            · have : 97 ≤ c ∧ c ≤ 122 := by omega
              simp only [h1, h2, this, decide_true, decide_false, Bool.not_true, Bool.not_false, and_self]
              try rfl
        · simp only [env0, sRet, sBind, sSeq, sIf, sSet, sSub, sNext, sRetN, sDrop, mLst, mTup, mCons, mB, mBin, mV, mC, mNil, mCall, asB, asT, bind_ok, List.map_cons, List.map_nil, List.length_cons, List.length_nil, List.cons_append, List.nil_append, List.append_nil, List.getElem?_cons_zero, List.getElem?_cons_succ, List.set_cons_zero, List.set_cons_succ, List.replicate_zero, List.replicate_succ, List.replicate_one, if_true, if_false, Bool.false_eq_true, Nat.reduceSub, Nat.reduceAdd, Nat.sub_self, wipeE]) (by simpa using hz2) (by
        have : ∀ xs : List MV, (∀ x ∈ xs, ∃ c, x = .str [c]) → ClL S.length xs := by
          intro xs
          induction xs with
          | nil => intro _; simp only [ClL]
          | cons a r ih => intro h; obtain ⟨c, rfl⟩ := h a (by simp); simp only [ClL]; exact ⟨by simp only [Cl], ih fun x hx => h x (List.mem_cons_of_mem _ hx)⟩
        refine this _ fun x hx => ?_
        simp only [List.map_id'] at hx
        obtain ⟨c, _, rfl⟩ := List.mem_map.mp (List.mem_filter.mp hx).1
        exact ⟨c, rfl⟩)
  rw [w]
  simp only [Bool.false_eq_true, if_false, List.map_id', List.filter_map]
  rfl
theorem all_iff_len (p : Nat → Bool) (z : List Nat) : decide (((z.filter p).length : Int) = (z.length : Int)) = z.all p := by
  have h := List.length_filter_le p z
  by_cases e : (z.filter p).length = z.length
  · rw [decide_eq_true (by omega)]
    have := List.length_filter_eq_length_iff.mp e
    exact (List.all_eq_true.mpr this).symm
  · rw [decide_eq_false (by omega)]
    symm
    rw [Bool.eq_false_iff]
    intro h2
    exact e (List.length_filter_eq_length_iff.mpr (List.all_eq_true.mp h2))
theorem turn_ok {i c : Int} (hi : Bd i 60) {x0 x3 x4 x5 x6 x7 x8 : Option MV} (S : Sto) : NxP (fun e _ => e.length = 9) (b_law_l1 [x0, some (.int i), some (.int c), x3, x4, x5, x6, x7, x8] S) := by
  have hb := begun_ok c i S hi
  have h0 : HasDr S.length 0 (S ++ [dr (if c - 10 ^ 18 > 0 then c - 10 ^ 18 else 0) (c + 977 * i) 0]) := ⟨(if c - 10 ^ 18 > 0 then c - 10 ^ 18 else 0), c + 977 * i, 0, by simp, by omega, by omega⟩
  obtain ⟨v, S1, e1, d1, m1⟩ := pick_lst (xs := [.int 0, .int 0, .int 1, .int 1, .int 2]) h0 (by decide) (by simp) (by decide) (by simp [ClL, Cl])
  have h1 := h0.draws d1
  have texts : ∀ sp : Int, sp = 0 ∨ sp = 1 → v = .int sp → NxP (fun e _ => e.length = 9) (b_law_l1 [x0, some (.int i), some (.int c), x3, x4, x5, x6, x7, x8] S) := by
    rintro sp hs rfl
    obtain ⟨z, S2, e2, d2, l2⟩ := thing01_ok h1 (by decide) hs
    have hz2 : z.length ≤ sizeLine := by unfold sizeLine; omega
    have e3 := is_name_str z S2 (by omega)
    have hc1 : ∀ {x0 x1 x2 x3 x4 x6 x7 x8 : Option MV}, b_law_c1 [x0, x1, x2, x3, x4, some (.str z), x6, x7, x8] S2 = .ok (.lst ((z.filter isAbc).map fun c => .str [c])) S2 := small_ok z S2 (by omega)
    by_cases g1 : 0 < z.length
    · by_cases g2 : z.length < 9
      · have k1 : (0 : Int) < (z.length : Int) := by omega
        have k2 : (z.length : Int) < 9 := by omega
        have k3 : 1 ≤ z.length ∧ z.length ≤ 8 := by omega
        have k4 := all_iff_len isAbc z
        unfold b_law_l1
        simp (decide := true) only [env0, sRet, sBind, sSeq, sIf, sSet, sSub, sNext, sRetN, sDrop, mLst, mTup, mCons, mB, mBin, mV, mC, mNil, mCall, asB, asT, bind_ok, List.map_cons, List.map_nil, List.length_cons, List.length_nil, List.cons_append, List.nil_append, List.append_nil, List.getElem?_cons_zero, List.getElem?_cons_succ, List.set_cons_zero, List.set_cons_succ, List.replicate_zero, List.replicate_succ, List.replicate_one, if_true, if_false, Bool.false_eq_true, Nat.reduceSub, Nat.reduceAdd, Nat.sub_self, hb, mkL, reduceIte, e1, e2, mAndT, fIsi, tyName, isiB, tru, mChain, fLt, fLen, lenM, if_pos hz2, k1, k2, decide_true, hc1, asSq, asU, asL, List.length_map, fEq_int, k4, e3, k3, and_self, Bool.true_and, mOrB, mNotB, fNe_bl, Bool.not_true, Bool.not_false]
        rfl
      · have k1 : (0 : Int) < (z.length : Int) := by omega
        have k2 : ¬ (z.length : Int) < 9 := by omega
        have k3 : ¬ (1 ≤ z.length ∧ z.length ≤ 8) := by omega
        unfold b_law_l1
        simp (decide := true) only [env0, sRet, sBind, sSeq, sIf, sSet, sSub, sNext, sRetN, sDrop, mLst, mTup, mCons, mB, mBin, mV, mC, mNil, mCall, asB, asT, bind_ok, List.map_cons, List.map_nil, List.length_cons, List.length_nil, List.cons_append, List.nil_append, List.append_nil, List.getElem?_cons_zero, List.getElem?_cons_succ, List.set_cons_zero, List.set_cons_succ, List.replicate_zero, List.replicate_succ, List.replicate_one, if_true, if_false, Bool.false_eq_true, Nat.reduceSub, Nat.reduceAdd, Nat.sub_self, hb, mkL, reduceIte, e1, e2, mAndT, fIsi, tyName, isiB, tru, mChain, fLt, fLen, lenM, if_pos hz2, k1, k2, decide_true, decide_false, e3, k3, Bool.false_and, mOrB, mNotB, fNe_bl, Bool.not_true, Bool.not_false]
        rfl
    · have k1 : ¬ (0 : Int) < (z.length : Int) := by omega
      have k3 : ¬ (1 ≤ z.length ∧ z.length ≤ 8) := by omega
      unfold b_law_l1
      simp (decide := true) only [env0, sRet, sBind, sSeq, sIf, sSet, sSub, sNext, sRetN, sDrop, mLst, mTup, mCons, mB, mBin, mV, mC, mNil, mCall, asB, asT, bind_ok, List.map_cons, List.map_nil, List.length_cons, List.length_nil, List.cons_append, List.nil_append, List.append_nil, List.getElem?_cons_zero, List.getElem?_cons_succ, List.set_cons_zero, List.set_cons_succ, List.replicate_zero, List.replicate_succ, List.replicate_one, if_true, if_false, Bool.false_eq_true, Nat.reduceSub, Nat.reduceAdd, Nat.sub_self, hb, mkL, reduceIte, e1, e2, mAndT, fIsi, tyName, isiB, tru, mChain, fLt, fLen, lenM, if_pos hz2, k1, decide_true, decide_false, e3, k3, Bool.false_and, mOrB, mNotB, fNe_bl, Bool.not_true, Bool.not_false]
      rfl
  simp only [List.mem_cons, List.not_mem_nil, or_false] at m1
  rcases m1 with rfl | rfl | rfl | rfl | rfl
  · exact texts 0 (.inl rfl) rfl
  · exact texts 0 (.inl rfl) rfl
  · exact texts 1 (.inr rfl) rfl
  · exact texts 1 (.inr rfl) rfl
  · obtain ⟨v, S2, e2, d2, dv⟩ := thing2_ok h1 (by decide)
    have e3 := is_name_dull v S2 dv
    have f1 : fIsi [v, .ty "str"] S2 = .ok (.bl false) S2 := by
      unfold Dull at dv
      simp only [List.mem_cons, List.not_mem_nil, or_false] at dv
      rcases dv with rfl | rfl | rfl | rfl | rfl | rfl | rfl | rfl <;> rfl
    have f2 : fIsi [.bl false, .ty "bool"] S2 = .ok (.bl true) S2 := rfl
    unfold b_law_l1
    simp (decide := true) only [env0, sRet, sBind, sSeq, sIf, sSet, sSub, sNext, sRetN, sDrop, mLst, mTup, mCons, mB, mBin, mV, mC, mNil, mCall, asB, asT, bind_ok, List.map_cons, List.map_nil, List.length_cons, List.length_nil, List.cons_append, List.nil_append, List.append_nil, List.getElem?_cons_zero, List.getElem?_cons_succ, List.set_cons_zero, List.set_cons_succ, List.replicate_zero, List.replicate_succ, List.replicate_one, if_true, if_false, Bool.false_eq_true, Nat.reduceSub, Nat.reduceAdd, Nat.sub_self, hb, mkL, reduceIte, e1, e2, mAndT, f1, f2, tru, e3, mOrB, mNotB, fNe_bl, Bool.not_true, Bool.not_false]
    rfl
theorem law_true (ns : List Int) (hn : ns.length ≤ 63) : ∃ S, m_law [.rol (ns.map MV.int)] [] = .ok (.bl true) S := by
  refine ⟨[], ?_⟩
  have hh := head_ok (ns := ns) (d := [5]) (k := 30) (env := env0 9 [.rol (ns.map MV.int)]) (S := []) (a := mLst false (mCons (mC (.int 5)) mNil)) rfl (by
    simp (decide := true) only [env0, sRet, sBind, sSeq, sIf, sSet, sSub, sNext, sRetN, sDrop, mLst, mTup, mCons, mB, mBin, mV, mC, mNil, mCall, asB, asT, bind_ok, List.map_cons, List.map_nil, List.length_cons, List.length_nil, List.cons_append, List.nil_append, List.append_nil, List.getElem?_cons_zero, List.getElem?_cons_succ, List.set_cons_zero, List.set_cons_succ, List.replicate_zero, List.replicate_succ, List.replicate_one, if_true, if_false, Bool.false_eq_true, Nat.reduceSub, Nat.reduceAdd, Nat.sub_self, mkL, sizeLine, reduceIte])
  obtain ⟨ys, hy, hl⟩ : ∃ ys : List Int, ((if ns = [] then [5] else ns).take 30) = ys ∧ ys.length ≤ 30 := ⟨_, rfl, by rw [List.length_take]; omega⟩
  rw [hy] at hh
  replace hh : mSl false (mOrT (mV 0) (mLst false (mCons (mC (.int 5)) mNil))) mNoPart (mPart (mC (.int 30))) (env0 9 [.rol (ns.map MV.int)]) [] = .ok (.lst (ys.map MV.int)) [] := hh
  obtain ⟨e2, S2, h1, h2⟩ := forL_inv (t := ⟨enuL (ys.map MV.int), []⟩) (g := gT 2 (gCs (gN 1) (gCs (gN 2) gNl))) (mb := b_law_l1) rfl (fun _ env _ => env.length = 9) (enuL (ys.map MV.int)) 0 (env0 9 [.rol (ns.map MV.int)]) [] rfl (by
    intro j v hv env S hE
    obtain ⟨x0, x1, x2, x3, x4, x5, x6, x7, x8, rfl⟩ := env9 hE
    obtain ⟨x, hx, rfl⟩ := enu_at hv
    obtain ⟨hj, c, rfl⟩ := ints_at hx
    exact ⟨_, rfl, (turn_ok (i := (j : Int)) (c := c) (x0 := x0) (x3 := x3) (x4 := x4) (x5 := x5) (x6 := x6) (x7 := x7) (x8 := x8) (by unfold Bd; omega) S).ex⟩)
  unfold m_law mDef b_law
  have hi : mItE (mCons (mSl false (mOrT (mV 0) (mLst false (mCons (mC (.int 5)) mNil))) mNoPart (mPart (mC (.int 30)))) mNil) (env0 9 [.rol (ns.map MV.int)]) [] = .ok ⟨enuL (ys.map MV.int), []⟩ [] := by
    simp only [mItE, mCons, mNil, hh, bind_ok, asL, depsOf]
  simp only [sSeq, sFor, hi, sBind, h1, sRet, mC, leave_top]
end K13
end Mi

open PySem PySem.W PyProof.Rows in
set_option maxRecDepth 100000 in
set_option maxHeartbeats 0 in
theorem PySem.Challenge.cw_underrows_k13_names_holds : PySem.Challenge.rw_underrows_k13_names.Holds := by
  w_on; o_law; k_head; (case hw => w_witness2)
  k_fill
  refine Mi.law_walk (l := PySem.Challenge.rw_underrows_k13_names) (k := 4) (x := "_law_script") rfl rfl ⟨rfl, by decide, by decide⟩ (fun w h Y => PySem.W.kIn_of Y) Mi.K13.law_true ?F
  case F =>
    intro w mg fa h KX G hmg
    refine' Mi.K13.all_mk KX G hmg ?a0 ?l0 ?c0 ?k0 ?a1 ?l1 ?c1 ?k1 ?a2 ?l2 ?c2 ?k2 ?a3 ?l3 ?c3 ?k3 ?a4 ?l4 ?c4 ?k4 ?a5 ?l5 ?c5 ?k5 ?a6 ?l6 ?c6 ?k6 ?zmax ?zlen ?zrange ?zstr ?zisinstance ?zall ?zenumerate ?zbool
    (case a0 => k_is)
    (case l0 => k_is)
    (case c0 => k_is)
    (case k0 => k_is)
    (case a1 => k_is)
    (case l1 => k_is)
    (case c1 => k_is)
    (case k1 => k_is)
    (case a2 => k_is)
    (case l2 => k_is)
    (case c2 => k_is)
    (case k2 => k_is)
    (case a3 => k_is)
    (case l3 => k_is)
    (case c3 => k_is)
    (case k3 => k_is)
    (case a4 => k_is)
    (case l4 => k_is)
    (case c4 => k_is)
    (case k4 => k_is)
    (case a5 => k_is)
    (case l5 => k_is)
    (case c5 => k_is)
    (case k5 => k_is)
    (case a6 => k_is)
    (case l6 => k_is)
    (case c6 => k_is)
    (case k6 => k_is)
    (case zmax => k_is)
    (case zlen => k_is)
    (case zrange => k_is)
    (case zstr => k_is)
    (case zisinstance => k_is)
    (case zall => k_is)
    (case zenumerate => k_is)
    (case zbool => k_is)

