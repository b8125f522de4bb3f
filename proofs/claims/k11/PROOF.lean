import PyProof.Rows.All
import Wide.All
import OpenK.AllK
import Wide.FinOn
import PyProof.EqAt
import PyProof.EqKinds
import PyProof.TupleCall
import HandS.ForMost
import HandS.Dict
import HandS.Nested
import HandS.Lambda
import HandS.ForExc
import HandS.Walk
import HandS.IsInst
import HandS.Zip
import HandS.Rev
import HandS.Flow
import HandS.Wide
import HandS.Conv
import HandS.TupAny
import HandS.Deep
import KE.KEqDict
import HandS.More
import HandS.Strs
import HandS.Style
import HandS.Defaults
import HandS.ExcInit
import HandS.ExcOwn
import HandS.ExcField
import HandS.RaiseMore
import KE.KExcIs
import HandS.ExcIs
import HandS.TryMany
import HandS.DictEq
import PyProof.FactsAll.dict_1
import PyProof.FactsAll.subtypes_3
import PyProof.FactsAll.subtypes_4
import HandS.FStr
import PyProof.CallFns
import PyProof.CallStr
import HandS.Iter
import HandS.EndOwn
import KE.GoesMore
import KE.GoesEnum
import KE.DatumOrd
import HandS.DictSub
import HandS.SortKw
import HandS.TupMul
import HandS.SetFor
import HandS.Flt
import KE.KEqNest
import HandS.ListItems
import HandS.Finally
import HandS.Replace
import HandS.MakeKwOnly
import HandS.MakeKw
import PySem.Challenge.RW_underrows_k11_gears_told
set_option Elab.async false
set_option linter.all false
set_option maxRecDepth 100000
set_option maxHeartbeats 4000000
open_top head_of_row for PySem.Challenge.rw_underrows_k11_gears_told
namespace Mi
open PySem PySem.Spec PyProof.Rows L2
open Sem (wp)
abbrev KI := Key ⊕ List Key
abbrev NK := List KI
section
variable {prog : Program} {w : World}
def NItem (prog : Program) (w : World) (h : Heap) : KI → Value → Prop
  | .inl k, v => keyIs k v = true
  | .inr l, v => ∃ b, v = .ref b ∧ IsTupleKey (mixKind prog w) h l b
inductive NItems (prog : Program) (w : World) (h : Heap) : NK → List Value → Prop
  | nil : NItems prog w h [] []
  | cons {k : KI} {v : Value} {ks : NK} {vs : List Value} : NItem prog w h k v → NItems prog w h ks vs → NItems prog w h (k :: ks) (v :: vs)
def IsNKey (prog : Program) (w : World) (h : Heap) (ks : NK) (a : Addr) : Prop := ∃ o items n, h.get? a = some o ∧ o.cls = .type "tuple" ∧ o.data = .seq items n ∧ NItems prog w h ks items.toList
def iHash (w : World) : KI → Int
  | .inl k => keyH w k
  | .inr l => reduceHash (Builtin.Tuple.tupleHashOf (l.map (keyH w)))
def nHash (w : World) (ks : NK) : Int := reduceHash (Builtin.Tuple.tupleHashOf (ks.map (iHash w)))
theorem NItem.inj {h : Heap} {k l : KI} {v : Value} (a : NItem prog w h k v) (b : NItem prog w h l v) : k = l := by
  cases k with
  | inl k =>
    cases l with
    | inl l => exact congrArg _ ((mixKind prog w).inj v k l a b)
    | inr l =>
      obtain ⟨c, rfl, _⟩ := b
      exact nomatch (mixKind prog w).byValue k _ a
  | inr k =>
    obtain ⟨c, rfl, ha⟩ := a
    cases l with
    | inl l => exact nomatch (mixKind prog w).byValue l _ b
    | inr l =>
      obtain ⟨c', e, hb⟩ := b
      cases e
      rw [ha.inj hb]
theorem NItems.inj {h : Heap} {x y : NK} {vs : List Value} (hx : NItems prog w h x vs) (hy : NItems prog w h y vs) : x = y := by
  induction hx generalizing y with
  | nil => cases hy; rfl
  | cons h1 _ ih =>
    cases hy with
    | cons h2 t2 => rw [h1.inj h2, ih t2]
theorem IsNKey.inj {h : Heap} {a : Addr} {x y : NK} (hx : IsNKey prog w h x a) (hy : IsNKey prog w h y a) : x = y := by
  obtain ⟨o, items, n, ho, _, hd, hi⟩ := hx
  obtain ⟨o', items', n', ho', _, hd', hi'⟩ := hy
  obtain rfl : o = o' := Option.some.inj (ho.symm.trans ho')
  rw [hd] at hd'
  injection hd' with h1 _
  subst h1
  exact hi.inj hi'
theorem NItem.keeps {h h' : Heap} {k : KI} {v : Value} {d : Addr} {o : Obj} {es ep} (x : NItem prog w h k v) (ho : h.get? d = some o) (hd : o.data = .dict es ep) (hs : Heap.SameBut d h h') : NItem prog w h' k v := by
  cases k with
  | inl k => exact x
  | inr l => obtain ⟨b, rfl, hb⟩ := x; exact ⟨b, rfl, hb.keeps ho hd hs⟩
theorem NItems.keeps {h h' : Heap} {ks : NK} {vs : List Value} {d : Addr} {o : Obj} {es ep} (x : NItems prog w h ks vs) (ho : h.get? d = some o) (hd : o.data = .dict es ep) (hs : Heap.SameBut d h h') : NItems prog w h' ks vs := by
  induction x with
  | nil => exact .nil
  | cons h1 _ ih => exact .cons (h1.keeps ho hd hs) ih
theorem IsNKey.keeps {h h' : Heap} {ks : NK} {a d : Addr} {o : Obj} {es ep} (x : IsNKey prog w h ks a) (ho : h.get? d = some o) (hd : o.data = .dict es ep) (hs : Heap.SameBut d h h') : IsNKey prog w h' ks a := by
  obtain ⟨o', items, n, ho', hc, hd', hi⟩ := x
  have hne : a ≠ d := by
    rintro rfl
    obtain rfl : o' = o := Option.some.inj (ho'.symm.trans ho)
    rw [hd] at hd'; exact nomatch hd'
  exact ⟨o', items, n, (hs.2 a hne).trans ho', hc, hd', hi.keeps ho hd hs⟩
theorem IsNKey.typeIs {s : Shared} {ks : NK} {a : Addr} (x : IsNKey prog w s.heap ks a) : s.TypeIs (.ref a) "tuple" := let ⟨o, _, _, ho, hc, _⟩ := x; ⟨o, ho, hc⟩
variable {A : Around} {E : Value → Shared → Prop} {s : Shared}
end
/-- a dict with such keys: its entries, each with its key's place -/
def TDO (w : World) (a : Addr) (kx : List (NK × Addr × V)) : HO := .ext fun h => kx.length ≤ sizeLine ∧ (a == sysModules) = false ∧ (kx.map (·.1)).Nodup ∧ ∃ xs : List (NK × Addr × Value),
  Paired (fun (p : NK × Addr × V) (q : NK × Addr × Value) => p.1 = q.1 ∧ p.2.1 = q.2.1 ∧ RelV p.2.2 q.2.2) kx xs ∧
  ∃ o es ep, h.get? a = some o ∧ o.ExactDict ∧ o.data = .dict es ep ∧ es.toList = xs.map fun x => (⟨nHash w x.1, .ref x.2.1, x.2.2⟩ : DictEntry)
/-- a cell that holds v -/
def CellO (a : Addr) (v : V) : HO := .ext fun h => ∃ u, RelV v u ∧ h.IsCell a (some u)
end Mi
namespace Mi
open PySem L2 LamX
inductive MV where
  | non | bl (b : Bool) | int (i : Int) | str (s : List Nat) | ty (n : String)
  | tup (xs : List MV) | lst (xs : List MV) | rol (xs : List MV) | dic (kvs : List (MV × MV))
  | ins (c : Nat) (fs : List (Str × MV)) | ref (l : Nat) | fn (g : Nat) | clo (g : Nat) (cs : List MV)
  deriving Inhabited
inductive MO where
  | lst (xs : List MV) | dic (kvs : List (MV × MV)) | ins (c : Nat) (fs : List (Str × MV))
  | td (kvs : List (MV × MV)) | tb (t : Nat)
  deriving Inhabited
abbrev Sto := List MO
abbrev Env := List (Option MV)
structure MX where
  cls : Nat
  fs : List (Str × MV)
inductive Res (α : Type) where
  | ok (a : α) (S : Sto) | ex (x : MX) (S : Sto) | bad
def Res.bind {α β : Type} (r : Res α) (k : α → Sto → Res β) : Res β := match r with
  | .ok a S => k a S
  | .ex x S => .ex x S
  | .bad => .bad
@[simp] theorem bind_ok {α β : Type} (a : α) (S : Sto) (k : α → Sto → Res β) : (Res.ok a S).bind k = k a S := rfl
@[simp] theorem bind_ex {α β : Type} (x : MX) (S : Sto) (k : α → Sto → Res β) : (Res.ex x S).bind k = .ex x S := rfl
@[simp] theorem bind_bad {α β : Type} (k : α → Sto → Res β) : (Res.bad : Res α).bind k = .bad := rfl
inductive SRes where
  | nx (e : Env) (S : Sto) | rt (v : MV) (S : Sto) | bk (e : Env) (S : Sto) | ct (e : Env) (S : Sto) | ex (x : MX) (e : Env) (S : Sto) | bad
/-- a def within a def: its text, its name, where it stands, what it captures -/
structure ND where
  st : Stmt
  nm : Str
  ql : Str
  fr : List Str
/-- what is fixed: the written part, where classes and defs stand -/
structure Ct where
  K : PySem.W.Frag
  cA : Nat → Addr
  fA : Nat → Option Addr
  dx : Option (Addr × List (Str × MV) × List (Str × V))
  w : World
  nd : Nat → ND
  tn : Nat → Addr × (Nat → Nat → Str)
abbrev ND.mk' (d : ND) (cl : List (Str × Addr)) (c : Addr) : NdefX.NF := NdefX.NF.of d.st d.nm d.ql cl c
abbrev Io := List Addr
def KL (K : PySem.W.Frag) (a : Addr) (xs : List V) : Prop :=
  ∃ (o : Obj) (its : Array Value) (n : Nat), K.lookup a = some o ∧ o.cls = .type "list" ∧ o.dict = none ∧ o.data = .seq its n ∧ its.size ≤ sizeLine ∧ Vals xs its.toList
def KT (K : PySem.W.Frag) (a : Addr) (xs : List V) : Prop :=
  ∃ (o : Obj) (its : Array Value) (n : Nat), K.lookup a = some o ∧ o.cls = .type "tuple" ∧ o.data = .seq its n ∧ its.size ≤ sizeLine ∧ Vals xs its.toList
def FL (C : Ct) (ι : Io) (H : Hp) (a : Addr) (xs : List V) : Prop := (a ∉ ι ∧ Rd H a (.lst xs)) ∨ KL C.K a xs
def FT (C : Ct) (ι : Io) (H : Hp) (a : Addr) (xs : List V) : Prop := (a ∉ ι ∧ Rd H a (.tup xs)) ∨ KT C.K a xs
theorem FL.sq {C : Ct} {ι : Io} {H : Hp} {a : Addr} {xs : List V} (h : FL C ι H a xs) : SqL C.K H a xs := h.elim (fun h => .inl h.2) .inr
theorem FT.sq {C : Ct} {ι : Io} {H : Hp} {a : Addr} {xs : List V} (h : FT C ι H a xs) : SqT C.K H a xs := h.elim (fun h => .inl h.2) .inr
/-- a key of a dict -/
def KeyR : MV → Key → Prop
  | .int i, k => k = .inl i
  | .str s, k => k = .inr ⟨s.toArray⟩
  | _, _ => False
def optM {α β : Type} (f : α → Option β) : List α → Option (List β)
  | [] => some []
  | x :: r => match f x, optM f r with
    | some y, some ys => some (y :: ys)
    | _, _ => none
def nkat : MV → Option Key
  | .int i => some (.inl i)
  | .str s => some (.inr ⟨s.toArray⟩)
  | _ => none
def nkit : MV → Option KI
  | .int i => some (.inl (.inl i))
  | .str s => some (.inl (.inr ⟨s.toArray⟩))
  | .tup xs => (optM nkat xs).map .inr
  | _ => none
/-- a tuple as a key -/
def nkey : MV → Option NK
  | .tup xs => optM nkit xs
  | _ => none
/-- the cells that a def has captured -/
structure CelR (ι : Io) (H : Hp) (fr : List Str) (cl : List (Str × Addr)) (vs : List V) : Prop where
  len : vs.length = fr.length
  dom : ∀ y c, cl.lookup y = some c → y ∈ fr ∧ c ∉ ι
  inj : ∀ x y c, cl.lookup x = some c → cl.lookup y = some c → x = y
  has : ∀ (i : Nat) (y : Str), fr[i]? = some y → ∃ c v, cl.lookup y = some c ∧ vs[i]? = some v ∧ H c = some (CellO c v)
mutual
/-- a mirror's value and the value that it stands for -/
def VR (C : Ct) (ι : Io) (H : Hp) : MV → V → Prop
  | .non, v => v = .non
  | .bl b, v => v = .bl b
  | .int i, v => v = .int i
  | .str s, v => v = .str ⟨s.toArray⟩
  | .ty n, v => v = .ty n
  | .tup xs, v => ∃ a vs, v = .ref a ∧ FT C ι H a vs ∧ VRs C ι H xs vs
  | .lst xs, v => ∃ a vs, v = .ref a ∧ a ∉ ι ∧ H a = some (.lst vs) ∧ VRs C ι H xs vs
  | .rol xs, v => ∃ a vs, v = .ref a ∧ FL C ι H a vs ∧ VRs C ι H xs vs
  | .dic kvs, v => ∃ a kx, v = .ref a ∧ a ∉ ι ∧ Rd H a (.dK kx) ∧ KRs C ι H kvs kx
  | .ins c fs, v => ∃ a dx fx, v = .ref a ∧ a ∉ ι ∧ H a = some (.ins (C.cA c) dx fx) ∧ FRs C ι H fs fx
  | .ref l, v => ∃ a, v = .ref a ∧ ι[l]? = some a
  | .fn g, v => ∃ a, C.fA g = some a ∧ v = .ref a
  | .clo g cs, v => ∃ f c cl vs, v = .ref f ∧ f ∉ ι ∧ H f = some (NdefX.FnO f ((C.nd g).mk' cl c)) ∧ c ∉ ι ∧ H c = some (LamX.CodeO c (C.nd g).ql) ∧ CelR ι H (C.nd g).fr cl vs ∧ VRs C ι H cs vs
def VRs (C : Ct) (ι : Io) (H : Hp) : List MV → List V → Prop
  | [], vs => vs = []
  | x :: r, vs => ∃ v w, vs = v :: w ∧ VR C ι H x v ∧ VRs C ι H r w
def KRs (C : Ct) (ι : Io) (H : Hp) : List (MV × MV) → List (Key × V) → Prop
  | [], vs => vs = []
  | p :: r, vs => ∃ q w, vs = q :: w ∧ KR C ι H p q ∧ KRs C ι H r w
def KR (C : Ct) (ι : Io) (H : Hp) : MV × MV → Key × V → Prop
  | (k, x), q => KeyR k q.1 ∧ VR C ι H x q.2
def FRs (C : Ct) (ι : Io) (H : Hp) : List (Str × MV) → List (Str × V) → Prop
  | [], vs => vs = []
  | p :: r, vs => ∃ q w, vs = q :: w ∧ FR C ι H p q ∧ FRs C ι H r w
def FR (C : Ct) (ι : Io) (H : Hp) : Str × MV → Str × V → Prop
  | (f, x), q => q.1 = f ∧ VR C ι H x q.2
end
def TR (C : Ct) (ι : Io) (H : Hp) (p : MV × MV) (q : NK × Addr × V) : Prop := nkey p.1 = some q.1 ∧ VR C ι H p.1 (.ref q.2.1) ∧ VR C ι H p.2 q.2.2
def TRs (C : Ct) (ι : Io) (H : Hp) : List (MV × MV) → List (NK × Addr × V) → Prop
  | [], vs => vs = []
  | p :: r, vs => ∃ q w, vs = q :: w ∧ TR C ι H p q ∧ TRs C ι H r w
/-- a table of code objects -/
def TbR (ι : Io) (H : Hp) (a : Addr) (nm : Nat → Nat → Str) : Prop := ∃ ps : Array Value, H a = some (.tbl ps) ∧ TriplesOk ps.toList ∧ ∀ (pos : Pos) (cv : Value), codeAmong pos ps.toList = some cv → ∃ c, cv = .ref c ∧ c ∉ ι ∧ H c = some (LamX.CodeO c (nm pos.line pos.col))
def OR (C : Ct) (ι : Io) (H : Hp) (a : Addr) : MO → Prop
  | .lst xs => ∃ vs, H a = some (.lst vs) ∧ VRs C ι H xs vs
  | .dic kvs => ∃ kx, H a = some (.dK kx) ∧ KRs C ι H kvs kx
  | .ins c fs => ∃ dx fx, H a = some (.ins (C.cA c) dx fx) ∧ FRs C ι H fs fx
  | .td kvs => ∃ kx, H a = some (TDO C.w a kx) ∧ TRs C ι H kvs kx
  | .tb t => a = (C.tn t).1 ∧ TbR ι H a (C.tn t).2
structure StR (C : Ct) (ι : Io) (S : Sto) (H : Hp) : Prop where
  len : ι.length = S.length
  nd : ι.Nodup
  ob : ∀ (l : Nat) (o : MO) (a : Addr), S[l]? = some o → ι[l]? = some a → OR C ι H a o
  ex : ∀ d fs fx, C.dx = some (d, fs, fx) → d ∉ ι ∧ H d = some (.xd fx) ∧ FRs C ι H fs fx
/-- the heap goes on: new places are new, what is no place stays -/
structure Ext (ι : Io) (H : Hp) (ι' : Io) (H' : Hp) : Prop where
  pre : ι <+: ι'
  new : ∀ a ∈ ι', a ∈ ι ∨ H a = none
  oldT : ∀ a o, H a = some o → a ∉ ι → H' a = some o ∨ ((∃ ps, o = .tbl ps) ∧ ∃ o', H' a = some o')
section
variable {C : Ct} {ι ι' ι2 : Io} {H H' H2 : Hp} {S S' : Sto}
theorem Ext.old (e : Ext ι H ι' H') (a : Addr) (o : HO) (h : H a = some o) (hn : a ∉ ι) (nt : ∀ ps, o ≠ .tbl ps := by intro ps z; first | cases z | (unfold CellO at z; cases z) | (unfold LamX.CodeO at z; cases z) | (unfold NdefX.FnO at z; cases z) | (unfold TDO at z; cases z)) : H' a = some o := by
  rcases e.oldT a o h hn with q | ⟨⟨ps, z⟩, _⟩
  · exact q
  · exact absurd z (nt ps)
theorem Ext.refl : Ext ι H ι H := ⟨List.prefix_refl _, fun _ h => .inl h, fun _ _ h _ => .inl h⟩
theorem Ext.trans (a : Ext ι H ι' H') (b : Ext ι' H' ι2 H2) : Ext ι H ι2 H2 where
  pre := a.pre.trans b.pre
  new := fun x hx => by
    rcases b.new x hx with h | h
    · exact a.new x h
    · by_cases hi : x ∈ ι
      · exact .inl hi
      · cases e : H x with
        | none => exact .inr rfl
        | some o =>
          rcases a.oldT x o e hi with q | ⟨_, _, q⟩
          · rw [q] at h; cases h
          · rw [q] at h; cases h
  oldT := fun x o e hi => by
    have nm : x ∉ ι' := fun hm => by
      rcases a.new x hm with h | h
      · exact hi h
      · rw [e] at h; cases h
    rcases a.oldT x o e hi with q | ⟨z, o', q⟩
    · exact b.oldT x o q nm
    · rcases b.oldT x _ q nm with r | ⟨_, o2, r⟩
      · exact .inr ⟨z, o', r⟩
      · exact .inr ⟨z, o2, r⟩
theorem Ext.notin (a : Ext ι H ι' H') {x : Addr} {o : HO} (h : x ∉ ι) (e : H x = some o) : x ∉ ι' := fun hm => by
  rcases a.new x hm with q | q
  · exact h q
  · rw [e] at q; cases q
theorem Ext.at (a : Ext ι H ι' H') {l : Nat} {x : Addr} (h : ι[l]? = some x) : ι'[l]? = some x := by
  obtain ⟨t, e⟩ := a.pre
  have hl : l < ι.length := (List.getElem?_eq_some_iff.mp h).1
  rw [← e, List.getElem?_append_left hl]
  exact h
theorem Ext.rd (a : Ext ι H ι' H') {x : Addr} {o : HO} (h : x ∉ ι) (e : Rd H x o) (nt : ∀ ps, o ≠ .tbl ps := by intro ps z; cases z) : x ∉ ι' ∧ Rd H' x o := by
  rcases e with e | ⟨u, e⟩
  · exact ⟨a.notin h e, .inl (a.old _ _ e h nt)⟩
  · exact ⟨a.notin h e, .inr ⟨u, a.old _ _ e h⟩⟩
theorem FL.mono {a : Addr} {xs : List V} (x : Ext ι H ι' H') (h : FL C ι H a xs) : FL C ι' H' a xs := h.elim (fun h => .inl (x.rd h.1 h.2)) .inr
theorem FT.mono {a : Addr} {xs : List V} (x : Ext ι H ι' H') (h : FT C ι H a xs) : FT C ι' H' a xs := h.elim (fun h => .inl (x.rd h.1 h.2)) .inr
theorem CelR.mono (e : Ext ι H ι' H') {fr : List Str} {cl : List (Str × Addr)} {vs : List V} (h : CelR ι H fr cl vs) : CelR ι' H' fr cl vs where
  len := h.len
  dom := fun y c q => by
    obtain ⟨h1, h2⟩ := h.dom y c q
    refine ⟨h1, ?_⟩
    obtain ⟨i, hi⟩ := List.mem_iff_getElem?.mp h1
    obtain ⟨c', v, e1, _, e3⟩ := h.has i y hi
    rw [q] at e1; cases e1
    exact e.notin h2 e3
  inj := h.inj
  has := fun i y q => by
    obtain ⟨c, v, e1, e2, e3⟩ := h.has i y q
    exact ⟨c, v, e1, e2, e.old _ _ e3 (h.dom y c e1).2⟩
theorem TbR.mono (e : Ext ι H ι' H') {a : Addr} {nm : Nat → Nat → Str} (q : H' a = H a) (h : TbR ι H a nm) : TbR ι' H' a nm := by
  obtain ⟨ps, h1, h2, h3⟩ := h
  refine ⟨ps, q.trans h1, h2, fun pos cv hc => ?_⟩
  obtain ⟨c, e1, e2, e3⟩ := h3 pos cv hc
  exact ⟨c, e1, e.notin e2 e3, e.old _ _ e3 e2⟩
mutual
theorem VR.mono (e : Ext ι H ι' H') : ∀ (x : MV) (v : V), VR C ι H x v → VR C ι' H' x v
  | .non, v, h => by simpa only [VR] using h
  | .bl _, v, h => by simpa only [VR] using h
  | .int _, v, h => by simpa only [VR] using h
  | .str _, v, h => by simpa only [VR] using h
  | .ty _, v, h => by simpa only [VR] using h
  | .fn _, v, h => by simpa only [VR] using h
  | .clo g cs, v, h => by
    simp only [VR] at h ⊢
    obtain ⟨f, c, cl, vs, h1, h2, h3, h4, h5, h6, h7⟩ := h
    exact ⟨f, c, cl, vs, h1, e.notin h2 h3, e.old _ _ h3 h2, e.notin h4 h5, e.old _ _ h5 h4, h6.mono e, VRs.mono e cs vs h7⟩
  | .tup xs, v, h => by
    simp only [VR] at h ⊢
    obtain ⟨a, vs, h1, h2, h3⟩ := h
    exact ⟨a, vs, h1, h2.mono e, VRs.mono e xs vs h3⟩
  | .lst xs, v, h => by
    simp only [VR] at h ⊢
    obtain ⟨a, vs, h1, h2, h3, h4⟩ := h
    exact ⟨a, vs, h1, e.notin h2 h3, e.old _ _ h3 h2, VRs.mono e xs vs h4⟩
  | .rol xs, v, h => by
    simp only [VR] at h ⊢
    obtain ⟨a, vs, h1, h2, h3⟩ := h
    exact ⟨a, vs, h1, h2.mono e, VRs.mono e xs vs h3⟩
  | .dic kvs, v, h => by
    simp only [VR] at h ⊢
    obtain ⟨a, kx, h1, h2, h3, h4⟩ := h
    exact ⟨a, kx, h1, (e.rd h2 h3).1, (e.rd h2 h3).2, KRs.mono e kvs kx h4⟩
  | .ins c fs, v, h => by
    simp only [VR] at h ⊢
    obtain ⟨a, dx, fx, h1, h2, h3, h4⟩ := h
    exact ⟨a, dx, fx, h1, e.notin h2 h3, e.old _ _ h3 h2, FRs.mono e fs fx h4⟩
  | .ref l, v, h => by
    simp only [VR] at h ⊢
    obtain ⟨a, h1, h2⟩ := h
    exact ⟨a, h1, e.at h2⟩
theorem VRs.mono (e : Ext ι H ι' H') : ∀ (x : List MV) (v : List V), VRs C ι H x v → VRs C ι' H' x v
  | [], v, h => by simpa only [VRs] using h
  | x :: r, v, h => by
    simp only [VRs] at h ⊢
    obtain ⟨u, w, h1, h2, h3⟩ := h
    exact ⟨u, w, h1, VR.mono e x u h2, VRs.mono e r w h3⟩
theorem KRs.mono (e : Ext ι H ι' H') : ∀ (x : List (MV × MV)) (v : List (Key × V)), KRs C ι H x v → KRs C ι' H' x v
  | [], v, h => by simpa only [KRs] using h
  | x :: r, v, h => by
    simp only [KRs] at h ⊢
    obtain ⟨u, w, h1, h2, h3⟩ := h
    exact ⟨u, w, h1, KR.mono e x u h2, KRs.mono e r w h3⟩
theorem KR.mono (e : Ext ι H ι' H') : ∀ (x : MV × MV) (v : Key × V), KR C ι H x v → KR C ι' H' x v
  | (k, x), v, h => by
    simp only [KR] at h ⊢
    exact ⟨h.1, VR.mono e x v.2 h.2⟩
theorem FRs.mono (e : Ext ι H ι' H') : ∀ (x : List (Str × MV)) (v : List (Str × V)), FRs C ι H x v → FRs C ι' H' x v
  | [], v, h => by simpa only [FRs] using h
  | x :: r, v, h => by
    simp only [FRs] at h ⊢
    obtain ⟨u, w, h1, h2, h3⟩ := h
    exact ⟨u, w, h1, FR.mono e x u h2, FRs.mono e r w h3⟩
theorem FR.mono (e : Ext ι H ι' H') : ∀ (x : Str × MV) (v : Str × V), FR C ι H x v → FR C ι' H' x v
  | (k, x), v, h => by
    simp only [FR] at h ⊢
    exact ⟨h.1, VR.mono e x v.2 h.2⟩
end
theorem TR.mono (e : Ext ι H ι' H') {p : MV × MV} {q : NK × Addr × V} (h : TR C ι H p q) : TR C ι' H' p q := ⟨h.1, VR.mono e _ _ h.2.1, VR.mono e _ _ h.2.2⟩
theorem TRs.mono (e : Ext ι H ι' H') : ∀ (x : List (MV × MV)) (v : List (NK × Addr × V)), TRs C ι H x v → TRs C ι' H' x v
  | [], v, h => h
  | x :: r, v, h => by
    obtain ⟨u, w, h1, h2, h3⟩ := h
    exact ⟨u, w, h1, h2.mono e, TRs.mono e r w h3⟩
theorem OR.mono (e : Ext ι H ι' H') {a : Addr} {o : MO} (q : H' a = H a) (h : OR C ι H a o) : OR C ι' H' a o := by
  cases o with
  | lst xs => obtain ⟨vs, h1, h2⟩ := h; exact ⟨vs, q.trans h1, VRs.mono e _ _ h2⟩
  | dic kvs => obtain ⟨vs, h1, h2⟩ := h; exact ⟨vs, q.trans h1, KRs.mono e _ _ h2⟩
  | ins c fs => obtain ⟨dx, vs, h1, h2⟩ := h; exact ⟨dx, vs, q.trans h1, FRs.mono e _ _ h2⟩
  | td kvs => obtain ⟨vs, h1, h2⟩ := h; exact ⟨vs, q.trans h1, TRs.mono e _ _ h2⟩
  | tb t => exact ⟨h.1, h.2.mono e q⟩
theorem OR.some {a : Addr} {o : MO} (h : OR C ι H a o) : ∃ u, H a = some u := by
  cases o with
  | lst xs => obtain ⟨vs, h1, h2⟩ := h; exact ⟨_, h1⟩
  | dic kvs => obtain ⟨vs, h1, h2⟩ := h; exact ⟨_, h1⟩
  | ins c fs => obtain ⟨dx, vs, h1, h2⟩ := h; exact ⟨_, h1⟩
  | td kvs => obtain ⟨vs, h1, h2⟩ := h; exact ⟨_, h1⟩
  | tb t => obtain ⟨_, ps, h1, _⟩ := h; exact ⟨_, h1⟩
theorem StR.there (s : StR C ι S H) {a : Addr} (h : a ∈ ι) : ∃ u, H a = some u := by
  obtain ⟨l, hl, e⟩ := List.mem_iff_getElem.mp h
  have h2 : l < S.length := by rw [← s.len]; exact hl
  exact (s.ob l S[l] a (by simp [h2]) (by rw [← e]; simp [hl])).some
theorem StR.fresh (s : StR C ι S H) {a : Addr} (h : H a = none) : a ∉ ι := fun hm => by
  obtain ⟨u, e⟩ := s.there hm
  rw [h] at e; cases e
/-- a new object that is no place -/
theorem Ext.upd (s : StR C ι S H) {p : Addr} {o : HO} (h : H p = none) : Ext ι H ι (upd H p o) :=
  ⟨List.prefix_refl _, fun _ q => .inl q, fun a u e _ => .inl (by rw [upd_ne (ne_of_none e h)]; exact e)⟩
theorem StR.exM (s : StR C ι S H) (E : Ext ι H ι' H') : ∀ d fs fx, C.dx = some (d, fs, fx) → d ∉ ι' ∧ H' d = some (.xd fx) ∧ FRs C ι' H' fs fx := fun d fs fx e => by
  obtain ⟨a, b, c⟩ := s.ex d fs fx e
  exact ⟨E.notin a b, E.old d _ b a, FRs.mono E _ _ c⟩
theorem StR.upd (s : StR C ι S H) {p : Addr} {o : HO} (h : H p = none) : StR C ι S (upd H p o) :=
  ⟨s.len, s.nd, fun l u a e1 e2 => by
    have q := s.ob l u a e1 e2
    obtain ⟨w, ew⟩ := q.some
    exact q.mono (Ext.upd s h) (by rw [upd_ne (ne_of_none ew h)]), s.exM (Ext.upd s h)⟩
/-- a new object that is a new place -/
theorem Ext.push (s : StR C ι S H) {p : Addr} {o : HO} (h : H p = none) : Ext ι H (ι ++ [p]) (L2.upd H p o) :=
  ⟨List.prefix_append _ _, fun a q => by
    rcases List.mem_append.mp q with q | q
    · exact .inl q
    · right; have : a = p := by simpa using q
      rw [this]; exact h, fun a u e _ => .inl (by rw [upd_ne (ne_of_none e h)]; exact e)⟩
theorem StR.push (s : StR C ι S H) {p : Addr} {o : HO} {m : MO} (h : H p = none) (hm : OR C (ι ++ [p]) (L2.upd H p o) p m) : StR C (ι ++ [p]) (S ++ [m]) (L2.upd H p o) := by
  refine ⟨by simp [s.len], ?_, fun l u a e1 e2 => ?_, s.exM (Ext.push s h)⟩
  · rw [List.nodup_append]
    refine ⟨s.nd, by simp, fun a ha b hb e => ?_⟩
    have : b = p := by simpa using hb
    subst this; subst e
    exact s.fresh h ha
  · by_cases hl : l < S.length
    · rw [List.getElem?_append_left hl] at e1
      rw [List.getElem?_append_left (by rw [s.len]; exact hl)] at e2
      have q := s.ob l u a e1 e2
      obtain ⟨w, ew⟩ := q.some
      exact q.mono (Ext.push s h) (by rw [upd_ne (ne_of_none ew h)])
    · have e : l = S.length := by
        have := (List.getElem?_eq_some_iff.mp e1).1
        simp at this; omega
      subst e
      have h1 : u = m := by simpa using e1.symm
      have h2 : a = p := by
        rw [← s.len] at e2
        simpa using e2.symm
      subst h1; subst h2
      exact hm
/-- a place is written -/
theorem Ext.set {l : Nat} {a : Addr} {o : HO} (e : ι[l]? = some a) : Ext ι H ι (L2.upd H a o) :=
  ⟨List.prefix_refl _, fun _ q => .inl q, fun b u e' hb => .inl (by
    rw [upd_ne (fun z => hb (by rw [z]; exact List.mem_of_getElem? e))]; exact e')⟩
theorem StR.set (s : StR C ι S H) {l : Nat} {a : Addr} {o : HO} {m : MO} (e : ι[l]? = some a) (hm : OR C ι (L2.upd H a o) a m) : StR C ι (S.set l m) (L2.upd H a o) := by
  refine ⟨by simp [s.len], s.nd, fun k u b e1 e2 => ?_, s.exM (Ext.set e)⟩
  by_cases hk : k = l
  · subst hk
    rw [e] at e2; cases e2
    have hl : k < S.length := by rw [← s.len]; exact (List.getElem?_eq_some_iff.mp e).1
    rw [List.getElem?_set_self hl] at e1; cases e1
    exact hm
  · rw [List.getElem?_set_ne (Ne.symm hk)] at e1
    have q := s.ob k u b e1 e2
    refine q.mono (Ext.set e) ?_
    rw [upd_ne]
    intro z
    subst z
    obtain ⟨h1, q1⟩ := List.getElem?_eq_some_iff.mp e
    obtain ⟨h2, q2⟩ := List.getElem?_eq_some_iff.mp e2
    exact hk ((List.getElem_inj s.nd).mp (q2.trans q1.symm))
end
end Mi
namespace Mi
open PySem L2
abbrev ME := Env → Sto → Res MV
abbrev MB := Env → Sto → Res Bool
abbrev MA := Env → Sto → Res (List MV)
abbrev MSt := Env → Sto → SRes
def XR (C : Ct) (ι : Io) (H : Hp) (e : MX) (cls : Value) (d : Option Addr) : Prop :=
  cls = .ref (C.cA e.cls) ∧ match d with
    | none => e.fs = []
    | some a => a ∉ ι ∧ ∃ fx, H a = some (.xd fx) ∧ FRs C ι H e.fs fx
def EnvR (C : Ct) (ι : Io) (H : Hp) (env : Env) (σ : L2.St) : Prop :=
  env.length = σ.length ∧ ∀ (i : Nat) (x : MV), env[i]? = some (some x) → ∃ v, σ[i]? = some (some v) ∧ VR C ι H x v
theorem EnvR.mono {C : Ct} {ι ι' : Io} {H H' : Hp} {env : Env} {σ : L2.St} (e : Ext ι H ι' H') (h : EnvR C ι H env σ) : EnvR C ι' H' env σ :=
  ⟨h.1, fun i x q => by obtain ⟨v, h1, h2⟩ := h.2 i x q; exact ⟨v, h1, h2.mono e⟩⟩
theorem EnvR.set {C : Ct} {ι : Io} {H : Hp} {env : Env} {σ : L2.St} {x : MV} {v : V} (h : EnvR C ι H env σ) (r : VR C ι H x v) (i : Nat) : EnvR C ι H (env.set i (some x)) (σ.set i (some v)) := by
  refine ⟨by simp [h.1], fun j y q => ?_⟩
  by_cases hj : i = j
  · subst hj
    by_cases hl : i < env.length
    · rw [List.getElem?_set_self hl] at q
      cases q
      exact ⟨v, List.getElem?_set_self (by rw [← h.1]; exact hl), r⟩
    · rw [List.getElem?_eq_none (by simpa using hl)] at q; cases q
  · rw [List.getElem?_set_ne hj] at q ⊢
    exact h.2 j y q
/-- what is wanted behind a run of the mirror -/
def Post {α β : Type} (C : Ct) (W : WX) (R : Io → Hp → α → β → Prop) (ι : Io) (σ : L2.St) (H : Hp) (r : Res α) (Q : β → Hp → Prop) : Prop :=
  match r with
  | .ok x S' => ∀ ι' H' v, Ext ι H ι' H' → StR C ι' S' H' → R ι' H' x v → Q v H'
  | .ex e S' => ∀ ι' H' cls d, Ext ι H ι' H' → StR C ι' S' H' → XR C ι' H' e cls d → W cls d σ H'
  | .bad => False
abbrev RB : Io → Hp → Bool → Bool → Prop := fun _ _ x v => v = x
def SPost (C : Ct) (W : WX) (ι : Io) (H : Hp) (r : SRes) (D : Ends) : Prop :=
  match r with
  | .nx e S' => ∀ ι' H' σ', Ext ι H ι' H' → StR C ι' S' H' → EnvR C ι' H' e σ' → D.nx σ' H'
  | .bk e S' => ∀ ι' H' σ', Ext ι H ι' H' → StR C ι' S' H' → EnvR C ι' H' e σ' → D.bk σ' H'
  | .ct e S' => ∀ ι' H' σ', Ext ι H ι' H' → StR C ι' S' H' → EnvR C ι' H' e σ' → D.ct σ' H'
  | .rt x S' => ∀ ι' H' v, Ext ι H ι' H' → StR C ι' S' H' → VR C ι' H' x v → D.rt v H'
  | .ex x e S' => ∀ ι' H' σ' cls d, Ext ι H ι' H' → StR C ι' S' H' → EnvR C ι' H' e σ' → XR C ι' H' x cls d → W cls d σ' H'
  | .bad => False
section
variable {α β γ δ : Type} {C : Ct} {W : WX} {R : Io → Hp → α → β → Prop} {R2 : Io → Hp → γ → δ → Prop} {ι ι' : Io} {σ : L2.St} {H H' : Hp}
theorem Post.mono {r : Res α} {Q : β → Hp → Prop} (e : Ext ι H ι' H') (h : Post C W R ι σ H r Q) : Post C W R ι' σ H' r Q := by
  cases r with
  | ok x S => exact fun ι2 H2 v e2 => h ι2 H2 v (e.trans e2)
  | ex x S => exact fun ι2 H2 c d e2 => h ι2 H2 c d (e.trans e2)
  | bad => exact h
theorem SPost.mono {r : SRes} {D : Ends} (e : Ext ι H ι' H') (h : SPost C W ι H r D) : SPost C W ι' H' r D := by
  cases r with
  | nx x S => exact fun ι2 H2 v e2 => h ι2 H2 v (e.trans e2)
  | bk x S => exact fun ι2 H2 v e2 => h ι2 H2 v (e.trans e2)
  | ct x S => exact fun ι2 H2 v e2 => h ι2 H2 v (e.trans e2)
  | rt x S => exact fun ι2 H2 v e2 => h ι2 H2 v (e.trans e2)
  | ex x en S => exact fun ι2 H2 v c d e2 => h ι2 H2 v c d (e.trans e2)
  | bad => exact h
/-- the first part of a run -/
theorem Post.bind {r : Res α} {k : α → Sto → Res γ} {Q : δ → Hp → Prop} {Q' : β → Hp → Prop} (h : Post C W R2 ι σ H (r.bind k) Q)
    (hk : ∀ x S1 ι1 H1 v, Ext ι H ι1 H1 → StR C ι1 S1 H1 → R ι1 H1 x v → Post C W R2 ι1 σ H1 (k x S1) Q → Q' v H1) : Post C W R ι σ H r Q' := by
  cases r with
  | ok x S => exact fun ι1 H1 v e s q => hk x S ι1 H1 v e s q (h.mono e)
  | ex x S => exact h
  | bad => exact h
end
/-- a reading by the mirror -/
def tM (C : Ct) (W : WX) (m : ME) : TE := fun σ H Q => ∃ ι env S, EnvR C ι H env σ ∧ StR C ι S H ∧ Post C W (VR C) ι σ H (m env S) Q
def tMB (C : Ct) (W : WX) (m : MB) : TT := fun σ H Q => ∃ ι env S, EnvR C ι H env σ ∧ StR C ι S H ∧ Post C W RB ι σ H (m env S) Q
def tMA (C : Ct) (W : WX) (m : MA) : TA := fun σ H Q => ∃ ι env S, EnvR C ι H env σ ∧ StR C ι S H ∧ Post C W (VRs C) ι σ H (m env S) Q
def tMS (C : Ct) (W : WX) (m : MSt) : TS := fun D σ H => ∃ ι env S, EnvR C ι H env σ ∧ StR C ι S H ∧ SPost C W ι H (m env S) D
section
variable {X : Cx}
theorem peImp {e : Expr} {t t' : TE} (h : PE X e t) (i : ∀ σ H Q, t' σ H Q → t σ H Q) : PE X e t' := ⟨fun pins s σ H Q I q => h.run pins s σ H Q I (i σ H Q q)⟩
theorem ptImp {e : Expr} {t t' : TT} (h : PT X e t) (i : ∀ σ H Q, t' σ H Q → t σ H Q) : PT X e t' := ⟨fun pins s σ H Q I q => h.run pins s σ H Q I (i σ H Q q)⟩
theorem pwImp {e : Expr} {t t' : TT} (h : PW X e t) (i : ∀ σ H Q, t' σ H Q → t σ H Q) : PW X e t' := ⟨fun w pins s σ H Q I q => h.run w pins s σ H Q I (i σ H Q q)⟩
theorem paImp {e : List Expr} {t t' : TA} (h : PA X e t) (i : ∀ σ H Q, t' σ H Q → t σ H Q) : PA X e t' := ⟨fun p pins s σ H Q I q => h.run p pins s σ H Q I (i σ H Q q)⟩
theorem psImp {e : Stmt} {t t' : TS} (h : PS X e t) (i : ∀ D σ H, t' D σ H → t D σ H) : PS X e t' := ⟨fun pins s σ H D I q => h.run pins s σ H D I (i D σ H q)⟩
theorem pssImp {e : List Stmt} {t t' : TS} (h : PSs X e t) (i : ∀ D σ H, t' D σ H → t D σ H) : PSs X e t' := ⟨fun pins s σ H D I q => h.run pins s σ H D I (i D σ H q)⟩
end
def mV (i : Nat) : ME := fun env S => match env[i]? with
  | some (some v) => .ok v S
  | _ => .bad
def mC (v : MV) : ME := fun _ S => .ok v S
section
variable {X : Cx} {C : Ct} {W : WX} {pos : Pos}
theorem tM_var {i : Nat} {σ : L2.St} {H : Hp} {Q : VK} (h : tM C W (mV i) σ H Q) : tVar i σ H Q := by
  obtain ⟨ι, env, S, he, hs, hp⟩ := h
  unfold mV at hp
  split at hp
  · rename_i v e
    obtain ⟨u, h1, h2⟩ := he.2 i v e
    exact ⟨u, h1, hp ι H u .refl hs h2⟩
  · exact hp.elim
theorem je_v (i : Nat) {x : Str} (hN : X.N[i]? = some x := by rfl) (hv : Vis X.env.scope x := by first | exact Or.inl rfl | exact Or.inr (Or.inl rfl) | exact Or.inr (Or.inr rfl)) (hd : (x == ("__debug__" : Str)) = false := by decide)
    (hcd : (x == ("__classdict__" : Str)) = false := by decide) : PE X (.Name x pos) (tM C W (mV i)) := peImp (pe_var hN hv hd hcd) fun _ _ _ => tM_var
theorem tM_c {x : MV} {v : V} (r : ∀ ι H, VR C ι H x v) {σ : L2.St} {H : Hp} {Q : VK} (h : tM C W (mC x) σ H Q) : tC v σ H Q := by
  obtain ⟨ι, env, S, he, hs, hp⟩ := h
  exact hp ι H v .refl hs (r _ _)
theorem je_int {i : Int} {j} : PE X (.Constant (.int i) j pos) (tM C W (mC (.int i))) := peImp pe_int fun _ _ _ => tM_c fun _ _ => by simp only [VR]
theorem je_bl {b : Bool} {j} : PE X (.Constant (.bool b) j pos) (tM C W (mC (.bl b))) := peImp pe_bl fun _ _ _ => tM_c fun _ _ => by simp only [VR]
theorem je_non {j} : PE X (.Constant .none j pos) (tM C W (mC .non)) := peImp pe_non fun _ _ _ => tM_c fun _ _ => by simp only [VR]
/-- a written text: its codes -/
theorem je_str {x : Str} {j} (l : List Nat) (e : x.cps.toList = l := by decide +kernel) : PE X (.Constant (.str x) j pos) (tM C W (mC (.str l))) := peImp pe_str fun _ _ _ => tM_c fun _ _ => by
  subst e
  simp only [VR]
def mBin (f : MV → MV → Sto → Res MV) (a b : ME) : ME := fun env S => (a env S).bind fun x S1 => (b env S1).bind fun y S2 => f x y S2
/-- an operation of two values by the mirror -/
def OpM (C : Ct) (f : MV → MV → Sto → Res MV) (r : R2) : Prop := ∀ (W : WX) (ι : Io) (σ : L2.St) (S : Sto) (H : Hp) (x y : MV) (v u : V) (Q : VK), StR C ι S H → VR C ι H x v → VR C ι H y u → Post C W (VR C) ι σ H (f x y S) Q → r v u H Q
theorem tM_bin {f : MV → MV → Sto → Res MV} {r : R2} (ho : OpM C f r) {a b : ME} {σ : L2.St} {H : Hp} {Q : VK} (h : tM C W (mBin f a b) σ H Q) : tOp r (tM C W a) (tM C W b) σ H Q := by
  obtain ⟨ι, env, S, he, hs, hp⟩ := h
  refine ⟨ι, env, S, he, hs, Post.bind hp fun x S1 ι1 H1 v e1 s1 q1 p1 => ?_⟩
  refine ⟨ι1, env, S1, he.mono e1, s1, Post.bind p1 fun y S2 ι2 H2 u e2 s2 q2 p2 => ?_⟩
  exact ho W ι2 σ S2 H2 x y v u Q s2 (q1.mono e2) q2 p2
theorem je_op {op : Operator} {f : MV → MV → Sto → Res MV} {r : R2} {ea eb : Expr} {a b : ME} (hr : OpR X (binaryOp op) r) (ho : OpM C f r) (ha : PE X ea (tM C W a)) (hb : PE X eb (tM C W b)) : PE X (.BinOp ea op eb pos) (tM C W (mBin f a b)) :=
  peImp (pe_op hr ha hb) fun _ _ _ => tM_bin ho
theorem je_cmp {op : CmpOp} {f : MV → MV → Sto → Res MV} {r : R2} {ea eb : Expr} {a b : ME} (hr : OpR X (compareOp op) r) (ho : OpM C f r) (ha : PE X ea (tM C W a)) (hb : PE X eb (tM C W b)) (hm : behindInMarks op eb = false) : PE X (.Compare ea [op] [eb] pos) (tM C W (mBin f a b)) :=
  peImp (pe_cmpR hr ha hb hm) fun _ _ _ => tM_bin ho
/-- a bool as a test -/
def asB (m : ME) : MB := fun env S => (m env S).bind fun x S1 => match x with
  | .bl b => .ok b S1
  | _ => .bad
theorem tMB_of {m : ME} {σ : L2.St} {H : Hp} {Q : Bool → Hp → Prop} (h : tMB C W (asB m) σ H Q) : tM C W m σ H fun x H1 => ∃ k, x = .bl k ∧ Q k H1 := by
  obtain ⟨ι, env, S, he, hs, hp⟩ := h
  refine ⟨ι, env, S, he, hs, Post.bind hp fun x S1 ι1 H1 v e1 s1 q1 p1 => ?_⟩
  split at p1
  · rename_i b
    simp only [VR] at q1
    exact ⟨b, q1, p1 ι1 H1 b .refl s1 rfl⟩
  · exact p1.elim
theorem jt_cmp {op : CmpOp} {f : MV → MV → Sto → Res MV} {r : R2} {ea eb : Expr} {a b : ME} (hr : OpR X (compareOp op) r) (ho : OpM C f r) (ha : PE X ea (tM C W a)) (hb : PE X eb (tM C W b)) (hm : behindInMarks op eb = false) : PT X (.Compare ea [op] [eb] pos) (tMB C W (asB (mBin f a b))) :=
  ptImp (pt_cmpR hr ha hb hm) fun σ H Q h => by
    have q := tMB_of h
    exact tM_bin ho q
/-- any value's truth -/
def tru (S : Sto) : MV → Option Bool
  | .non => some false
  | .bl b => some b
  | .int i => some (i != 0)
  | .str s => if s.length ≤ sizeLine then some (!s.isEmpty) else none
  | .tup xs => some (!xs.isEmpty)
  | .lst xs => some (!xs.isEmpty)
  | .rol xs => some (!xs.isEmpty)
  | .ref l => match S[l]? with
    | some (.lst xs) => some (!xs.isEmpty)
    | some (.dic kvs) => some (!kvs.isEmpty)
    | _ => none
  | _ => none
def asT (m : ME) : MB := fun env S => (m env S).bind fun x S1 => match tru S1 x with
  | some b => .ok b S1
  | none => .bad
end
theorem VRs.len {C : Ct} {ι : Io} {H : Hp} : ∀ {xs : List MV} {vs : List V}, VRs C ι H xs vs → vs.length = xs.length
  | [], _, h => by simp only [VRs] at h; rw [h]; rfl
  | x :: r, _, h => by
    simp only [VRs] at h
    obtain ⟨v, w, e, _, h2⟩ := h
    rw [e, List.length_cons, List.length_cons, VRs.len h2]
theorem KRs.len {C : Ct} {ι : Io} {H : Hp} : ∀ {xs : List (MV × MV)} {vs : List (Key × V)}, KRs C ι H xs vs → vs.length = xs.length
  | [], _, h => by simp only [KRs] at h; rw [h]; rfl
  | x :: r, _, h => by
    simp only [KRs] at h
    obtain ⟨v, w, e, _, h2⟩ := h
    rw [e, List.length_cons, List.length_cons, KRs.len h2]
theorem isEmpty_len {α β : Type} {xs : List α} {ys : List β} (h : xs.length = ys.length) : xs.isEmpty = ys.isEmpty := by
  cases xs <;> cases ys <;> simp at h ⊢
theorem str_len (s : List Nat) : (⟨s.toArray⟩ : Str).length = s.length := by simp [Str.length]
theorem tru_ok' {C : Ct} {ι : Io} {S : Sto} {H : Hp} {x : MV} {v : V} {b : Bool} (s : StR C ι S H) (r : VR C ι H x v) (h : tru S x = some b) : TruV C.K v H b := by
  cases x with
  | non => simp only [VR] at r; subst r; simp only [tru, Option.some.injEq] at h; exact h.symm
  | bl b' => simp only [VR] at r; subst r; simp only [tru, Option.some.injEq] at h; exact h.symm
  | int i => simp only [VR] at r; subst r; simp only [tru, Option.some.injEq] at h; exact h.symm
  | str z =>
    simp only [VR] at r; subst r
    simp only [tru] at h
    split at h
    · rename_i hl
      simp only [Option.some.injEq] at h
      refine ⟨by rw [str_len]; exact hl, ?_⟩
      rw [str_len, ← h]
      cases z <;> simp <;> omega
    · cases h
  | tup xs =>
    simp only [VR] at r
    obtain ⟨a, vs, rfl, h1, h2⟩ := r
    simp only [tru, Option.some.injEq] at h
    exact .inr (.inl ⟨vs, h1.sq, by rw [← h, isEmpty_len h2.len]⟩)
  | lst xs =>
    simp only [VR] at r
    obtain ⟨a, vs, rfl, h0, h1, h2⟩ := r
    simp only [tru, Option.some.injEq] at h
    exact .inl ⟨vs, SqL.of h1, by rw [← h, isEmpty_len h2.len]⟩
  | rol xs =>
    simp only [VR] at r
    obtain ⟨a, vs, rfl, h1, h2⟩ := r
    simp only [tru, Option.some.injEq] at h
    exact .inl ⟨vs, h1.sq, by rw [← h, isEmpty_len h2.len]⟩
  | ref l =>
    simp only [VR] at r
    obtain ⟨a, rfl, hl⟩ := r
    simp only [tru] at h
    split at h
    · rename_i xs e
      obtain ⟨vs, h1, h2⟩ := s.ob l _ a e hl
      simp only [Option.some.injEq] at h
      exact .inl ⟨vs, SqL.of h1, by rw [← h, isEmpty_len h2.len]⟩
    · rename_i xs e
      obtain ⟨vs, h1, h2⟩ := s.ob l _ a e hl
      simp only [Option.some.injEq] at h
      exact .inr (.inr ⟨vs, h1, by rw [← h, isEmpty_len h2.len]⟩)
    · cases h
  | _ => cases h
section
variable {X : Cx} {C : Ct} {W : WX} {pos : Pos}
theorem jt_tru (hK : X.K = C.K) {e : Expr} {m : ME} (h : PE X e (tM C W m)) (he : ∀ whole, isTrue e X.env whole = (do let v ← whole; standAt e.pos; holding [v] (truthy v)) := by intro _; rfl) : PT X e (tMB C W (asT m)) :=
  ptImp (pt_truth h he) fun σ H Q h => by
    obtain ⟨ι, env, S, he, hs, hp⟩ := h
    refine ⟨ι, env, S, he, hs, Post.bind hp fun x S1 ι1 H1 v e1 s1 q1 p1 => ?_⟩
    split at p1
    · rename_i b hb
      exact ⟨b, by rw [hK]; exact tru_ok' s1 q1 hb, p1 ι1 H1 b .refl s1 rfl⟩
    · exact p1.elim
def mNotB (m : MB) : MB := fun env S => (m env S).bind fun b S1 => .ok (!b) S1
def mAndB (a b : MB) : MB := fun env S => (a env S).bind fun x S1 => if x = true then b env S1 else .ok false S1
def mOrB (a b : MB) : MB := fun env S => (a env S).bind fun x S1 => if x = true then .ok true S1 else b env S1
theorem jt_not {e : Expr} {m : MB} (h : PT X e (tMB C W m)) : PT X (.UnaryOp .Not e pos) (tMB C W (mNotB m)) :=
  ptImp (pt_not h) fun σ H Q h => by
    obtain ⟨ι, env, S, he, hs, hp⟩ := h
    refine ⟨ι, env, S, he, hs, Post.bind hp fun x S1 ι1 H1 v e1 s1 q1 p1 => ?_⟩
    subst q1
    exact p1 ι1 H1 _ .refl s1 rfl
theorem jw_one_and {e : Expr} {m : MB} (h : PT X e (tMB C W m)) : PW X (.BoolOp .And [e] pos) (tMB C W m) := pw_and1 h
theorem jw_one_or {e : Expr} {m : MB} (h : PT X e (tMB C W m)) : PW X (.BoolOp .Or [e] pos) (tMB C W m) := pw_or1 h
theorem jw_and {a b : Expr} {rest : List Expr} {m n : MB} (h : PT X a (tMB C W m)) (h2 : PW X (.BoolOp .And (b :: rest) pos) (tMB C W n)) : PW X (.BoolOp .And (a :: b :: rest) pos) (tMB C W (mAndB m n)) :=
  pwImp (pw_and h h2) fun σ H Q h => by
    obtain ⟨ι, env, S, he, hs, hp⟩ := h
    refine ⟨ι, env, S, he, hs, Post.bind hp fun x S1 ι1 H1 v e1 s1 q1 p1 => ?_⟩
    subst q1
    cases v with
    | true => exact ⟨ι1, env, S1, he.mono e1, s1, p1⟩
    | false => exact p1 ι1 H1 _ .refl s1 rfl
theorem jw_or {a b : Expr} {rest : List Expr} {m n : MB} (h : PT X a (tMB C W m)) (h2 : PW X (.BoolOp .Or (b :: rest) pos) (tMB C W n)) : PW X (.BoolOp .Or (a :: b :: rest) pos) (tMB C W (mOrB m n)) :=
  pwImp (pw_or h h2) fun σ H Q h => by
    obtain ⟨ι, env, S, he, hs, hp⟩ := h
    refine ⟨ι, env, S, he, hs, Post.bind hp fun x S1 ι1 H1 v e1 s1 q1 p1 => ?_⟩
    subst q1
    cases v with
    | false => exact ⟨ι1, env, S1, he.mono e1, s1, p1⟩
    | true => exact p1 ι1 H1 _ .refl s1 rfl
def mIf {α : Type} (c : MB) (a b : Env → Sto → Res α) : Env → Sto → Res α := fun env S => (c env S).bind fun x S1 => if x = true then a env S1 else b env S1
theorem je_if {c a b : Expr} {mc : MB} {ma mb : ME} (hc : PT X c (tMB C W mc)) (ha : PE X a (tM C W ma)) (hb : PE X b (tM C W mb)) : PE X (.IfExp c a b pos) (tM C W (mIf mc ma mb)) :=
  peImp (pe_ifExp hc ha hb) fun σ H Q h => by
    obtain ⟨ι, env, S, he, hs, hp⟩ := h
    refine ⟨ι, env, S, he, hs, Post.bind hp fun x S1 ι1 H1 v e1 s1 q1 p1 => ?_⟩
    subst q1
    cases v with
    | true => exact ⟨ι1, env, S1, he.mono e1, s1, p1⟩
    | false => exact ⟨ι1, env, S1, he.mono e1, s1, p1⟩
def mNil : MA := fun _ S => .ok [] S
def mCons (a : ME) (r : MA) : MA := fun env S => (a env S).bind fun x S1 => (r env S1).bind fun xs S2 => .ok (x :: xs) S2
theorem ja_nil : PA X [] (tMA C W mNil) := paImp pa_nil fun σ H Q h => by
  obtain ⟨ι, env, S, he, hs, hp⟩ := h
  exact hp ι H [] .refl hs (by simp only [VRs])
theorem ja_cons {e : Expr} {es : List Expr} {a : ME} {r : MA} (ha : PE X e (tM C W a)) (hr : PA X es (tMA C W r)) (hs : starEach (e :: es) X.env = (false, eval e X.env) :: starEach es X.env := by rfl) : PA X (e :: es) (tMA C W (mCons a r)) :=
  paImp (pa_cons ha hr hs) fun σ H Q h => by
    obtain ⟨ι, env, S, he, hs, hp⟩ := h
    refine ⟨ι, env, S, he, hs, Post.bind hp fun x S1 ι1 H1 v e1 s1 q1 p1 => ?_⟩
    refine ⟨ι1, env, S1, he.mono e1, s1, Post.bind p1 fun y S2 ι2 H2 u e2 s2 q2 p2 => ?_⟩
    exact p2 ι2 H2 (v :: u) .refl s2 (by simp only [VRs]; exact ⟨v, u, rfl, q1.mono e2, q2⟩)
end
end Mi
namespace Mi
open PySem L2
def sBind {α : Type} (r : Res α) (env : Env) (k : α → Sto → SRes) : SRes := match r with
  | .ok a S => k a S
  | .ex x S => .ex x env S
  | .bad => .bad
@[simp] theorem sBind_ok {α : Type} (a : α) (S : Sto) (env : Env) (k : α → Sto → SRes) : sBind (.ok a S) env k = k a S := rfl
@[simp] theorem sBind_ex {α : Type} (x : MX) (S : Sto) (env : Env) (k : α → Sto → SRes) : sBind (.ex x S) env k = .ex x env S := rfl
@[simp] theorem sBind_bad {α : Type} (env : Env) (k : α → Sto → SRes) : sBind (.bad : Res α) env k = .bad := rfl
theorem SPost.bind {α β : Type} {C : Ct} {W : WX} {R : Io → Hp → α → β → Prop} {ι : Io} {σ : L2.St} {H : Hp} {env : Env} {r : Res α} {k : α → Sto → SRes} {D : Ends} {Q' : β → Hp → Prop} (he : EnvR C ι H env σ) (h : SPost C W ι H (sBind r env k) D)
    (hk : ∀ x S1 ι1 H1 v, Ext ι H ι1 H1 → StR C ι1 S1 H1 → R ι1 H1 x v → SPost C W ι1 H1 (k x S1) D → Q' v H1) : Post C W R ι σ H r Q' := by
  cases r with
  | ok x S => exact fun ι1 H1 v e s q => hk x S ι1 H1 v e s q (h.mono e)
  | ex x S => exact fun ι1 H1 c d e s q => h ι1 H1 σ c d e s (he.mono e) q
  | bad => exact h
def sSeq (a b : MSt) : MSt := fun env S => match a env S with
  | .nx e S1 => b e S1
  | r => r
def sNext : MSt := fun env S => .nx env S
def sBad : MSt := fun _ _ => .bad
def sRet (m : ME) : MSt := fun env S => sBind (m env S) env fun v S1 => .rt v S1
def sRetN : MSt := fun env S => .rt .non S
def sDrop (m : ME) : MSt := fun env S => sBind (m env S) env fun _ S1 => .nx env S1
def sIf (c : MB) (a b : MSt) : MSt := fun env S => sBind (c env S) env fun x S1 => if x = true then a env S1 else b env S1
def sBreak : MSt := fun env S => .bk env S
def sCont : MSt := fun env S => .ct env S
section
variable {X : Cx} {C : Ct} {W : WX} {pos : Pos}
theorem js_nil : PSs X [] (tMS C W sNext) := pssImp pss_nil fun D σ H h => by
  obtain ⟨ι, env, S, he, hs, hp⟩ := h
  exact hp ι H σ .refl hs he
theorem js_seq {a b : MSt} {D : Ends} {σ : L2.St} {H : Hp} (h : tMS C W (sSeq a b) D σ H) : tSeq (tMS C W a) (tMS C W b) D σ H := by
  obtain ⟨ι, env, S, he, hs, hp⟩ := h
  refine ⟨ι, env, S, he, hs, ?_⟩
  unfold sSeq at hp
  cases e : a env S with
  | nx e1 S1 =>
    rw [e] at hp
    intro ι1 H1 σ1 x1 s1 r1
    exact ⟨ι1, e1, S1, r1, s1, hp.mono x1⟩
  | rt v S1 => rw [e] at hp; exact hp
  | bk e1 S1 => rw [e] at hp; exact hp
  | ct e1 S1 => rw [e] at hp; exact hp
  | ex x e1 S1 => rw [e] at hp; exact hp
  | bad => rw [e] at hp; exact hp
theorem js_cons {st : Stmt} {rest : List Stmt} {a b : MSt} (h1 : PS X st (tMS C W a)) (h2 : PSs X rest (tMS C W b)) : PSs X (st :: rest) (tMS C W (sSeq a b)) :=
  pssImp (pss_cons h1 h2) fun _ _ _ => js_seq
theorem js_one {st : Stmt} {a : MSt} (h1 : PS X st (tMS C W a)) : PSs X [st] (tMS C W a) := pss_one h1
/-- what the proof never comes to -/
theorem js_never {st : Stmt} : PS X st (tMS C W sBad) := psImp ps_never fun D σ H h => by
  obtain ⟨ι, env, S, he, hs, hp⟩ := h
  exact hp
theorem js_ret {e : Expr} {m : ME} (h : PE X e (tM C W m)) : PS X (.Return (some e) pos) (tMS C W (sRet m)) := psImp (ps_ret h) fun D σ H h => by
  obtain ⟨ι, env, S, he, hs, hp⟩ := h
  exact ⟨ι, env, S, he, hs, SPost.bind he hp fun x S1 ι1 H1 v e1 s1 q1 p1 => p1 ι1 H1 v .refl s1 q1⟩
theorem js_expr {e : Expr} {m : ME} (h : PE X e (tM C W m)) (hs : swapsWith e none pos.line X.env = pure false := by rfl) : PS X (.Expr e pos) (tMS C W (sDrop m)) := psImp (ps_expr h hs) fun D σ H h => by
  obtain ⟨ι, env, S, he, hs, hp⟩ := h
  exact ⟨ι, env, S, he, hs, SPost.bind he hp fun x S1 ι1 H1 v e1 s1 q1 p1 => p1 ι1 H1 σ .refl s1 (he.mono e1)⟩
theorem js_if {c : Expr} {a b : List Stmt} {mc : MB} {ma mb : MSt} (hc : PT X c (tMB C W mc)) (ha : PSs X a (tMS C W ma)) (hb : PSs X b (tMS C W mb)) : PS X (.If c a b pos) (tMS C W (sIf mc ma mb)) := psImp (ps_if hc ha hb) fun D σ H h => by
  obtain ⟨ι, env, S, he, hs, hp⟩ := h
  refine ⟨ι, env, S, he, hs, SPost.bind he hp fun x S1 ι1 H1 v e1 s1 q1 p1 => ?_⟩
  subst q1
  cases v with
  | true => exact ⟨ι1, env, S1, he.mono e1, s1, p1⟩
  | false => exact ⟨ι1, env, S1, he.mono e1, s1, p1⟩
abbrev MG := MV → Env → Option Env
abbrev MGs := List MV → Env → Option Env
/-- the same slots but these -/
def ButS (ws : List Nat) (σ σ' : L2.St) : Prop := σ'.length = σ.length ∧ ∀ (j : Nat), j ∉ ws → σ'[j]? = σ[j]?
def tMG (C : Ct) (ws : List Nat) (g : MG) : TG := fun v σ H Q => ∃ ι env S x, EnvR C ι H env σ ∧ StR C ι S H ∧ VR C ι H x v ∧ match g x env with
  | some e1 => ∀ σ', EnvR C ι H e1 σ' → ButS ws σ σ' → Q σ' H
  | none => False
def tMGs (C : Ct) (ws : List Nat) (g : MGs) : TGs := fun vs σ H Q => ∃ ι env S xs, EnvR C ι H env σ ∧ StR C ι S H ∧ VRs C ι H xs vs ∧ match g xs env with
  | some e1 => ∀ σ', EnvR C ι H e1 σ' → ButS ws σ σ' → Q σ' H
  | none => False
theorem pgImp {tg : Expr} {t t' : TG} (h : PG X tg t) (i : ∀ v σ H Q, t' v σ H Q → t v σ H Q) : PG X tg t' := ⟨fun pins s σ H v u Q I r q => h.run pins s σ H v u Q I r (i v σ H Q q)⟩
theorem pgsImp {tg : List Expr} {t t' : TGs} (h : PGs X tg t) (i : ∀ v σ H Q, t' v σ H Q → t v σ H Q) : PGs X tg t' := ⟨fun pins s σ H v u Q I r q => h.run pins s σ H v u Q I r (i v σ H Q q)⟩
theorem pgOr {tg : Expr} {t t' : TG} (h : PG X tg t) (h' : PG X tg t') : PG X tg (fun v σ H Q => t v σ H Q ∨ t' v σ H Q) :=
  ⟨fun pins s σ H v u Q I r q => q.elim (h.run pins s σ H v u Q I r) (h'.run pins s σ H v u Q I r)⟩
def gN (i : Nat) : MG := fun v env => some (env.set i (some v))
def gNl : MGs := fun xs env => match xs with
  | [] => some env
  | _ => none
def gCs (g : MG) (r : MGs) : MGs := fun xs env => match xs with
  | x :: xr => (g x env).bind fun e1 => r xr e1
  | [] => none
/-- a tuple or a list that stands still, taken apart -/
def gT (n : Nat) (g : MGs) : MG := fun v env => match v with
  | .tup xs => if xs.length = n then g xs env else none
  | .lst xs => if xs.length = n then g xs env else none
  | _ => none
theorem jg_n {i : Nat} {x : Str} (hN : X.N.Nodup) (hi : X.N[i]? = some x := by rfl) (hx : Loc X.env.scope x := by first | exact Or.inl rfl | exact Or.inr rfl) (hf : X.fn x = true ∨ X.env.scope.names.lookup x = some .local := by first | exact .inl rfl | exact .inr rfl | assumption) : PG X (.Name x pos) (tMG C [i] (gN i)) :=
  pgImp (pg_name hN hi hx hf) fun v σ H Q h => by
    obtain ⟨ι, env, S, y, he, hs, r, h⟩ := h
    exact h _ (he.set r i) ⟨by simp, fun j hj => List.getElem?_set_ne (fun e => hj (by simp [e]))⟩
theorem jgs_nil : PGs X [] (tMGs C [] gNl) := pgsImp pgs_nil fun v σ H Q h => by
  obtain ⟨ι, env, S, xs, he, hs, r, h⟩ := h
  cases xs with
  | nil => simp only [VRs] at r; exact ⟨r, h σ he ⟨rfl, fun _ _ => rfl⟩⟩
  | cons => exact h.elim
theorem jgs_cons {e : Expr} {es : List Expr} {g : MG} {r : MGs} {ws ws2 : List Nat} (h1 : PG X e (tMG C ws g)) (h2 : PGs X es (tMGs C ws2 r)) (hs : (assignEach (e :: es) X.env).map (·.2) = assign e X.env :: (assignEach es X.env).map (·.2) := by rfl) : PGs X (e :: es) (tMGs C (ws ++ ws2) (gCs g r)) :=
  pgsImp (pgs_cons h1 h2 hs) fun v σ H Q h => by
    obtain ⟨ι, env, S, xs, he, hs, rr, h⟩ := h
    cases xs with
    | nil => exact h.elim
    | cons x xr =>
      simp only [VRs] at rr
      obtain ⟨u, w, rfl, r1, r2⟩ := rr
      refine ⟨u, w, rfl, ι, env, S, x, he, hs, r1, ?_⟩
      simp only [gCs] at h
      cases e : g x env with
      | none => rw [e] at h; exact h
      | some e1 =>
        rw [e] at h
        intro σ' he' hb
        refine ⟨ι, e1, S, xr, he', hs, r2, ?_⟩
        simp only [Option.bind_some] at h
        cases e2 : r xr e1 with
        | none => rw [e2] at h; exact h
        | some e3 =>
          rw [e2] at h
          exact fun σ2 h2 hb2 => h σ2 h2 ⟨hb2.1.trans hb.1, fun j hj => (hb2.2 j fun z => hj (List.mem_append_right _ z)).trans (hb.2 j fun z => hj (List.mem_append_left _ z))⟩
theorem jg_t {es : List Expr} {k : Nat} {g : MGs} {n : Nat} {ws : List Nat} (hK : X.K = C.K) (hc : X.calm = true) (h : PGs X es (tMGs C ws g)) (hn : (assignEach es X.env).length = n := by rfl) (hst : (assignEach es X.env).findIdx? (·.1) = none := by rfl) : PG X (.Tuple es k pos) (tMG C ws (gT n g)) :=
  pgImp (pgOr (pg_tup hc h hn hst) (pg_lst hc h hn hst)) fun v σ H Q h => by
    obtain ⟨ι, env, S, x, he, hs, r, h⟩ := h
    cases x with
    | tup xs =>
      simp only [VR] at r
      obtain ⟨a, vs, rfl, h1, h2⟩ := r
      simp only [gT] at h
      split at h
      · rename_i e1 heq
        split at heq
        · rename_i hl
          refine .inl ⟨a, vs, rfl, by rw [hK]; exact h1.sq, by rw [h2.len]; exact hl, ι, env, S, xs, he, hs, h2, ?_⟩
          rw [heq]
          exact h
        · cases heq
      · exact h.elim
    | lst xs =>
      simp only [VR] at r
      obtain ⟨a, vs, rfl, h0, h1, h2⟩ := r
      simp only [gT] at h
      split at h
      · rename_i e1 heq
        split at heq
        · rename_i hl
          refine .inr ⟨a, vs, rfl, SqL.of h1, by rw [h2.len]; exact hl, ι, env, S, xs, he, hs, h2, ?_⟩
          rw [heq]
          exact h
        · cases heq
      · exact h.elim
    | _ => exact h.elim
def sSet (i : Nat) (m : ME) : MSt := fun env S => sBind (m env S) env fun v S1 => .nx (env.set i (some v)) S1
def sAsg (g : MG) (m : ME) : MSt := fun env S => sBind (m env S) env fun v S1 => match g v env with
  | some e1 => .nx e1 S1
  | none => .bad
theorem asg_name {i : Nat} {m : ME} {D : Ends} {σ : L2.St} {H : Hp} (h : tMS C W (sSet i m) D σ H) : tAsg (tM C W m) (gName i) D σ H := by
  obtain ⟨ι, env, S, he, hs, hp⟩ := h
  exact ⟨ι, env, S, he, hs, SPost.bind he hp fun x S1 ι1 H1 v e1 s1 q1 p1 => p1 ι1 H1 _ .refl s1 ((he.mono e1).set q1 i)⟩
theorem js_set {i : Nat} {x : Str} {e : Expr} {m : ME} {pos' : Pos} (hN : X.N.Nodup) (h : PE X e (tM C W m)) (hi : X.N[i]? = some x := by rfl) (hx : Loc X.env.scope x := by first | exact Or.inl rfl | exact Or.inr rfl) (hs : swapsWith e (some (.Name x pos')) pos.line X.env = pure false := by rfl) (hf : X.fn x = true ∨ X.env.scope.names.lookup x = some .local := by first | exact .inl rfl | exact .inr rfl | assumption) :
    PS X (.Assign [.Name x pos'] e pos) (tMS C W (sSet i m)) := psImp (ps_set hN hi hx h hs hf) fun _ _ _ => asg_name
theorem js_asg {tg e : Expr} {m : ME} {g : MG} {ws : List Nat} (h : PE X e (tM C W m)) (hg : PG X tg (tMG C ws g)) (hs : swapsWithSole [tg] e pos.line X.env = pure false := by rfl) (hw : swappedStores [tg] e X.env = pure none := by rfl) (h1 : (assignEach [tg] X.env).map (·.2) = [assign tg X.env] := by rfl) :
    PS X (.Assign [tg] e pos) (tMS C W (sAsg g m)) := psImp (ps_asg h hg hs hw h1) fun D σ H h => by
  obtain ⟨ι, env, S, he, hs, hp⟩ := h
  refine ⟨ι, env, S, he, hs, SPost.bind he hp fun x S1 ι1 H1 v e1 s1 q1 p1 => ?_⟩
  refine ⟨ι1, env, S1, x, he.mono e1, s1, q1, ?_⟩
  cases e : g x env with
  | none => rw [e] at p1; exact p1
  | some e2 =>
    rw [e] at p1
    intro σ' he' _
    exact p1 ι1 H1 σ' .refl s1 he'
/-- a, b = x, y -/
def sPar (i j : Nat) (a b : ME) : MSt := fun env S => sBind (a env S) env fun x S1 => sBind (b env S1) env fun y S2 => .nx ((env.set i (some x)).set j (some y)) S2
theorem js_par {i j : Nat} {x y : Str} {a b : Expr} {ma mb : ME} {px py pt : Pos} {kt k2 pt2} (hc : X.calm = true) (hN : X.N.Nodup) (ha : PE X a (tM C W ma)) (hb : PE X b (tM C W mb)) (hi : X.N[i]? = some x := by rfl) (hj : X.N[j]? = some y := by rfl) (hij : i ≠ j := by decide)
    (hx : X.env.scope.names.lookup x = some .local := by rfl) (hy : X.env.scope.names.lookup y = some .local := by rfl)
    (hw : swappedStores [.Tuple [.Name x px, .Name y py] kt pt] (.Tuple [a, b] k2 pt2) X.env = pure (some [x, y]) := by rfl)
    (hs : swapsWithSole [.Tuple [.Name x px, .Name y py] kt pt] (.Tuple [a, b] k2 pt2) pos.line X.env = pure false := by rfl)
    (hse : starEach [a, b] X.env = (false, eval a X.env) :: starEach [b] X.env := by rfl) (hse2 : starEach [b] X.env = (false, eval b X.env) :: starEach [] X.env := by rfl) :
    PS X (.Assign [.Tuple [.Name x px, .Name y py] kt pt] (.Tuple [a, b] k2 pt2) pos) (tMS C W (sPar i j ma mb)) :=
  psImp (ps_par hc hN hi hj hij hx hy (pa_cons ha (pa_cons hb pa_nil hse2) hse) hw hs) fun D σ H h => by
    obtain ⟨ι, env, S, he, hs, hp⟩ := h
    refine ⟨ι, env, S, he, hs, SPost.bind he hp fun x S1 ι1 H1 v e1 s1 q1 p1 => ?_⟩
    refine ⟨ι1, env, S1, he.mono e1, s1, SPost.bind (he.mono e1) p1 fun y S2 ι2 H2 u e2 s2 q2 p2 => ?_⟩
    exact ⟨v, u, rfl, p2 ι2 H2 _ .refl s2 ((((he.mono e1).mono e2).set (q1.mono e2) i).set q2 j)⟩
structure Itv where
  items : List MV
  deps : List (Nat × List MV)
def Itv.chk (t : Itv) (S : Sto) : Prop := ∀ p ∈ t.deps, S[p.1]? = some (.lst p.2)
def WalkOk (C : Ct) (ι : Io) (H : Hp) (t : Itv) (J : It) : Prop := ∃ (G : Hp → Prop) (Y : Nat → Hp → V → Hp → Prop), Walk J t.items.length G Y ∧
  (∀ ι' S' H', Ext ι H ι' H' → StR C ι' S' H' → t.chk S' → G H') ∧
  (∀ i ι' S' H1 x H2, Ext ι H ι' H1 → StR C ι' S' H1 → t.chk S' → i < t.items.length → Y i H1 x H2 → ∃ mv, t.items[i]? = some mv ∧ Ext ι' H1 ι' H2 ∧ StR C ι' S' H2 ∧ VR C ι' H2 mv x)
def tMI (C : Ct) (W : WX) (m : Env → Sto → Res Itv) : TI := fun σ H R => ∃ ι env S, EnvR C ι H env σ ∧ StR C ι S H ∧ Post C W (fun ι H => WalkOk C ι H) ι σ H (m env S) R
open Classical in
noncomputable def forL (t : Itv) (g : MG) (mb : MSt) : List MV → Env → Sto → SRes
  | [], env, S => if t.chk S then .nx env S else .bad
  | v :: vs, env, S => if t.chk S then (match g v env with
    | none => .bad
    | some e1 => match mb e1 S with
      | .nx e2 S2 => forL t g mb vs e2 S2
      | .ct e2 S2 => forL t g mb vs e2 S2
      | .bk e2 S2 => .nx e2 S2
      | .rt v S2 => .rt v S2
      | .ex x e2 S2 => .ex x e2 S2
      | .bad => .bad) else .bad
noncomputable def sFor (mi : Env → Sto → Res Itv) (g : MG) (mb : MSt) : MSt := fun env S => sBind (mi env S) env fun t S1 => forL t g mb t.items env S1
theorem for_core {t : Itv} {J : It} {g : MG} {ws : List Nat} {mb : MSt} {D : Ends} {ι : Io} {σ : L2.St} {H : Hp} {env : Env} {S : Sto} (he : EnvR C ι H env σ) (hs : StR C ι S H) (w : WalkOk C ι H t J) (hp : SPost C W ι H (forL t g mb t.items env S) D) :
    ∃ W' : Nat → Nat → L2.St → Hp → Prop, (∃ m, W' 0 m σ H) ∧ ∀ i m σ H, W' i m σ H →
      (J.stop i H ∧ D.nx σ H) ∨ (J.go i H ∧ ∃ N : L2.St → Hp → Prop, (∀ σ' H', N σ' H' → ∃ m', m' < m ∧ W' (i + 1) m' σ' H') ∧ ∀ x H', J.yld i H x H' → tMG C ws g x σ H' fun σ2 H2 => tMS C W mb { D with nx := N, ct := N, bk := D.nx } σ2 H2) := by
  obtain ⟨G, Y, wk, hG, hY⟩ := w
  refine for_it wk (fun i σ' H' => ∃ ι' env' S', Ext ι H ι' H' ∧ EnvR C ι' H' env' σ' ∧ StR C ι' S' H' ∧ SPost C W ι' H' (forL t g mb (t.items.drop i) env' S') D) ⟨ι, env, S, .refl, he, hs, by rw [List.drop_zero]; exact hp⟩ ?_ ?_ ?_
  · rintro i σ' H' hi ⟨ι', env', S', e1, he', hs', hp'⟩
    have hc : t.chk S' := by
      cases hd : t.items.drop i with
      | nil => rw [hd] at hp'; unfold forL at hp'; split at hp'; assumption; exact hp'.elim
      | cons v vs => rw [hd] at hp'; unfold forL at hp'; split at hp'; assumption; exact hp'.elim
    exact hG ι' S' H' e1 hs' hc
  · rintro i x σ' H' H2 hi ⟨ι', env', S', e1, he', hs', hp'⟩ y
    rw [List.drop_eq_getElem_cons hi] at hp'
    unfold forL at hp'
    split at hp'
    · rename_i hc
      obtain ⟨mv, em, e2, s2, r2⟩ := hY i ι' S' H' x H2 e1 hs' hc hi y
      have : t.items[i] = mv := by rw [List.getElem?_eq_getElem hi] at em; exact Option.some.inj em
      rw [this] at hp'
      refine ⟨ι', env', S', mv, he'.mono e2, s2, r2, ?_⟩
      cases eg : g mv env' with
      | none => rw [eg] at hp'; exact hp'
      | some en =>
        rw [eg] at hp'
        intro σ2 he2 _
        refine ⟨ι', en, S', he2, s2, ?_⟩
        have hp2 := hp'.mono e2
        simp only at hp2
        cases eb : mb en S' with
        | nx e3 S3 =>
          rw [eb] at hp2
          exact fun ι3 H3 σ3 x3 s3 r3 => ⟨ι3, e3, S3, (e1.trans e2).trans x3, r3, s3, hp2.mono x3⟩
        | ct e3 S3 =>
          rw [eb] at hp2
          exact fun ι3 H3 σ3 x3 s3 r3 => ⟨ι3, e3, S3, (e1.trans e2).trans x3, r3, s3, hp2.mono x3⟩
        | bk e3 S3 => rw [eb] at hp2; exact hp2
        | rt v S3 => rw [eb] at hp2; exact hp2
        | ex x e3 S3 => rw [eb] at hp2; exact hp2
        | bad => rw [eb] at hp2; exact hp2
    · exact hp'.elim
  · rintro σ' H' ⟨ι', env', S', e1, he', hs', hp'⟩
    rw [List.drop_length] at hp'
    unfold forL at hp'
    split at hp'
    · exact hp' ι' H' σ' .refl hs' he'
    · exact hp'.elim
theorem js_for {tg iter : Expr} {body : List Stmt} {mi : Env → Sto → Res Itv} {g : MG} {ws : List Nat} {mb : MSt} (hp : PassesOwn (model X.prog X.w) X.A X.env X.xe) (hc : X.calm = true) (hi : PI X tg iter (tMI C W mi)) (hg : PG X tg (tMG C ws g)) (hb : PSs X body (tMS C W mb))
    (hs : ∀ x, foldedSetIterable iter X.env x = pure x := by intro _; rfl) : PS X (.For tg iter body [] pos) (tMS C W (sFor mi g mb)) :=
  psImp (ps_for hp hc hi hg hb hs) fun D σ H h => by
    obtain ⟨ι, env, S, he, hs, hp⟩ := h
    refine ⟨ι, env, S, he, hs, SPost.bind he hp fun t S1 ι1 H1 J e1 s1 q1 p1 => ?_⟩
    exact for_core (he.mono e1) s1 q1 p1
def whileL (c : MB) (mb : MSt) : Nat → Env → Sto → SRes
  | 0, _, _ => .bad
  | n + 1, env, S => sBind (c env S) env fun x S1 => if x = true then (match mb env S1 with
    | .nx e2 S2 => whileL c mb n e2 S2
    | .ct e2 S2 => whileL c mb n e2 S2
    | .bk e2 S2 => .nx e2 S2
    | .rt v S2 => .rt v S2
    | .ex x e2 S2 => .ex x e2 S2
    | .bad => .bad) else .nx env S1
open Classical in
noncomputable def sWhile (c : MB) (mb : MSt) : MSt := fun env S => if h : ∃ n, whileL c mb n env S ≠ .bad then whileL c mb (Classical.choose h) env S else .bad
end
end Mi
namespace Mi
open PySem L2
mutual
/-- no place from n on -/
def Cl (n : Nat) : MV → Prop
  | .tup xs => ClL n xs
  | .lst xs => ClL n xs
  | .rol xs => ClL n xs
  | .dic kvs => Clk n kvs
  | .ins _ fs => Clf n fs
  | .ref l => l < n
  | .clo _ cs => ClL n cs
  | _ => True
def ClL (n : Nat) : List MV → Prop
  | [] => True
  | x :: r => Cl n x ∧ ClL n r
def Clk (n : Nat) : List (MV × MV) → Prop
  | [] => True
  | p :: r => Clp n p ∧ Clk n r
def Clp (n : Nat) : MV × MV → Prop
  | (_, x) => Cl n x
def Clf (n : Nat) : List (Str × MV) → Prop
  | [] => True
  | p :: r => Clg n p ∧ Clf n r
def Clg (n : Nat) : Str × MV → Prop
  | (_, x) => Cl n x
end
def ClO (n : Nat) : MO → Prop
  | .lst xs => ClL n xs
  | .dic kvs => Clk n kvs
  | .ins _ fs => Clf n fs
  | .td kvs => Clk n kvs
  | .tb _ => True
theorem nkat_cl {n : Nat} {x : MV} {k : Key} (h : nkat x = some k) : Cl n x := by
  cases x <;> first | (simp only [Cl]; done) | cases h
theorem nkats_cl {n : Nat} : ∀ {xs : List MV} {ks : List Key}, optM nkat xs = some ks → ClL n xs
  | [], _, _ => by simp only [ClL]
  | x :: r, ks, h => by
    simp only [optM] at h
    split at h
    · rename_i y ys e1 e2
      simp only [ClL]
      exact ⟨nkat_cl e1, nkats_cl e2⟩
    · cases h
theorem nkit_cl {n : Nat} {x : MV} {k : KI} (h : nkit x = some k) : Cl n x := by
  cases x with
  | int i => simp only [Cl]
  | str s => simp only [Cl]
  | tup xs =>
    simp only [nkit, Option.map_eq_some_iff] at h
    obtain ⟨ks, e, _⟩ := h
    simp only [Cl]; exact nkats_cl e
  | _ => cases h
theorem nkits_cl {n : Nat} : ∀ {xs : List MV} {ks : NK}, optM nkit xs = some ks → ClL n xs
  | [], _, _ => by simp only [ClL]
  | x :: r, ks, h => by
    simp only [optM] at h
    split at h
    · rename_i y ys e1 e2
      simp only [ClL]
      exact ⟨nkit_cl e1, nkits_cl e2⟩
    · cases h
theorem nkey_cl {n : Nat} {x : MV} {k : NK} (h : nkey x = some k) : Cl n x := by
  cases x with
  | tup xs => simp only [nkey] at h; simp only [Cl]; exact nkits_cl h
  | _ => cases h
section
variable {C : Ct} {ι : Io} {H : Hp}
mutual
theorem VR.closed : ∀ (x : MV) (v : V), VR C ι H x v → Cl ι.length x
  | .non, v, h => by simp only [Cl]
  | .bl _, v, h => by simp only [Cl]
  | .int _, v, h => by simp only [Cl]
  | .str _, v, h => by simp only [Cl]
  | .ty _, v, h => by simp only [Cl]
  | .fn _, v, h => by simp only [Cl]
  | .clo g cs, v, h => by
    simp only [VR] at h
    obtain ⟨f, c, cl, vs, h1, h2, h3, h4, h5, h6, h7⟩ := h
    simp only [Cl]; exact VRs.closed cs vs h7
  | .tup xs, v, h => by
    simp only [VR] at h
    obtain ⟨a, vs, h1, h2, h3⟩ := h
    simp only [Cl]; exact VRs.closed xs vs h3
  | .lst xs, v, h => by
    simp only [VR] at h
    obtain ⟨a, vs, h1, h2, h3, h4⟩ := h
    simp only [Cl]; exact VRs.closed xs vs h4
  | .rol xs, v, h => by
    simp only [VR] at h
    obtain ⟨a, vs, h1, h2, h3⟩ := h
    simp only [Cl]; exact VRs.closed xs vs h3
  | .dic kvs, v, h => by
    simp only [VR] at h
    obtain ⟨a, kx, h1, h2, h3, h4⟩ := h
    simp only [Cl]; exact KRs.closed kvs kx h4
  | .ins c fs, v, h => by
    simp only [VR] at h
    obtain ⟨a, dx, fx, h1, h2, h3, h4⟩ := h
    simp only [Cl]; exact FRs.closed fs fx h4
  | .ref l, v, h => by
    simp only [VR] at h
    obtain ⟨a, h1, h2⟩ := h
    simp only [Cl]; exact (List.getElem?_eq_some_iff.mp h2).1
theorem VRs.closed : ∀ (x : List MV) (v : List V), VRs C ι H x v → ClL ι.length x
  | [], v, h => by simp only [ClL]
  | x :: r, v, h => by
    simp only [VRs] at h
    obtain ⟨u, w, h1, h2, h3⟩ := h
    simp only [ClL]; exact ⟨VR.closed x u h2, VRs.closed r w h3⟩
theorem KRs.closed : ∀ (x : List (MV × MV)) (v : List (Key × V)), KRs C ι H x v → Clk ι.length x
  | [], v, h => by simp only [Clk]
  | x :: r, v, h => by
    simp only [KRs] at h
    obtain ⟨u, w, h1, h2, h3⟩ := h
    simp only [Clk]; exact ⟨KR.closed x u h2, KRs.closed r w h3⟩
theorem KR.closed : ∀ (x : MV × MV) (v : Key × V), KR C ι H x v → Clp ι.length x
  | (k, x), v, h => by
    simp only [KR] at h
    simp only [Clp]; exact VR.closed x v.2 h.2
theorem FRs.closed : ∀ (x : List (Str × MV)) (v : List (Str × V)), FRs C ι H x v → Clf ι.length x
  | [], v, h => by simp only [Clf]
  | x :: r, v, h => by
    simp only [FRs] at h
    obtain ⟨u, w, h1, h2, h3⟩ := h
    simp only [Clf]; exact ⟨FR.closed x u h2, FRs.closed r w h3⟩
theorem FR.closed : ∀ (x : Str × MV) (v : Str × V), FR C ι H x v → Clg ι.length x
  | (k, x), v, h => by
    simp only [FR] at h
    simp only [Clg]; exact VR.closed x v.2 h.2
end
/-- a part of the places, the first n of them where they were -/
structure Shr (ι ι2 : Io) (n : Nat) : Prop where
  sub : ∀ b, b ∈ ι2 → b ∈ ι
  at' : ∀ l a, l < n → ι[l]? = some a → ι2[l]? = some a
theorem Shr.take {n : Nat} : Shr ι (ι.take n) n := ⟨fun _ h => List.mem_of_mem_take h, fun l a hl h => by rw [List.getElem?_take_of_lt hl]; exact h⟩
variable {ι2 : Io}
theorem FL.shrink {a : Addr} {xs : List V} {n : Nat} (w : Shr ι ι2 n) (h : FL C ι H a xs) : FL C ι2 H a xs := h.elim (fun h => .inl ⟨fun z => h.1 (w.sub _ z), h.2⟩) .inr
theorem FT.shrink {a : Addr} {xs : List V} {n : Nat} (w : Shr ι ι2 n) (h : FT C ι H a xs) : FT C ι2 H a xs := h.elim (fun h => .inl ⟨fun z => h.1 (w.sub _ z), h.2⟩) .inr
theorem CelR.shrink {fr : List Str} {cl : List (Str × Addr)} {vs : List V} {n : Nat} (w : Shr ι ι2 n) (h : CelR ι H fr cl vs) : CelR ι2 H fr cl vs :=
  ⟨h.len, fun y c q => ⟨(h.dom y c q).1, fun z => (h.dom y c q).2 (w.sub _ z)⟩, h.inj, h.has⟩
theorem TbR.shrink {a : Addr} {nm : Nat → Nat → Str} {n : Nat} (w : Shr ι ι2 n) (h : TbR ι H a nm) : TbR ι2 H a nm := by
  obtain ⟨ps, h1, h2, h3⟩ := h
  refine ⟨ps, h1, h2, fun pos cv hc => ?_⟩
  obtain ⟨c, e1, e2, e3⟩ := h3 pos cv hc
  exact ⟨c, e1, fun z => e2 (w.sub _ z), e3⟩
mutual
theorem VR.shrink {n : Nat} (w : Shr ι ι2 n) : ∀ (x : MV) (v : V), Cl n x → VR C ι H x v → VR C ι2 H x v
  | .non, v, _, h => by simpa only [VR] using h
  | .bl _, v, _, h => by simpa only [VR] using h
  | .int _, v, _, h => by simpa only [VR] using h
  | .str _, v, _, h => by simpa only [VR] using h
  | .ty _, v, _, h => by simpa only [VR] using h
  | .fn _, v, _, h => by simpa only [VR] using h
  | .clo g cs, v, c, h => by
    simp only [VR] at h ⊢
    simp only [Cl] at c
    obtain ⟨f, k, cl, vs, h1, h2, h3, h4, h5, h6, h7⟩ := h
    exact ⟨f, k, cl, vs, h1, fun z => h2 (w.sub _ z), h3, fun z => h4 (w.sub _ z), h5, h6.shrink w, VRs.shrink w cs vs c h7⟩
  | .tup xs, v, c, h => by
    simp only [VR] at h ⊢
    simp only [Cl] at c
    obtain ⟨a, vs, h1, h2, h3⟩ := h
    exact ⟨a, vs, h1, h2.shrink w, VRs.shrink w xs vs c h3⟩
  | .lst xs, v, c, h => by
    simp only [VR] at h ⊢
    simp only [Cl] at c
    obtain ⟨a, vs, h1, h2, h3, h4⟩ := h
    exact ⟨a, vs, h1, fun z => h2 (w.sub _ z), h3, VRs.shrink w xs vs c h4⟩
  | .rol xs, v, c, h => by
    simp only [VR] at h ⊢
    simp only [Cl] at c
    obtain ⟨a, vs, h1, h2, h3⟩ := h
    exact ⟨a, vs, h1, h2.shrink w, VRs.shrink w xs vs c h3⟩
  | .dic kvs, v, c, h => by
    simp only [VR] at h ⊢
    simp only [Cl] at c
    obtain ⟨a, kx, h1, h2, h3, h4⟩ := h
    exact ⟨a, kx, h1, fun z => h2 (w.sub _ z), h3, KRs.shrink w kvs kx c h4⟩
  | .ins k fs, v, c, h => by
    simp only [VR] at h ⊢
    simp only [Cl] at c
    obtain ⟨a, dx, fx, h1, h2, h3, h4⟩ := h
    exact ⟨a, dx, fx, h1, fun z => h2 (w.sub _ z), h3, FRs.shrink w fs fx c h4⟩
  | .ref l, v, c, h => by
    simp only [VR] at h ⊢
    simp only [Cl] at c
    obtain ⟨a, h1, h2⟩ := h
    exact ⟨a, h1, w.at' l a c h2⟩
theorem VRs.shrink {n : Nat} (w : Shr ι ι2 n) : ∀ (x : List MV) (v : List V), ClL n x → VRs C ι H x v → VRs C ι2 H x v
  | [], v, _, h => by simpa only [VRs] using h
  | x :: r, v, c, h => by
    simp only [VRs] at h ⊢
    simp only [ClL] at c
    obtain ⟨u, t, h1, h2, h3⟩ := h
    exact ⟨u, t, h1, VR.shrink w x u c.1 h2, VRs.shrink w r t c.2 h3⟩
theorem KRs.shrink {n : Nat} (w : Shr ι ι2 n) : ∀ (x : List (MV × MV)) (v : List (Key × V)), Clk n x → KRs C ι H x v → KRs C ι2 H x v
  | [], v, _, h => by simpa only [KRs] using h
  | x :: r, v, c, h => by
    simp only [KRs] at h ⊢
    simp only [Clk] at c
    obtain ⟨u, t, h1, h2, h3⟩ := h
    exact ⟨u, t, h1, KR.shrink w x u c.1 h2, KRs.shrink w r t c.2 h3⟩
theorem KR.shrink {n : Nat} (w : Shr ι ι2 n) : ∀ (x : MV × MV) (v : Key × V), Clp n x → KR C ι H x v → KR C ι2 H x v
  | (k, x), v, c, h => by
    simp only [KR] at h ⊢
    simp only [Clp] at c
    exact ⟨h.1, VR.shrink w x v.2 c h.2⟩
theorem FRs.shrink {n : Nat} (w : Shr ι ι2 n) : ∀ (x : List (Str × MV)) (v : List (Str × V)), Clf n x → FRs C ι H x v → FRs C ι2 H x v
  | [], v, _, h => by simpa only [FRs] using h
  | x :: r, v, c, h => by
    simp only [FRs] at h ⊢
    simp only [Clf] at c
    obtain ⟨u, t, h1, h2, h3⟩ := h
    exact ⟨u, t, h1, FR.shrink w x u c.1 h2, FRs.shrink w r t c.2 h3⟩
theorem FR.shrink {n : Nat} (w : Shr ι ι2 n) : ∀ (x : Str × MV) (v : Str × V), Clg n x → FR C ι H x v → FR C ι2 H x v
  | (k, x), v, c, h => by
    simp only [FR] at h ⊢
    simp only [Clg] at c
    exact ⟨h.1, VR.shrink w x v.2 c h.2⟩
end
theorem TRs.closed : ∀ (x : List (MV × MV)) (v : List (NK × Addr × V)), TRs C ι H x v → Clk ι.length x
  | [], v, h => by simp only [Clk]
  | x :: r, v, h => by
    obtain ⟨u, w, h1, h2, h3⟩ := h
    obtain ⟨k, x⟩ := x
    simp only [Clk, Clp]; exact ⟨VR.closed _ _ h2.2.2, TRs.closed r w h3⟩
theorem TRs.shrink {n : Nat} (w : Shr ι ι2 n) : ∀ (x : List (MV × MV)) (v : List (NK × Addr × V)), Clk n x → TRs C ι H x v → TRs C ι2 H x v
  | [], v, _, h => h
  | x :: r, v, c, h => by
    obtain ⟨u, t, h1, h2, h3⟩ := h
    obtain ⟨k, x⟩ := x
    simp only [Clk, Clp] at c
    exact ⟨u, t, h1, ⟨h2.1, VR.shrink w _ _ (nkey_cl h2.1) h2.2.1, VR.shrink w _ _ c.1 h2.2.2⟩, TRs.shrink w r t c.2 h3⟩
theorem OR.closed {a : Addr} {o : MO} (h : OR C ι H a o) : ClO ι.length o := by
  cases o with
  | lst xs => obtain ⟨vs, _, h⟩ := h; exact VRs.closed _ _ h
  | dic xs => obtain ⟨vs, _, h⟩ := h; exact KRs.closed _ _ h
  | ins c xs => obtain ⟨_, vs, _, h⟩ := h; exact FRs.closed _ _ h
  | td xs => obtain ⟨vs, _, h⟩ := h; exact TRs.closed _ _ h
  | tb t => exact True.intro
theorem OR.shrink {n : Nat} {a : Addr} {o : MO} (w : Shr ι ι2 n) (c : ClO n o) (h : OR C ι H a o) : OR C ι2 H a o := by
  cases o with
  | lst xs => obtain ⟨vs, h1, h⟩ := h; exact ⟨vs, h1, VRs.shrink w _ _ c h⟩
  | dic xs => obtain ⟨vs, h1, h⟩ := h; exact ⟨vs, h1, KRs.shrink w _ _ c h⟩
  | ins k xs => obtain ⟨dx, vs, h1, h⟩ := h; exact ⟨dx, vs, h1, FRs.shrink w _ _ c h⟩
  | td xs => obtain ⟨vs, h1, h⟩ := h; exact ⟨vs, h1, TRs.shrink w _ _ c h⟩
  | tb t => exact ⟨h.1, h.2.shrink w⟩
end
/-- through a list, all or none -/
def optL {α β : Type} (f : α → Option β) : List α → Option (List β)
  | [] => some []
  | x :: r => match f x, optL f r with
    | some y, some ys => some (y :: ys)
    | _, _ => none
open Classical in
noncomputable def fz (S : Sto) (n : Nat) : Nat → MV → Option MV
  | 0, v => if Cl n v then some v else none
  | d + 1, v => if Cl n v then some v else match v with
    | .ref l => match S[l]? with
      | some (.lst xs) => (optL (fz S n d) xs).map .lst
      | some (.dic kvs) => (optL (fun p => (fz S n d p.2).map fun y => (p.1, y)) kvs).map .dic
      | some (.ins c fs) => (optL (fun p => (fz S n d p.2).map fun y => (p.1, y)) fs).map (.ins c)
      | _ => none
    | .tup xs => (optL (fz S n d) xs).map .tup
    | .lst xs => (optL (fz S n d) xs).map .lst
    | _ => none
theorem fz_cl {S : Sto} {n d : Nat} {v : MV} (h : Cl n v) : fz S n d v = some v := by
  cases d <;> (unfold fz; rw [if_pos h])
section
variable {C : Ct} {ι : Io} {S : Sto} {H : Hp}
theorem optL_vrs {f : MV → Option MV} {n : Nat} (hf : ∀ x y v, f x = some y → VR C ι H x v → VR C (ι.take n) H y v) : ∀ (xs ys : List MV) (vs : List V), optL f xs = some ys → VRs C ι H xs vs → VRs C (ι.take n) H ys vs
  | [], ys, vs, h, r => by
    simp only [optL, Option.some.injEq] at h
    subst h
    simpa only [VRs] using r
  | x :: xr, ys, vs, h, r => by
    simp only [optL] at h
    split at h
    · rename_i y yr e1 e2
      simp only [Option.some.injEq] at h
      subst h
      simp only [VRs] at r ⊢
      obtain ⟨v, w, rfl, r1, r2⟩ := r
      exact ⟨v, w, rfl, hf _ _ _ e1 r1, optL_vrs hf xr yr w e2 r2⟩
    · cases h
theorem optL_krs {f : MV → Option MV} {n : Nat} (hf : ∀ x y v, f x = some y → VR C ι H x v → VR C (ι.take n) H y v) : ∀ (xs ys : List (MV × MV)) (vs : List (Key × V)), optL (fun p => (f p.2).map fun y => (p.1, y)) xs = some ys → KRs C ι H xs vs → KRs C (ι.take n) H ys vs
  | [], ys, vs, h, r => by
    simp only [optL, Option.some.injEq] at h
    subst h
    simpa only [KRs] using r
  | (k, x) :: xr, ys, vs, h, r => by
    simp only [optL] at h
    split at h
    · rename_i y yr e1 e2
      simp only [Option.some.injEq] at h
      subst h
      cases e : f x with
      | none => rw [e] at e1; cases e1
      | some z =>
        rw [e] at e1
        simp only [Option.map_some, Option.some.injEq] at e1
        subst e1
        simp only [KRs, KR] at r ⊢
        obtain ⟨v, w, rfl, r1, r2⟩ := r
        exact ⟨v, w, rfl, ⟨r1.1, hf _ _ _ e r1.2⟩, optL_krs hf xr yr w e2 r2⟩
    · cases h
theorem optL_frs {f : MV → Option MV} {n : Nat} (hf : ∀ x y v, f x = some y → VR C ι H x v → VR C (ι.take n) H y v) : ∀ (xs ys : List (Str × MV)) (vs : List (Str × V)), optL (fun p => (f p.2).map fun y => (p.1, y)) xs = some ys → FRs C ι H xs vs → FRs C (ι.take n) H ys vs
  | [], ys, vs, h, r => by
    simp only [optL, Option.some.injEq] at h
    subst h
    simpa only [FRs] using r
  | (k, x) :: xr, ys, vs, h, r => by
    simp only [optL] at h
    split at h
    · rename_i y yr e1 e2
      simp only [Option.some.injEq] at h
      subst h
      cases e : f x with
      | none => rw [e] at e1; cases e1
      | some z =>
        rw [e] at e1
        simp only [Option.map_some, Option.some.injEq] at e1
        subst e1
        simp only [FRs, FR] at r ⊢
        obtain ⟨v, w, rfl, r1, r2⟩ := r
        exact ⟨v, w, rfl, ⟨r1.1, hf _ _ _ e r1.2⟩, optL_frs hf xr yr w e2 r2⟩
    · cases h
theorem notin_take {n l : Nat} {a : Addr} (nd : ι.Nodup) (h : ι[l]? = some a) (hl : n ≤ l) : a ∉ ι.take n := fun hm => by
  obtain ⟨k, hk, e⟩ := List.mem_iff_getElem.mp hm
  have hk' : k < n ∧ k < ι.length := by rw [List.length_take] at hk; omega
  have e2 : ι[k]? = some a := by
    have h1 : (ι.take n)[k]? = some a := by rw [List.getElem?_eq_getElem hk, e]
    rwa [List.getElem?_take_of_lt hk'.1] at h1
  obtain ⟨h1, q1⟩ := List.getElem?_eq_some_iff.mp h
  obtain ⟨h2, q2⟩ := List.getElem?_eq_some_iff.mp e2
  have := (List.getElem_inj nd).mp (q2.trans q1.symm)
  omega
theorem fz_ok (s : StR C ι S H) {n : Nat} : ∀ (d : Nat) (x y : MV) (v : V), fz S n d x = some y → VR C ι H x v → VR C (ι.take n) H y v
  | 0, x, y, v, h, r => by
    unfold fz at h
    split at h
    · rename_i c
      simp only [Option.some.injEq] at h
      subst h
      exact VR.shrink .take _ _ c r
    · cases h
  | d + 1, x, y, v, h, r => by
    unfold fz at h
    split at h
    · rename_i c
      simp only [Option.some.injEq] at h
      subst h
      exact VR.shrink .take _ _ c r
    · rename_i nc
      have ih := fz_ok s (n := n) d
      split at h
      · rename_i l
        simp only [Cl, Nat.not_lt] at nc
        simp only [VR] at r
        obtain ⟨a, rfl, hl⟩ := r
        have na := notin_take s.nd hl nc
        split at h
        · rename_i xs e
          obtain ⟨vs, h1, h2⟩ := s.ob l _ a e hl
          cases e2 : optL (fz S n d) xs with
          | none => rw [e2] at h; cases h
          | some ys =>
            rw [e2] at h
            simp only [Option.map_some, Option.some.injEq] at h
            subst h
            simp only [VR]
            exact ⟨a, vs, rfl, na, h1, optL_vrs ih xs ys vs e2 h2⟩
        · rename_i kvs e
          obtain ⟨vs, h1, h2⟩ := s.ob l _ a e hl
          cases e2 : optL (fun p => (fz S n d p.2).map fun y => (p.1, y)) kvs with
          | none => rw [e2] at h; cases h
          | some ys =>
            rw [e2] at h
            simp only [Option.map_some, Option.some.injEq] at h
            subst h
            simp only [VR]
            exact ⟨a, vs, rfl, na, .inl h1, optL_krs ih kvs ys vs e2 h2⟩
        · rename_i c fs e
          obtain ⟨dx, vs, h1, h2⟩ := s.ob l _ a e hl
          cases e2 : optL (fun p => (fz S n d p.2).map fun y => (p.1, y)) fs with
          | none => rw [e2] at h; cases h
          | some ys =>
            rw [e2] at h
            simp only [Option.map_some, Option.some.injEq] at h
            subst h
            simp only [VR]
            exact ⟨a, dx, vs, rfl, na, h1, optL_frs ih fs ys vs e2 h2⟩
        · cases h
      · rename_i xs
        simp only [VR] at r
        obtain ⟨a, vs, rfl, h1, h2⟩ := r
        cases e2 : optL (fz S n d) xs with
        | none => rw [e2] at h; cases h
        | some ys =>
          rw [e2] at h
          simp only [Option.map_some, Option.some.injEq] at h
          subst h
          simp only [VR]
          exact ⟨a, vs, rfl, h1.shrink .take, optL_vrs ih xs ys vs e2 h2⟩
      · rename_i xs
        simp only [VR] at r
        obtain ⟨a, vs, rfl, h0, h1, h2⟩ := r
        cases e2 : optL (fz S n d) xs with
        | none => rw [e2] at h; cases h
        | some ys =>
          rw [e2] at h
          simp only [Option.map_some, Option.some.injEq] at h
          subst h
          simp only [VR]
          exact ⟨a, vs, rfl, fun z => h0 (Shr.take.sub _ z), h1, optL_vrs ih xs ys vs e2 h2⟩
      · cases h
end
/-- the places that stood there are unchanged, or hold nothing that is new -/
def Keeps (S S' : Sto) : Prop := S.length ≤ S'.length ∧ ∀ l, l < S.length → S'[l]? = S[l]? ∨ ∃ o, S'[l]? = some o ∧ ClO S.length o
open Classical in
noncomputable def leaveV (S S' : Sto) (v : MV) : Res MV := if Keeps S S' then (match fz S' S.length 6 v with
  | some y => .ok y (S'.take S.length)
  | none => .bad) else .bad
open Classical in
/-- a new place is handed on as one -/
noncomputable def leaveR (S S' : Sto) (v : MV) : Res MV := if Keeps S S' then (match v with
  | .ref l => if S.length ≤ l then (match S'[l]? with
    | some o => if ClO S.length o then .ok (.ref S.length) (S'.take S.length ++ [o]) else .bad
    | none => .bad) else .bad
  | _ => .bad) else .bad
open Classical in
noncomputable def leaveX {α : Type} (S S' : Sto) (x : MX) : Res α := if Keeps S S' ∧ Clf S.length x.fs then .ex x (S'.take S.length) else .bad
section
variable {C : Ct} {ι ι' : Io} {S S' : Sto} {H H' : Hp}
theorem StR.leave (s : StR C ι S H) (e : Ext ι H ι' H') (s' : StR C ι' S' H') (k : Keeps S S') : Ext ι H ι H' ∧ StR C ι (S'.take S.length) H' ∧ ι'.take S.length = ι := by
  have ei : ι'.take S.length = ι := by
    obtain ⟨t, q⟩ := e.pre
    rw [← q, ← s.len, List.take_left']
    rfl
  have E1 : Ext ι H ι H' := ⟨List.prefix_refl _, fun a h => .inl h, e.oldT⟩
  refine ⟨E1, ⟨by rw [List.length_take, s.len]; have := k.1; omega, s.nd, fun l o a e1 e2 => ?_, s.exM E1⟩, ei⟩
  have hl : l < S.length := by rw [← s.len]; exact (List.getElem?_eq_some_iff.mp e2).1
  rw [List.getElem?_take_of_lt hl] at e1
  have q := s'.ob l o a e1 (e.at e2)
  rw [← ei]
  refine q.shrink .take ?_
  rcases k.2 l hl with z | ⟨o', z, c⟩
  · rw [z] at e1
    have := (s.ob l o a e1 e2).closed
    rwa [s.len] at this
  · rw [z] at e1; cases e1
    exact c
theorem leaveV_ok {v y : MV} {S2 : Sto} {x : V} (s : StR C ι S H) (e : Ext ι H ι' H') (s' : StR C ι' S' H') (r : VR C ι' H' v x) (h : leaveV S S' v = .ok y S2) : Ext ι H ι H' ∧ StR C ι S2 H' ∧ VR C ι H' y x := by
  unfold leaveV at h
  split at h
  · rename_i k
    obtain ⟨e1, s1, ei⟩ := s.leave e s' k
    split at h
    · rename_i z hz
      injection h with h1 h2
      subst h1; subst h2
      have q := fz_ok s' 6 _ _ _ hz r
      rw [ei] at q
      exact ⟨e1, s1, q⟩
    · cases h
  · cases h
theorem leaveR_ok {v y : MV} {S2 : Sto} {x : V} (s : StR C ι S H) (e : Ext ι H ι' H') (s' : StR C ι' S' H') (r : VR C ι' H' v x) (h : leaveR S S' v = .ok y S2) : ∃ ι2, Ext ι H ι2 H' ∧ StR C ι2 S2 H' ∧ VR C ι2 H' y x := by
  unfold leaveR at h
  split at h
  · rename_i k
    obtain ⟨e1, s1, ei⟩ := s.leave e s' k
    split at h
    · rename_i l
      split at h
      · rename_i hl
        split at h
        · rename_i o ho
          split at h
          · rename_i hc
            injection h with h1 h2
            subst h1; subst h2
            simp only [VR] at r
            obtain ⟨a, rfl, ha⟩ := r
            have na := notin_take s'.nd ha hl
            rw [ei] at na
            have q := s'.ob l o a ho ha
            have hn : H a = none := by
              rcases e.new a (List.mem_of_getElem? ha) with z | z
              · exact absurd z na
              · exact z
            have mem2 : ∀ b, b ∈ ι ++ [a] → b ∈ ι ∨ b = a := fun b hb => (List.mem_append.mp hb).imp id fun z => by simpa using z
            have hat : ∀ l2 b, l2 < S.length → ι'[l2]? = some b → (ι ++ [a])[l2]? = some b := fun l2 b hl2 hb => by
              rw [List.getElem?_append_left (by rw [s.len]; exact hl2), ← ei, List.getElem?_take_of_lt hl2]
              exact hb
            have w : Shr ι' (ι ++ [a]) S.length := ⟨fun b hb => by
              rcases mem2 b hb with z | z
              · exact e.pre.subset z
              · rw [z]; exact List.mem_of_getElem? ha, hat⟩
            have E1 : Ext ι H (ι ++ [a]) H' := ⟨List.prefix_append _ _, fun b hb => by
              rcases mem2 b hb with z | z
              · exact .inl z
              · exact .inr (by rw [z]; exact hn), e.oldT⟩
            refine ⟨ι ++ [a], E1, ⟨by simp [s.len]; have := k.1; omega, ?_, fun l2 o2 b e1 e2 => ?_, s.exM E1⟩, ?_⟩
            · rw [List.nodup_append]
              refine ⟨s.nd, by simp, fun b hb c hc2 z => ?_⟩
              have : c = a := by simpa using hc2
              subst this; subst z
              exact na hb
            · by_cases h2 : l2 < S.length
              · rw [List.getElem?_append_left (by rw [List.length_take]; have := k.1; omega), List.getElem?_take_of_lt h2] at e1
                rw [List.getElem?_append_left (by rw [s.len]; exact h2)] at e2
                refine (s'.ob l2 o2 b e1 (e.at e2)).shrink w ?_
                rcases k.2 l2 h2 with z | ⟨o', z, c⟩
                · rw [z] at e1
                  have := (s.ob l2 o2 b e1 e2).closed
                  rwa [s.len] at this
                · rw [z] at e1; cases e1
                  exact c
              · have hlt := (List.getElem?_eq_some_iff.mp e2).1
                have e3 : l2 = S.length := by simp [s.len] at hlt; omega
                subst e3
                have h3 : b = a := by
                  rw [← s.len] at e2
                  simpa using e2.symm
                have h4 : o2 = o := by
                  rw [List.getElem?_append_right (by rw [List.length_take]; omega)] at e1
                  have : S.length - (S'.take S.length).length = 0 := by rw [List.length_take]; have := k.1; omega
                  rw [this] at e1
                  simpa using e1.symm
                subst h3; subst h4
                exact q.shrink w hc
            · simp only [VR]
              exact ⟨a, rfl, by rw [← s.len]; simp⟩
          · cases h
        · cases h
      · cases h
    · cases h
  · cases h
end
end Mi
namespace Mi
open PySem L2
def spM (C : Ct) (n : Nat) (g : List MV → Sto → Res MV) : Sp := fun vs H Q E => vs.length = n ∧ ∃ ι S args, StR C ι S H ∧ VRs C ι H args vs ∧ Post C (fun cls d _ H' => E cls d H') (VR C) ι [] H (g args S) Q
def env0 (n : Nat) (args : List MV) : Env := args.map some ++ List.replicate (n - args.length) none
noncomputable def mDef (n : Nat) (b : MSt) : List MV → Sto → Res MV := fun args S => match b (env0 n args) S with
  | .rt v S' => leaveV S S' v
  | .nx _ S' => leaveV S S' .non
  | .ex x _ S' => leaveX S S' x
  | _ => .bad
/-- .. whose answer is a place made within -/
noncomputable def mDefR (n : Nat) (b : MSt) : List MV → Sto → Res MV := fun args S => match b (env0 n args) S with
  | .rt v S' => leaveR S S' v
  | .ex x _ S' => leaveX S S' x
  | _ => .bad
section
variable {C : Ct} {ι ι' : Io} {S S' : Sto} {H H' : Hp}
theorem leaveX_ok {α : Type} {x : MX} {cls : Value} {d : Option Addr} {r : Res α} (s : StR C ι S H) (e : Ext ι H ι' H') (s' : StR C ι' S' H') (xr : XR C ι' H' x cls d) (h : leaveX S S' x = r) : r = .bad ∨ ∃ S2, r = .ex x S2 ∧ Ext ι H ι H' ∧ StR C ι S2 H' ∧ XR C ι H' x cls d := by
  unfold leaveX at h
  split at h
  · rename_i k
    obtain ⟨e1, s1, ei⟩ := s.leave e s' k.1
    right
    refine ⟨_, h.symm, e1, s1, xr.1, ?_⟩
    have h2 := xr.2
    cases d with
    | none => exact h2
    | some a =>
      obtain ⟨na, fx, hx, hf⟩ := h2
      refine ⟨fun z => na (e.pre.subset z), fx, hx, ?_⟩
      have w := @Shr.take ι' S.length
      rw [ei] at w
      exact FRs.shrink w _ _ k.2 hf
  · exact .inl h.symm
theorem EnvR.start {N : List Str} {args : List MV} {vs : List V} (r : VRs C ι H args vs) : EnvR C ι H (env0 N.length args) (L2.start N vs) := by
  have hl := r.len
  refine ⟨by simp [env0, L2.start, hl], fun i x q => ?_⟩
  have key : ∀ (args : List MV) (vs : List V), VRs C ι H args vs → ∀ (i : Nat) (x : MV), args[i]? = some x → ∃ v, vs[i]? = some v ∧ VR C ι H x v := by
    intro args
    induction args with
    | nil => intro vs _ i x h; simp at h
    | cons a r ih =>
      intro vs rr i x h
      simp only [VRs] at rr
      obtain ⟨v, w, rfl, r1, r2⟩ := rr
      cases i with
      | zero => simp at h; subst h; exact ⟨v, rfl, r1⟩
      | succ i =>
        obtain ⟨u, h1, h2⟩ := ih w r2 i x (by simpa using h)
        exact ⟨u, by simpa using h1, h2⟩
  by_cases hi : i < args.length
  · unfold env0 at q
    rw [List.getElem?_append_left (by simpa using hi)] at q
    rw [List.getElem?_map] at q
    cases e : args[i]? with
    | none => rw [e] at q; cases q
    | some y =>
      rw [e] at q
      simp only [Option.map_some, Option.some.injEq] at q
      subst q
      obtain ⟨v, h1, h2⟩ := key args vs r i y e
      refine ⟨v, ?_, h2⟩
      unfold L2.start
      rw [List.getElem?_append_left (by simp [hl]; exact hi), List.getElem?_map, h1]
      rfl
  · unfold env0 at q
    rw [List.getElem?_append_right (by simpa using hi)] at q
    rw [List.getElem?_replicate] at q
    split at q
    · cases q
    · cases q
end
section
variable {P : Program} {w : World} {K : PySem.W.Frag} {mg : Str → Option Value} {base : Heap} {C : Ct}
theorem def_core {N : List Str} {n : Nat} {b : MSt} {g : List MV → Sto → Res MV} (hn : N.length = n) (hg : g = mDef n b ∨ g = mDefR n b) {m : Nat} {vs : List V} {H : Hp} {Q : VK} {E : XK} (h : spM C m g vs H Q E) :
    tMS C (fun cls d _ H' => E cls d H') b { nx := fun _ H' => Q .non H', rt := Q } (L2.start N vs) H := by
  obtain ⟨_, ι, S, args, hs, hr, hp⟩ := h
  refine ⟨ι, env0 n args, S, by rw [← hn]; exact EnvR.start hr, hs, ?_⟩
  rcases hg with rfl | rfl
  · unfold mDef at hp
    cases e : b (env0 n args) S with
    | nx e1 S1 =>
      rw [e] at hp
      intro ι1 H1 σ1 x1 s1 r1
      cases e2 : leaveV S S1 .non with
      | ok y S2 =>
        obtain ⟨a1, a2, a3⟩ := leaveV_ok hs x1 s1 (x := V.non) (by simp only [VR]) e2
        simp only [e2] at hp
        exact hp ι H1 .non a1 a2 a3
      | ex x S2 => unfold leaveV at e2; (repeat (split at e2)) <;> cases e2
      | bad => simp only [e2] at hp; exact hp.elim
    | rt v S1 =>
      rw [e] at hp
      intro ι1 H1 x x1 s1 r1
      cases e2 : leaveV S S1 v with
      | ok y S2 =>
        obtain ⟨a1, a2, a3⟩ := leaveV_ok hs x1 s1 r1 e2
        simp only [e2] at hp
        exact hp ι H1 x a1 a2 a3
      | ex x S2 => unfold leaveV at e2; (repeat (split at e2)) <;> cases e2
      | bad => simp only [e2] at hp; exact hp.elim
    | bk e1 S1 => rw [e] at hp; exact hp.elim
    | ct e1 S1 => rw [e] at hp; exact hp.elim
    | bad => rw [e] at hp; exact hp.elim
    | ex x e1 S1 =>
      rw [e] at hp
      intro ι1 H1 σ1 cls d x1 s1 r1 xr
      rcases leaveX_ok (α := MV) hs x1 s1 xr rfl with e2 | ⟨S2, e2, a1, a2, a3⟩
      · simp only [e2] at hp; exact hp.elim
      · simp only [e2] at hp; exact hp ι H1 cls d a1 a2 a3
  · unfold mDefR at hp
    cases e : b (env0 n args) S with
    | nx e1 S1 => rw [e] at hp; exact hp.elim
    | rt v S1 =>
      rw [e] at hp
      intro ι1 H1 x x1 s1 r1
      cases e2 : leaveR S S1 v with
      | ok y S2 =>
        obtain ⟨ι2, a1, a2, a3⟩ := leaveR_ok hs x1 s1 r1 e2
        simp only [e2] at hp
        exact hp ι2 H1 x a1 a2 a3
      | ex x S2 => unfold leaveR at e2; (repeat (split at e2)) <;> cases e2
      | bad => simp only [e2] at hp; exact hp.elim
    | bk e1 S1 => rw [e] at hp; exact hp.elim
    | ct e1 S1 => rw [e] at hp; exact hp.elim
    | bad => rw [e] at hp; exact hp.elim
    | ex x e1 S1 =>
      rw [e] at hp
      intro ι1 H1 σ1 cls d x1 s1 r1 xr
      rcases leaveX_ok (α := MV) hs x1 s1 xr rfl with e2 | ⟨S2, e2, a1, a2, a3⟩
      · simp only [e2] at hp; exact hp.elim
      · simp only [e2] at hp; exact hp ι H1 cls d a1 a2 a3
/-- THE RULE for a def: its body is the mirror's -/
theorem def_ok {x qual : Str} {st : Stmt} {f : Addr} {fd : FuncData} {N ps : List Str} {k n m : Nat} {b : MSt} {g : List MV → Sto → Res MV} (F : Fun K x qual st f fd) (Sc : FnScope N ps (defScope st)) (hg : g = mDef n b ∨ g = mDefR n b)
    (hb : ∀ (cdv : Value) (A : Around) (outer : List PySem.Env) (s : Shared) (H : Hp) (E : XK) (E₁ : Value → Shared → Prop) (X : Cx), X = cxOf (L2.CX P w) P w K mg base N qual (defScope st) f cdv A outer s H E → Room k X.A →
      PSs X (defBody st) (tMS C (fun cls d _ H' => E cls d H') b)) (hn : N.length = n := by rfl) (hm : ps.length = m := by rfl) :
    FnOk P w K mg base (L2.CX P w) (k + 1) f fd ps (spM C m g) :=
  F.okX Sc (fun vs H Q E h => h.1.trans hm.symm) fun cdv A outer s H vs Q E hr h => ⟨_, hb cdv A outer s H E (fun _ _ => False) _ rfl hr, def_core hn hg h⟩
end
/-- what a body's context is: for the rules below -/
structure Bx (C : Ct) (W : WX) (k : Nat) (X : Cx) : Prop where
  hK : X.K = C.K
  calm : X.calm = true
  tk : Takes X W
  room : Room k X.A
  own : PassesOwn (model X.prog X.w) X.A X.env X.xe
  hw : X.w = C.w
theorem bx_of {C : Ct} {P : Program} {w : World} {K : PySem.W.Frag} {mg : Str → Option Value} {base : Heap} {N : List Str} {qual : Str} {sc : Scope} {f : Addr} {cdv : Value} {A : Around} {outer : List PySem.Env} {s : Shared} {H : Hp} {E : XK} {k : Nat} {X : Cx}
    (hX : X = cxOf (L2.CX P w) P w K mg base N qual sc f cdv A outer s H E) (hK : K = C.K) (hr : Room k X.A) (hw : w = C.w) : Bx C (fun cls d _ H' => E cls d H') k X := by
  subst hX
  exact ⟨hK, rfl, takes_of rfl rfl rfl (E₁ := fun e' s'' => L2.CX P w outer H s E e' s'') rfl, hr, passes_of rfl, hw⟩
section
variable {X : Cx} {C : Ct} {W : WX} {CX : CXT} {k j n : Nat} {f cl : Addr} {fd : FuncData} {ps : List Str} {sp : Sp} {dvs : List V} {ds : List Value} {E : L2.St → XK} {x m : Str} {p pos apos : Pos} {e o : Expr} {es : List Expr} {ta : TE} {t : TA}
theorem run_fnD {pins : List (Addr × Obj)} {σ : L2.St} {H : Hp} {s : Shared} {Q : VK} {us : List Value} {vs : List V} (F : FnOk X.prog X.w X.K X.mg X.base CX k f fd ps sp) (hr : Room k X.A) (hb : Binds X.K fd ps ds) (hd : Vals dvs ds) (hx : PassesAt CX X σ (E σ))
    (I : Inv X pins σ H s) (r : Vals vs us) (h : sp (vs ++ dvs) H Q (E σ)) : wpAny (model X.prog X.w) X.A (call (.ref f) us) (EP X pins σ Q) X.xe s := by
  have r2 : Vals (vs ++ dvs) (us ++ ds) := r.append hd
  have hl : (us ++ ds).length = ps.length := by rw [← r2.length]; exact F.len _ _ _ _ h
  refine wpAny_call (codeAny_mono (F.run X.A X.stack s H ⟨us, []⟩ (us ++ ds) (vs ++ dvs) Q (E σ) hr I.env0 (hb s us I.kIn hl) r2 h) fun r s' hq => ?_)
  cases r with
  | error e => exact hx pins H s e s' I hq
  | ok fl =>
    cases fl with
    | ret u => exact I.after hq
    | next => exact False.elim hq
    | brk => exact False.elim hq
    | cont => exact False.elim hq
def tCallD (sp : Sp) (dvs : List V) (E : L2.St → XK) (t : TA) : TE := fun σ H Q => t σ H fun vs H1 => sp (vs ++ dvs) H1 Q (E σ)
theorem pe_callD (F : FnOk X.prog X.w X.K X.mg X.base CX k f fd ps sp) (hr : Room k X.A) (hg : Gl X x) (hm : X.mg x = some (.ref f)) (hk : PySem.W.keepIn X.K (.ref f) = true) (hb : Binds X.K fd ps ds) (hd : Vals dvs ds) (hx : ∀ σ, PassesAt CX X σ (E σ))
    (ha : PA X (e :: es) t) (hdb : (x == ("__debug__" : Str)) = false := by decide) (he : starEach (e :: es) X.env = (false, eval e X.env) :: starEach es X.env := by rfl) (hpl : (backTo pos (starEach es X.env)).any (·.1) = false := by rfl) :
    PE X (.Call (.Name x p) (e :: es) [] pos) (tCallD sp dvs E t) := by
  refine ⟨fun pins s σ H Q I h => ?_⟩
  refine wpAny_Call_Name_kw (ld_glob I hg hm ?_ hdb)
  refine PySem.W.callWith_K (h₀ := X.base) I.ok.mod.kin hk (thn (ha.run pos pins s σ H _ I h) fun us s1 ⟨vs, H1, I1, r, q⟩ => ⟨I1.kIn, ?_⟩) he hpl
  exact run_fnD F hr hb hd (hx σ) I1 r q
/-- a def's call: ms the defaults that fill up -/
def mCall (n : Nat) (g : List MV → Sto → Res MV) (ms : List MV) (as : MA) : ME := fun env S => (as env S).bind fun vs S1 => if (vs ++ ms).length = n then g (vs ++ ms) S1 else .bad
/-- constants of the mirror -/
inductive CstR : List MV → List V → Prop where
  | nil : CstR [] []
  | non {ms vs} : CstR ms vs → CstR (.non :: ms) (.non :: vs)
  | int {i ms vs} : CstR ms vs → CstR (.int i :: ms) (.int i :: vs)
  | bl {i ms vs} : CstR ms vs → CstR (.bl i :: ms) (.bl i :: vs)
theorem CstR.vrs {ms : List MV} {vs : List V} (h : CstR ms vs) : ∀ {ι H}, VRs C ι H ms vs := by
  induction h with
  | nil => intro ι H; simp only [VRs]
  | non _ ih => intro ι H; simp only [VRs, VR]; exact ⟨_, _, rfl, rfl, ih⟩
  | int _ ih => intro ι H; simp only [VRs, VR]; exact ⟨_, _, rfl, rfl, ih⟩
  | bl _ ih => intro ι H; simp only [VRs, VR]; exact ⟨_, _, rfl, rfl, ih⟩
theorem VRs.append {ι : Io} {H : Hp} : ∀ {xs ys : List MV} {vs ws : List V}, VRs C ι H xs vs → VRs C ι H ys ws → VRs C ι H (xs ++ ys) (vs ++ ws)
  | [], ys, vs, ws, h, h2 => by simp only [VRs] at h; subst h; exact h2
  | x :: r, ys, vs, ws, h, h2 => by
    simp only [VRs] at h
    obtain ⟨v, w, rfl, h1, h3⟩ := h
    simp only [List.cons_append, VRs]
    exact ⟨v, w ++ ws, rfl, h1, VRs.append h3 h2⟩
theorem spM_of {g : List MV → Sto → Res MV} {ι : Io} {S : Sto} {H : Hp} {σ : L2.St} {vs : List MV} {us : List V} {Q : VK} (hs : StR C ι S H) (hr : VRs C ι H vs us) (hp : Post C W (VR C) ι σ H (if vs.length = n then g vs S else .bad) Q) : spM C n g us H Q (WE W σ) := by
  split at hp
  · rename_i hl
    refine ⟨by rw [hr.len]; exact hl, ι, S, vs, hs, hr, ?_⟩
    cases e : g vs S with
    | ok v S1 => rw [e] at hp; exact hp
    | ex v S1 => rw [e] at hp; exact hp
    | bad => rw [e] at hp; exact hp
  · exact hp.elim
theorem je_call {ms : List MV} {g : List MV → Sto → Res MV} {as : MA} (B : Bx C W j X) (F : FnOk X.prog X.w X.K X.mg X.base (L2.CX X.prog X.w) k f fd ps (spM C n g)) (hm : X.mg x = some (.ref f)) (hk : PySem.W.keepIn X.K (.ref f) = true) (hb : Binds X.K fd ps ds) (hd : Vals dvs ds) (hc : CstR ms dvs)
    (ha : PA X (e :: es) (tMA C W as)) (hkj : k ≤ j := by decide) (hg : Gl X x := by rfl) (hdb : (x == ("__debug__" : Str)) = false := by decide) (he : starEach (e :: es) X.env = (false, eval e X.env) :: starEach es X.env := by rfl) (hpl : (backTo pos (starEach es X.env)).any (·.1) = false := by rfl) :
    PE X (.Call (.Name x p) (e :: es) [] pos) (tM C W (mCall n g ms as)) :=
  peImp (pe_callD F (B.room.mono hkj) hg hm hk hb hd (fun σ => passAt B.tk σ) ha hdb he hpl) fun σ H Q h => by
    obtain ⟨ι, env, S, he, hs, hp⟩ := h
    refine ⟨ι, env, S, he, hs, Post.bind hp fun x S1 ι1 H1 v e1 s1 q1 p1 => ?_⟩
    exact spM_of s1 (q1.append hc.vrs) p1
def tMethD (C : Addr) (m : Str) (sp : Sp) (dvs : List V) (E : L2.St → XK) (ta : TE) (t : TA) : TE := fun σ H Q => ta σ H fun x H1 => ∃ a dx fs, x = .ref a ∧ H1 a = some (.ins C dx fs) ∧ fs.lookup m = none ∧
  t σ H1 fun vs H2 => sp (x :: (vs ++ dvs)) H2 Q (E σ)
theorem pe_methD {pl : Sem Bool} (he : PE X o ta) (c : Cls X.K cl) (hm : Meth X.K cl m f) (F : FnOk X.prog X.w X.K X.mg X.base CX k f fd ps sp) (hr : Room k X.A) (hb : Binds X.K fd ps ds) (hd : Vals dvs ds) (hx : ∀ σ, PassesAt CX X σ (E σ)) (ha : PA X (e :: es) t)
    (hst : starEach (e :: es) X.env = (false, eval e X.env) :: starEach es X.env := by rfl) (hpl : (backTo pos (starEach es X.env)).any (·.1) = false := by rfl)
    (ht : eval (.Call (.Attribute o m apos) (e :: es) [] pos) X.env = (do
      let ov ← eval o X.env
      standAt apos.atName
      let (f, first) ← holding [ov] (getMethod ov m pl)
      callWith pos f first (backTo pos (starEach (e :: es) X.env)) (backToKw pos (keywordEach [] X.env))) := by rfl) :
    PE X (.Call (.Attribute o m apos) (e :: es) [] pos) (tMethD cl m sp dvs E ta t) := by
  refine ⟨fun pins s σ H Q I h => ?_⟩
  refine PySem.W.methodCall_KW (pl := pl) (thn (he.run pins s σ H _ I h) fun u s1 ⟨x, H1, I1, rx, a, dx, fs, ex, ea, l, q⟩ => ?_) ht
  subst ex
  obtain rfl : u = Value.ref a := rx
  refine getmeth_ok I1 ea c hm l ?_
  refine PySem.W.callWith_K (first := [.ref a]) (h₀ := X.base) I.ok.mod.kin hm.kp (thn (ha.run pos pins s1 σ H1 _ I1 q) fun us s2 ⟨vs, H2, I2, r, q2⟩ => ⟨I2.kIn, ?_⟩) hst hpl
  exact run_fnD (us := .ref a :: us) (vs := .ref a :: vs) F hr hb hd (hx σ) I2 (.cons rfl r) q2
theorem pe_methD0 {pl : Sem Bool} (he : PE X o ta) (c : Cls X.K cl) (hm : Meth X.K cl m f) (F : FnOk X.prog X.w X.K X.mg X.base CX k f fd ps sp) (hr : Room k X.A) (hb : Binds X.K fd ps ds) (hd : Vals dvs ds) (hx : ∀ σ, PassesAt CX X σ (E σ))
    (ht : eval (.Call (.Attribute o m apos) [] [] pos) X.env = (do
      let ov ← eval o X.env
      standAt apos.atName
      let (f, first) ← holding [ov] (getMethod ov m pl)
      callWith pos f first (backTo pos (starEach [] X.env)) (backToKw pos (keywordEach [] X.env))) := by rfl) :
    PE X (.Call (.Attribute o m apos) [] [] pos) (tMethD cl m sp dvs E ta tNil) := by
  refine ⟨fun pins s σ H Q I h => ?_⟩
  refine PySem.W.methodCall_KW (pl := pl) (thn (he.run pins s σ H _ I h) fun u s1 ⟨x, H1, I1, rx, a, dx, fs, ex, ea, l, q⟩ => ?_) ht
  subst ex
  obtain rfl : u = Value.ref a := rx
  refine getmeth_ok I1 ea c hm l ?_
  exact PySem.W.callWith_K0 (first := [.ref a]) I1.kIn hm.kp (run_fnD (us := [.ref a]) (vs := [.ref a]) F hr hb hd (hx σ) I1 (.cons rfl .nil) q)
/-- the attributes of an instance, by its class -/
def insOf (S : Sto) : MV → Option (Nat × List (Str × MV))
  | .ins c fs => some (c, fs)
  | .ref l => match S[l]? with
    | some (.ins c fs) => some (c, fs)
    | _ => none
  | _ => none
theorem insOf_ok {ι : Io} {S : Sto} {H : Hp} {x : MV} {v : V} {c : Nat} {fs : List (Str × MV)} (s : StR C ι S H) (r : VR C ι H x v) (h : insOf S x = some (c, fs)) : ∃ a dx fx, v = .ref a ∧ H a = some (.ins (C.cA c) dx fx) ∧ FRs C ι H fs fx := by
  cases x with
  | ins c' fs' =>
    simp only [insOf, Option.some.injEq, Prod.mk.injEq] at h
    obtain ⟨rfl, rfl⟩ := h
    simp only [VR] at r
    obtain ⟨a, dx, fx, rfl, _, h1, h2⟩ := r
    exact ⟨a, dx, fx, rfl, h1, h2⟩
  | ref l =>
    simp only [insOf] at h
    simp only [VR] at r
    obtain ⟨a, rfl, hl⟩ := r
    split at h
    · rename_i c' fs' e
      simp only [Option.some.injEq, Prod.mk.injEq] at h
      obtain ⟨rfl, rfl⟩ := h
      obtain ⟨dx, fx, h1, h2⟩ := s.ob l _ a e hl
      exact ⟨a, dx, fx, rfl, h1, h2⟩
    · cases h
  | _ => cases h
theorem FRs.look {ι : Io} {H : Hp} (f : Str) : ∀ {fs : List (Str × MV)} {fx : List (Str × V)}, FRs C ι H fs fx → (fs.lookup f = none → fx.lookup f = none) ∧ ∀ x, fs.lookup f = some x → ∃ v, fx.lookup f = some v ∧ VR C ι H x v
  | [], fx, h => by simp only [FRs] at h; subst h; exact ⟨fun _ => rfl, fun x h => by cases h⟩
  | (g, y) :: r, fx, h => by
    simp only [FRs] at h
    obtain ⟨q, w, rfl, h1, h2⟩ := h
    obtain ⟨qn, qv⟩ := q
    simp only [FR] at h1
    obtain ⟨rfl, h1⟩ := h1
    obtain ⟨i1, i2⟩ := FRs.look f h2
    cases hb : f == qn with
    | true =>
      simp only [List.lookup_cons, hb]
      exact ⟨fun z => (by cases z), fun x hx => by cases hx; exact ⟨qv, rfl, h1⟩⟩
    | false =>
      simp only [List.lookup_cons, hb]
      exact ⟨i1, i2⟩
def mMeth (c n : Nat) (m : Str) (g : List MV → Sto → Res MV) (ms : List MV) (o : ME) (as : MA) : ME := fun env S => (o env S).bind fun x S1 => match insOf S1 x with
  | some (c', fs) => if c' = c ∧ fs.lookup m = none then (as env S1).bind fun vs S2 => if (x :: (vs ++ ms)).length = n then g (x :: (vs ++ ms)) S2 else .bad else .bad
  | none => .bad
theorem meth_imp {c : Nat} {ms : List MV} {g : List MV → Sto → Res MV} {mo : ME} {as : MA} {σ : L2.St} {H : Hp} {Q : VK} (hcl : C.cA c = cl) (hc : CstR ms dvs) (h : tM C W (mMeth c n m g ms mo as) σ H Q) : tMethD cl m (spM C n g) dvs (WE W) (tM C W mo) (tMA C W as) σ H Q := by
  obtain ⟨ι, env, S, he, hs, hp⟩ := h
  refine ⟨ι, env, S, he, hs, Post.bind hp fun x S1 ι1 H1 v e1 s1 q1 p1 => ?_⟩
  split at p1
  · rename_i c' fs hi
    split at p1
    · rename_i hh
      obtain ⟨rfl, hl⟩ := hh
      obtain ⟨a, dx, fx, rfl, h1, h2⟩ := insOf_ok s1 q1 hi
      rw [hcl] at h1
      refine ⟨a, dx, fx, rfl, h1, (h2.look m).1 hl, ι1, env, S1, he.mono e1, s1, Post.bind p1 fun vs S2 ι2 H2 us e2 s2 q2 p2 => ?_⟩
      refine spM_of s2 ?_ p2
      simp only [VRs]
      exact ⟨_, _, rfl, q1.mono e2, q2.append hc.vrs⟩
    · exact p1.elim
  · exact p1.elim
theorem je_meth {pl : Sem Bool} {c : Nat} {ms : List MV} {g : List MV → Sto → Res MV} {mo : ME} {as : MA} (B : Bx C W j X) (hcl : C.cA c = cl) (ho : PE X o (tM C W mo)) (hc : Cls X.K cl) (hm : Meth X.K cl m f) (F : FnOk X.prog X.w X.K X.mg X.base (L2.CX X.prog X.w) k f fd ps (spM C n g)) (hb : Binds X.K fd ps ds) (hd : Vals dvs ds) (hcs : CstR ms dvs) (ha : PA X (e :: es) (tMA C W as))
    (hkj : k ≤ j := by decide) (hst : starEach (e :: es) X.env = (false, eval e X.env) :: starEach es X.env := by rfl) (hpl : (backTo pos (starEach es X.env)).any (·.1) = false := by rfl)
    (ht : eval (.Call (.Attribute o m apos) (e :: es) [] pos) X.env = (do
      let ov ← eval o X.env
      standAt apos.atName
      let (f, first) ← holding [ov] (getMethod ov m pl)
      callWith pos f first (backTo pos (starEach (e :: es) X.env)) (backToKw pos (keywordEach [] X.env))) := by rfl) :
    PE X (.Call (.Attribute o m apos) (e :: es) [] pos) (tM C W (mMeth c n m g ms mo as)) :=
  peImp (pe_methD ho hc hm F (B.room.mono hkj) hb hd (fun σ => passAt B.tk σ) ha hst hpl ht) fun σ H Q h => meth_imp hcl hcs h
theorem je_meth0 {pl : Sem Bool} {c : Nat} {ms : List MV} {g : List MV → Sto → Res MV} {mo : ME} (B : Bx C W j X) (hcl : C.cA c = cl) (ho : PE X o (tM C W mo)) (hc : Cls X.K cl) (hm : Meth X.K cl m f) (F : FnOk X.prog X.w X.K X.mg X.base (L2.CX X.prog X.w) k f fd ps (spM C n g)) (hb : Binds X.K fd ps ds) (hd : Vals dvs ds) (hcs : CstR ms dvs)
    (hkj : k ≤ j := by decide)
    (ht : eval (.Call (.Attribute o m apos) [] [] pos) X.env = (do
      let ov ← eval o X.env
      standAt apos.atName
      let (f, first) ← holding [ov] (getMethod ov m pl)
      callWith pos f first (backTo pos (starEach [] X.env)) (backToKw pos (keywordEach [] X.env))) := by rfl) :
    PE X (.Call (.Attribute o m apos) [] [] pos) (tM C W (mMeth c n m g ms mo mNil)) :=
  peImp (pe_methD0 ho hc hm F (B.room.mono hkj) hb hd (fun σ => passAt B.tk σ) ht) fun σ H Q h => by
    have q := meth_imp hcl hcs h
    obtain ⟨ι, env, S, he, hs, hp⟩ := q
    refine ⟨ι, env, S, he, hs, ?_⟩
    cases e : mo env S with
    | ok x S1 =>
      rw [e] at hp
      intro ι1 H1 v e1 s1 r1
      obtain ⟨a, dx, fs, h1, h2, h3, ι2, env2, S2, he2, hs2, hp2⟩ := hp ι1 H1 v e1 s1 r1
      exact ⟨a, dx, fs, h1, h2, h3, hp2 ι2 H1 [] .refl hs2 (by simp only [VRs])⟩
    | ex x S1 => rw [e] at hp; exact hp
    | bad => rw [e] at hp; exact hp
/-- o.f -/
def mFld (c : Nat) (f : Str) (o : ME) : ME := fun env S => (o env S).bind fun x S1 => match insOf S1 x with
  | some (c', fs) => if c' = c then (match fs.lookup f with
    | some v => .ok v S1
    | none => .bad) else .bad
  | none => .bad
theorem je_fld {c : Nat} {fl : Str} {mo : ME} (hcl : C.cA c = cl) (ho : PE X o (tM C W mo)) (hc : Cls X.K cl) (hn : NoAttr X.K cl fl) (hb : attributeBase o fl X.env (eval o X.env) = eval o X.env := by rfl) : PE X (.Attribute o fl pos) (tM C W (mFld c fl mo)) :=
  peImp (pe_fld ho hb) fun σ H Q h => by
    obtain ⟨ι, env, S, he, hs, hp⟩ := h
    refine ⟨ι, env, S, he, hs, Post.bind hp fun x S1 ι1 H1 v e1 s1 q1 p1 => ?_⟩
    split at p1
    · rename_i c' fs hi
      split at p1
      · rename_i hh
        subst hh
        obtain ⟨a, dx, fx, rfl, h1, h2⟩ := insOf_ok s1 q1 hi
        split at p1
        · rename_i y hy
          obtain ⟨u, h3, h4⟩ := (h2.look fl).2 y hy
          rw [hcl] at h1
          exact ⟨a, cl, dx, fx, u, rfl, h1, hc, hn, h3, p1 ι1 H1 u .refl s1 h4⟩
        · exact p1.elim
      · exact p1.elim
    · exact p1.elim
/-- o.f = e -/
def putM (f : Str) (v : MV) : List (Str × MV) → List (Str × MV)
  | [] => [(f, v)]
  | p :: r => if p.1 = f then (f, v) :: r else p :: putM f v r
theorem FRs.put {ι : Io} {H : Hp} {f : Str} {y : MV} {v : V} (r : VR C ι H y v) : ∀ {fs : List (Str × MV)} {fx : List (Str × V)}, FRs C ι H fs fx → FRs C ι H (putM f y fs) (putF f v fx)
  | [], fx, h => by simp only [FRs] at h; subst h; simp only [putM, putF, FRs, FR]; exact ⟨_, _, rfl, ⟨rfl, r⟩, rfl⟩
  | (g, z) :: fr, fx, h => by
    simp only [FRs] at h
    obtain ⟨q, w, rfl, h1, h2⟩ := h
    obtain ⟨qn, qv⟩ := q
    simp only [FR] at h1
    obtain ⟨rfl, h1⟩ := h1
    simp only [putM, putF]
    by_cases e : qn = f
    · subst e
      rw [if_pos rfl, if_pos rfl]
      simp only [FRs, FR]
      exact ⟨_, _, rfl, ⟨rfl, r⟩, h2⟩
    · rw [if_neg e, if_neg e]
      simp only [FRs, FR]
      exact ⟨_, _, rfl, ⟨rfl, h1⟩, FRs.put r h2⟩
theorem FRs.len {ι : Io} {H : Hp} : ∀ {xs : List (Str × MV)} {vs : List (Str × V)}, FRs C ι H xs vs → vs.length = xs.length
  | [], _, h => by simp only [FRs] at h; rw [h]; rfl
  | x :: r, _, h => by
    simp only [FRs] at h
    obtain ⟨v, w, e, _, h2⟩ := h
    rw [e, List.length_cons, List.length_cons, FRs.len h2]
def sFldM (c : Nat) (f : Str) (o m : ME) : MSt := fun env S => sBind (m env S) env fun y S1 => sBind (o env S1) env fun x S2 => match x with
  | .ref l => match S2[l]? with
    | some (.ins c' fs) => if c' = c ∧ fs.length < 1000 then .nx env (S2.set l (.ins c (putM f y fs))) else .bad
    | _ => .bad
  | _ => .bad
theorem js_fld {c : Nat} {fl : Str} {pos' : Pos} {mo m : ME} (hcl : C.cA c = cl) (ho : PE X o (tM C W mo)) (hc : Cls X.K cl) (hn : NoAttr X.K cl fl) (hv : PE X e (tM C W m)) (hs : swapsWith e (some (.Attribute o fl pos')) pos.line X.env = pure false := by rfl) : PS X (.Assign [.Attribute o fl pos'] e pos) (tMS C W (sFldM c fl mo m)) :=
  psImp (ps_fld ho hv hs) fun D σ H h => by
    obtain ⟨ι, env, S, he, hs, hp⟩ := h
    refine ⟨ι, env, S, he, hs, SPost.bind he hp fun y S1 ι1 H1 u e1 s1 q1 p1 => ?_⟩
    refine ⟨ι1, env, S1, he.mono e1, s1, SPost.bind (he.mono e1) p1 fun x S2 ι2 H2 v e2 s2 q2 p2 => ?_⟩
    split at p2
    · rename_i l
      split at p2
      · rename_i c' fs e3
        split at p2
        · rename_i hh
          obtain ⟨rfl, hl⟩ := hh
          simp only [VR] at q2
          obtain ⟨a, rfl, ha⟩ := q2
          obtain ⟨dx, fx, h1, h2⟩ := s2.ob l _ a e3 ha
          rw [hcl] at h1
          have ex : Ext ι2 H2 ι2 (upd H2 a (.ins cl dx (putF fl u fx))) := Ext.set ha
          refine ⟨a, cl, dx, fx, rfl, h1, hc, hn, by rw [h2.len]; exact hl, ?_⟩
          refine p2 ι2 _ σ ex (s2.set ha ⟨dx, _, by rw [upd_same, hcl], ?_⟩) (((he.mono e1).mono e2).mono ex)
          exact FRs.mono ex _ _ (FRs.put (q1.mono e2) h2)
        · exact p2.elim
      · exact p2.elim
    · exact p2.elim
end
end Mi
namespace Mi
open PySem L2
def asL (S : Sto) : MV → Option (List MV)
  | .lst xs => some xs
  | .rol xs => some xs
  | .ref l => match S[l]? with
    | some (.lst xs) => some xs
    | _ => none
  | _ => none
/-- .. that may be an operand of + and * -/
def asH (S : Sto) : MV → Option (List MV)
  | .lst xs => some xs
  | .ref l => match S[l]? with
    | some (.lst xs) => some xs
    | _ => none
  | _ => none
def asU : MV → Option (List MV)
  | .tup xs => some xs
  | _ => none
section
variable {C : Ct} {ι : Io} {S : Sto} {H : Hp}
theorem asL_ok {x : MV} {v : V} {xs : List MV} (s : StR C ι S H) (r : VR C ι H x v) (h : asL S x = some xs) : ∃ a vs, v = .ref a ∧ SqL C.K H a vs ∧ VRs C ι H xs vs := by
  cases x with
  | lst ys =>
    simp only [asL, Option.some.injEq] at h; subst h
    simp only [VR] at r
    obtain ⟨a, vs, rfl, h0, h1, h2⟩ := r
    exact ⟨a, vs, rfl, SqL.of h1, h2⟩
  | rol ys =>
    simp only [asL, Option.some.injEq] at h; subst h
    simp only [VR] at r
    obtain ⟨a, vs, rfl, h1, h2⟩ := r
    exact ⟨a, vs, rfl, h1.sq, h2⟩
  | ref l =>
    simp only [asL] at h
    split at h
    · rename_i ys e
      simp only [Option.some.injEq] at h; subst h
      simp only [VR] at r
      obtain ⟨a, rfl, hl⟩ := r
      obtain ⟨vs, h1, h2⟩ := s.ob l _ a e hl
      exact ⟨a, vs, rfl, SqL.of h1, h2⟩
    · cases h
  | _ => cases h
theorem asH_ok {x : MV} {v : V} {xs : List MV} (s : StR C ι S H) (r : VR C ι H x v) (h : asH S x = some xs) : ∃ a vs, v = .ref a ∧ H a = some (.lst vs) ∧ VRs C ι H xs vs := by
  cases x with
  | lst ys =>
    simp only [asH, Option.some.injEq] at h; subst h
    simp only [VR] at r
    obtain ⟨a, vs, rfl, h0, h1, h2⟩ := r
    exact ⟨a, vs, rfl, h1, h2⟩
  | ref l =>
    simp only [asH] at h
    split at h
    · rename_i ys e
      simp only [Option.some.injEq] at h; subst h
      simp only [VR] at r
      obtain ⟨a, rfl, hl⟩ := r
      obtain ⟨vs, h1, h2⟩ := s.ob l _ a e hl
      exact ⟨a, vs, rfl, h1, h2⟩
    · cases h
  | _ => cases h
theorem asU_ok {x : MV} {v : V} {xs : List MV} (r : VR C ι H x v) (h : asU x = some xs) : ∃ a vs, v = .ref a ∧ FT C ι H a vs ∧ VRs C ι H xs vs := by
  cases x with
  | tup ys =>
    simp only [asU, Option.some.injEq] at h; subst h
    simp only [VR] at r
    obtain ⟨a, vs, rfl, h1, h2⟩ := r
    exact ⟨a, vs, rfl, h1, h2⟩
  | _ => cases h
theorem VRs.at {ι : Io} {H : Hp} : ∀ {xs : List MV} {vs : List V} {i : Nat} {x : MV}, VRs C ι H xs vs → xs[i]? = some x → ∃ v, vs[i]? = some v ∧ VR C ι H x v
  | [], _, i, x, _, h => by simp at h
  | y :: r, _, i, x, q, h => by
    simp only [VRs] at q
    obtain ⟨v, w, rfl, h1, h2⟩ := q
    cases i with
    | zero => simp at h; subst h; exact ⟨v, rfl, h1⟩
    | succ i =>
      obtain ⟨u, e1, e2⟩ := VRs.at h2 (i := i) (x := x) (by simpa using h)
      exact ⟨u, by simpa using e1, e2⟩
theorem VRs.at' {ι : Io} {H : Hp} : ∀ {xs : List MV} {vs : List V} {i : Nat} {v : V}, VRs C ι H xs vs → vs[i]? = some v → ∃ x, xs[i]? = some x ∧ VR C ι H x v
  | [], _, i, x, q, h => by simp only [VRs] at q; subst q; simp at h
  | y :: r, _, i, x, q, h => by
    simp only [VRs] at q
    obtain ⟨v, w, rfl, h1, h2⟩ := q
    cases i with
    | zero => simp at h; subst h; exact ⟨y, rfl, h1⟩
    | succ i =>
      obtain ⟨u, e1, e2⟩ := VRs.at' h2 (i := i) (v := x) (by simpa using h)
      exact ⟨u, by simpa using e1, e2⟩
theorem VRs.take {ι : Io} {H : Hp} (n : Nat) : ∀ {xs : List MV} {vs : List V}, VRs C ι H xs vs → VRs C ι H (xs.take n) (vs.take n) := by
  induction n with
  | zero => intro xs vs h; simp only [List.take_zero, VRs]
  | succ n ih =>
    intro xs vs h
    cases xs with
    | nil => simp only [VRs] at h; subst h; simp only [List.take_nil, VRs]
    | cons x r =>
      simp only [VRs] at h
      obtain ⟨v, w, rfl, h1, h2⟩ := h
      simp only [List.take_succ_cons, VRs]
      exact ⟨v, _, rfl, h1, ih h2⟩
theorem VRs.drop {ι : Io} {H : Hp} (n : Nat) : ∀ {xs : List MV} {vs : List V}, VRs C ι H xs vs → VRs C ι H (xs.drop n) (vs.drop n) := by
  induction n with
  | zero => intro xs vs h; exact h
  | succ n ih =>
    intro xs vs h
    cases xs with
    | nil => simp only [VRs] at h; subst h; simp only [List.drop_nil, VRs]
    | cons x r =>
      simp only [VRs] at h
      obtain ⟨v, w, rfl, h1, h2⟩ := h
      simp only [List.drop_succ_cons]
      exact ih h2
theorem VRs.set {ι : Io} {H : Hp} {y : MV} {u : V} (r : VR C ι H y u) : ∀ {xs : List MV} {vs : List V} (i : Nat), VRs C ι H xs vs → VRs C ι H (xs.set i y) (vs.set i u)
  | [], _, i, h => by simp only [VRs] at h; subst h; simp only [List.set_nil, VRs]
  | x :: xr, _, 0, h => by
    simp only [VRs] at h
    obtain ⟨v, w, rfl, h1, h2⟩ := h
    simp only [List.set_cons_zero, VRs]
    exact ⟨u, w, rfl, r, h2⟩
  | x :: xr, _, i + 1, h => by
    simp only [VRs] at h
    obtain ⟨v, w, rfl, h1, h2⟩ := h
    simp only [List.set_cons_succ, VRs]
    exact ⟨v, _, rfl, h1, VRs.set r i h2⟩
theorem VRs.erase {ι : Io} {H : Hp} : ∀ {xs : List MV} {vs : List V} (i : Nat), VRs C ι H xs vs → VRs C ι H (xs.eraseIdx i) (vs.eraseIdx i)
  | [], _, i, h => by simp only [VRs] at h; subst h; simp only [List.eraseIdx_nil, VRs]
  | x :: xr, _, 0, h => by
    simp only [VRs] at h
    obtain ⟨v, w, rfl, h1, h2⟩ := h
    simp only [List.eraseIdx_zero, List.tail_cons]
    exact h2
  | x :: xr, _, i + 1, h => by
    simp only [VRs] at h
    obtain ⟨v, w, rfl, h1, h2⟩ := h
    simp only [List.eraseIdx_cons_succ, VRs]
    exact ⟨v, _, rfl, h1, VRs.erase i h2⟩
theorem VRs.rev {ι : Io} {H : Hp} : ∀ {xs : List MV} {vs : List V}, VRs C ι H xs vs → VRs C ι H xs.reverse vs.reverse
  | [], _, h => by simp only [VRs] at h; subst h; simp only [List.reverse_nil, VRs]
  | x :: xr, _, h => by
    simp only [VRs] at h
    obtain ⟨v, w, rfl, h1, h2⟩ := h
    rw [List.reverse_cons, List.reverse_cons]
    exact (VRs.rev h2).append (by simp only [VRs]; exact ⟨v, [], rfl, h1, rfl⟩)
end
def flat : MV → Bool
  | .non => true
  | .bl _ => true
  | .int _ => true
  | .str _ => true
  | _ => false
def eqF : MV → MV → Bool
  | .non, .non => true
  | .bl a, .bl b => a == b
  | .bl a, .int b => (if a then 1 else 0) == b
  | .int a, .bl b => a == (if b then 1 else 0)
  | .int a, .int b => a == b
  | .str a, .str b => a == b
  | _, _ => false
/-- all pairs from the left, as far as both go -/
def all2 (f : MV → MV → Option Bool) : List MV → List MV → Option Bool
  | x :: xs, y :: ys => match f x y, all2 f xs ys with
    | some a, some b => some (a && b)
    | _, _ => none
  | _, _ => some true
def deq : Nat → MV → MV → Option Bool
  | 0, x, y => if flat x && flat y then some (eqF x y) else none
  | d + 1, x, y => if flat x && flat y then some (eqF x y) else match x, y with
    | .tup xs, .tup ys => (all2 (deq d) xs ys).map fun b => b && xs.length == ys.length
    | .lst xs, .lst ys => if xs.length = ys.length then all2 (deq d) xs ys else some false
    | .tup _, .lst _ => some false
    | .lst _, .tup _ => some false
    | .dic [], .dic [] => some true
    | .tup _, y => if flat y then some false else none
    | .lst _, y => if flat y then some false else none
    | x, .tup _ => if flat x then some false else none
    | x, .lst _ => if flat x then some false else none
    | _, _ => none
/-- what a value looks like to a reader: a list's place, or its name, forgotten -/
def view (S : Sto) : MV → MV
  | .rol xs => .lst xs
  | .ref l => match S[l]? with
    | some (.lst xs) => .lst xs
    | _ => .ref l
  | x => x
def VW (C : Ct) (ι : Io) (H : Hp) (x : MV) (v : V) : Prop := match x with
  | .lst xs => ∃ a vs, v = .ref a ∧ SqL C.K H a vs ∧ VRs C ι H xs vs
  | .tup xs => ∃ a vs, v = .ref a ∧ SqT C.K H a vs ∧ VRs C ι H xs vs
  | .dic kvs => VR C ι H (.dic kvs) v
  | x => flat x = true → VR C ι H x v
section
variable {C : Ct} {ι : Io} {S : Sto} {H : Hp}
theorem VR.vw {x : MV} {v : V} (h : VR C ι H x v) : VW C ι H x v := by
  cases x with
  | lst xs => simp only [VR] at h; obtain ⟨a, vs, rfl, _, h1, h2⟩ := h; exact ⟨a, vs, rfl, SqL.of h1, h2⟩
  | tup xs => simp only [VR] at h; obtain ⟨a, vs, rfl, h1, h2⟩ := h; exact ⟨a, vs, rfl, h1.sq, h2⟩
  | dic kvs => exact h
  | _ => exact fun _ => h
theorem view_ok {x : MV} {v : V} (s : StR C ι S H) (r : VR C ι H x v) : VW C ι H (view S x) v := by
  cases x with
  | rol xs => simp only [VR] at r; obtain ⟨a, vs, rfl, h1, h2⟩ := r; exact ⟨a, vs, rfl, h1.sq, h2⟩
  | ref l =>
    simp only [view]
    split
    · rename_i xs e
      simp only [VR] at r
      obtain ⟨a, rfl, hl⟩ := r
      obtain ⟨vs, h1, h2⟩ := s.ob l _ a e hl
      exact ⟨a, vs, rfl, SqL.of h1, h2⟩
    · exact fun h => by cases h
  | lst xs => exact r.vw
  | tup xs => exact r.vw
  | dic kvs => exact r
  | _ => exact fun _ => r
theorem VR.flatV {x : MV} {v : V} (h : VR C ι H x v) (f : flat x = true) : L2.flatV v = true := by
  cases x <;> first | (simp only [VR] at h; subst h; rfl) | cases f
theorem eqF_V {x y : MV} {v u : V} (h : VR C ι H x v) (h2 : VR C ι H y u) (f : flat x = true) (g : flat y = true) : eqV v u = eqF x y := by
  cases x <;> (first | cases f) <;> cases y <;> (first | cases g) <;> simp only [VR] at h h2 <;> subst h <;> subst h2 <;> try rfl
  rename_i a b
  show ((⟨a.toArray⟩ : Str) == ⟨b.toArray⟩) = (a == b)
  by_cases e : a = b
  · subst e; simp
  · rw [beq_eq_false_iff_ne.mpr e, beq_eq_false_iff_ne]
    intro z
    injection z with z
    exact e (by simpa using congrArg Array.toList z)
end
section
variable {X : Cx} {C : Ct} {ι : Io} {pins : List (Addr × Obj)} {σ : L2.St} {H : Hp} {s : Shared}
/-- the same object twice is equal to itself -/
theorem eqF_same {x y : MV} {v : V} (h : VR C ι H x v) (h2 : VR C ι H y v) (f : flat x = true) (g : flat y = true) : eqF x y = true := by
  rw [← eqF_V h h2 f g]
  have := h.flatV f
  cases v <;> first | rfl | (simp [eqV]; done) | (simp [L2.flatV] at this)
theorem all2_same {d : Nat} (ih : ∀ x y v b, VR C ι H x v → VR C ι H y v → deq d x y = some b → b = true) : ∀ {xs ys : List MV} {vs : List V} {b : Bool}, VRs C ι H xs vs → VRs C ι H ys vs → all2 (deq d) xs ys = some b → b = true
  | [], ys, vs, b, _, _, h => by simp only [all2, Option.some.injEq] at h; exact h.symm
  | x :: xr, [], vs, b, _, _, h => by simp only [all2, Option.some.injEq] at h; exact h.symm
  | x :: xr, y :: yr, vs, b, h1, h2, h => by
    simp only [VRs] at h1 h2
    obtain ⟨v, w, rfl, a1, a2⟩ := h1
    obtain ⟨v', w', e, b1, b2⟩ := h2
    obtain ⟨rfl, rfl⟩ := List.cons.inj e
    simp only [all2] at h
    split at h
    · rename_i c1 c2 e1 e2
      simp only [Option.some.injEq] at h
      rw [← h, ih _ _ _ _ a1 b1 e1, all2_same ih a2 b2 e2]
      rfl
    · cases h
theorem deq_same (hK : X.K = C.K) (I : Inv X pins σ H s) : ∀ (d : Nat) (x y : MV) (v : V) (b : Bool), VW C ι H x v → VW C ι H y v → deq d x y = some b → b = true
  | 0, x, y, v, b, h1, h2, h => by
    unfold deq at h
    split at h
    · rename_i hf
      rw [Bool.and_eq_true] at hf
      simp only [Option.some.injEq] at h
      have g1 : VR C ι H x v := by cases x <;> first | exact h1 rfl | cases hf.1
      have g2 : VR C ι H y v := by cases y <;> first | exact h2 rfl | cases hf.2
      rw [← h]; exact eqF_same g1 g2 hf.1 hf.2
    · cases h
  | d + 1, x, y, v, b, h1, h2, h => by
    have ih : ∀ x y v b, VR C ι H x v → VR C ι H y v → deq d x y = some b → b = true := fun x y v b a1 a2 => deq_same hK I d x y v b a1.vw a2.vw
    have flatref : ∀ {z : MV} {a : Addr}, flat z = true → VW C ι H z (.ref a) → False := fun {z a} hz q => by
      cases z <;> first | (have := q rfl; simp only [VR] at this; cases this) | cases hz
    have lt : ∀ {a : Addr} {vs ws : List V}, SqL C.K H a vs → SqT C.K H a ws → False := fun {a vs ws} p q => by
      rw [← hK] at p q
      obtain ⟨its, _, pl, _⟩ := I.list p
      obtain ⟨its2, _, pt, _⟩ := I.tuple q
      exact absurd rfl (SeqAt.ne_of_list_tuple pl.isList pt)
    unfold deq at h
    split at h
    · rename_i hf
      rw [Bool.and_eq_true] at hf
      simp only [Option.some.injEq] at h
      have g1 : VR C ι H x v := by cases x <;> first | exact h1 rfl | cases hf.1
      have g2 : VR C ι H y v := by cases y <;> first | exact h2 rfl | cases hf.2
      rw [← h]; exact eqF_same g1 g2 hf.1 hf.2
    · split at h
      · rename_i xs ys nf
        obtain ⟨a, vs, rfl, p1, p2⟩ := h1
        obtain ⟨a', ws, e, q1, q2⟩ := h2
        cases e
        have ev : vs = ws := I.tuple_inj (by rw [hK]; exact p1) (by rw [hK]; exact q1)
        subst ev
        cases e2 : all2 (deq d) xs ys with
        | none => rw [e2] at h; cases h
        | some c =>
          rw [e2] at h
          simp only [Option.map_some, Option.some.injEq] at h
          rw [← h, all2_same ih p2 q2 e2, ← p2.len, ← q2.len]
          simp
      · rename_i xs ys nf
        obtain ⟨a, vs, rfl, p1, p2⟩ := h1
        obtain ⟨a', ws, e, q1, q2⟩ := h2
        cases e
        have ev : vs = ws := I.list_inj (by rw [hK]; exact p1) (by rw [hK]; exact q1)
        subst ev
        rw [if_pos (by rw [← p2.len, ← q2.len])] at h
        exact all2_same ih p2 q2 h
      · obtain ⟨a, vs, rfl, p1, p2⟩ := h1
        obtain ⟨a', ws, e, q1, q2⟩ := h2
        cases e
        exact (lt q1 p1).elim
      · obtain ⟨a, vs, rfl, p1, p2⟩ := h1
        obtain ⟨a', ws, e, q1, q2⟩ := h2
        cases e
        exact (lt p1 q1).elim
      · simp only [Option.some.injEq] at h; exact h.symm
      · obtain ⟨a, vs, rfl, p1, p2⟩ := h1
        split at h
        · rename_i hy; exact (flatref hy h2).elim
        · cases h
      · obtain ⟨a, vs, rfl, p1, p2⟩ := h1
        split at h
        · rename_i hy; exact (flatref hy h2).elim
        · cases h
      · obtain ⟨a, vs, rfl, p1, p2⟩ := h2
        split at h
        · rename_i hy; exact (flatref hy h1).elim
        · cases h
      · obtain ⟨a, vs, rfl, p1, p2⟩ := h2
        split at h
        · rename_i hy; exact (flatref hy h1).elim
        · cases h
      · cases h
theorem all2_at {f : MV → MV → Option Bool} : ∀ {xs ys : List MV} {b : Bool}, all2 f xs ys = some b → ∃ e : Nat → Bool, (∀ (j : Nat) (x y : MV), xs[j]? = some x → ys[j]? = some y → f x y = some (e j)) ∧ (List.range (min xs.length ys.length)).all e = b
  | [], ys, b, h => by
    simp only [all2, Option.some.injEq] at h
    exact ⟨fun _ => true, fun j x y h => by simp at h, by simp [h]⟩
  | x :: xr, [], b, h => by
    simp only [all2, Option.some.injEq] at h
    exact ⟨fun _ => true, fun j x y _ h => by simp at h, by simp [h]⟩
  | x :: xr, y :: yr, b, h => by
    simp only [all2] at h
    split at h
    · rename_i c1 c2 e1 e2
      simp only [Option.some.injEq] at h
      obtain ⟨e, h1, h2⟩ := all2_at e2
      refine ⟨fun j => match j with | 0 => c1 | j + 1 => e j, fun j u v hu hv => ?_, ?_⟩
      · cases j with
        | zero => simp at hu hv; subst hu; subst hv; exact e1
        | succ j => exact h1 j u v (by simpa using hu) (by simpa using hv)
      · rw [show min (x :: xr).length (y :: yr).length = min xr.length yr.length + 1 from by simp only [List.length_cons]; omega, List.range_succ_eq_map, List.all_cons, List.all_map, ← h, ← h2]
        rfl
    · cases h
theorem dk_nil {P : Program} {w : World} {H : Hp} {h : Heap} {a : Addr} (ok : HOk P w H h) (e : Rd H a (.dK [])) : (a == sysModules) = false ∧ ∀ (prog : Program) (w : World), h.DictOf (mixKind prog w) a [] := by
  obtain ⟨_, hd, vs, r, o, es, ep, ho, hc, hdat, hk, hp, hn⟩ := dk_rd ok e
  cases r
  have he : es = #[] := by
    cases hl : es.toList with
    | nil => exact Array.toList_eq_nil_iff.mp hl
    | cons x r => rw [hl] at hp; cases hp
  subst he
  exact ⟨hd, fun prog w => ⟨o, #[], ep, ho, hc, hdat, fun _ z => by simp at z, .nil, List.nodup_nil⟩⟩
theorem deq_run (hK : X.K = C.K) (I : Inv X pins σ H s) : ∀ (d : Nat) (A : Around), A.units + d < cLine → ∀ (x y : MV) (v u : V) (vv uu : Value) (b : Bool), VW C ι H x v → VW C ι H y u → RelV v vv → RelV u uu → deq d x y = some b → SeqAt.EqAt A s vv uu b
  | 0, A, hA, x, y, v, u, vv, uu, b, h1, h2, r1, r2, h => by
    unfold deq at h
    split at h
    · rename_i hf
      rw [Bool.and_eq_true] at hf
      simp only [Option.some.injEq] at h
      have g1 : VR C ι H x v := by cases x <;> first | exact h1 rfl | cases hf.1
      have g2 : VR C ι H y u := by cases y <;> first | exact h2 rfl | cases hf.2
      rw [← h, ← eqF_V g1 g2 hf.1 hf.2]
      exact eqAt_V r1 r2 (g1.flatV hf.1) (g2.flatV hf.2)
    · cases h
  | d + 1, A, hA, x, y, v, u, vv, uu, b, h1, h2, r1, r2, h => by
    have hu : A.units < cLine := by omega
    have ih := fun (x y : MV) (v u : V) (vv uu : Value) (b : Bool) (a1 : VR C ι H x v) (a2 : VR C ι H y u) => deq_run hK I d A.in1 (by show A.units + 1 + d < cLine; omega) x y v u vv uu b a1.vw a2.vw
    have same := fun (v : V) (b : Bool) (a1 : VW C ι H x v) (a2 : VW C ι H y v) => deq_same hK I (d + 1) x y v b a1 a2
    have lst : ∀ {a : Addr} {vs : List V}, SqL C.K H a vs → ∃ its : List Value, Vals vs its ∧ s.heap.IsList a its.toArray := fun {a vs} p => by
      rw [← hK] at p
      obtain ⟨its, rv, pl, _⟩ := I.list p
      exact ⟨its, rv, pl.isList⟩
    have tpl : ∀ {a : Addr} {vs : List V}, SqT C.K H a vs → ∃ its : List Value, Vals vs its ∧ s.heap.IsTuple a its.toArray := fun {a vs} p => by
      rw [← hK] at p
      obtain ⟨its, rv, pl, _⟩ := I.tuple p
      exact ⟨its, rv, pl⟩
    have items : ∀ {xs ys : List MV} {vs ws : List V} {its its2 : List Value} {e : Nat → Bool}, VRs C ι H xs vs → VRs C ι H ys ws → Vals vs its → Vals ws its2 → (∀ (j : Nat) (x y : MV), xs[j]? = some x → ys[j]? = some y → deq d x y = some (e j)) →
        ∀ j (h1 : j < its.toArray.size) (h2 : j < its2.toArray.size), SeqAt.EqAt A.in1 s its.toArray[j] its2.toArray[j] (e j) := fun {xs ys vs ws its its2 e} a1 a2 b1 b2 he j j1 j2 => by
      have j1' : j < its.length := by simpa using j1
      have j2' : j < its2.length := by simpa using j2
      have l1 := b1.length
      have l2 := b2.length
      obtain ⟨x, ex, rx⟩ := a1.at' (i := j) (v := vs[j]'(by omega)) (by simp)
      obtain ⟨y, ey, ry⟩ := a2.at' (i := j) (v := ws[j]'(by omega)) (by simp)
      obtain ⟨p, ep, rp⟩ := b1.get (i := j) (x := vs[j]'(by omega)) (by simp)
      obtain ⟨q, eq, rq⟩ := b2.get (i := j) (x := ws[j]'(by omega)) (by simp)
      have e1 : its.toArray[j] = p := by simp only [List.getElem_toArray]; rw [List.getElem?_eq_getElem j1'] at ep; exact Option.some.inj ep
      have e2 : its2.toArray[j] = q := by simp only [List.getElem_toArray]; rw [List.getElem?_eq_getElem j2'] at eq; exact Option.some.inj eq
      rw [e1, e2]
      exact ih x y _ _ p q _ rx ry rp rq (he j x y ex ey)
    have h' := h
    unfold deq at h
    split at h
    · rename_i hf
      rw [Bool.and_eq_true] at hf
      simp only [Option.some.injEq] at h
      have g1 : VR C ι H x v := by cases x <;> first | exact h1 rfl | cases hf.1
      have g2 : VR C ι H y u := by cases y <;> first | exact h2 rfl | cases hf.2
      rw [← h, ← eqF_V g1 g2 hf.1 hf.2]
      exact eqAt_V r1 r2 (g1.flatV hf.1) (g2.flatV hf.2)
    · split at h
      · rename_i xs ys nf
        obtain ⟨a, vs, rfl, p1, p2⟩ := id h1
        obtain ⟨a', ws, rfl, q1, q2⟩ := id h2
        cases r1; cases r2
        by_cases ea : a = a'
        · subst ea
          rw [same _ b h1 h2 h']
          exact SeqAt.EqAt.same _
        · obtain ⟨its, rv, il⟩ := tpl p1
          obtain ⟨its2, rv2, il2⟩ := tpl q1
          cases e2 : all2 (deq d) xs ys with
          | none => rw [e2] at h; cases h
          | some c =>
            rw [e2] at h
            simp only [Option.map_some, Option.some.injEq] at h
            obtain ⟨e, e3, e4⟩ := all2_at e2
            have z := SeqAt.RcAt.tuples il il2 hu (items p2 q2 rv rv2 e3)
            refine SeqAt.EqAt.of_refs ea ?_
            have l1 : its.toArray.size = xs.length := by rw [List.size_toArray, ← rv.length, p2.len]
            have l2 : its2.toArray.size = ys.length := by rw [List.size_toArray, ← rv2.length, q2.len]
            rw [l1, l2, e4, h] at z
            exact z
      · rename_i xs ys nf
        obtain ⟨a, vs, rfl, p1, p2⟩ := id h1
        obtain ⟨a', ws, rfl, q1, q2⟩ := id h2
        cases r1; cases r2
        by_cases ea : a = a'
        · subst ea
          rw [same _ b h1 h2 h']
          exact SeqAt.EqAt.same _
        · obtain ⟨its, rv, il⟩ := lst p1
          obtain ⟨its2, rv2, il2⟩ := lst q1
          have l1 : its.toArray.size = xs.length := by rw [List.size_toArray, ← rv.length, p2.len]
          have l2 : its2.toArray.size = ys.length := by rw [List.size_toArray, ← rv2.length, q2.len]
          refine SeqAt.EqAt.of_refs ea ?_
          split at h
          · rename_i hl
            obtain ⟨e, e3, e4⟩ := all2_at h
            have z := SeqAt.RcAt.lists il il2 (by rw [l1, l2, hl]) hu (items p2 q2 rv rv2 e3)
            rw [l1] at z
            rw [← hl, Nat.min_self] at e4
            rw [e4] at z
            exact z
          · rename_i hl
            simp only [Option.some.injEq] at h
            rw [← h]
            exact SeqAt.RcAt.lists_lengths il il2 (by rw [l1, l2]; exact bne_iff_ne.mpr hl) hu
      · rename_i xs ys nf
        obtain ⟨a, vs, rfl, p1, p2⟩ := id h1
        obtain ⟨a', ws, rfl, q1, q2⟩ := id h2
        cases r1; cases r2
        obtain ⟨its, rv, il⟩ := tpl p1
        obtain ⟨its2, rv2, il2⟩ := lst q1
        simp only [Option.some.injEq] at h
        rw [← h]; exact .tuple_list il il2 hu
      · rename_i xs ys nf
        obtain ⟨a, vs, rfl, p1, p2⟩ := id h1
        obtain ⟨a', ws, rfl, q1, q2⟩ := id h2
        cases r1; cases r2
        obtain ⟨its, rv, il⟩ := lst p1
        obtain ⟨its2, rv2, il2⟩ := tpl q1
        simp only [Option.some.injEq] at h
        rw [← h]; exact .list_tuple il il2 hu
      · simp only [Option.some.injEq] at h
        rw [← h]
        have h1 : VR C ι H (.dic []) v := h1
        have h2 : VR C ι H (.dic []) u := h2
        simp only [VR] at h1 h2
        obtain ⟨a, kx, rfl, _, g1, g2⟩ := h1
        obtain ⟨a', kx', rfl, _, g3, g4⟩ := h2
        simp only [KRs] at g2 g4
        subst g2; subst g4
        cases r1; cases r2
        by_cases ea : a = a'
        · subst ea; exact SeqAt.EqAt.same _
        · obtain ⟨hd, e1⟩ := dk_nil I.hok g1
          obtain ⟨hd', e2⟩ := dk_nil I.hok g3
          refine SeqAt.EqAt.of_refs ea fun prog w E Q hq => ?_
          exact PySem.W.keq_eq hd hd' (e1 prog w) (e2 prog w) hu (fun _ => .nil) hq
      · obtain ⟨a, vs, rfl, p1, p2⟩ := id h1
        cases r1
        obtain ⟨its, rv, il⟩ := tpl p1
        split at h
        · rename_i hy
          simp only [Option.some.injEq] at h
          rw [← h]
          cases y with
          | non => have := h2 rfl; simp only [VR] at this; subst this; cases r2; exact .tuple_none il hu
          | bl b => have := h2 rfl; simp only [VR] at this; subst this; cases r2; exact .tuple_bool b il hu
          | int b => have := h2 rfl; simp only [VR] at this; subst this; obtain ⟨t, rfl⟩ := r2; exact .tuple_int b t il hu
          | str b => have := h2 rfl; simp only [VR] at this; subst this; obtain ⟨t, rfl⟩ := r2; exact .tuple_str _ t il hu
          | _ => cases hy
        · cases h
      · obtain ⟨a, vs, rfl, p1, p2⟩ := id h1
        cases r1
        obtain ⟨its, rv, il⟩ := lst p1
        split at h
        · rename_i hy
          simp only [Option.some.injEq] at h
          rw [← h]
          cases y with
          | non => have := h2 rfl; simp only [VR] at this; subst this; cases r2; exact .list_none il hu
          | bl b => have := h2 rfl; simp only [VR] at this; subst this; cases r2; exact .list_bool b il hu
          | int b => have := h2 rfl; simp only [VR] at this; subst this; obtain ⟨t, rfl⟩ := r2; exact .list_int b t il hu
          | str b => have := h2 rfl; simp only [VR] at this; subst this; obtain ⟨t, rfl⟩ := r2; exact .list_str _ t il hu
          | _ => cases hy
        · cases h
      · obtain ⟨a, vs, rfl, p1, p2⟩ := id h2
        cases r2
        obtain ⟨its, rv, il⟩ := tpl p1
        split at h
        · rename_i hy
          simp only [Option.some.injEq] at h
          rw [← h]
          cases x with
          | non => have := h1 rfl; simp only [VR] at this; subst this; cases r1; exact .none_tuple il hu
          | bl b => have := h1 rfl; simp only [VR] at this; subst this; cases r1; exact .bool_tuple b il hu
          | int b => have := h1 rfl; simp only [VR] at this; subst this; obtain ⟨t, rfl⟩ := r1; exact .int_tuple b t il hu
          | str b => have := h1 rfl; simp only [VR] at this; subst this; obtain ⟨t, rfl⟩ := r1; exact .str_tuple _ t il hu
          | _ => cases hy
        · cases h
      · obtain ⟨a, vs, rfl, p1, p2⟩ := id h2
        cases r2
        obtain ⟨its, rv, il⟩ := lst p1
        split at h
        · rename_i hy
          simp only [Option.some.injEq] at h
          rw [← h]
          cases x with
          | non => have := h1 rfl; simp only [VR] at this; subst this; cases r1; exact .none_list il hu
          | bl b => have := h1 rfl; simp only [VR] at this; subst this; cases r1; exact .bool_list b il hu
          | int b => have := h1 rfl; simp only [VR] at this; subst this; obtain ⟨t, rfl⟩ := r1; exact .int_list b t il hu
          | str b => have := h1 rfl; simp only [VR] at this; subst this; obtain ⟨t, rfl⟩ := r1; exact .str_list _ t il hu
          | _ => cases hy
        · cases h
      · cases h
end
end Mi
namespace Mi
open PySem L2
section
variable {X : Cx} {C : Ct} {ι : Io} {pins : List (Addr × Obj)} {σ : L2.St} {H : Hp} {s : Shared}
theorem strEq (a b : List Nat) : ((⟨a.toArray⟩ : Str) == ⟨b.toArray⟩) = (a == b) := by
  by_cases e : a = b
  · subst e; simp
  · rw [beq_eq_false_iff_ne.mpr e, beq_eq_false_iff_ne]
    intro z
    injection z with z
    exact e (by simpa using congrArg Array.toList z)
theorem rc_flat {A : Around} {x y : MV} {v u : V} {vv uu : Value} {b : Bool} (h1 : VR C ι H x v) (h2 : VR C ι H y u) (r1 : RelV v vv) (r2 : RelV u uu) (f : flat x = true) (g : flat y = true) (h : eqF x y = b) : SeqAt.RcAt A s vv uu b ∧ SeqAt.RcNeAt A s vv uu (!b) := by
  subst h
  cases x with
  | non =>
    simp only [VR] at h1; subst h1; cases r1
    cases y with
    | non => simp only [VR] at h2; subst h2; cases r2; exact ⟨SeqAt.RcAt.none_none, SeqAt.RcNeAt.none_none⟩
    | bl j => simp only [VR] at h2; subst h2; cases r2; exact ⟨SeqAt.RcAt.none_bool j, SeqAt.RcNeAt.none_bool j⟩
    | int j => simp only [VR] at h2; subst h2; obtain ⟨t2, rfl⟩ := r2; exact ⟨SeqAt.RcAt.none_int j _, SeqAt.RcNeAt.none_int j _⟩
    | str j => simp only [VR] at h2; subst h2; obtain ⟨t2, rfl⟩ := r2; exact ⟨SeqAt.RcAt.none_str _ _, SeqAt.RcNeAt.none_str _ _⟩
    | _ => cases g
  | bl i =>
    simp only [VR] at h1; subst h1; cases r1
    cases y with
    | non => simp only [VR] at h2; subst h2; cases r2; exact ⟨SeqAt.RcAt.bool_none i, SeqAt.RcNeAt.bool_none i⟩
    | bl j => simp only [VR] at h2; subst h2; cases r2; exact ⟨SeqAt.RcAt.bool_bool i j, SeqAt.RcNeAt.bool_bool i j⟩
    | int j => simp only [VR] at h2; subst h2; obtain ⟨t2, rfl⟩ := r2; exact ⟨SeqAt.RcAt.bool_int i j _, SeqAt.RcNeAt.bool_int i j _⟩
    | str j => simp only [VR] at h2; subst h2; obtain ⟨t2, rfl⟩ := r2; exact ⟨SeqAt.RcAt.bool_str i _ _, SeqAt.RcNeAt.bool_str i _ _⟩
    | _ => cases g
  | int i =>
    simp only [VR] at h1; subst h1; obtain ⟨t1, rfl⟩ := r1
    cases y with
    | non => simp only [VR] at h2; subst h2; cases r2; exact ⟨SeqAt.RcAt.int_none i _, SeqAt.RcNeAt.int_none i _⟩
    | bl j => simp only [VR] at h2; subst h2; cases r2; exact ⟨SeqAt.RcAt.int_bool i _ j, SeqAt.RcNeAt.int_bool i _ j⟩
    | int j => simp only [VR] at h2; subst h2; obtain ⟨t2, rfl⟩ := r2; exact ⟨SeqAt.RcAt.int_int i _ j _, SeqAt.RcNeAt.int_int i _ j _⟩
    | str j => simp only [VR] at h2; subst h2; obtain ⟨t2, rfl⟩ := r2; exact ⟨SeqAt.RcAt.int_str i _ _ _, SeqAt.RcNeAt.int_str i _ _ _⟩
    | _ => cases g
  | str i =>
    simp only [VR] at h1; subst h1; obtain ⟨t1, rfl⟩ := r1
    cases y with
    | non => simp only [VR] at h2; subst h2; cases r2; exact ⟨SeqAt.RcAt.str_none _ _, SeqAt.RcNeAt.str_none _ _⟩
    | bl j => simp only [VR] at h2; subst h2; cases r2; exact ⟨SeqAt.RcAt.str_bool _ _ j, SeqAt.RcNeAt.str_bool _ _ j⟩
    | int j => simp only [VR] at h2; subst h2; obtain ⟨t2, rfl⟩ := r2; exact ⟨SeqAt.RcAt.str_int _ _ j _, SeqAt.RcNeAt.str_int _ _ j _⟩
    | str j => simp only [VR] at h2; subst h2; obtain ⟨t2, rfl⟩ := r2; have e := strEq i j; simp only [eqF]; rw [← e]; exact ⟨SeqAt.RcAt.str_str _ _ _ _, SeqAt.RcNeAt.str_str _ _ _ _⟩
    | _ => cases g
  | _ => cases f
theorem rc_core (hK : X.K = C.K) (I : Inv X pins σ H s) (d : Nat) (A : Around) (hA : A.units + (d + 1) < cLine) (x y : MV) (v u : V) (vv uu : Value) (b : Bool) (h1 : VW C ι H x v) (h2 : VW C ι H y u) (r1 : RelV v vv) (r2 : RelV u uu) (h : deq (d + 1) x y = some b) : SeqAt.RcAt A s vv uu b ∧ SeqAt.RcNeAt A s vv uu (!b) := by
  have hu : A.units < cLine := by omega
  have ih := fun (x y : MV) (v u : V) (vv uu : Value) (b : Bool) (a1 : VR C ι H x v) (a2 : VR C ι H y u) => deq_run hK I d A.in1 (by show A.units + 1 + d < cLine; omega) x y v u vv uu b a1.vw a2.vw
  have lst : ∀ {a : Addr} {vs : List V}, SqL C.K H a vs → ∃ its : List Value, Vals vs its ∧ s.heap.IsList a its.toArray := fun {a vs} p => by
    rw [← hK] at p
    obtain ⟨its, rv, pl, _⟩ := I.list p
    exact ⟨its, rv, pl.isList⟩
  have tpl : ∀ {a : Addr} {vs : List V}, SqT C.K H a vs → ∃ its : List Value, Vals vs its ∧ s.heap.IsTuple a its.toArray := fun {a vs} p => by
    rw [← hK] at p
    obtain ⟨its, rv, pl, _⟩ := I.tuple p
    exact ⟨its, rv, pl⟩
  have items : ∀ {xs ys : List MV} {vs ws : List V} {its its2 : List Value} {e : Nat → Bool}, VRs C ι H xs vs → VRs C ι H ys ws → Vals vs its → Vals ws its2 → (∀ (j : Nat) (x y : MV), xs[j]? = some x → ys[j]? = some y → deq d x y = some (e j)) →
      ∀ j (h1 : j < its.toArray.size) (h2 : j < its2.toArray.size), SeqAt.EqAt A.in1 s its.toArray[j] its2.toArray[j] (e j) := fun {xs ys vs ws its its2 e} a1 a2 b1 b2 he j j1 j2 => by
    have j1' : j < its.length := by simpa using j1
    have j2' : j < its2.length := by simpa using j2
    have l1 := b1.length
    have l2 := b2.length
    obtain ⟨x, ex, rx⟩ := a1.at' (i := j) (v := vs[j]'(by omega)) (by simp)
    obtain ⟨y, ey, ry⟩ := a2.at' (i := j) (v := ws[j]'(by omega)) (by simp)
    obtain ⟨p, ep, rp⟩ := b1.get (i := j) (x := vs[j]'(by omega)) (by simp)
    obtain ⟨q, eq, rq⟩ := b2.get (i := j) (x := ws[j]'(by omega)) (by simp)
    have e1 : its.toArray[j] = p := by simp only [List.getElem_toArray]; rw [List.getElem?_eq_getElem j1'] at ep; exact Option.some.inj ep
    have e2 : its2.toArray[j] = q := by simp only [List.getElem_toArray]; rw [List.getElem?_eq_getElem j2'] at eq; exact Option.some.inj eq
    rw [e1, e2]
    exact ih x y _ _ p q _ rx ry rp rq (he j x y ex ey)
  unfold deq at h
  split at h
  · rename_i hf
    rw [Bool.and_eq_true] at hf
    simp only [Option.some.injEq] at h
    have g1 : VR C ι H x v := by cases x <;> first | exact h1 rfl | cases hf.1
    have g2 : VR C ι H y u := by cases y <;> first | exact h2 rfl | cases hf.2
    exact rc_flat g1 g2 r1 r2 hf.1 hf.2 h
  · split at h
    · rename_i xs ys nf
      obtain ⟨a, vs, rfl, p1, p2⟩ := id h1
      obtain ⟨a', ws, rfl, q1, q2⟩ := id h2
      cases r1; cases r2
      obtain ⟨its, rv, il⟩ := tpl p1
      obtain ⟨its2, rv2, il2⟩ := tpl q1
      cases e2 : all2 (deq d) xs ys with
      | none => rw [e2] at h; cases h
      | some c =>
        rw [e2] at h
        simp only [Option.map_some, Option.some.injEq] at h
        obtain ⟨e, e3, e4⟩ := all2_at e2
        have z := SeqAt.RcAt.tuples il il2 hu (items p2 q2 rv rv2 e3)
        have z2 := SeqAt.RcNeAt.tuples il il2 hu (items p2 q2 rv rv2 e3)
        have l1 : its.toArray.size = xs.length := by rw [List.size_toArray, ← rv.length, p2.len]
        have l2 : its2.toArray.size = ys.length := by rw [List.size_toArray, ← rv2.length, q2.len]
        rw [l1, l2, e4, h] at z z2
        exact ⟨z, z2⟩
    · rename_i xs ys nf
      obtain ⟨a, vs, rfl, p1, p2⟩ := id h1
      obtain ⟨a', ws, rfl, q1, q2⟩ := id h2
      cases r1; cases r2
      obtain ⟨its, rv, il⟩ := lst p1
      obtain ⟨its2, rv2, il2⟩ := lst q1
      have l1 : its.toArray.size = xs.length := by rw [List.size_toArray, ← rv.length, p2.len]
      have l2 : its2.toArray.size = ys.length := by rw [List.size_toArray, ← rv2.length, q2.len]
      split at h
      · rename_i hl
        obtain ⟨e, e3, e4⟩ := all2_at h
        have z := SeqAt.RcAt.lists il il2 (by rw [l1, l2, hl]) hu (items p2 q2 rv rv2 e3)
        have z2 := SeqAt.RcNeAt.lists il il2 (by rw [l1, l2, hl]) hu (items p2 q2 rv rv2 e3)
        rw [l1] at z z2
        rw [← hl, Nat.min_self] at e4
        rw [e4] at z z2
        exact ⟨z, z2⟩
      · rename_i hl
        simp only [Option.some.injEq] at h
        rw [← h]
        exact ⟨SeqAt.RcAt.lists_lengths il il2 (by rw [l1, l2]; exact bne_iff_ne.mpr hl) hu, SeqAt.RcNeAt.lists_lengths il il2 (by rw [l1, l2]; exact bne_iff_ne.mpr hl) hu⟩
    · obtain ⟨a, vs, rfl, p1, p2⟩ := id h1
      obtain ⟨a', ws, rfl, q1, q2⟩ := id h2
      cases r1; cases r2
      obtain ⟨its, rv, il⟩ := tpl p1
      obtain ⟨its2, rv2, il2⟩ := lst q1
      simp only [Option.some.injEq] at h
      rw [← h]; exact ⟨.tuple_list il il2 hu, .tuple_list il il2 hu⟩
    · obtain ⟨a, vs, rfl, p1, p2⟩ := id h1
      obtain ⟨a', ws, rfl, q1, q2⟩ := id h2
      cases r1; cases r2
      obtain ⟨its, rv, il⟩ := lst p1
      obtain ⟨its2, rv2, il2⟩ := tpl q1
      simp only [Option.some.injEq] at h
      rw [← h]; exact ⟨.list_tuple il il2 hu, .list_tuple il il2 hu⟩
    · simp only [Option.some.injEq] at h
      rw [← h]
      have h1 : VR C ι H (.dic []) v := h1
      have h2 : VR C ι H (.dic []) u := h2
      simp only [VR] at h1 h2
      obtain ⟨a, kx, rfl, _, g1, g2⟩ := h1
      obtain ⟨a', kx', rfl, _, g3, g4⟩ := h2
      simp only [KRs] at g2 g4
      subst g2; subst g4
      cases r1; cases r2
      obtain ⟨hd, e1⟩ := dk_nil I.hok g1
      obtain ⟨hd', e2⟩ := dk_nil I.hok g3
      exact ⟨fun prog w E Q hq => PySem.W.keq_eq hd hd' (e1 prog w) (e2 prog w) hu (fun _ => .nil) hq, fun prog w E Q hq => PySem.W.keq_ne hd hd' (e1 prog w) (e2 prog w) hu (fun _ => .nil) hq⟩
    · obtain ⟨a, vs, rfl, p1, p2⟩ := id h1
      cases r1
      obtain ⟨its, rv, il⟩ := tpl p1
      split at h
      · rename_i hy
        simp only [Option.some.injEq] at h
        rw [← h]
        cases y with
        | non => have h2 := h2 rfl; simp only [VR] at h2; subst h2; cases r2; exact ⟨.tuple_none il hu, .tuple_none il hu⟩
        | bl j => have h2 := h2 rfl; simp only [VR] at h2; subst h2; cases r2; exact ⟨.tuple_bool j il hu, .tuple_bool j il hu⟩
        | int j => have h2 := h2 rfl; simp only [VR] at h2; subst h2; obtain ⟨t2, rfl⟩ := r2; exact ⟨.tuple_int j _ il hu, .tuple_int j _ il hu⟩
        | str j => have h2 := h2 rfl; simp only [VR] at h2; subst h2; obtain ⟨t2, rfl⟩ := r2; exact ⟨.tuple_str _ _ il hu, .tuple_str _ _ il hu⟩
        | _ => cases hy
      · cases h
    · obtain ⟨a, vs, rfl, p1, p2⟩ := id h1
      cases r1
      obtain ⟨its, rv, il⟩ := lst p1
      split at h
      · rename_i hy
        simp only [Option.some.injEq] at h
        rw [← h]
        cases y with
        | non => have h2 := h2 rfl; simp only [VR] at h2; subst h2; cases r2; exact ⟨.list_none il hu, .list_none il hu⟩
        | bl j => have h2 := h2 rfl; simp only [VR] at h2; subst h2; cases r2; exact ⟨.list_bool j il hu, .list_bool j il hu⟩
        | int j => have h2 := h2 rfl; simp only [VR] at h2; subst h2; obtain ⟨t2, rfl⟩ := r2; exact ⟨.list_int j _ il hu, .list_int j _ il hu⟩
        | str j => have h2 := h2 rfl; simp only [VR] at h2; subst h2; obtain ⟨t2, rfl⟩ := r2; exact ⟨.list_str _ _ il hu, .list_str _ _ il hu⟩
        | _ => cases hy
      · cases h
    · obtain ⟨a, vs, rfl, p1, p2⟩ := id h2
      cases r2
      obtain ⟨its, rv, il⟩ := tpl p1
      split at h
      · rename_i hy
        simp only [Option.some.injEq] at h
        rw [← h]
        cases x with
        | non => have h1 := h1 rfl; simp only [VR] at h1; subst h1; cases r1; exact ⟨.none_tuple il hu, .none_tuple il hu⟩
        | bl j => have h1 := h1 rfl; simp only [VR] at h1; subst h1; cases r1; exact ⟨.bool_tuple j il hu, .bool_tuple j il hu⟩
        | int j => have h1 := h1 rfl; simp only [VR] at h1; subst h1; obtain ⟨t1, rfl⟩ := r1; exact ⟨.int_tuple j _ il hu, .int_tuple j _ il hu⟩
        | str j => have h1 := h1 rfl; simp only [VR] at h1; subst h1; obtain ⟨t1, rfl⟩ := r1; exact ⟨.str_tuple _ _ il hu, .str_tuple _ _ il hu⟩
        | _ => cases hy
      · cases h
    · obtain ⟨a, vs, rfl, p1, p2⟩ := id h2
      cases r2
      obtain ⟨its, rv, il⟩ := lst p1
      split at h
      · rename_i hy
        simp only [Option.some.injEq] at h
        rw [← h]
        cases x with
        | non => have h1 := h1 rfl; simp only [VR] at h1; subst h1; cases r1; exact ⟨.none_list il hu, .none_list il hu⟩
        | bl j => have h1 := h1 rfl; simp only [VR] at h1; subst h1; cases r1; exact ⟨.bool_list j il hu, .bool_list j il hu⟩
        | int j => have h1 := h1 rfl; simp only [VR] at h1; subst h1; obtain ⟨t1, rfl⟩ := r1; exact ⟨.int_list j _ il hu, .int_list j _ il hu⟩
        | str j => have h1 := h1 rfl; simp only [VR] at h1; subst h1; obtain ⟨t1, rfl⟩ := r1; exact ⟨.str_list _ _ il hu, .str_list _ _ il hu⟩
        | _ => cases hy
      · cases h
    · cases h
end
def fEq (x y : MV) (S : Sto) : Res MV := match deq 60 (view S x) (view S y) with
  | some b => .ok (.bl b) S
  | none => .bad
def fNe (x y : MV) (S : Sto) : Res MV := match deq 60 (view S x) (view S y) with
  | some b => .ok (.bl (!b)) S
  | none => .bad
def rEqM (C : Ct) : R2 := fun v u H Q => ∃ ι S x y b, StR C ι S H ∧ VR C ι H x v ∧ VR C ι H y u ∧ deq 60 (view S x) (view S y) = some b ∧ Q (.bl b) H
def rNeM (C : Ct) : R2 := fun v u H Q => ∃ ι S x y b, StR C ι S H ∧ VR C ι H x v ∧ VR C ι H y u ∧ deq 60 (view S x) (view S y) = some b ∧ Q (.bl (!b)) H
section
variable {X : Cx} {C : Ct}
theorem op_eqM (hK : X.K = C.K) (hu : X.A.units + 64 < cLine) : OpR X (compareOp .Eq) (rEqM C) := by
  intro pins s σ H x y v u Q I rx ry h
  obtain ⟨ι, S, a, b, c, hs, h1, h2, h3, q⟩ := h
  exact (rc_core hK I 59 X.A (by omega) _ _ _ _ _ _ _ (view_ok hs h1) (view_ok hs h2) rx ry h3).1 _ _ _ _ ⟨.bl c, H, I, rfl, q⟩
theorem op_neM (hK : X.K = C.K) (hu : X.A.units + 64 < cLine) : OpR X (compareOp .NotEq) (rNeM C) := by
  intro pins s σ H x y v u Q I rx ry h
  obtain ⟨ι, S, a, b, c, hs, h1, h2, h3, q⟩ := h
  exact (rc_core hK I 59 X.A (by omega) _ _ _ _ _ _ _ (view_ok hs h1) (view_ok hs h2) rx ry h3).2 _ _ _ _ ⟨.bl (!c), H, I, rfl, q⟩
theorem opm_eq : OpM C fEq (rEqM C) := by
  intro W ι σ S H x y v u Q hs h1 h2 hp
  unfold fEq at hp
  split at hp
  · rename_i b e
    exact ⟨ι, S, x, y, b, hs, h1, h2, e, hp ι H _ .refl hs (by simp only [VR])⟩
  · exact hp.elim
theorem opm_ne : OpM C fNe (rNeM C) := by
  intro W ι σ S H x y v u Q hs h1 h2 hp
  unfold fNe at hp
  split at hp
  · rename_i b e
    exact ⟨ι, S, x, y, b, hs, h1, h2, e, hp ι H _ .refl hs (by simp only [VR])⟩
  · exact hp.elim
end
end Mi
namespace Mi
open PySem L2 TL
abbrev st (l : List Nat) : Str := ⟨l.toArray⟩
theorem st_len (a : List Nat) : (st a).length = a.length := by rw [len_tl]
theorem VR_str {C : Ct} {ι : Io} {H : Hp} {l : List Nat} {z : Str} (h : tl z = l) : VR C ι H (.str l) (.str z) := by
  simp only [VR]
  rw [← h, mk_tl]
/-- a new list: a value, or a new place -/
def mkL (mu : Bool) (xs : List MV) (S : Sto) : Res MV := if mu then .ok (.ref S.length) (S ++ [.lst xs]) else .ok (.lst xs) S
theorem mkL_ok {C : Ct} {W : WX} {mu : Bool} {xs : List MV} {vs : List V} {ι : Io} {σ : L2.St} {S : Sto} {H : Hp} {Q : VK} (hs : StR C ι S H) (r : VRs C ι H xs vs) (hp : Post C W (VR C) ι σ H (mkL mu xs S) Q) : ∀ p, H p = none → Q (.ref p) (upd H p (.lst vs)) := by
  intro p hn
  cases mu with
  | true =>
    have e := Ext.push (o := .lst vs) hs hn
    refine hp (ι ++ [p]) _ _ e (hs.push hn ⟨vs, upd_same, VRs.mono e _ _ r⟩) ?_
    simp only [VR]
    exact ⟨p, rfl, by rw [← hs.len]; simp⟩
  | false =>
    have e := Ext.upd (o := .lst vs) hs hn
    refine hp ι _ _ e (hs.upd hn) ?_
    simp only [VR]
    exact ⟨p, vs, rfl, hs.fresh hn, upd_same, VRs.mono e _ _ r⟩
theorem mkT_ok {C : Ct} {W : WX} {xs : List MV} {vs : List V} {ι : Io} {σ : L2.St} {S : Sto} {H : Hp} {Q : VK} (hs : StR C ι S H) (r : VRs C ι H xs vs) (hp : Post C W (VR C) ι σ H (.ok (.tup xs) S) Q) : ∀ p, H p = none → Q (.ref p) (upd H p (.tup vs)) := by
  intro p hn
  have e := Ext.upd (o := .tup vs) hs hn
  refine hp ι _ _ e (hs.upd hn) ?_
  simp only [VR]
  exact ⟨p, vs, rfl, .inl ⟨hs.fresh hn, .inl upd_same⟩, VRs.mono e _ _ r⟩
def fAdd (mu : Bool) (x y : MV) (S : Sto) : Res MV := match x, y with
  | .int i, .int j => .ok (.int (i + j)) S
  | .str a, .str b => if a.length + b.length ≤ sizeLine then .ok (.str (a ++ b)) S else .bad
  | .tup xs, .tup ys => if xs.length + ys.length ≤ sizeLine then .ok (.tup (xs ++ ys)) S else .bad
  | x, y => match asH S x, asH S y with
    | some xs, some ys => if xs.length + ys.length ≤ sizeLine then mkL mu (xs ++ ys) S else .bad
    | _, _ => .bad
def rAddM (K : PySem.W.Frag) : R2 := fun x y H Q => (∃ i j, x = .int i ∧ y = .int j ∧ Q (.int (i + j)) H) ∨ (∃ i j, x = .str i ∧ y = .str j ∧ i.length + j.length ≤ sizeLine ∧ Q (.str (i ++ j)) H) ∨ rCatA K x y H Q ∨ rCat x y H Q
section
variable {X : Cx} {C : Ct}
theorem op_addM : OpR X (binaryOp .Add) (rAddM X.K) := op_add.or (op_add_str.or (op_catA.or op_cat))
theorem opm_add (mu : Bool) : OpM C (fAdd mu) (rAddM C.K) := by
  intro W ι σ S H x y v u Q hs h1 h2 hp
  unfold fAdd at hp
  split at hp
  · simp only [VR] at h1 h2
    exact .inl ⟨_, _, h1, h2, hp ι H _ .refl hs (by simp only [VR])⟩
  · simp only [VR] at h1 h2
    split at hp
    · rename_i hl
      exact .inr (.inl ⟨_, _, h1, h2, by simpa [Str.length] using hl, hp ι H _ .refl hs (VR_str (by rw [tl_append]))⟩)
    · exact hp.elim
  · split at hp
    · rename_i xs ys hl
      simp only [VR] at h1 h2
      obtain ⟨a, vs, rfl, f1, r1⟩ := h1
      obtain ⟨b, ws, rfl, f2, r2⟩ := h2
      have l1 := r1.len
      have l2 := r2.len
      refine .inr (.inr (.inl ⟨a, b, vs, ws, rfl, rfl, f1.sq, f2.sq, by rw [l1, l2]; exact hl, fun e => ?_, fun e e2 => ?_, fun e e2 => ?_⟩))
      · have : xs = [] := List.length_eq_zero_iff.mp (by rw [← l1, e]; rfl)
        subst this
        exact hp ι H _ .refl hs (by simp only [VR, List.nil_append]; exact ⟨b, ws, rfl, f2, r2⟩)
      · have : ys = [] := List.length_eq_zero_iff.mp (by rw [← l2, e2]; rfl)
        subst this
        exact hp ι H _ .refl hs (by simp only [VR, List.append_nil]; exact ⟨a, vs, rfl, f1, r1⟩)
      · exact mkT_ok hs (r1.append r2) hp
    · exact hp.elim
  · split at hp
    · rename_i xs ys e1 e2
      split at hp
      · rename_i hl
        obtain ⟨a, vs, rfl, f1, r1⟩ := asH_ok hs h1 e1
        obtain ⟨b, ws, rfl, f2, r2⟩ := asH_ok hs h2 e2
        exact .inr (.inr (.inr ⟨a, b, vs, ws, rfl, rfl, f1, f2, by rw [r1.len, r2.len]; exact hl, mkL_ok hs (r1.append r2) hp⟩))
      · exact hp.elim
    · exact hp.elim
def fSub (x y : MV) (S : Sto) : Res MV := match x, y with
  | .int i, .int j => .ok (.int (i - j)) S
  | _, _ => .bad
theorem opm_int {g : Int → Int → MV} {g' : Int → Int → V} {cond : Int → Int → Prop} {f : MV → MV → Sto → Res MV} (hg : ∀ ι H i j, VR C ι H (g i j) (g' i j))
    (hf : ∀ x y S, f x y S = .bad ∨ ∃ i j, x = .int i ∧ y = .int j ∧ cond i j ∧ f x y S = .ok (g i j) S) : OpM C f (rI cond g') := by
  intro W ι σ S H x y v u Q hs h1 h2 hp
  rcases hf x y S with e | ⟨i, j, rfl, rfl, c, e⟩
  · rw [e] at hp; exact hp.elim
  · rw [e] at hp
    simp only [VR] at h1 h2
    exact ⟨i, j, h1, h2, c, hp ι H _ .refl hs (hg _ _ _ _)⟩
theorem opm_int0 {g : Int → Int → MV} {g' : Int → Int → V} {f : MV → MV → Sto → Res MV} (hg : ∀ ι H i j, VR C ι H (g i j) (g' i j))
    (hf : ∀ x y S, f x y S = .bad ∨ ∃ i j, x = .int i ∧ y = .int j ∧ f x y S = .ok (g i j) S) : OpM C f (rI0 g') := by
  intro W ι σ S H x y v u Q hs h1 h2 hp
  rcases hf x y S with e | ⟨i, j, rfl, rfl, e⟩
  · rw [e] at hp; exact hp.elim
  · rw [e] at hp
    simp only [VR] at h1 h2
    exact ⟨i, j, h1, h2, hp ι H _ .refl hs (hg _ _ _ _)⟩
theorem opm_sub : OpM C fSub (rI0 fun i j => .int (i - j)) := opm_int0 (g := fun i j => .int (i - j)) (fun _ _ _ _ => by simp only [VR]) fun x y S => by
  unfold fSub; split
  · exact .inr ⟨_, _, rfl, rfl, rfl⟩
  · exact .inl rfl
def fMod (x y : MV) (S : Sto) : Res MV := match x, y with
  | .int i, .int j => if 0 < j then .ok (.int (i % j)) S else .bad
  | _, _ => .bad
theorem opm_mod : OpM C fMod (rI (fun _ j => 0 < j) fun i j => .int (i % j)) := opm_int (g := fun i j => .int (i % j)) (fun _ _ _ _ => by simp only [VR]) fun x y S => by
  unfold fMod; split
  · split
    · rename_i h; exact .inr ⟨_, _, rfl, rfl, h, rfl⟩
    · exact .inl rfl
  · exact .inl rfl
def fDiv (x y : MV) (S : Sto) : Res MV := match x, y with
  | .int i, .int j => if 0 < j ∧ j.natAbs.log2 < 9000 then .ok (.int (i / j)) S else .bad
  | _, _ => .bad
theorem opm_div : OpM C fDiv (rI CDivW fun i j => .int (i / j)) := opm_int (g := fun i j => .int (i / j)) (fun _ _ _ _ => by simp only [VR]) fun x y S => by
  unfold fDiv; split
  · split
    · rename_i h; exact .inr ⟨_, _, rfl, rfl, h, rfl⟩
    · exact .inl rfl
  · exact .inl rfl
def CPowW (i j : Int) : Prop := 0 ≤ j ∧ (Builtin.Int.intBits i : Int) * j ≤ 2 ^ 27
theorem op_powW : OpR X (binaryOp .Pow) (rI CPowW fun i j => .int (i ^ j.toNat)) := opI fun _ _ _ _ _ _ _ hc q => PyProof.Rows.pow_int hc.1 hc.2 q
/-- powers with a small written exponent -/
def fPow (x y : MV) (S : Sto) : Res MV := match x, y with
  | .int i, .int j => if 0 ≤ j ∧ (Builtin.Int.intBits i : Int) * j ≤ 2 ^ 27 then .ok (.int (i ^ j.toNat)) S else .bad
  | _, _ => .bad
theorem opm_pow : OpM C fPow (rI CPowW fun i j => .int (i ^ j.toNat)) := opm_int (g := fun i j => .int (i ^ j.toNat)) (fun _ _ _ _ => by simp only [VR]) fun x y S => by
  unfold fPow; split
  · split
    · rename_i h; exact .inr ⟨_, _, rfl, rfl, h, rfl⟩
    · exact .inl rfl
  · exact .inl rfl
def rMulS : R2 := fun x y H Q => ∃ (z : Str) (k : Int), x = .str z ∧ y = .int k ∧ k < 2 ^ 20 ∧ -(2 ^ 20) < k ∧ z.length * k.toNat ≤ sizeLine ∧ Q (.str (st (List.replicate k.toNat (tl z)).flatten)) H
theorem fold_cps (l : Array Nat) : ∀ (k : Nat) (acc : Array Nat), ((List.replicate k l).foldl (· ++ ·) acc).toList = acc.toList ++ (List.replicate k l.toList).flatten
  | 0, acc => by simp
  | k + 1, acc => by
    rw [List.replicate_succ, List.foldl_cons, fold_cps l k, List.replicate_succ, List.flatten_cons, Array.toList_append, List.append_assoc]
theorem op_mulS : OpR X (binaryOp .Mult) rMulS := by
  intro pins s σ H x y v u Q I rx ry h
  obtain ⟨z, k, rfl, rfl, h1, h2, hz, q⟩ := h
  obtain ⟨t, rfl⟩ := rx
  obtain ⟨t', rfl⟩ := ry
  refine PySem.P.mul_str ?_ ?_ ?_ ?_
  · rw [decide_eq_false (by omega), decide_eq_false (by omega)]; rfl
  · intro a1 _
    have hk : (1 : Int) ≤ k := by omega
    have h4 : (z.length : Int) * k ≤ 2 ^ 63 - 1 := by
      have h5 : ((z.length * k.toNat : Nat) : Int) ≤ (sizeLine : Nat) := by exact_mod_cast hz
      have h6 : ((sizeLine : Nat) : Int) ≤ 2 ^ 63 - 1 := by rw [sizeLine_eq]; decide
      rw [Int.natCast_mul, Int.toNat_of_nonneg (by omega)] at h5
      omega
    have h7 := Int.le_ediv_of_mul_le (by omega : (0 : Int) < k) h4
    omega
  · intro a1 _
    exact decide_eq_false (by omega)
  · split
    · rename_i hk
      have e : k.toNat = 0 := by omega
      refine ⟨by decide, .str _, H, I.tok _, ⟨_, rfl⟩, ?_⟩
      rw [e] at q
      exact q
    · split
      · rename_i hk h3
        refine ⟨.str z, H, I, ⟨_, rfl⟩, ?_⟩
        rw [Bool.or_eq_true] at h3
        have e : st (List.replicate k.toNat (tl z)).flatten = z := by
          rcases h3 with h3 | h3
          · have : k = 1 := by simpa using h3
            subst this
            exact ext_tl (by simp)
          · have h0 : tl z = [] := by
              have : z.length = 0 := by simpa using h3
              rw [len_tl] at this
              exact List.length_eq_zero_iff.mp this
            refine ext_tl ?_
            rw [h0]
            show (List.replicate k.toNat ([] : List Nat)).flatten = []
            simp
        rw [e] at q
        exact q
      · rename_i hk h3
        have e : (⟨(List.replicate k.toNat z.cps).foldl (· ++ ·) #[]⟩ : Str) = st (List.replicate k.toNat (tl z)).flatten := ext_tl (by
          show ((List.replicate k.toNat z.cps).foldl (· ++ ·) #[]).toList = _
          rw [fold_cps]
          simp)
        rw [e]
        refine ⟨?_, .str _, H, I.tok _, ⟨_, rfl⟩, q⟩
        rw [st_len]
        have : (List.replicate k.toNat (tl z)).flatten.length = k.toNat * (tl z).length := by simp
        rw [this, ← len_tl, Nat.mul_comm]
        exact hz
end
end Mi
namespace Mi
open PySem L2 TL
def fMul (mu : Bool) (x y : MV) (S : Sto) : Res MV := match x, y with
  | .int i, .int j => if i.natAbs.log2 + j.natAbs.log2 < 1000000 then .ok (.int (i * j)) S else .bad
  | .str a, .int k => if k < 2 ^ 20 ∧ -(2 ^ 20) < k ∧ a.length * k.toNat ≤ sizeLine then .ok (.str (List.replicate k.toNat a).flatten) S else .bad
  | x, .int k => match asH S x with
    | some xs => if k < 2 ^ 20 ∧ -(2 ^ 20) < k ∧ xs.length * k.toNat ≤ sizeLine then mkL mu (List.replicate k.toNat xs).flatten S else .bad
    | none => .bad
  | _, _ => .bad
def rMulM : R2 := fun x y H Q => rI CMulW (fun i j => .int (i * j)) x y H Q ∨ rMulS x y H Q ∨ rRep x y H Q
theorem VRs.rep {C : Ct} {ι : Io} {H : Hp} {xs : List MV} {vs : List V} (h : VRs C ι H xs vs) : ∀ k : Nat, VRs C ι H (List.replicate k xs).flatten (List.replicate k vs).flatten
  | 0 => by simp only [List.replicate_zero, List.flatten_nil, VRs]
  | k + 1 => by
    rw [List.replicate_succ, List.replicate_succ, List.flatten_cons, List.flatten_cons]
    exact h.append (VRs.rep h k)
section
variable {X : Cx} {C : Ct}
theorem op_mulM : OpR X (binaryOp .Mult) rMulM := op_mulW.or (op_mulS.or op_rep)
theorem opm_mul (mu : Bool) : OpM C (fMul mu) rMulM := by
  intro W ι σ S H x y v u Q hs h1 h2 hp
  unfold fMul at hp
  split at hp
  · simp only [VR] at h1 h2
    split at hp
    · rename_i hl
      exact .inl ⟨_, _, h1, h2, hl, hp ι H _ .refl hs (by simp only [VR])⟩
    · exact hp.elim
  · simp only [VR] at h1 h2
    split at hp
    · rename_i hl
      exact .inr (.inl ⟨_, _, h1, h2, hl.1, hl.2.1, by rw [st_len]; exact hl.2.2, hp ι H _ .refl hs (by simp only [VR])⟩)
    · exact hp.elim
  · split at hp
    · rename_i xs e
      simp only [VR] at h2
      subst h2
      obtain ⟨a, vs, rfl, f1, r1⟩ := asH_ok hs h1 e
      split at hp
      · rename_i hl
        exact .inr (.inr ⟨a, _, vs, rfl, rfl, f1, by omega, by omega, by rw [r1.len]; exact hl.2.2, mkL_ok hs (r1.rep _) hp⟩)
      · exact hp.elim
    · exact hp.elim
  · exact hp.elim
def fLt (x y : MV) (S : Sto) : Res MV := match x, y with
  | .int i, .int j => .ok (.bl (decide (i < j))) S
  | .str a, .str b => .ok (.bl (decide (a < b))) S
  | _, _ => .bad
def fLe (x y : MV) (S : Sto) : Res MV := match x, y with
  | .int i, .int j => .ok (.bl (decide (i ≤ j))) S
  | .str a, .str b => .ok (.bl (!decide (b < a))) S
  | _, _ => .bad
def fGt (x y : MV) (S : Sto) : Res MV := match x, y with
  | .int i, .int j => .ok (.bl (decide (j < i))) S
  | .str a, .str b => .ok (.bl (decide (b < a))) S
  | _, _ => .bad
def fGe (x y : MV) (S : Sto) : Res MV := match x, y with
  | .int i, .int j => .ok (.bl (decide (j ≤ i))) S
  | .str a, .str b => .ok (.bl (!decide (a < b))) S
  | _, _ => .bad
def rOrd (p : Int → Int → Bool) (q : List Nat → List Nat → Bool) : R2 := fun x y H Q => (∃ i j, x = .int i ∧ y = .int j ∧ Q (.bl (p i j)) H) ∨ ∃ i j, x = .str i ∧ y = .str j ∧ Q (.bl (q i.cps.toList j.cps.toList)) H
theorem op_leM : OpR X (compareOp .LtE) (rOrd (fun i j => decide (i ≤ j)) fun a b => !decide (b < a)) := op_le.or op_le_str
theorem op_gtM : OpR X (compareOp .Gt) (rOrd (fun i j => decide (j < i)) fun a b => decide (b < a)) := op_gt.or op_gt_str
theorem opm_ord {p : Int → Int → Bool} {q : List Nat → List Nat → Bool} {f : MV → MV → Sto → Res MV}
    (hf : ∀ x y S, f x y S = .bad ∨ (∃ i j, x = .int i ∧ y = .int j ∧ f x y S = .ok (.bl (p i j)) S) ∨ ∃ i j, x = .str i ∧ y = .str j ∧ f x y S = .ok (.bl (q i j)) S) : OpM C f (rOrd p q) := by
  intro W ι σ S H x y v u Q hs h1 h2 hp
  rcases hf x y S with e | ⟨i, j, rfl, rfl, e⟩ | ⟨i, j, rfl, rfl, e⟩
  · rw [e] at hp; exact hp.elim
  · rw [e] at hp
    simp only [VR] at h1 h2
    exact .inl ⟨i, j, h1, h2, hp ι H _ .refl hs (by simp only [VR])⟩
  · rw [e] at hp
    simp only [VR] at h1 h2
    exact .inr ⟨_, _, h1, h2, hp ι H _ .refl hs (by simp only [VR])⟩
theorem opm_le : OpM C fLe (rOrd (fun i j => decide (i ≤ j)) fun a b => !decide (b < a)) := opm_ord fun x y S => by
  unfold fLe; split
  · exact .inr (.inl ⟨_, _, rfl, rfl, rfl⟩)
  · exact .inr (.inr ⟨_, _, rfl, rfl, rfl⟩)
  · exact .inl rfl
theorem opm_gt : OpM C fGt (rOrd (fun i j => decide (j < i)) fun a b => decide (b < a)) := opm_ord fun x y S => by
  unfold fGt; split
  · exact .inr (.inl ⟨_, _, rfl, rfl, rfl⟩)
  · exact .inr (.inr ⟨_, _, rfl, rfl, rfl⟩)
  · exact .inl rfl
/-- a < b < c -/
def mChain (f g : MV → MV → Sto → Res MV) (a b c : ME) : ME := fun env S => (a env S).bind fun x S1 => (b env S1).bind fun y S2 => (f x y S2).bind fun z S3 => match z with
  | .bl true => (c env S3).bind fun w S4 => g y w S4
  | .bl false => .ok (.bl false) S3
  | _ => .bad
/-- an operation that leaves the store as it is, and its operands' names alone -/
theorem chain_core {W : WX} {f g : MV → MV → Sto → Res MV} {r r' : R2} (hf : OpM C f r) (hg : OpM C g r') {a b c : ME} {σ : L2.St} {H : Hp} {Q : VK} (h : tM C W (mChain f g a b c) σ H Q) :
    tM C W a σ H fun x H1 => tM C W b σ H1 fun y H2 => r x y H2 fun z H3 => ∃ k, z = .bl k ∧ (if k = true then tM C W c σ H3 fun w H4 => r' y w H4 Q else Q (.bl false) H3) := by
  obtain ⟨ι, env, S, he, hs, hp⟩ := h
  refine ⟨ι, env, S, he, hs, Post.bind hp fun x S1 ι1 H1 v e1 s1 q1 p1 => ?_⟩
  refine ⟨ι1, env, S1, he.mono e1, s1, Post.bind p1 fun y S2 ι2 H2 u e2 s2 q2 p2 => ?_⟩
  refine hf W ι2 σ S2 H2 x y v u _ s2 (q1.mono e2) q2 (Post.bind p2 fun z S3 ι3 H3 t e3 s3 q3 p3 => ?_)
  split at p3
  · simp only [VR] at q3
    refine ⟨true, q3, ?_⟩
    rw [if_pos rfl]
    refine ⟨ι3, env, S3, ((he.mono e1).mono e2).mono e3, s3, Post.bind p3 fun w S4 ι4 H4 t4 e4 s4 q4 p4 => ?_⟩
    exact hg W ι4 σ S4 H4 y w u t4 Q s4 ((q2.mono e3).mono e4) q4 p4
  · simp only [VR] at q3
    refine ⟨false, q3, ?_⟩
    rw [if_neg Bool.false_ne_true]
    exact p3 ι3 H3 _ .refl s3 (by simp only [VR])
  · exact p3.elim
end
end Mi
namespace Mi
open PySem PySem.Spec PyProof.Rows L2 TL
section
variable {X : Cx} {C : Ct} {W : WX} {pos : Pos} {k : Nat}
theorem Bx.u64 (B : Bx C W k X) : X.A.units + 64 < cLine := B.room.units
theorem Bx.u1 (B : Bx C W k X) : X.A.units + 1 < cLine := hu_of B.room
theorem je_chain {op op' : CmpOp} {f g : MV → MV → Sto → Res MV} {r r' : R2} {ea eb ec : Expr} {a b c : ME} (ho : OpR X (compareOp op) r) (hf : OpM C f r) (ho' : OpR X (compareOp op') r') (hg : OpM C g r') (ha : PE X ea (tM C W a)) (hb : PE X eb (tM C W b)) (hc : PE X ec (tM C W c))
    (hm : lastMarks [op, op'] [eb, ec] = false := by with_unfolding_all rfl) : PE X (.Compare ea [op, op'] [eb, ec] pos) (tM C W (mChain f g a b c)) :=
  peImp (pe_chain ho ho' ha hb hc hm) fun σ H Q h => chain_core hf hg h
theorem jt_chain {op op' : CmpOp} {f g : MV → MV → Sto → Res MV} {r r' : R2} {ea eb ec : Expr} {a b c : ME} (ho : OpR X (compareOp op) r) (hf : OpM C f r) (ho' : OpR X (compareOp op') r') (hg : OpM C g r') (ha : PE X ea (tM C W a)) (hb : PE X eb (tM C W b)) (hc : PE X ec (tM C W c))
    (hm : lastMarks [op, op'] [eb, ec] = false := by with_unfolding_all rfl) : PT X (.Compare ea [op, op'] [eb, ec] pos) (tMB C W (asB (mChain f g a b c))) :=
  ptImp (pt_chain ho ho' ha hb hc hm) fun σ H Q h => by
    have q := tMB_of h
    exact chain_core hf hg q
def isN : MV → Bool
  | .non => true
  | _ => false
def mIsN (m : ME) : ME := fun env S => (m env S).bind fun x S1 => .ok (.bl (isN x)) S1
def mNotN (m : ME) : ME := fun env S => (m env S).bind fun x S1 => .ok (.bl (!isN x)) S1
theorem isN_ok {ι : Io} {H : Hp} {x : MV} {v : V} (r : VR C ι H x v) : decide (v = .non) = isN x := by
  cases x with
  | non => simp only [VR] at r; subst r; rfl
  | bl b => simp only [VR] at r; subst r; rfl
  | int b => simp only [VR] at r; subst r; rfl
  | str b => simp only [VR] at r; subst r; rfl
  | ty b => simp only [VR] at r; subst r; rfl
  | tup b => simp only [VR] at r; obtain ⟨a, _, rfl, _⟩ := r; rfl
  | lst b => simp only [VR] at r; obtain ⟨a, _, rfl, _⟩ := r; rfl
  | rol b => simp only [VR] at r; obtain ⟨a, _, rfl, _⟩ := r; rfl
  | dic b => simp only [VR] at r; obtain ⟨a, _, rfl, _⟩ := r; rfl
  | ins c b => simp only [VR] at r; obtain ⟨a, _, _, rfl, _⟩ := r; rfl
  | ref b => simp only [VR] at r; obtain ⟨a, rfl, _⟩ := r; rfl
  | fn b => simp only [VR] at r; obtain ⟨a, _, rfl⟩ := r; rfl
  | clo b c => simp only [VR] at r; obtain ⟨f, _, _, _, rfl, _⟩ := r; rfl
theorem isN_imp {m : ME} {σ : L2.St} {H : Hp} {Q : VK} (h : tM C W (mIsN m) σ H Q) : tIsN (tM C W m) σ H Q := by
  obtain ⟨ι, env, S, he, hs, hp⟩ := h
  refine ⟨ι, env, S, he, hs, Post.bind hp fun x S1 ι1 H1 v e1 s1 q1 p1 => ?_⟩
  rw [isN_ok q1]
  exact p1 ι1 H1 _ .refl s1 (by simp only [VR])
theorem jt_isN {e : Expr} {m : ME} {j pos'} (h : PE X e (tM C W m)) : PT X (.Compare e [.Is] [.Constant .none j pos'] pos) (tMB C W (asB (mIsN m))) := ptImp (pt_cmp (pc_isN h) rfl) fun _ _ _ h => isN_imp (tMB_of h)
def keyB : MV → MV → Bool
  | .int i, .int j => i == j
  | .str a, .str b => a == b
  | _, _ => false
def isKey : MV → Bool
  | .int _ => true
  | .str _ => true
  | _ => false
def kLook : List (MV × MV) → MV → Option MV
  | [], _ => none
  | (k, x) :: r, y => if keyB k y then some x else kLook r y
def asD (S : Sto) : MV → Option (List (MV × MV))
  | .dic kvs => some kvs
  | .ref l => match S[l]? with
    | some (.dic kvs) => some kvs
    | _ => none
  | _ => none
def keyOf : MV → Key
  | .int i => .inl i
  | .str s => .inr (st s)
  | _ => .inl 0
theorem keyOf_ok {ι : Io} {H : Hp} {x : MV} {v : V} (r : VR C ι H x v) (k : isKey x = true) : v = kV (keyOf x) := by
  cases x <;> first | (simp only [VR] at r; subst r; rfl) | cases k
theorem keyR_eq {x : MV} {k : Key} (h : KeyR x k) : isKey x = true ∧ k = keyOf x := by
  cases x <;> first | exact ⟨rfl, h⟩ | exact h.elim
theorem st_inj {a b : List Nat} (h : st a = st b) : a = b := by
  have := congrArg tl h
  simpa using this
theorem keyB_ok {x y : MV} (hx : isKey x = true) (hy : isKey y = true) : keyB x y = decide (keyOf x = keyOf y) := by
  cases x with
  | int i => cases y with
    | int j => simp only [keyB, keyOf, Sum.inl.injEq]; by_cases h : i = j <;> simp [h]
    | str b => simp [keyB, keyOf]
    | _ => cases hy
  | str a => cases y with
    | int j => simp [keyB, keyOf]
    | str b =>
      simp only [keyB, keyOf, Sum.inr.injEq]
      by_cases h : a = b
      · simp [h]
      · have : ¬ st a = st b := fun z => h (st_inj z)
        simp [h]
    | _ => cases hy
  | _ => cases hx
theorem KRs.look {ι : Io} {H : Hp} {y : MV} (hy : isKey y = true) : ∀ {kvs : List (MV × MV)} {kx : List (Key × V)}, KRs C ι H kvs kx → (kLook kvs y = none → valV kx (keyOf y) = none) ∧ ∀ x, kLook kvs y = some x → ∃ v, valV kx (keyOf y) = some v ∧ VR C ι H x v
  | [], kx, h => by simp only [KRs] at h; subst h; exact ⟨fun _ => rfl, fun x h => by cases h⟩
  | (k, z) :: r, kx, h => by
    simp only [KRs] at h
    obtain ⟨⟨key, v⟩, w, rfl, h1, h2⟩ := h
    simp only [KR] at h1
    obtain ⟨h1, h3⟩ := h1
    obtain ⟨hk, rfl⟩ := keyR_eq h1
    obtain ⟨i1, i2⟩ := KRs.look hy h2
    have e := keyB_ok hk hy
    by_cases hb : keyOf k = keyOf y
    · rw [decide_eq_true hb] at e
      simp only [kLook, e, if_true]
      exact ⟨fun z => (by cases z), fun x hx => by cases hx; exact ⟨v, valV_pos hb, h3⟩⟩
    · rw [decide_eq_false hb] at e
      simp only [kLook, e, Bool.false_eq_true, if_false]
      rw [valV_neg (p := (keyOf k, v)) hb]
      exact ⟨i1, i2⟩
theorem asD_ok {ι : Io} {S : Sto} {H : Hp} {x : MV} {v : V} {kvs : List (MV × MV)} (s : StR C ι S H) (r : VR C ι H x v) (h : asD S x = some kvs) : ∃ a kx, v = .ref a ∧ Rd H a (.dK kx) ∧ KRs C ι H kvs kx := by
  cases x with
  | dic ys =>
    simp only [asD, Option.some.injEq] at h; subst h
    simp only [VR] at r
    obtain ⟨a, kx, rfl, h0, h1, h2⟩ := r
    exact ⟨a, kx, rfl, h1, h2⟩
  | ref l =>
    simp only [asD] at h
    split at h
    · rename_i ys e
      simp only [Option.some.injEq] at h; subst h
      simp only [VR] at r
      obtain ⟨a, rfl, hl⟩ := r
      obtain ⟨kx, h1, h2⟩ := s.ob l _ a e hl
      exact ⟨a, kx, rfl, .inl h1, h2⟩
    · cases h
  | _ => cases h
def rInD' : R2 := fun x y H Q => ∃ a o, y = .ref a ∧ DGet H a x o ∧ Q (.bl o.isSome) H
def rNotInD' : R2 := fun x y H Q => ∃ a o, y = .ref a ∧ DGet H a x o ∧ Q (.bl (!o.isSome)) H
theorem op_inD' (hu : X.A.units + 1 < cLine) : OpR X (compareOp .In) rInD' := by
  intro pins s σ H x y v u Q I rx ry h
  obtain ⟨a, o, rfl, g, q⟩ := h
  cases ry
  exact d_in hu I g rx fun s3 I3 => ⟨.bl o.isSome, H, I3, rfl, q⟩
theorem op_notInD' (hu : X.A.units + 1 < cLine) : OpR X (compareOp .NotIn) rNotInD' := by
  intro pins s σ H x y v u Q I rx ry h
  obtain ⟨a, o, rfl, g, q⟩ := h
  cases ry
  exact d_notIn hu I g rx fun s3 I3 => ⟨.bl (!o.isSome), H, I3, rfl, q⟩
def rInS' : R2 := fun x y H Q => ∃ (c : Nat) (z : Str), x = .str ⟨#[c]⟩ ∧ y = .str z ∧ Q (.bl (decide (c ∈ z.cps.toList))) H
def rNotInS' : R2 := fun x y H Q => ∃ (c : Nat) (z : Str), x = .str ⟨#[c]⟩ ∧ y = .str z ∧ Q (.bl (!decide (c ∈ z.cps.toList))) H
def rInM (K : PySem.W.Frag) : R2 := fun x y H Q => rInS' x y H Q ∨ rIn K false x y H Q ∨ rInD' x y H Q
def rNotInM (K : PySem.W.Frag) : R2 := fun x y H Q => rNotInS' x y H Q ∨ rIn K true x y H Q ∨ rNotInD' x y H Q
theorem op_inM (hu : X.A.units + 1 < cLine) : OpR X (compareOp .In) (rInM X.K) := OpR.or op_in_sign (OpR.or op_in_seq (op_inD' hu))
theorem op_notInM (hu : X.A.units + 1 < cLine) : OpR X (compareOp .NotIn) (rNotInM X.K) := OpR.or op_notIn_sign (OpR.or op_notIn_seq (op_notInD' hu))
/-- a list or a tuple -/
def asSq (S : Sto) (x : MV) : Option (List MV) := match asU x with
  | some xs => some xs
  | none => asL S x
theorem asSq_ok {ι : Io} {S : Sto} {H : Hp} {x : MV} {v : V} {xs : List MV} (s : StR C ι S H) (r : VR C ι H x v) (h : asSq S x = some xs) : ∃ a vs, v = .ref a ∧ (SqL C.K H a vs ∨ SqT C.K H a vs) ∧ VRs C ι H xs vs := by
  unfold asSq at h
  split at h
  · rename_i ys e
    simp only [Option.some.injEq] at h; subst h
    obtain ⟨a, vs, rfl, h1, h2⟩ := asU_ok r e
    exact ⟨a, vs, rfl, .inr h1.sq, h2⟩
  · obtain ⟨a, vs, rfl, h1, h2⟩ := asL_ok s r h
    exact ⟨a, vs, rfl, .inl h1, h2⟩
theorem VRs.flats {ι : Io} {H : Hp} : ∀ {xs : List MV} {vs : List V}, VRs C ι H xs vs → xs.all flat = true → vs.all L2.flatV = true
  | [], _, h, _ => by simp only [VRs] at h; subst h; rfl
  | x :: r, _, h, f => by
    simp only [VRs] at h
    obtain ⟨v, w, rfl, h1, h2⟩ := h
    rw [List.all_cons, Bool.and_eq_true] at f
    rw [List.all_cons, h1.flatV f.1, VRs.flats h2 f.2]
    rfl
theorem VRs.inV {ι : Io} {H : Hp} {y : MV} {u : V} (hy : VR C ι H y u) (fy : flat y = true) : ∀ {xs : List MV} {vs : List V}, VRs C ι H xs vs → xs.all flat = true → L2.inV u vs = xs.any fun x => eqF x y
  | [], _, h, _ => by simp only [VRs] at h; subst h; rfl
  | x :: r, _, h, f => by
    simp only [VRs] at h
    obtain ⟨v, w, rfl, h1, h2⟩ := h
    rw [List.all_cons, Bool.and_eq_true] at f
    have ih := VRs.inV hy fy h2 f.2
    unfold L2.inV at ih ⊢
    rw [List.any_cons, List.any_cons, ih, eqF_V h1 hy f.1 fy]
/-- whether x is in y -/
def isIn (S : Sto) (x y : MV) : Option Bool := match x, y with
  | .str [c], .str z => some (decide (c ∈ z))
  | x, y => match asSq S y with
    | some xs => if flat x && xs.all flat then some (xs.any fun z => eqF z x) else none
    | none => match asD S y with
      | some kvs => if isKey x then some (kLook kvs x).isSome else none
      | none => none
def fIn (x y : MV) (S : Sto) : Res MV := match isIn S x y with
  | some b => .ok (.bl b) S
  | none => .bad
def fNotIn (x y : MV) (S : Sto) : Res MV := match isIn S x y with
  | some b => .ok (.bl (!b)) S
  | none => .bad
theorem isIn_ok {ι : Io} {S : Sto} {H : Hp} {x y : MV} {v u : V} {b : Bool} (hs : StR C ι S H) (h1 : VR C ι H x v) (h2 : VR C ι H y u) (h : isIn S x y = some b) :
    (∃ (c : Nat) (z : Str), v = .str ⟨#[c]⟩ ∧ u = .str z ∧ decide (c ∈ z.cps.toList) = b) ∨ (∃ p xs, u = .ref p ∧ (SqL C.K H p xs ∨ SqT C.K H p xs) ∧ L2.flatV v = true ∧ xs.all L2.flatV = true ∧ L2.inV v xs = b) ∨ ∃ a o, u = .ref a ∧ DGet H a v o ∧ o.isSome = b := by
  unfold isIn at h
  split at h
  · simp only [VR] at h1 h2
    simp only [Option.some.injEq] at h
    exact .inl ⟨_, _, h1, h2, h⟩
  · split at h
    · rename_i xs e
      split at h
      · rename_i hf
        rw [Bool.and_eq_true] at hf
        simp only [Option.some.injEq] at h
        obtain ⟨a, vs, rfl, g1, g2⟩ := asSq_ok hs h2 e
        exact .inr (.inl ⟨a, vs, rfl, g1, h1.flatV hf.1, g2.flats hf.2, by rw [g2.inV h1 hf.1 hf.2]; exact h⟩)
      · cases h
    · split at h
      · rename_i kvs e
        split at h
        · rename_i hk
          simp only [Option.some.injEq] at h
          obtain ⟨a, kx, rfl, g1, g2⟩ := asD_ok hs h2 e
          refine .inr (.inr ⟨a, valV kx (keyOf x), rfl, .inl ⟨kx, _, g1, keyOf_ok h1 hk, rfl⟩, ?_⟩)
          obtain ⟨l1, l2⟩ := g2.look hk
          cases hl : kLook kvs x with
          | none => rw [l1 hl, ← h, hl]; rfl
          | some z =>
            obtain ⟨w, ew, _⟩ := l2 z hl
            rw [ew, ← h, hl]; rfl
        · cases h
      · cases h
theorem opm_in : OpM C fIn (rInM C.K) := by
  intro W ι σ S H x y v u Q hs h1 h2 hp
  unfold fIn at hp
  split at hp
  · rename_i b e
    have q := hp ι H (.bl b) .refl hs (by simp only [VR])
    rcases isIn_ok hs h1 h2 e with ⟨c, z, rfl, rfl, e⟩ | ⟨p, xs, rfl, g1, g2, g3, e⟩ | ⟨a, o, rfl, g, e⟩
    · exact .inl ⟨c, z, rfl, rfl, by rw [e]; exact q⟩
    · exact .inr (.inl ⟨p, xs, rfl, g1, g2, g3, by rw [if_neg Bool.false_ne_true, e]; exact q⟩)
    · exact .inr (.inr ⟨a, o, rfl, g, by rw [e]; exact q⟩)
  · exact hp.elim
theorem opm_notIn : OpM C fNotIn (rNotInM C.K) := by
  intro W ι σ S H x y v u Q hs h1 h2 hp
  unfold fNotIn at hp
  split at hp
  · rename_i b e
    have q := hp ι H (.bl (!b)) .refl hs (by simp only [VR])
    rcases isIn_ok hs h1 h2 e with ⟨c, z, rfl, rfl, e⟩ | ⟨p, xs, rfl, g1, g2, g3, e⟩ | ⟨a, o, rfl, g, e⟩
    · exact .inl ⟨c, z, rfl, rfl, by rw [e]; exact q⟩
    · exact .inr (.inl ⟨p, xs, rfl, g1, g2, g3, by rw [if_pos rfl, e]; exact q⟩)
    · exact .inr (.inr ⟨a, o, rfl, g, by rw [e]; exact q⟩)
  · exact hp.elim
def rIxD : R2 := fun x y H Q => ∃ a v, x = .ref a ∧ DGet H a y (some v) ∧ Q v H
theorem ix_dict (hu : X.A.units + 1 < cLine) : IxR X rIxD := by
  intro value slice pins s σ H x y v u Q I rx ry h hs
  obtain ⟨a, z, rfl, g, q⟩ := h
  cases rx
  have hT := dict_typeIs I g
  unfold subscriptTail
  refine wpAny_bind ?_
  rw [getitemInPython_of_ne hT.not_modules]
  refine wpAny_bind (wpAny_specialOf hT PySem.F.slot_dict_getitem.lookup ?_)
  have fin : wpAny (model X.prog X.w) X.A (subscripted slice false (.ref a) u) (fun r s₃ => wpAny (model X.prog X.w) X.A (letTemporaryGo value (.ref a) r >>= fun _ => pure r) (EP X pins σ Q) X.xe s₃) X.xe s := by
    rw [hs]
    exact wpAny_operating (d_getItem hu I g ry fun w' s3 I3 rw' => wpAny_bind (wpAny_letTemporaryGo (wpAny_pure ⟨z, H, I3, rw', q⟩)))
  first
    | exact wpAny_pure (wpAny_bind fin)
    | exact wpAny_bind (wpAny_pure (wpAny_bind fin))
    | exact wpAny_bind fin
def rIxM (K : PySem.W.Frag) : R2 := fun x y H Q => rIx K x y H Q ∨ rIxD x y H Q
theorem ix_M (hu : X.A.units + 1 < cLine) : IxR X (rIxM X.K) := IxR.or ix_seq (ix_dict hu)
def fIx (x y : MV) (S : Sto) : Res MV := match x, y with
  | .str z, .int i => if z.length ≤ sizeLine then (match atI z i with
    | some c => .ok (.str [c]) S
    | none => .bad) else .bad
  | x, y => match asSq S x with
    | some xs => (match y with
      | .int i => (match atI xs i with
        | some v => .ok v S
        | none => .bad)
      | _ => .bad)
    | none => match asD S x with
      | some kvs => if isKey y then (match kLook kvs y with
        | some v => .ok v S
        | none => .bad) else .bad
      | none => .bad
theorem VRs.atI {ι : Io} {H : Hp} {xs : List MV} {vs : List V} {i : Int} {x : MV} (r : VRs C ι H xs vs) (h : L2.atI xs i = some x) : ∃ v, L2.atI vs i = some v ∧ VR C ι H x v := by
  unfold L2.atI at h ⊢
  rw [r.len]
  cases e : ixN xs.length i with
  | none => rw [e] at h; cases h
  | some j =>
    rw [e] at h
    exact r.at h
theorem opm_ix : OpM C fIx (rIxM C.K) := by
  intro W ι σ S H x y v u Q hs h1 h2 hp
  unfold fIx at hp
  split at hp
  · split at hp
    · rename_i hl
      split at hp
      · rename_i z i _ c e
        simp only [VR] at h1 h2
        exact .inl (.inr (.inr ⟨_, _, c, h1, h2, by rw [st_len]; exact hl, e, hp ι H _ .refl hs (by simp only [VR])⟩))
      · exact hp.elim
    · exact hp.elim
  · split at hp
    · rename_i xs e
      obtain ⟨a, vs, rfl, g1, g2⟩ := asSq_ok hs h1 e
      split at hp
      · split at hp
        · rename_i i _ z e2
          simp only [VR] at h2
          obtain ⟨w, e3, r3⟩ := g2.atI e2
          have q := hp ι H w .refl hs r3
          rcases g1 with g1 | g1
          · exact .inl (.inl ⟨a, vs, _, w, rfl, h2, g1, e3, q⟩)
          · exact .inl (.inr (.inl ⟨a, vs, _, w, rfl, h2, g1, e3, q⟩))
        · exact hp.elim
      · exact hp.elim
    · split at hp
      · rename_i kvs e
        split at hp
        · rename_i hk
          split at hp
          · rename_i z e2
            obtain ⟨a, kx, rfl, g1, g2⟩ := asD_ok hs h1 e
            obtain ⟨w, e3, r3⟩ := (g2.look hk).2 z e2
            exact .inr ⟨a, w, rfl, .inl ⟨kx, _, g1, keyOf_ok h2 hk, e3.symm⟩, hp ι H w .refl hs r3⟩
          · exact hp.elim
        · exact hp.elim
      · exact hp.elim
theorem je_ix {ea eb : Expr} {a b : ME} (B : Bx C W k X) (ha : PE X ea (tM C W a)) (hb : PE X eb (tM C W b)) (hs : PlainIx eb := by exact fun _ _ => rfl) : PE X (.Subscript ea eb pos) (tM C W (mBin fIx a b)) :=
  peImp (pe_ix (ix_M B.u1) ha hb hs) fun _ _ _ h => by rw [B.hK]; exact tM_bin opm_ix h
def cutL {α : Type} (xs : List α) (lo hi : Option Int) : List α := (xs.drop (HT.sIx xs.length 0 lo)).take (HT.sIx xs.length xs.length hi - HT.sIx xs.length 0 lo)
abbrev MO' := Env → Sto → Res (Option Int)
def tMO (C : Ct) (W : WX) (m : MO') : TO := fun σ H Q => ∃ ι env S, EnvR C ι H env σ ∧ StR C ι S H ∧ Post C W (fun _ _ x v => v = x) ι σ H (m env S) Q
theorem poImp {e : Option Expr} {t t' : TO} (h : PO X e t) (i : ∀ σ H Q, t' σ H Q → t σ H Q) : PO X e t' := ⟨fun pins s σ H Q I q => h.run pins s σ H Q I (i σ H Q q)⟩
def mNoPart : MO' := fun _ S => .ok none S
def mPart (m : ME) : MO' := fun env S => (m env S).bind fun x S1 => match x with
  | .int i => .ok (some i) S1
  | _ => .bad
theorem jo_none : PO X none (tMO C W mNoPart) := poImp po_none fun σ H Q h => by
  obtain ⟨ι, env, S, he, hs, hp⟩ := h
  exact hp ι H _ .refl hs rfl
theorem jo_some {e : Expr} {m : ME} (h : PE X e (tM C W m)) : PO X (some e) (tMO C W (mPart m)) := poImp (po_some h) fun σ H Q h => by
  obtain ⟨ι, env, S, he, hs, hp⟩ := h
  refine ⟨ι, env, S, he, hs, Post.bind hp fun x S1 ι1 H1 v e1 s1 q1 p1 => ?_⟩
  split at p1
  · simp only [VR] at q1
    exact ⟨_, q1, p1 ι1 H1 _ .refl s1 rfl⟩
  · exact p1.elim
def fSl (mu : Bool) (x : MV) (lo hi : Option Int) (S : Sto) : Res MV := match x with
  | .str z => if z.length ≤ sizeLine then .ok (.str (cutL z lo hi)) S else .bad
  | .tup xs => .ok (.tup (cutL xs lo hi)) S
  | x => match asL S x with
    | some xs => mkL mu (cutL xs lo hi) S
    | none => .bad
def mSl (mu : Bool) (a : ME) (lo hi : MO') : ME := fun env S => (a env S).bind fun x S1 => (lo env S1).bind fun l S2 => (hi env S2).bind fun h S3 => fSl mu x l h S3
def rSlM (K : PySem.W.Frag) : V → Option Int → Option Int → Hp → VK → Prop := fun x lo hi H Q => rSlL K x lo hi H Q ∨ rSlA K x lo hi H Q ∨ rSlS x lo hi H Q
theorem sl_M : SlR X (rSlM X.K) := SlR.or sl_list (SlR.or sl_tupA sl_str)
theorem VRs.cut {ι : Io} {H : Hp} {xs : List MV} {vs : List V} (lo hi : Option Int) (r : VRs C ι H xs vs) : VRs C ι H (cutL xs lo hi) (cutV vs lo hi) := by
  unfold cutL cutV
  rw [r.len]
  exact (r.drop _).take _
theorem fSl_ok {mu : Bool} {ι : Io} {σ : L2.St} {S : Sto} {H : Hp} {x : MV} {v : V} {lo hi : Option Int} {Q : VK} (hs : StR C ι S H) (h1 : VR C ι H x v) (hp : Post C W (VR C) ι σ H (fSl mu x lo hi S) Q) : rSlM C.K v lo hi H Q := by
  unfold fSl at hp
  split at hp
  · split at hp
    · rename_i z hl
      simp only [VR] at h1
      refine .inr (.inr ⟨_, h1, by rw [st_len]; exact hl, hp ι H _ .refl hs ?_⟩)
      refine VR_str ?_
      unfold cutS cutL
      simp [Str.length]
    · exact hp.elim
  · rename_i xs
    simp only [VR] at h1
    obtain ⟨a, vs, rfl, f1, r1⟩ := h1
    refine .inr (.inl ⟨a, vs, rfl, f1.sq, fun e => ?_, fun e => mkT_ok hs (r1.cut lo hi) hp⟩)
    refine hp ι H _ .refl hs ?_
    have e2 : cutL xs lo hi = xs := by
      unfold cutL
      rw [← r1.len, e.1, e.2, List.drop_zero, Nat.sub_zero, r1.len, List.take_length]
    rw [e2]
    simp only [VR]
    exact ⟨a, vs, rfl, f1, r1⟩
  · split at hp
    · rename_i xs e
      obtain ⟨a, vs, rfl, g1, g2⟩ := asL_ok hs h1 e
      exact .inl ⟨a, vs, rfl, g1, mkL_ok hs (g2.cut lo hi) hp⟩
    · exact hp.elim
theorem je_sl (mu : Bool) {e : Expr} {lo hi : Option Expr} {p2 : Pos} {a : ME} {l h : MO'} (hK : X.K = C.K) (ha : PE X e (tM C W a)) (hl : PO X lo (tMO C W l)) (hh : PO X hi (tMO C W h)) : PE X (.Subscript e (.Slice lo hi none p2) pos) (tM C W (mSl mu a l h)) :=
  peImp (pe_slice sl_M ha hl hh) fun σ H Q h => by
    obtain ⟨ι, env, S, he, hs, hp⟩ := h
    refine ⟨ι, env, S, he, hs, Post.bind hp fun x S1 ι1 H1 v e1 s1 q1 p1 => ?_⟩
    refine ⟨ι1, env, S1, he.mono e1, s1, Post.bind p1 fun y S2 ι2 H2 u e2 s2 q2 p2 => ?_⟩
    refine ⟨ι2, env, S2, (he.mono e1).mono e2, s2, Post.bind p2 fun z S3 ι3 H3 t e3 s3 q3 p3 => ?_⟩
    subst q2; subst q3
    rw [hK]
    exact fSl_ok s3 ((q1.mono e2).mono e3) p3
def mTup (as : MA) : ME := fun env S => (as env S).bind fun xs S1 => if xs.length ≤ sizeLine then .ok (.tup xs) S1 else .bad
def mLst (mu : Bool) (as : MA) : ME := fun env S => (as env S).bind fun xs S1 => if xs.length ≤ sizeLine then mkL mu xs S1 else .bad
theorem je_tup {es : List Expr} {x1} {as : MA} (h : PA X es (tMA C W as)) : PE X (.Tuple es x1 pos) (tM C W (mTup as)) := peImp (pe_tup h) fun σ H Q h => by
  obtain ⟨ι, env, S, he, hs, hp⟩ := h
  refine ⟨ι, env, S, he, hs, Post.bind hp fun xs S1 ι1 H1 vs e1 s1 q1 p1 => ?_⟩
  split at p1
  · rename_i hl
    exact ⟨by rw [q1.len]; exact hl, mkT_ok s1 q1 p1⟩
  · exact p1.elim
theorem je_lst (mu : Bool) {es : List Expr} {as : MA} (h : PA X es (tMA C W as)) : PE X (.List es pos) (tM C W (mLst mu as)) := peImp (pe_lst h) fun σ H Q h => by
  obtain ⟨ι, env, S, he, hs, hp⟩ := h
  refine ⟨ι, env, S, he, hs, Post.bind hp fun xs S1 ι1 H1 vs e1 s1 q1 p1 => ?_⟩
  split at p1
  · rename_i hl
    exact ⟨by rw [q1.len]; exact hl, mkL_ok s1 q1 p1⟩
  · exact p1.elim
end
end Mi
namespace Mi
open PySem PySem.Spec PyProof.Rows L2 TL
theorem piImp {X : Cx} {tg e : Expr} {t t' : TI} (h : PI X tg e t) (i : ∀ σ H R, t' σ H R → t σ H R) : PI X tg e t' := ⟨fun pins s σ H R I q => h.run pins s σ H R I (i σ H R q)⟩
theorem piOr {X : Cx} {tg e : Expr} {t t' : TI} (h : PI X tg e t) (h' : PI X tg e t') : PI X tg e (fun σ H R => t σ H R ∨ t' σ H R) := ⟨fun pins s σ H R I q => q.elim (h.run pins s σ H R I) (h'.run pins s σ H R I)⟩
/-- which place an iteration leans on -/
def depsOf : MV → List MV → List (Nat × List MV)
  | .ref l, xs => [(l, xs)]
  | _, _ => []
theorem asL_chk {S S' : Sto} {x : MV} {xs : List MV} {its : List MV} (h : asL S x = some xs) (c : (Itv.mk its (depsOf x xs)).chk S') : asL S' x = some xs := by
  cases x with
  | ref l =>
    have := c (l, xs) (by simp [depsOf])
    simp only at this
    simp only [asL, this]
  | _ => exact h
section
variable {X : Cx} {C : Ct} {W : WX} {pos : Pos} {k : Nat} {tg : Expr}
def itL (S : Sto) (x : MV) : Option Itv := match asU x with
  | some xs => some ⟨xs, []⟩
  | none => (asL S x).map fun xs => ⟨xs, depsOf x xs⟩
/-- a list or a tuple -/
def mItS (m : ME) : Env → Sto → Res Itv := fun env S => (m env S).bind fun x S1 => match itL S1 x with
  | some t => .ok t S1
  | none => .bad
theorem walkL {ι : Io} {S : Sto} {H : Hp} {x : MV} {a : Addr} {xs : List MV} (hs : StR C ι S H) (r : VR C ι H x (.ref a)) (h : asL S x = some xs) : WalkOk C ι H ⟨xs, depsOf x xs⟩ (Itl C.K a) := by
  refine ⟨fun H' => ∃ vs, vs.length = xs.length ∧ SqL C.K H' a vs, fun i H' y H2 => H2 = H' ∧ ∀ vs, SqL C.K H' a vs → vs[i]? = some y, ⟨?_, ?_, ?_⟩, ?_, ?_⟩
  · rintro i H' hi ⟨vs, hl, q⟩
    have hi : i < xs.length := hi
    exact ⟨vs, vs[i]'(by omega), q, by simp [show i < vs.length by omega]⟩
  · rintro H' ⟨vs, hl, q⟩
    exact ⟨vs, q, by rw [hl]; exact Nat.le_refl _⟩
  · rintro i H' y H2 hi ⟨vs, hl, q⟩ z
    exact ⟨z.1, z.2⟩
  · intro ι' S' H' e s' c
    obtain ⟨a', vs, ea, q, rr⟩ := asL_ok s' (r.mono e) (asL_chk h c)
    cases ea
    exact ⟨vs, rr.len, q⟩
  · rintro i ι' S' H1 y H2 e s' c hi ⟨rfl, hy⟩
    obtain ⟨a', vs, ea, q, rr⟩ := asL_ok s' (r.mono e) (asL_chk h c)
    cases ea
    obtain ⟨mv, em, rm⟩ := rr.at' (hy vs q)
    exact ⟨mv, em, .refl, s', rm⟩
theorem walkT {ι : Io} {S : Sto} {H : Hp} {x : MV} {a : Addr} {xs : List MV} (r : VR C ι H x (.ref a)) (h : asU x = some xs) : WalkOk C ι H ⟨xs, []⟩ (Itt C.K a) := by
  refine ⟨fun H' => ∃ vs, vs.length = xs.length ∧ SqT C.K H' a vs, fun i H' y H2 => H2 = H' ∧ ∀ vs, SqT C.K H' a vs → vs[i]? = some y, ⟨?_, ?_, ?_⟩, ?_, ?_⟩
  · rintro i H' hi ⟨vs, hl, q⟩
    have hi : i < xs.length := hi
    exact ⟨vs, vs[i]'(by omega), q, by simp [show i < vs.length by omega]⟩
  · rintro H' ⟨vs, hl, q⟩
    exact ⟨vs, q, by rw [hl]; exact Nat.le_refl _⟩
  · rintro i H' y H2 hi ⟨vs, hl, q⟩ z
    exact ⟨z.1, z.2⟩
  · intro ι' S' H' e s' c
    obtain ⟨a', vs, ea, q, rr⟩ := asU_ok (r.mono e) h
    cases ea
    exact ⟨vs, rr.len, q.sq⟩
  · rintro i ι' S' H1 y H2 e s' c hi ⟨rfl, hy⟩
    obtain ⟨a', vs, ea, q, rr⟩ := asU_ok (r.mono e) h
    cases ea
    obtain ⟨mv, em, rm⟩ := rr.at' (hy vs q.sq)
    exact ⟨mv, em, .refl, s', rm⟩
theorem ji_seq {e : Expr} {m : ME} (hK : X.K = C.K) (h : PE X e (tM C W m)) : PI X tg e (tMI C W (mItS m)) :=
  piImp (piOr (pi_list h) (pi_tup h)) fun σ H R h => by
    obtain ⟨ι, env, S, he, hs, hp⟩ := h
    unfold mItS at hp
    cases em : m env S with
    | bad => rw [em] at hp; exact hp.elim
    | ex x S1 => refine .inl ⟨ι, env, S, he, hs, ?_⟩; rw [em] at hp ⊢; exact hp
    | ok x S1 =>
      rw [em] at hp
      simp only [bind_ok] at hp
      unfold itL at hp
      cases eu : asU x with
      | some xs =>
        rw [eu] at hp
        refine .inr ⟨ι, env, S, he, hs, ?_⟩
        rw [em]
        intro ι1 H1 v e1 s1 q1
        obtain ⟨a, vs, rfl, g1, g2⟩ := asU_ok q1 eu
        refine ⟨a, rfl, ⟨vs, by rw [hK]; exact g1.sq⟩, ?_⟩
        rw [hK]
        exact hp ι1 H1 _ e1 s1 (walkT (S := S1) q1 eu)
      | none =>
        rw [eu] at hp
        simp only at hp
        cases el : asL S1 x with
        | none => rw [el] at hp; exact hp.elim
        | some xs =>
          rw [el] at hp
          refine .inl ⟨ι, env, S, he, hs, ?_⟩
          rw [em]
          intro ι1 H1 v e1 s1 q1
          obtain ⟨a, vs, rfl, g1, g2⟩ := asL_ok s1 q1 el
          refine ⟨a, rfl, ⟨vs, by rw [hK]; exact g1⟩, ?_⟩
          rw [hK]
          exact hp ι1 H1 _ e1 s1 (walkL s1 q1 el)
/-- range -/
def rngL (lo : Int) (n : Nat) : List MV := (List.range n).map fun (i : Nat) => MV.int (lo + (i : Int))
def mItR1 (as : MA) : Env → Sto → Res Itv := fun env S => (as env S).bind fun xs S1 => match xs with
  | [.int j] => if -(2 ^ 62) ≤ j ∧ j < 2 ^ 62 then .ok ⟨rngL 0 j.toNat, []⟩ S1 else .bad
  | _ => .bad
def mItR2 (as : MA) : Env → Sto → Res Itv := fun env S => (as env S).bind fun xs S1 => match xs with
  | [.int i, .int j] => if -(2 ^ 62) ≤ i ∧ i < 2 ^ 62 ∧ -(2 ^ 62) ≤ j ∧ j < 2 ^ 62 then .ok ⟨rngL i (j - i).toNat, []⟩ S1 else .bad
  | _ => .bad
theorem walkR {ι : Io} {H : Hp} (lo : Int) (n : Nat) : WalkOk C ι H ⟨rngL lo n, []⟩ (Itr lo n) := by
  have hl : (rngL lo n).length = n := by simp [rngL]
  refine ⟨fun _ => True, YFn fun i => .int (lo + (i : Int)), ?_, fun _ _ _ _ _ _ => trivial, ?_⟩
  · show Walk _ (rngL lo n).length _ _
    rw [hl]
    exact walk_range
  · rintro i ι' S' H1 y H2 e s' c hi ⟨rfl, rfl⟩
    have hi : i < (rngL lo n).length := hi
    rw [hl] at hi
    exact ⟨.int (lo + (i : Int)), by simp [rngL, hi], .refl, s', by simp only [VR]⟩
theorem ji_range1 {e : Expr} {as : MA} {p : Pos} (hg : Gl X "range" := by rfl) (hm : X.mg "range" = none) (ha : PA X [e] (tMA C W as)) (hs : starEach [e] X.env = [(false, eval e X.env)] := by rfl) : PI X tg (.Call (.Name "range" p) [e] [] pos) (tMI C W (mItR1 as)) :=
  piImp (pi_range1 hg hm ha hs) fun σ H R h => by
    obtain ⟨ι, env, S, he, hs, hp⟩ := h
    refine ⟨ι, env, S, he, hs, Post.bind hp fun xs S1 ι1 H1 vs e1 s1 q1 p1 => ?_⟩
    split at p1
    · rename_i j
      split at p1
      · rename_i hb
        simp only [VRs, VR] at q1
        obtain ⟨v, w, rfl, rfl, rfl⟩ := q1
        exact ⟨j, rfl, hb.1, hb.2, p1 ι1 H1 _ .refl s1 (walkR 0 j.toNat)⟩
      · exact p1.elim
    · exact p1.elim
/-- a text, sign by sign -/
def mItT (m : ME) : Env → Sto → Res Itv := fun env S => (m env S).bind fun x S1 => match x with
  | .str z => .ok ⟨z.map fun c => .str [c], []⟩ S1
  | _ => .bad
theorem ji_str {e : Expr} {m : ME} (h : PE X e (tM C W m)) : PI X tg e (tMI C W (mItT m)) :=
  piImp (pi_str h) fun σ H R h => by
    obtain ⟨ι, env, S, he, hs, hp⟩ := h
    refine ⟨ι, env, S, he, hs, Post.bind hp fun x S1 ι1 H1 v e1 s1 q1 p1 => ?_⟩
    split at p1
    · rename_i z
      simp only [VR] at q1
      refine ⟨_, q1, p1 ι1 H1 _ .refl s1 ⟨fun _ => True, fun i H v H' => H' = H ∧ ∃ c, (st z).cps[i]? = some c ∧ v = .str ⟨#[c]⟩, ?_, fun _ _ _ _ _ _ => trivial, ?_⟩⟩
      · show Walk _ (z.map fun c => (MV.str [c])).length _ _
        rw [List.length_map]
        exact walk_str (z := st z)
      · rintro i ι' S' H1 y H2 e s' c hi ⟨rfl, cc, hc, rfl⟩
        have : z[i]? = some cc := by simpa using hc
        exact ⟨.str [cc], by simp [this], .refl, s', by simp only [VR]⟩
    · exact p1.elim
/-- enumerate of a list -/
def enuL (xs : List MV) : List MV := (List.range xs.length).map fun (i : Nat) => MV.tup [.int (i : Int), xs.getD i .non]
def mItE (as : MA) : Env → Sto → Res Itv := fun env S => (as env S).bind fun xs S1 => match xs with
  | [x] => (match asL S1 x with
    | some ys => .ok ⟨enuL ys, depsOf x ys⟩ S1
    | none => .bad)
  | _ => .bad
theorem pairNew {ι : Io} {S : Sto} {H : Hp} {T : Addr} {x y : MV} {v u : V} (s : StR C ι S H) (h : H T = none) (r1 : VR C ι H x v) (r2 : VR C ι H y u) : Ext ι H ι (upd H T (.tup [v, u])) ∧ StR C ι S (upd H T (.tup [v, u])) ∧ VR C ι (upd H T (.tup [v, u])) (.tup [x, y]) (.ref T) := by
  have e := Ext.upd (o := .tup [v, u]) s h
  refine ⟨e, s.upd h, ?_⟩
  simp only [VR]
  refine ⟨T, [v, u], rfl, .inl ⟨s.fresh h, .inl upd_same⟩, ?_⟩
  simp only [VRs]
  exact ⟨v, [u], rfl, r1.mono e, u, [], rfl, r2.mono e, rfl⟩
theorem ji_enum {e : Expr} {as : MA} {p tpos : Pos} {elts : List Expr} {kk : Nat} (hK : X.K = C.K) (hg : Gl X "enumerate" := by rfl) (hm : X.mg "enumerate" = none) (ha : PA X [e] (tMA C W as)) (hs : starEach [e] X.env = [(false, eval e X.env)] := by rfl) : PI X (.Tuple elts kk tpos) (.Call (.Name "enumerate" p) [e] [] pos) (tMI C W (mItE as)) :=
  piImp (pi_enum hg hm ha hs) fun σ H R h => by
    obtain ⟨ι, env, S, he, hs, hp⟩ := h
    refine ⟨ι, env, S, he, hs, Post.bind hp fun xs S1 ι1 H1 vs e1 s1 q1 p1 => ?_⟩
    split at p1
    · rename_i x
      split at p1
      · rename_i ys el
        simp only [VRs] at q1
        obtain ⟨v, w, rfl, q1, rfl⟩ := q1
        obtain ⟨a, zs, rfl, g1, g2⟩ := asL_ok s1 q1 el
        refine ⟨a, zs, rfl, by rw [hK]; exact g1, ?_⟩
        rw [hK]
        have hl : (enuL ys).length = ys.length := by simp [enuL]
        refine p1 ι1 H1 _ .refl s1 ⟨fun H' => ∃ vs, vs.length = ys.length ∧ SqL C.K H' a vs, fun i H v H' => ∃ T x, v = .ref T ∧ H T = none ∧ H' = upd H T (.tup [.int (i : Nat), x]) ∧ ∀ vs, SqL C.K H a vs → vs[i]? = some x, ⟨?_, ?_, ?_⟩, ?_, ?_⟩
        · rintro i H' hi ⟨vs, hl2, q⟩
          have hi : i < (enuL ys).length := hi
          exact ⟨vs, vs[i]'(by omega), q, by simp [show i < vs.length by omega]⟩
        · rintro H' ⟨vs, hl2, q⟩
          exact ⟨vs, q, by show vs.length ≤ (enuL ys).length; omega⟩
        · rintro i H' y H2 hi ⟨vs, hl2, q⟩ z
          exact z
        · intro ι' S' H' e s' c
          obtain ⟨a', vs, ea, q, rr⟩ := asL_ok s' (q1.mono e) (asL_chk el c)
          cases ea
          exact ⟨vs, rr.len, q⟩
        · rintro i ι' S' H1 y H2 e s' c hi ⟨T, u, rfl, hT, rfl, hu⟩
          have hi : i < (enuL ys).length := hi
          rw [hl] at hi
          obtain ⟨a', vs, ea, q, rr⟩ := asL_ok s' (q1.mono e) (asL_chk el c)
          cases ea
          obtain ⟨mv, em, rm⟩ := rr.at' (hu vs q)
          obtain ⟨x1, x2, x3⟩ := pairNew s' hT (x := .int (i : Int)) (v := .int (i : Int)) (by simp only [VR]) rm
          refine ⟨.tup [.int (i : Int), mv], ?_, x1, x2, x3⟩
          show (enuL ys)[i]? = _
          unfold enuL
          rw [List.getElem?_map, List.getElem?_range hi, Option.map_some, List.getD_eq_getElem?_getD, em]
          rfl
      · exact p1.elim
    · exact p1.elim
/-- zip of two lists -/
def zipL (xs ys : List MV) : List MV := (List.range (min xs.length ys.length)).map fun (i : Nat) => MV.tup [xs.getD i .non, ys.getD i .non]
def mItZ (as : MA) : Env → Sto → Res Itv := fun env S => (as env S).bind fun xs S1 => match xs with
  | [x, y] => (match asL S1 x, asL S1 y with
    | some a, some b => .ok ⟨zipL a b, depsOf x a ++ depsOf y b⟩ S1
    | _, _ => .bad)
  | _ => .bad
theorem chk_app {its its2 : List MV} {d1 d2 : List (Nat × List MV)} {S : Sto} (c : (Itv.mk its (d1 ++ d2)).chk S) : (Itv.mk its2 d1).chk S ∧ (Itv.mk its2 d2).chk S :=
  ⟨fun p hp => c p (List.mem_append_left _ hp), fun p hp => c p (List.mem_append_right _ hp)⟩
theorem ji_zip {e e2 : Expr} {as : MA} {p tpos : Pos} {elts : List Expr} {kk : Nat} (hK : X.K = C.K) (hg : Gl X "zip" := by rfl) (hm : X.mg "zip" = none) (ha : PA X [e, e2] (tMA C W as)) (hs : starEach [e, e2] X.env = (false, eval e X.env) :: starEach [e2] X.env := by rfl) (hs2 : (backTo pos (starEach [e2] X.env)).any (·.1) = false := by rfl) : PI X (.Tuple elts kk tpos) (.Call (.Name "zip" p) [e, e2] [] pos) (tMI C W (mItZ as)) :=
  piImp (pi_zip hg hm ha hs hs2) fun σ H R h => by
    obtain ⟨ι, env, S, he, hs, hp⟩ := h
    refine ⟨ι, env, S, he, hs, Post.bind hp fun xs S1 ι1 H1 vs e1 s1 q1 p1 => ?_⟩
    split at p1
    · rename_i x y
      split at p1
      · rename_i xs ys ex ey
        simp only [VRs] at q1
        obtain ⟨v, w, rfl, q1, v2, w2, rfl, q2, rfl⟩ := q1
        obtain ⟨a, zs, rfl, g1, g2⟩ := asL_ok s1 q1 ex
        obtain ⟨b, zt, rfl, g3, g4⟩ := asL_ok s1 q2 ey
        refine ⟨a, b, zs, zt, rfl, by rw [hK]; exact g1, by rw [hK]; exact g3, ?_⟩
        rw [hK]
        have hl : (zipL xs ys).length = min xs.length ys.length := by simp [zipL]
        refine p1 ι1 H1 _ .refl s1 ⟨fun H' => ∃ vs ws, vs.length = xs.length ∧ ws.length = ys.length ∧ SqL C.K H' a vs ∧ SqL C.K H' b ws, fun i H v H' => ∃ T x y, v = .ref T ∧ H T = none ∧ H' = upd H T (.tup [x, y]) ∧ (∀ vs, SqL C.K H a vs → vs[i]? = some x) ∧ ∀ vs, SqL C.K H b vs → vs[i]? = some y, ⟨?_, ?_, ?_⟩, ?_, ?_⟩
        · rintro i H' hi ⟨vs, ws, l1, l2, q, q'⟩
          have hi : i < (zipL xs ys).length := hi
          exact ⟨vs, ws, vs[i]'(by omega), ws[i]'(by omega), q, q', by simp [show i < vs.length by omega], by simp [show i < ws.length by omega]⟩
        · rintro H' ⟨vs, ws, l1, l2, q, q'⟩
          exact ⟨vs, ws, q, q', by show vs.length ≤ (zipL xs ys).length ∨ ws.length ≤ (zipL xs ys).length; omega⟩
        · rintro i H' y H2 hi ⟨vs, ws, l1, l2, q, q'⟩ z
          exact z
        · intro ι' S' H' e s' c
          obtain ⟨a', vs, ea, q, rr⟩ := asL_ok s' (q1.mono e) (asL_chk ex (chk_app c).1 (its := []))
          obtain ⟨b', ws, eb, q', rr'⟩ := asL_ok s' (q2.mono e) (asL_chk ey (chk_app c).2 (its := []))
          cases ea
          cases eb
          exact ⟨vs, ws, rr.len, rr'.len, q, q'⟩
        · rintro i ι' S' H1 y' H2 e s' c hi ⟨T, u, u2, rfl, hT, rfl, hu, hu2⟩
          have hi : i < (zipL xs ys).length := hi
          rw [hl] at hi
          obtain ⟨a', vs, ea, q, rr⟩ := asL_ok s' (q1.mono e) (asL_chk ex (chk_app c).1 (its := []))
          obtain ⟨b', ws, eb, q', rr'⟩ := asL_ok s' (q2.mono e) (asL_chk ey (chk_app c).2 (its := []))
          cases ea
          cases eb
          obtain ⟨mv, em, rm⟩ := rr.at' (hu vs q)
          obtain ⟨mw, em2, rm2⟩ := rr'.at' (hu2 ws q')
          obtain ⟨x1, x2, x3⟩ := pairNew s' hT rm rm2
          refine ⟨.tup [mv, mw], ?_, x1, x2, x3⟩
          show (zipL xs ys)[i]? = _
          unfold zipL
          rw [List.getElem?_map, List.getElem?_range hi, Option.map_some, List.getD_eq_getElem?_getD, em, List.getD_eq_getElem?_getD, em2]
          rfl
      · exact p1.elim
    · exact p1.elim
end
end Mi
namespace Mi
open PySem PySem.Spec PyProof.Rows L2 TL
def noX {α : Type} : Res α → Res α
  | .ok a S => .ok a S
  | _ => .bad
abbrev W0 : WX := fun _ _ _ _ => False
def wipeE (env : Env) : List Nat → Env
  | [] => env
  | v :: vs => (wipeE env vs).set v none
open Classical in
/-- the turns of a comprehension whose new list is the place l -/
noncomputable def compL (t : Itv) (g : MG) (c : MB) (e : ME) (l : Nat) : List MV → Env → Sto → Res Unit
  | [], env, S => if t.chk S then .ok () S else .bad
  | v :: vs, env, S => if t.chk S then (match g v env with
    | none => .bad
    | some e1 => match c e1 S with
      | .ok true S1 => (match e e1 S1 with
        | .ok y S2 => (match S2[l]? with
          | some (.lst acc) => if acc.length < sizeLine then compL t g c e l vs env (S2.set l (.lst (acc ++ [y]))) else .bad
          | _ => .bad)
        | _ => .bad)
      | .ok false S1 => compL t g c e l vs env S1
      | _ => .bad) else .bad
noncomputable def compE (mu : Bool) (S S2 : Sto) : Res MV := if mu then .ok (.ref S.length) S2 else leaveV S S2 (.ref S.length)
noncomputable def mComp (mu : Bool) (mi : Env → Sto → Res Itv) (vs : List Nat) (g : MG) (c : MB) (e : ME) : ME := fun env S => (mi env S).bind fun t S1 => (compL t g c e S1.length t.items (wipeE env vs) (S1 ++ [.lst []])).bind fun _ S2 => compE mu S1 S2
def mYes : MB := fun _ S => .ok true S
section
variable {X : Cx} {C : Ct} {W : WX} {pos : Pos} {k : Nat} {tg : Expr}
theorem wipeE_len (env : Env) : ∀ vs, (wipeE env vs).length = env.length
  | [] => rfl
  | v :: vs => by unfold wipeE; rw [List.length_set, wipeE_len env vs]
theorem wipeE_at {env : Env} {i : Nat} : ∀ {vs : List Nat}, (i ∉ vs → (wipeE env vs)[i]? = env[i]?) ∧ (∀ x, (wipeE env vs)[i]? = some (some x) → i ∉ vs)
  | [] => ⟨fun _ => rfl, fun _ _ => by simp⟩
  | v :: vs => by
    obtain ⟨h1, h2⟩ := wipeE_at (env := env) (i := i) (vs := vs)
    unfold wipeE
    refine ⟨fun hi => ?_, fun x hx => ?_⟩
    · simp only [List.mem_cons, not_or] at hi
      rw [List.getElem?_set_ne (fun e => hi.1 e.symm)]
      exact h1 hi.2
    · by_cases hv : v = i
      · subst hv
        by_cases hl : v < (wipeE env vs).length
        · rw [List.getElem?_set_self hl] at hx; cases hx
        · rw [List.getElem?_eq_none (by simpa using hl)] at hx; cases hx
      · rw [List.getElem?_set_ne hv] at hx
        simp only [List.mem_cons, not_or]
        exact ⟨fun e => hv e.symm, h2 x hx⟩
theorem wipe_at {σ : L2.St} {i : Nat} : ∀ {vs : List Nat}, i ∉ vs → (wipe σ vs)[i]? = σ[i]?
  | [], _ => rfl
  | v :: vs, hi => by
    simp only [List.mem_cons, not_or] at hi
    unfold wipe
    rw [List.getElem?_set_ne (fun e => hi.1 e.symm)]
    exact wipe_at hi.2
theorem wipe_in {σ : L2.St} {i : Nat} : ∀ {vs : List Nat}, i ∈ vs → i < σ.length → (wipe σ vs)[i]? = some none
  | v :: vs, hi, hl => by
    unfold wipe
    by_cases hv : v = i
    · subst hv
      rw [List.getElem?_set_self (by rw [wipe_length]; exact hl)]
    · rw [List.getElem?_set_ne hv]
      refine wipe_in ?_ hl
      rcases List.mem_cons.mp hi with e | e
      · exact absurd e.symm hv
      · exact e
theorem EnvR.wipe {ι : Io} {H : Hp} {env : Env} {σ : L2.St} (h : EnvR C ι H env σ) (vs : List Nat) : EnvR C ι H (wipeE env vs) (L2.wipe σ vs) := by
  refine ⟨by rw [wipeE_len, wipe_length]; exact h.1, fun i x q => ?_⟩
  have hi := (wipeE_at (env := env) (i := i) (vs := vs)).2 x q
  rw [(wipeE_at (env := env) (i := i) (vs := vs)).1 hi] at q
  rw [wipe_at hi]
  exact h.2 i x q
theorem wipe_but {σ σ' : L2.St} {ws vs : List Nat} (h : ButS ws (L2.wipe σ vs) σ') (hs : ∀ i ∈ ws, i ∈ vs) : L2.wipe σ' vs = L2.wipe σ vs := by
  have hl : σ'.length = σ.length := by rw [h.1, wipe_length]
  apply List.ext_getElem?
  intro i
  by_cases hi : i ∈ vs
  · by_cases hlt : i < σ.length
    · rw [wipe_in hi hlt, wipe_in hi (by rw [hl]; exact hlt)]
    · rw [List.getElem?_eq_none (by rw [wipe_length]; omega), List.getElem?_eq_none (by rw [wipe_length]; omega)]
  · rw [wipe_at hi, wipe_at hi]
    have := h.2 i fun z => hi (hs i z)
    rw [this, wipe_at hi]
theorem comp_core {mu : Bool} {t : Itv} {J : It} {g : MG} {ws : List Nat} {c : MB} {e : ME} {vs : List Nat} {ι : Io} {σ : L2.St} {H : Hp} {env : Env} {S : Sto} {Q : VK} (hw : ∀ i ∈ ws, i ∈ vs) (he : EnvR C ι H env σ) (hs : StR C ι S H) (w : WalkOk C ι H t J)
    (hp : Post C W (VR C) ι σ H ((compL t g c e S.length t.items (wipeE env vs) (S ++ [.lst []])).bind fun _ S2 => compE mu S S2) Q) :
    ∀ D, H D = none → ∃ W' : Nat → Nat → Hp → Prop, (∃ m, W' 0 m (upd H D (.lst []))) ∧ ∀ i m H, W' i m H →
      (J.stop i H ∧ Q (.ref D) H) ∨ (J.go i H ∧ ∃ Nx : Hp → Prop, (∀ H', Nx H' → ∃ m', m' < m ∧ W' (i + 1) m' H') ∧ ∀ x H', J.yld i H x H' → tMG C ws g x (L2.wipe σ vs) H' fun σ2 H2 => L2.wipe σ2 vs = L2.wipe σ vs ∧ tMB C W0 c σ2 H2 fun b H3 =>
        if b = true then tM C W0 e σ2 H3 fun y H4 => ∃ acc, H4 D = some (.lst acc) ∧ acc.length < sizeLine ∧ Nx (upd H4 D (.lst (acc ++ [y]))) else Nx H3) := by
  intro D hD
  obtain ⟨G, Y, wk, hG, hY⟩ := w
  have atD : (ι ++ [D])[S.length]? = some D := by rw [← hs.len]; simp
  refine lc_it wk (fun i H' => ∃ ι' S', Ext ι H ι' H' ∧ StR C ι' S' H' ∧ ι'[S.length]? = some D ∧
      Post C W (VR C) ι σ H ((compL t g c e S.length (t.items.drop i) (wipeE env vs) S').bind fun _ S2 => compE mu S S2) Q) ?_ ?_ ?_ ?_
  · exact ⟨ι ++ [D], S ++ [.lst []], Ext.push hs hD, hs.push (m := .lst []) hD ⟨[], upd_same, by simp only [VRs]⟩, atD, by rw [List.drop_zero]; exact hp⟩
  · rintro i H' hi ⟨ι', S', e1, s1, _, hp'⟩
    have hc : t.chk S' := by
      cases hd : t.items.drop i with
      | nil => rw [hd] at hp'; unfold compL at hp'; split at hp'; assumption; exact hp'.elim
      | cons v vs => rw [hd] at hp'; unfold compL at hp'; split at hp'; assumption; exact hp'.elim
    exact hG ι' S' H' e1 s1 hc
  · rintro i x H' H2 hi ⟨ι', S', e1, s1, hDl, hp'⟩ y
    rw [List.drop_eq_getElem_cons hi] at hp'
    unfold compL at hp'
    split at hp'
    · rename_i hc
      obtain ⟨mv, em, e2, s2, r2⟩ := hY i ι' S' H' x H2 e1 s1 hc hi y
      have : t.items[i] = mv := by rw [List.getElem?_eq_getElem hi] at em; exact Option.some.inj em
      rw [this] at hp'
      refine ⟨ι', wipeE env vs, S', mv, ((he.mono e1).wipe vs).mono e2, s2, r2, ?_⟩
      cases eg : g mv (wipeE env vs) with
      | none => rw [eg] at hp'; exact hp'
      | some en =>
        rw [eg] at hp'
        intro σ2 he2 hb2
        refine ⟨wipe_but hb2 hw, ι', en, S', he2, s2, ?_⟩
        simp only at hp'
        cases ec : c en S' with
        | bad => rw [ec] at hp'; exact hp'.elim
        | ex x S1 => rw [ec] at hp'; exact hp'.elim
        | ok b S1 =>
          rw [ec] at hp'
          intro ι1 H1 b' x1 s1' rb
          have rb : b' = b := rb
          subst rb
          cases b' with
          | false =>
            rw [if_neg Bool.false_ne_true]
            exact ⟨ι1, S1, (e1.trans e2).trans x1, s1', x1.at hDl, hp'⟩
          | true =>
            rw [if_pos rfl]
            refine ⟨ι1, en, S1, he2.mono x1, s1', ?_⟩
            simp only at hp'
            cases ee : e en S1 with
            | bad => rw [ee] at hp'; exact hp'.elim
            | ex x S1 => rw [ee] at hp'; exact hp'.elim
            | ok yv S2 =>
              rw [ee] at hp'
              intro ι2 H2' v x2 s2' rv
              simp only at hp'
              have hD2 : ι2[S.length]? = some D := x2.at (x1.at hDl)
              split at hp'
              · rename_i acc ea
                obtain ⟨vacc, hv, hr⟩ := s2'.ob _ _ D ea hD2
                split at hp'
                · rename_i hl
                  refine ⟨vacc, hv, by rw [hr.len]; exact hl, ι2, _, ?_, s2'.set hD2 (m := .lst (acc ++ [yv])) ⟨vacc ++ [v], upd_same, ?_⟩, hD2, hp'⟩
                  · exact ((e1.trans e2).trans (x1.trans x2)).trans (Ext.set hD2)
                  · exact VRs.mono (Ext.set hD2) _ _ (hr.append (by simp only [VRs]; exact ⟨v, [], rfl, rv, rfl⟩))
                · exact hp'.elim
              · exact hp'.elim
    · exact hp'.elim
  · rintro H' ⟨ι', S', e1, s1, hDl, hp'⟩
    rw [List.drop_length] at hp'
    unfold compL at hp'
    split at hp'
    · simp only [bind_ok] at hp'
      have rD : VR C ι' H' (.ref S.length) (.ref D) := by simp only [VR]; exact ⟨D, rfl, hDl⟩
      unfold compE at hp'
      split at hp'
      · exact hp' ι' H' _ e1 s1 rD
      · cases el : leaveV S S' (.ref S.length) with
        | ok y S3 =>
          rw [el] at hp'
          obtain ⟨a1, a2, a3⟩ := leaveV_ok hs e1 s1 rD el
          exact hp' ι H' _ a1 a2 a3
        | ex x S3 => unfold leaveV at el; (repeat (split at el)) <;> cases el
        | bad => rw [el] at hp'; exact hp'.elim
    · exact hp'.elim
theorem bx_blk {s : Shared} {H : Hp} {scope : Scope} {cenv : PySem.Env} {fp : List Addr} (B : Bx C W k X) : Bx C W0 k (X.blk s H scope cenv fp) :=
  ⟨B.hK, B.calm, takes0, B.room, PassesOwn.never, B.hw⟩
theorem jts_nil : PTs X [] (tMB C W mYes) := ⟨fun pins s σ H Q I h => (pts_nil (X := X)).run pins s σ H Q I (by
  obtain ⟨ι, env, S, he, hs, hp⟩ := h
  exact hp ι H _ .refl hs rfl)⟩
theorem jts_one {c : Expr} {m : MB} (h : PT X c (tMB C W m)) : PTs X [c] (tMB C W m) := pts_one h
theorem lc_imp {mu : Bool} {mi : Env → Sto → Res Itv} {g : MG} {ws vs : List Nat} {c : MB} {e : ME} {σ : L2.St} {H : Hp} {Q : VK} (hw : ∀ i ∈ ws, i ∈ vs) (h : tM C W (mComp mu mi vs g c e) σ H Q) : tLc (tMI C W mi) (tMG C ws g) (tMB C W0 c) (tM C W0 e) vs σ H Q := by
  obtain ⟨ι, env, S, he, hs, hp⟩ := h
  refine ⟨ι, env, S, he, hs, Post.bind hp fun t S1 ι1 H1 J e1 s1 q1 p1 => ?_⟩
  exact comp_core hw (he.mono e1) s1 q1 p1
theorem je_lc (mu : Bool) {elt tg iter : Expr} {ifs : List Expr} {scope : Scope} {own : List (Str × Nat)} {mi : Env → Sto → Res Itv} {g : MG} {ws : List Nat} {c : MB} {e : ME} (B : Bx C W k X) (hN : X.N.Nodup) (hi : PI X tg iter (tMI C W mi)) (ok : BlkOk X.N X.env.scope scope own)
    (hg : ∀ (Y : Cx), Bx C W0 k Y → Y.N = X.N → (∃ (s : Shared) (H : Hp) (A : Addr) (cl : List (Str × Addr)) (fp : List Addr), Y = X.blk s H scope (compEnvC scope cl A X.env) fp) → PG Y tg (tMG C ws g))
    (ht : ∀ (s : Shared) (H : Hp) (A : Addr) (cl : List (Str × Addr)) (fp : List Addr), Bx C W0 k (X.blk s H scope (compEnvC scope cl A X.env) fp) → PTs (X.blk s H scope (compEnvC scope cl A X.env) fp) ifs (tMB C W0 c))
    (he : ∀ (s : Shared) (H : Hp) (A : Addr) (cl : List (Str × Addr)) (fp : List Addr), Bx C W0 k (X.blk s H scope (compEnvC scope cl A X.env) fp) → PE (X.blk s H scope (compEnvC scope cl A X.env) fp) elt (tM C W0 e)) (hw : ∀ i ∈ ws, i ∈ own.map (·.2) := by decide)
    (hs : ∀ x, foldedSetIterable iter X.env x = pure x := by intro _; rfl) :
    PE X (.ListComp elt [⟨tg, iter, ifs, 0⟩] scope pos) (tM C W (mComp mu mi (own.map (·.2)) g c e)) :=
  peImp (pe_lc B.calm hN hi ok (fun s H A cl fp => hg _ (bx_blk B) rfl ⟨s, H, A, cl, fp, rfl⟩) (fun s H A cl fp => ht s H A cl fp (bx_blk B)) (fun s H A cl fp => he s H A cl fp (bx_blk B)) hs) fun σ H Q h => lc_imp hw h
theorem js_setLc (mu : Bool) {i : Nat} {y : Str} {py : Pos} {elt tg iter : Expr} {ifs : List Expr} {scope : Scope} {own : List (Str × Nat)} {spos : Pos} {mi : Env → Sto → Res Itv} {g : MG} {ws : List Nat} {c : MB} {e : ME} (B : Bx C W k X) (hN : X.N.Nodup) (hi : PI X tg iter (tMI C W mi)) (ok : BlkOk X.N X.env.scope scope own)
    (hg : ∀ (Y : Cx), Bx C W0 k Y → Y.N = X.N → (∃ (s : Shared) (H : Hp) (A : Addr) (cl : List (Str × Addr)) (fp : List Addr), Y = X.blk s H scope (compEnvC scope cl A X.env) fp) → PG Y tg (tMG C ws g))
    (ht : ∀ (s : Shared) (H : Hp) (A : Addr) (cl : List (Str × Addr)) (fp : List Addr), Bx C W0 k (X.blk s H scope (compEnvC scope cl A X.env) fp) → PTs (X.blk s H scope (compEnvC scope cl A X.env) fp) ifs (tMB C W0 c))
    (he : ∀ (s : Shared) (H : Hp) (A : Addr) (cl : List (Str × Addr)) (fp : List Addr), Bx C W0 k (X.blk s H scope (compEnvC scope cl A X.env) fp) → PE (X.blk s H scope (compEnvC scope cl A X.env) fp) elt (tM C W0 e)) (hw : ∀ i ∈ ws, i ∈ own.map (·.2) := by decide)
    (hy : X.N[i]? = some y := by rfl) (hyl : X.env.scope.names.lookup y = some .local := by rfl)
    (hsw : swapsWith (.ListComp elt [⟨tg, iter, ifs, 0⟩] scope pos) (some (.Name y py)) spos.line X.env = pure true := by exact sw_true rfl rfl rfl (by decide +kernel)) (hs : ∀ x, foldedSetIterable iter X.env x = pure x := by intro _; rfl) :
    PS X (.Assign [.Name y py] (.ListComp elt [⟨tg, iter, ifs, 0⟩] scope pos) spos) (tMS C W (sSet i (mComp mu mi (own.map (·.2)) g c e))) :=
  psImp (ps_setLc B.calm hN hy hyl hsw hi ok (fun s H A cl fp => hg _ (bx_blk B) rfl ⟨s, H, A, cl, fp, rfl⟩) (fun s H A cl fp => ht s H A cl fp (bx_blk B)) (fun s H A cl fp => he s H A cl fp (bx_blk B)) hs) fun D σ H h => by
    have q := asg_name h
    exact lc_imp hw q
end
end Mi
namespace Mi
open PySem PySem.Spec PyProof.Rows L2 TL
def mB (f : List MV → Sto → Res MV) (as : MA) : ME := fun env S => (as env S).bind fun xs S1 => f xs S1
def CallM (C : Ct) (f : List MV → Sto → Res MV) (r : List V → Hp → VK → Prop) : Prop := ∀ (W : WX) (ι : Io) (σ : L2.St) (S : Sto) (H : Hp) (xs : List MV) (vs : List V) (Q : VK), StR C ι S H → VRs C ι H xs vs → Post C W (VR C) ι σ H (f xs S) Q → r vs H Q
section
variable {X : Cx} {C : Ct} {W : WX} {pos p : Pos} {k : Nat} {x : Str} {e : Expr} {es : List Expr} {as : MA} {bid T : String} {r : List V → Hp → VK → Prop} {f : List MV → Sto → Res MV}
theorem tCB_imp (hf : CallM C f r) {σ : L2.St} {H : Hp} {Q : VK} (h : tM C W (mB f as) σ H Q) : tCB r (tMA C W as) σ H Q := by
  obtain ⟨ι, env, S, he, hs, hp⟩ := h
  exact ⟨ι, env, S, he, hs, Post.bind hp fun xs S1 ι1 H1 vs e1 s1 q1 p1 => hf W ι1 σ S1 H1 xs vs Q s1 q1 p1⟩
theorem je_b (hc : CallR X (.builtin bid) r) (hf : CallM C f r) (hm : X.mg x = none) (hv : bootBuiltins x = some (.builtin bid)) (ha : PA X (e :: es) (tMA C W as)) (hg : Gl X x := by rfl) (hn : x ≠ "__name__" := by decide) (hdb : (x == ("__debug__" : Str)) = false := by decide)
    (he : starEach (e :: es) X.env = (false, eval e X.env) :: starEach es X.env := by rfl) (hpl : (backTo pos (starEach es X.env)).any (·.1) = false := by rfl) : PE X (.Call (.Name x p) (e :: es) [] pos) (tM C W (mB f as)) :=
  peImp (pe_callB hc hg hm hv ha hn hdb he hpl) fun _ _ _ => tCB_imp hf
theorem je_ty (hc : CallR X (.type T) r) (hf : CallM C f r) (hm : X.mg x = none) (hv : bootBuiltins x = some (.type T)) (ha : PA X (e :: es) (tMA C W as)) (hg : Gl X x := by rfl) (hn : x ≠ "__name__" := by decide) (hdb : (x == ("__debug__" : Str)) = false := by decide)
    (he : starEach (e :: es) X.env = (false, eval e X.env) :: starEach es X.env := by rfl) (hpl : (backTo pos (starEach es X.env)).any (·.1) = false := by rfl) : PE X (.Call (.Name x p) (e :: es) [] pos) (tM C W (mB f as)) :=
  peImp (pe_callTy hc hg hm hv ha hn hdb he hpl) fun _ _ _ => tCB_imp hf
theorem vrs1 {ι : Io} {H : Hp} {x : MV} {vs : List V} (h : VRs C ι H [x] vs) : ∃ v, vs = [v] ∧ VR C ι H x v := by
  simp only [VRs] at h
  obtain ⟨v, w, rfl, h1, rfl⟩ := h
  exact ⟨v, rfl, h1⟩
theorem vrs2 {ι : Io} {H : Hp} {x y : MV} {vs : List V} (h : VRs C ι H [x, y] vs) : ∃ v u, vs = [v, u] ∧ VR C ι H x v ∧ VR C ι H y u := by
  simp only [VRs] at h
  obtain ⟨v, w, rfl, h1, u, z, rfl, h2, rfl⟩ := h
  exact ⟨v, u, rfl, h1, h2⟩
/-- a built-in type as a value -/
theorem je_tyv {n : String} (hm : X.mg x = none) (hv : bootBuiltins x = some (.type n)) (hg : Gl X x := by rfl) (hn : x ≠ "__name__" := by decide) (hdb : (x == ("__debug__" : Str)) = false := by decide) : PE X (.Name x pos) (tM C W (mC (.ty n))) :=
  peImp (pe_bltn (v := .ty n) hg hm hv rfl hn hdb) fun _ _ _ => tM_c fun _ _ => by simp only [VR]
theorem call_lenD' : CallR X (.builtin "len") (fun xs H Q => ∃ a kvs, xs = [V.ref a] ∧ Rd H a (.dK kvs) ∧ Q (.int kvs.length) H) := by
  intro pins s σ H xs us Q I r h
  obtain ⟨a, kvs, rfl, ha, q⟩ := h
  obtain ⟨u, rfl, ru⟩ := vals1 r
  cases ru
  exact d_len I ha fun t s' I' => ⟨.int kvs.length, H, I', ⟨t, rfl⟩, q⟩
def rLenM (K : PySem.W.Frag) : List V → Hp → VK → Prop := fun xs H Q => (∃ x n, xs = [x] ∧ LenV K x H n ∧ Q (.int n) H) ∨ ∃ a kvs, xs = [V.ref a] ∧ Rd H a (.dK kvs) ∧ Q (.int kvs.length) H
theorem call_lenM : CallR X (.builtin "len") (rLenM X.K) := CallR.or call_len call_lenD'
def lenM (S : Sto) (x : MV) : Option Nat := match x with
  | .str z => if z.length ≤ sizeLine then some z.length else none
  | x => match asSq S x with
    | some xs => some xs.length
    | none => (asD S x).map List.length
def fLen (xs : List MV) (S : Sto) : Res MV := match xs with
  | [x] => (match lenM S x with
    | some n => .ok (.int (n : Int)) S
    | none => .bad)
  | _ => .bad
theorem cm_len : CallM C fLen (rLenM C.K) := by
  intro W ι σ S H xs vs Q hs hr hp
  unfold fLen at hp
  split at hp
  · rename_i x
    obtain ⟨v, rfl, r⟩ := vrs1 hr
    split at hp
    · rename_i n hn
      have q := hp ι H (.int (n : Int)) .refl hs (by simp only [VR])
      unfold lenM at hn
      split at hn
      · split at hn
        · rename_i z hl
          simp only [Option.some.injEq] at hn
          simp only [VR] at r
          subst r
          exact .inl ⟨_, n, rfl, ⟨by rw [st_len]; exact hl, by rw [st_len]; exact hn.symm⟩, q⟩
        · cases hn
      · split at hn
        · rename_i ys e
          simp only [Option.some.injEq] at hn
          obtain ⟨a, ws, rfl, g1, g2⟩ := asSq_ok hs r e
          rcases g1 with g1 | g1
          · exact .inl ⟨_, n, rfl, .inl ⟨ws, g1, by rw [g2.len]; exact hn.symm⟩, q⟩
          · exact .inl ⟨_, n, rfl, .inr ⟨ws, g1, by rw [g2.len]; exact hn.symm⟩, q⟩
        · cases e : asD S x with
          | none => rw [e] at hn; cases hn
          | some kvs =>
            rw [e] at hn
            simp only [Option.map_some, Option.some.injEq] at hn
            obtain ⟨a, kx, rfl, g1, g2⟩ := asD_ok hs r e
            exact .inr ⟨a, kx, rfl, g1, by rw [g2.len, hn]; exact q⟩
    · exact hp.elim
  · exact hp.elim
def rListM (K : PySem.W.Frag) : List V → Hp → VK → Prop := fun xs H Q => ∃ p ys, xs = [.ref p] ∧ (SqL K H p ys ∨ SqT K H p ys) ∧ ∀ l, H l = none → Q (.ref l) (upd H l (.lst ys))
theorem call_listM : CallR X (.type "list") (rListM X.K) := call_list_of
def rTupM (K : PySem.W.Frag) : List V → Hp → VK → Prop := fun xs H Q => ∃ p ys, xs = [.ref p] ∧ ((SqL K H p ys ∧ ∀ l, H l = none → Q (.ref l) (upd H l (.tup ys))) ∨ (SqT K H p ys ∧ Q (.ref p) H))
theorem call_tupM : CallR X (.type "tuple") (rTupM X.K) := call_tuple_of
def fTuple (xs : List MV) (S : Sto) : Res MV := match xs with
  | [.tup ys] => .ok (.tup ys) S
  | [x] => (match asL S x with
    | some ys => .ok (.tup ys) S
    | none => .bad)
  | _ => .bad
theorem cm_tup : CallM C fTuple (rTupM C.K) := by
  intro W ι σ S H xs vs Q hs hr hp
  unfold fTuple at hp
  split at hp
  · obtain ⟨v, rfl, r⟩ := vrs1 hr
    have r' := r
    simp only [VR] at r
    obtain ⟨a, ws, rfl, f1, r1⟩ := r
    exact ⟨a, ws, rfl, .inr ⟨f1.sq, hp ι H _ .refl hs r'⟩⟩
  · obtain ⟨v, rfl, r⟩ := vrs1 hr
    split at hp
    · rename_i ys e
      obtain ⟨a, ws, rfl, g1, g2⟩ := asL_ok hs r e
      exact ⟨a, ws, rfl, .inl ⟨g1, mkT_ok hs g2 hp⟩⟩
    · exact hp.elim
  · exact hp.elim
def boolsOf : List MV → Option (List Bool)
  | [] => some []
  | .bl b :: r => (boolsOf r).map (b :: ·)
  | _ => none
theorem boolsOf_ok {ι : Io} {H : Hp} : ∀ {xs : List MV} {vs : List V} {bs : List Bool}, VRs C ι H xs vs → boolsOf xs = some bs → vs = bs.map V.bl
  | [], vs, bs, h, e => by simp only [VRs] at h; simp only [boolsOf, Option.some.injEq] at e; subst h; subst e; rfl
  | .bl b :: r, vs, bs, h, e => by
    simp only [VRs, VR] at h
    obtain ⟨v, w, rfl, rfl, h2⟩ := h
    simp only [boolsOf] at e
    cases e2 : boolsOf r with
    | none => rw [e2] at e; cases e
    | some cs =>
      rw [e2] at e
      simp only [Option.map_some, Option.some.injEq] at e
      subst e
      rw [boolsOf_ok h2 e2]
      rfl
  | .non :: _, _, _, _, e => by cases e
  | .int _ :: _, _, _, _, e => by cases e
  | .str _ :: _, _, _, _, e => by cases e
  | .ty _ :: _, _, _, _, e => by cases e
  | .tup _ :: _, _, _, _, e => by cases e
  | .lst _ :: _, _, _, _, e => by cases e
  | .rol _ :: _, _, _, _, e => by cases e
  | .dic _ :: _, _, _, _, e => by cases e
  | .ins _ _ :: _, _, _, _, e => by cases e
  | .ref _ :: _, _, _, _, e => by cases e
  | .fn _ :: _, _, _, _, e => by cases e
  | .clo _ _ :: _, _, _, _, e => by cases e
def fAll (xs : List MV) (S : Sto) : Res MV := match xs with
  | [x] => (match (asL S x).bind boolsOf with
    | some bs => .ok (.bl (bs.all id)) S
    | none => .bad)
  | _ => .bad
theorem cm_all : CallM C fAll (rAll C.K) := by
  intro W ι σ S H xs vs Q hs hr hp
  unfold fAll at hp
  split at hp
  · rename_i x
    obtain ⟨v, rfl, r⟩ := vrs1 hr
    cases e : asL S x with
    | none => rw [e] at hp; exact hp.elim
    | some ys =>
      rw [e] at hp
      simp only [Option.bind_some] at hp
      cases e2 : boolsOf ys with
      | none => rw [e2] at hp; exact hp.elim
      | some bs =>
        rw [e2] at hp
        obtain ⟨a, ws, rfl, g1, g2⟩ := asL_ok hs r e
        rw [boolsOf_ok g2 e2] at g1
        exact ⟨a, bs, rfl, g1, hp ι H _ .refl hs (by simp only [VR])⟩
  · exact hp.elim
def rMax2' : List V → Hp → VK → Prop := fun xs H Q => ∃ i j, xs = [.int i, .int j] ∧ Q (.int (if j > i then j else i)) H
theorem call_max2' (hc : X.calm = true) : CallR X (.builtin "max") rMax2' := call_max2 hc
def fMax2 (xs : List MV) (S : Sto) : Res MV := match xs with
  | [.int i, .int j] => .ok (.int (if j > i then j else i)) S
  | _ => .bad
def fMin2 (xs : List MV) (S : Sto) : Res MV := match xs with
  | [.int i, .int j] => .ok (.int (if j < i then j else i)) S
  | _ => .bad
theorem cm_max2 : CallM C fMax2 rMax2' := by
  intro W ι σ S H xs vs Q hs hr hp
  unfold fMax2 at hp
  split at hp
  · obtain ⟨v, u, rfl, r1, r2⟩ := vrs2 hr
    simp only [VR] at r1 r2
    subst r1; subst r2
    exact ⟨_, _, rfl, hp ι H _ .refl hs (by simp only [VR])⟩
  · exact hp.elim
def tyName (S : Sto) : MV → Option String
  | .non => some "NoneType"
  | .bl _ => some "bool"
  | .int _ => some "int"
  | .str _ => some "str"
  | .tup _ => some "tuple"
  | .lst _ => some "list"
  | .rol _ => some "list"
  | .dic _ => some "dict"
  | .ref l => match S[l]? with
    | some (.lst _) => some "list"
    | some (.dic _) => some "dict"
    | _ => none
  | _ => none
def isiB (a b : String) : Bool := a == b || (a == "bool" && b == "int")
def fIsi (xs : List MV) (S : Sto) : Res MV := match xs with
  | [x, .ty b] => (match tyName S x with
    | some a => if ["str", "int", "bool", "list", "tuple", "dict"].contains b then .ok (.bl (isiB a b)) S else .bad
    | none => .bad)
  | _ => .bad
theorem kit_isi : ∀ a ∈ ["NoneType", "bool", "int", "str", "tuple", "list", "dict"], ∀ b ∈ ["str", "int", "bool", "list", "tuple", "dict"], kitB a b = some (isiB a b) := by decide +kernel
theorem tyName_ok {ι : Io} {S : Sto} {H : Hp} {x : MV} {v : V} {a : String} (s : StR C ι S H) (r : VR C ι H x v) (h : tyName S x = some a) : a ∈ ["NoneType", "bool", "int", "str", "tuple", "list", "dict"] ∧ TyX C.K H v (.type a) := by
  have tl : ∀ {p : Addr} {ws : List V}, SqL C.K H p ws → TyX C.K H (.ref p) (.type "list") := fun {p ws} q => by
    rcases q with (q | ⟨o, q⟩) | ⟨o, its, n, q, c, _⟩
    · exact .base (.lst q)
    · exact .base (.frz q)
    · exact .kList q c
  cases x with
  | non => simp only [tyName, Option.some.injEq] at h; subst h; simp only [VR] at r; subst r; exact ⟨by decide, .base .non⟩
  | bl b => simp only [tyName, Option.some.injEq] at h; subst h; simp only [VR] at r; subst r; exact ⟨by decide, .base (.bl _)⟩
  | int b => simp only [tyName, Option.some.injEq] at h; subst h; simp only [VR] at r; subst r; exact ⟨by decide, .base (.int _)⟩
  | str b => simp only [tyName, Option.some.injEq] at h; subst h; simp only [VR] at r; subst r; exact ⟨by decide, .base (.str _)⟩
  | tup xs =>
    simp only [tyName, Option.some.injEq] at h; subst h
    simp only [VR] at r
    obtain ⟨p, ws, rfl, g, _⟩ := r
    refine ⟨by decide, ?_⟩
    rcases g.sq with (q | ⟨o, q⟩) | ⟨o, its, n, q, c, _⟩
    · exact .base (.tup q)
    · exact .fTuple q
    · exact .kTuple q c
  | lst xs =>
    simp only [tyName, Option.some.injEq] at h; subst h
    simp only [VR] at r
    obtain ⟨p, ws, rfl, _, g, _⟩ := r
    exact ⟨by decide, .base (.lst g)⟩
  | rol xs =>
    simp only [tyName, Option.some.injEq] at h; subst h
    simp only [VR] at r
    obtain ⟨p, ws, rfl, g, _⟩ := r
    exact ⟨by decide, tl g.sq⟩
  | dic kvs =>
    simp only [tyName, Option.some.injEq] at h; subst h
    simp only [VR] at r
    obtain ⟨p, ws, rfl, _, g, _⟩ := r
    refine ⟨by decide, ?_⟩
    rcases g with q | ⟨o, q⟩
    · exact .base (.dK q)
    · exact .fDict q
  | ref l =>
    simp only [tyName] at h
    simp only [VR] at r
    obtain ⟨p, rfl, hl⟩ := r
    split at h
    · rename_i xs e
      simp only [Option.some.injEq] at h; subst h
      obtain ⟨vs, h1, _⟩ := s.ob l _ p e hl
      exact ⟨by decide, .base (.lst h1)⟩
    · rename_i xs e
      simp only [Option.some.injEq] at h; subst h
      obtain ⟨vs, h1, _⟩ := s.ob l _ p e hl
      exact ⟨by decide, .base (.dK h1)⟩
    · cases h
  | _ => cases h
theorem cm_isi : CallM C fIsi (rIsi C.K) := by
  intro W ι σ S H xs vs Q hs hr hp
  unfold fIsi at hp
  split at hp
  · rename_i x b
    obtain ⟨v, u, rfl, r1, r2⟩ := vrs2 hr
    simp only [VR] at r2
    subst r2
    split at hp
    · rename_i a ha
      split at hp
      · rename_i hb
        obtain ⟨h1, h2⟩ := tyName_ok hs r1 ha
        have hb' : b ∈ ["str", "int", "bool", "list", "tuple", "dict"] := by simpa using hb
        exact ⟨v, .ty b, _, _, _, rfl, .ty b, h2, kit_ty (kit_isi a h1 b hb'), hp ι H _ .refl hs (by simp only [VR])⟩
      · exact hp.elim
    · exact hp.elim
  · exact hp.elim
def tyM (T : String) (S : Sto) (x : MV) : Bool := match x with
  | .str _ => T == "str"
  | .int _ => T == "int"
  | x => T == "list" && (asL S x).isSome
theorem tyM_ok {ι : Io} {S : Sto} {H : Hp} {x : MV} {v : V} {T : String} (s : StR C ι S H) (r : VR C ι H x v) (h : tyM T S x = true) : tyV C.K T v H := by
  have key : (T == "list" && (asL S x).isSome) = true → tyV C.K T v H := fun h => by
    rw [Bool.and_eq_true] at h
    obtain ⟨h1, h2⟩ := h
    obtain ⟨xs, e⟩ := Option.isSome_iff_exists.mp h2
    obtain ⟨a, vs, rfl, g, _⟩ := asL_ok s r e
    exact .inl ⟨by simpa using h1, vs, g⟩
  cases x with
  | str z => simp only [VR] at r; subst r; exact (by simpa [tyM] using h : T = "str")
  | int z => simp only [VR] at r; subst r; exact (by simpa [tyM] using h : T = "int")
  | _ => exact key h
def mBM (T : String) (f : MV → List MV → Sto → Res MV) (o : ME) (as : MA) : ME := fun env S => (o env S).bind fun x S1 => if tyM T S1 x = true then (as env S1).bind fun xs S2 => f x xs S2 else .bad
def MethM (C : Ct) (f : MV → List MV → Sto → Res MV) (r : V → List V → Hp → VK → Prop) : Prop := ∀ (W : WX) (ι : Io) (σ : L2.St) (S : Sto) (H : Hp) (x : MV) (xs : List MV) (v : V) (vs : List V) (Q : VK), StR C ι S H → VR C ι H x v → VRs C ι H xs vs → Post C W (VR C) ι σ H (f x xs S) Q → r v vs H Q
variable {o : Expr} {mo : ME} {name : Str} {apos cpos : Pos} {rm : V → List V → Hp → VK → Prop} {fm : MV → List MV → Sto → Res MV}
theorem bm_imp (hK : X.K = C.K) (hf : MethM C fm rm) {σ : L2.St} {H : Hp} {Q : VK} (h : tM C W (mBM T fm mo as) σ H Q) : tBM X.K T rm (tM C W mo) (tMA C W as) σ H Q := by
  obtain ⟨ι, env, S, he, hs, hp⟩ := h
  refine ⟨ι, env, S, he, hs, Post.bind hp fun x S1 ι1 H1 v e1 s1 q1 p1 => ?_⟩
  split at p1
  · rename_i ht
    refine ⟨by rw [hK]; exact tyM_ok s1 q1 ht, ι1, env, S1, he.mono e1, s1, Post.bind p1 fun xs S2 ι2 H2 vs e2 s2 q2 p2 => ?_⟩
    exact hf W ι2 σ S2 H2 x xs v vs Q s2 (q1.mono e2) q2 p2
  · exact p1.elim
theorem je_bm (hK : X.K = C.K) (pa : PlainAttrs T) (slot : Slot T name bid) (hty : typeOf (.builtin bid) = pure (.type "method_descriptor")) (hm : MtR X bid rm) (hf : MethM C fm rm) (ho : PE X o (tM C W mo)) (ha : PA X (e :: es) (tMA C W as))
    (hbase : attributeBase o name X.env (eval o X.env) = eval o X.env := by rfl)
    (hfew : ((backTo cpos (starEach (e :: es) X.env)).all (fun x => !x.1) && (backToKw cpos (keywordEach [] X.env)).all (fun x => x.1.isSome)
      && decide ((e :: es).length + ([] : List Keyword).length + (if ([] : List Keyword).isEmpty then 0 else 1) < 30)) = true := by rfl)
    (hline : (apos.endLine == cpos.line) = true := by rfl) (hs : starEach (e :: es) X.env = (false, eval e X.env) :: starEach es X.env := by rfl) (hplain : (backTo cpos (starEach es X.env)).any (·.1) = false := by rfl) :
    PE X (.Call (.Attribute o name apos) (e :: es) [] cpos) (tM C W (mBM T fm mo as)) :=
  peImp (pe_bm pa slot hty hm ho ha hbase hfew hline hs hplain) fun _ _ _ => bm_imp hK hf
theorem je_bm0 (hK : X.K = C.K) (pa : PlainAttrs T) (slot : Slot T name bid) (hty : typeOf (.builtin bid) = pure (.type "method_descriptor")) (hm : MtR X bid rm) (hf : MethM C fm rm) (ho : PE X o (tM C W mo))
    (hbase : attributeBase o name X.env (eval o X.env) = eval o X.env := by rfl) (hline : (apos.endLine == cpos.line) = true := by rfl) : PE X (.Call (.Attribute o name apos) [] [] cpos) (tM C W (mBM T fm mo mNil)) :=
  peImp (pe_bm0 pa slot hty hm ho hbase hline) fun σ H Q h => by
    obtain ⟨ι, env, S, he, hs, hp⟩ := h
    refine ⟨ι, env, S, he, hs, Post.bind hp fun x S1 ι1 H1 v e1 s1 q1 p1 => ?_⟩
    split at p1
    · rename_i ht
      exact ⟨by rw [hK]; exact tyM_ok s1 q1 ht, hf W ι1 σ S1 H1 x [] v [] Q s1 q1 (by simp only [VRs]) p1⟩
    · exact p1.elim
/-- a place that holds a list -/
def onL (x : MV) (S : Sto) (g : Nat → List MV → Res MV) : Res MV := match x with
  | .ref l => (match S[l]? with
    | some (.lst xs) => g l xs
    | _ => .bad)
  | _ => .bad
theorem onL_ok {ι : Io} {σ : L2.St} {S : Sto} {H : Hp} {x : MV} {v : V} {g : Nat → List MV → Res MV} {Q : VK} (hs : StR C ι S H) (r : VR C ι H x v) (hp : Post C W (VR C) ι σ H (onL x S g) Q) :
    ∃ l a xs vs, v = .ref a ∧ ι[l]? = some a ∧ S[l]? = some (.lst xs) ∧ H a = some (.lst vs) ∧ VRs C ι H xs vs ∧ Post C W (VR C) ι σ H (g l xs) Q := by
  unfold onL at hp
  split at hp
  · rename_i l
    split at hp
    · rename_i xs e
      simp only [VR] at r
      obtain ⟨a, rfl, hl⟩ := r
      obtain ⟨vs, h1, h2⟩ := hs.ob l _ a e hl
      exact ⟨l, a, xs, vs, rfl, hl, e, h1, h2, hp⟩
    · exact hp.elim
  · exact hp.elim
theorem setL_ok {ι : Io} {σ : L2.St} {S : Sto} {H : Hp} {l : Nat} {a : Addr} {ys : List MV} {ws : List V} {z : MV} {u : V} {Q : VK} (hs : StR C ι S H) (hl : ι[l]? = some a) (r : VRs C ι H ys ws) (rz : VR C ι H z u) (hp : Post C W (VR C) ι σ H (.ok z (S.set l (.lst ys))) Q) : Q u (upd H a (.lst ws)) :=
  hp ι _ u (Ext.set hl) (hs.set hl (m := .lst ys) ⟨ws, upd_same, VRs.mono (Ext.set hl) _ _ r⟩) (rz.mono (Ext.set hl))
def fAppend (x : MV) (vs : List MV) (S : Sto) : Res MV := match vs with
  | [y] => onL x S fun l xs => if xs.length < sizeLine then .ok .non (S.set l (.lst (xs ++ [y]))) else .bad
  | _ => .bad
theorem mm_append : MethM C fAppend rAppend := by
  intro W ι σ S H x xs v vs Q hs r1 r2 hp
  unfold fAppend at hp
  split at hp
  · obtain ⟨u, rfl, r3⟩ := vrs1 r2
    obtain ⟨l, a, ys, ws, rfl, hl, _, h1, h2, hp⟩ := onL_ok hs r1 hp
    split at hp
    · rename_i hz
      exact ⟨a, ws, u, rfl, rfl, h1, by rw [h2.len]; exact hz, setL_ok hs hl (h2.append (by simp only [VRs]; exact ⟨u, [], rfl, r3, rfl⟩)) (by simp only [VR]) hp⟩
    · exact hp.elim
  · exact hp.elim
def fPop (x : MV) (vs : List MV) (S : Sto) : Res MV := match vs with
  | [] => onL x S fun l xs => (match xs[xs.length - 1]? with
    | some y => .ok y (S.set l (.lst xs.dropLast))
    | none => .bad)
  | [.int i] => onL x S fun l xs => if -(2 ^ 63) ≤ i ∧ i < 2 ^ 63 then (match seqIndex? i xs.length with
    | some k => (match xs[k]? with
      | some y => .ok y (S.set l (.lst (xs.eraseIdx k)))
      | none => .bad)
    | none => .bad) else .bad
  | _ => .bad
theorem VRs.dropLast {ι : Io} {H : Hp} {xs : List MV} {vs : List V} (h : VRs C ι H xs vs) : VRs C ι H xs.dropLast vs.dropLast := by
  rw [List.dropLast_eq_take, List.dropLast_eq_take, h.len]
  exact h.take _
/-- sep.join -/
def strsOf : List MV → Option (List (List Nat))
  | [] => some []
  | .str z :: r => (strsOf r).map (z :: ·)
  | _ => none
theorem strsOf_ok {ι : Io} {H : Hp} : ∀ {xs : List MV} {vs : List V} {zs : List (List Nat)}, VRs C ι H xs vs → strsOf xs = some zs → vs = (zs.map st).map V.str
  | [], vs, bs, h, e => by simp only [VRs] at h; simp only [strsOf, Option.some.injEq] at e; subst h; subst e; rfl
  | .str b :: r, vs, bs, h, e => by
    simp only [VRs, VR] at h
    obtain ⟨v, w, rfl, rfl, h2⟩ := h
    simp only [strsOf] at e
    cases e2 : strsOf r with
    | none => rw [e2] at e; cases e
    | some cs =>
      rw [e2] at e
      simp only [Option.map_some, Option.some.injEq] at e
      subst e
      rw [strsOf_ok h2 e2]
      rfl
  | .non :: _, _, _, _, e => by cases e
  | .int _ :: _, _, _, _, e => by cases e
  | .bl _ :: _, _, _, _, e => by cases e
  | .ty _ :: _, _, _, _, e => by cases e
  | .tup _ :: _, _, _, _, e => by cases e
  | .lst _ :: _, _, _, _, e => by cases e
  | .rol _ :: _, _, _, _, e => by cases e
  | .dic _ :: _, _, _, _, e => by cases e
  | .ins _ _ :: _, _, _, _, e => by cases e
  | .ref _ :: _, _, _, _, e => by cases e
  | .fn _ :: _, _, _, _, e => by cases e
  | .clo _ _ :: _, _, _, _, e => by cases e
def rJoinM (K : PySem.W.Frag) : V → List V → Hp → VK → Prop := fun x xs H Q => ∃ a p, ∃ ys : List Str, x = .str a ∧ xs = [.ref p] ∧ (SqL K H p (ys.map V.str) ∨ SqT K H p (ys.map V.str)) ∧ (ys.map (·.length)).sum + ys.length * a.length ≤ 16777216 ∧ Q (.str (Txt.join a ys)) H
theorem mt_joinM : MtR X "str.join" (rJoinM X.K) := mt_join
def fJoin (x : MV) (vs : List MV) (S : Sto) : Res MV := match x, vs with
  | .str a, [y] => (match (asSq S y).bind strsOf with
    | some zs => if (zs.map List.length).sum + zs.length * a.length ≤ 16777216 then .ok (.str (joinL a zs)) S else .bad
    | none => .bad)
  | _, _ => .bad
theorem mm_join : MethM C fJoin (rJoinM C.K) := by
  intro W ι σ S H x xs v vs Q hs r1 r2 hp
  unfold fJoin at hp
  split at hp
  · rename_i a y
    obtain ⟨u, rfl, r3⟩ := vrs1 r2
    cases e : asSq S y with
    | none => rw [e] at hp; exact hp.elim
    | some ys =>
      rw [e] at hp
      simp only [Option.bind_some] at hp
      cases e2 : strsOf ys with
      | none => rw [e2] at hp; exact hp.elim
      | some zs =>
        rw [e2] at hp
        simp only at hp
        split at hp
        · rename_i hz
          obtain ⟨p, ws, rfl, g1, g2⟩ := asSq_ok hs r3 e
          rw [strsOf_ok g2 e2] at g1
          simp only [VR] at r1
          subst r1
          refine ⟨_, p, zs.map st, rfl, rfl, g1, ?_, hp ι H _ .refl hs (VR_str ?_)⟩
          · rw [List.map_map, List.length_map, st_len]
            have : ((fun x : Str => x.length) ∘ st) = List.length := by funext l; exact st_len l
            rw [this]
            exact hz
          · rw [join_eq, tl_join, List.map_map]
            have : (tl ∘ st) = id := by funext l; simp
            rw [this, List.map_id]
        · exact hp.elim
  · exact hp.elim
def sSub (o i m : ME) : MSt := fun env S => sBind (m env S) env fun y S1 => sBind (o env S1) env fun x S2 => sBind (i env S2) env fun j S3 => match x, j with
  | .ref l, .int n => (match S3[l]? with
    | some (.lst xs) => (match ixN xs.length n with
      | some q => .nx env (S3.set l (.lst (xs.set q y)))
      | none => .bad)
    | _ => .bad)
  | _, _ => .bad
theorem js_sub {oe ie ee : Expr} {pos' : Pos} {i m : ME} (ho : PE X oe (tM C W mo)) (hi : PE X ie (tM C W i)) (he : PE X ee (tM C W m)) (hs : swapsWithSole [.Subscript oe ie pos'] ee pos.line X.env = pure false := by rfl) (hw : swappedStores [.Subscript oe ie pos'] ee X.env = pure none := by rfl)
    (h1 : (assignEach [.Subscript oe ie pos'] X.env).map (·.2) = [assign (.Subscript oe ie pos') X.env] := by rfl)
    (ha : ∀ v, assign (.Subscript oe ie pos') X.env v = (do
      let ov ← holding [v] (eval oe X.env)
      let iv ← holding [v, ov] (eval ie X.env)
      standAt pos'
      holding [v, ov, iv] (setItem ov iv v)
      release [v, ov, iv] []) := by intro _; rfl) : PS X (.Assign [.Subscript oe ie pos'] ee pos) (tMS C W (sSub mo i m)) :=
  psImp (ps_asg he (pg_sub ho hi set_list ha) hs hw h1) fun D σ H h => by
    obtain ⟨ι, env, S, he, hs, hp⟩ := h
    refine ⟨ι, env, S, he, hs, SPost.bind he hp fun y S1 ι1 H1 v e1 s1 q1 p1 => ?_⟩
    refine ⟨ι1, env, S1, he.mono e1, s1, SPost.bind (he.mono e1) p1 fun x S2 ι2 H2 u e2 s2 q2 p2 => ?_⟩
    refine ⟨ι2, env, S2, (he.mono e1).mono e2, s2, SPost.bind ((he.mono e1).mono e2) p2 fun j S3 ι3 H3 w e3 s3 q3 p3 => ?_⟩
    split at p3
    · rename_i l n
      split at p3
      · rename_i xs ex
        split at p3
        · rename_i q hq
          have q2 := q2.mono e3
          simp only [VR] at q2 q3
          obtain ⟨a, rfl, hl⟩ := q2
          obtain ⟨vs, g1, g2⟩ := s3.ob l _ a ex hl
          refine ⟨a, vs, n, q, rfl, q3, g1, by rw [g2.len]; exact hq, ?_⟩
          exact p3 ι3 _ σ (Ext.set hl) (s3.set hl (m := .lst (xs.set q y)) ⟨_, upd_same, VRs.mono (Ext.set hl) _ _ (VRs.set ((q1.mono e2).mono e3) q g2)⟩) ((((he.mono e1).mono e2).mono e3).mono (Ext.set hl))
        · exact p3.elim
      · exact p3.elim
    · exact p3.elim
end
end Mi
namespace Mi
open PySem L2
section
variable {X : Cx} {C : Ct} {W : WX} {pos : Pos}
def mOrT (a b : ME) : ME := fun env S => (a env S).bind fun x S1 => match tru S1 x with
  | some k => if k = true then .ok x S1 else b env S1
  | none => .bad
def mAndT (a b : ME) : ME := fun env S => (a env S).bind fun x S1 => match tru S1 x with
  | some k => if k = true then b env S1 else .ok x S1
  | none => .bad
def mNotT (a : ME) : ME := fun env S => (a env S).bind fun x S1 => match tru S1 x with
  | some k => .ok (.bl (!k)) S1
  | none => .bad
theorem je_orT (hK : X.K = C.K) {a b : Expr} {rest : List Expr} {m n : ME} (h : PE X a (tM C W m)) (h2 : PE X (.BoolOp .Or (b :: rest) pos) (tM C W n)) : PE X (.BoolOp .Or (a :: b :: rest) pos) (tM C W (mOrT m n)) :=
  peImp (pe_orT h h2) fun σ H Q h => by
    obtain ⟨ι, env, S, he, hs, hp⟩ := h
    refine ⟨ι, env, S, he, hs, Post.bind hp fun x S1 ι1 H1 v e1 s1 q1 p1 => ?_⟩
    split at p1
    · rename_i k hk
      refine ⟨k, by rw [hK]; exact tru_ok' s1 q1 hk, ?_⟩
      cases k with
      | true => exact p1 ι1 H1 v .refl s1 q1
      | false => exact ⟨ι1, env, S1, he.mono e1, s1, p1⟩
    · exact p1.elim
theorem je_andT (hK : X.K = C.K) {a b : Expr} {rest : List Expr} {m n : ME} (h : PE X a (tM C W m)) (h2 : PE X (.BoolOp .And (b :: rest) pos) (tM C W n)) : PE X (.BoolOp .And (a :: b :: rest) pos) (tM C W (mAndT m n)) :=
  peImp (pe_andT h h2) fun σ H Q h => by
    obtain ⟨ι, env, S, he, hs, hp⟩ := h
    refine ⟨ι, env, S, he, hs, Post.bind hp fun x S1 ι1 H1 v e1 s1 q1 p1 => ?_⟩
    split at p1
    · rename_i k hk
      refine ⟨k, by rw [hK]; exact tru_ok' s1 q1 hk, ?_⟩
      cases k with
      | false => exact p1 ι1 H1 v .refl s1 q1
      | true => exact ⟨ι1, env, S1, he.mono e1, s1, p1⟩
    · exact p1.elim
theorem je_notT (hK : X.K = C.K) {a : Expr} {m : ME} (h : PE X a (tM C W m)) : PE X (.UnaryOp .Not a pos) (tM C W (mNotT m)) :=
  peImp (pe_notT h) fun σ H Q h => by
    obtain ⟨ι, env, S, he, hs, hp⟩ := h
    refine ⟨ι, env, S, he, hs, Post.bind hp fun x S1 ι1 H1 v e1 s1 q1 p1 => ?_⟩
    split at p1
    · rename_i k hk
      exact ⟨k, by rw [hK]; exact tru_ok' s1 q1 hk, p1 ι1 H1 _ .refl s1 (by simp only [VR])⟩
    · exact p1.elim
def putKM (kvs : List (MV × MV)) (k x : MV) : List (MV × MV) :=
  if (kvs.any fun p => keyB p.1 k) = true then kvs.map (fun p => if keyB p.1 k = true then (p.1, x) else p) else kvs ++ [(k, x)]
def mergeKM (kvs more : List (MV × MV)) : List (MV × MV) := more.foldl (fun acc p => putKM acc p.1 p.2) kvs
theorem KRs.any {ι : Io} {H : Hp} {y : MV} (hy : isKey y = true) : ∀ {kvs : List (MV × MV)} {kx : List (Key × V)}, KRs C ι H kvs kx → (kx.any fun kv => decide (kv.1 = keyOf y)) = (kvs.any fun p => keyB p.1 y)
  | [], kx, h => by simp only [KRs] at h; subst h; rfl
  | (k, z) :: r, kx, h => by
    simp only [KRs] at h
    obtain ⟨⟨key, v⟩, w, rfl, h1, h2⟩ := h
    simp only [KR] at h1
    obtain ⟨hk, rfl⟩ := keyR_eq h1.1
    rw [List.any_cons, List.any_cons, KRs.any hy h2, keyB_ok hk hy]
theorem KRs.mapPut {ι : Io} {H : Hp} {y x : MV} {u : V} (hy : isKey y = true) (r : VR C ι H x u) : ∀ {kvs : List (MV × MV)} {kx : List (Key × V)}, KRs C ι H kvs kx → KRs C ι H (kvs.map (fun p => if keyB p.1 y = true then (p.1, x) else p)) (kx.map (fun kv => if kv.1 = keyOf y then (kv.1, u) else kv))
  | [], kx, h => by simp only [KRs] at h; subst h; simp only [List.map_nil, KRs]
  | (k, z) :: rr, kx, h => by
    simp only [KRs] at h
    obtain ⟨⟨key, v⟩, w, rfl, h1, h2⟩ := h
    simp only [KR] at h1
    obtain ⟨hk, e⟩ := keyR_eq h1.1
    rw [List.map_cons, List.map_cons]
    simp only [KRs]
    refine ⟨_, _, rfl, ?_, KRs.mapPut hy r h2⟩
    subst e
    have eb := keyB_ok hk hy
    by_cases hb : keyOf k = keyOf y
    · rw [decide_eq_true hb] at eb
      simp only [eb, if_true, hb, KR]
      rw [← hb]
      exact ⟨h1.1, r⟩
    · rw [decide_eq_false hb] at eb
      simp only [eb, hb, if_false, KR, Bool.false_eq_true]
      exact h1
theorem KRs.snoc {ι : Io} {H : Hp} {p : MV × MV} {q : Key × V} (r : KR C ι H p q) : ∀ {kvs : List (MV × MV)} {kx : List (Key × V)}, KRs C ι H kvs kx → KRs C ι H (kvs ++ [p]) (kx ++ [q])
  | [], kx, h => by simp only [KRs] at h; subst h; simp only [List.nil_append, KRs]; exact ⟨_, _, rfl, r, rfl⟩
  | z :: rr, kx, h => by
    simp only [KRs] at h
    obtain ⟨v, w, rfl, h1, h2⟩ := h
    simp only [List.cons_append, KRs]
    exact ⟨_, _, rfl, h1, KRs.snoc r h2⟩
theorem keyR_of {x : MV} (h : isKey x = true) : KeyR x (keyOf x) := by
  cases x <;> first | rfl | cases h
theorem KRs.put {ι : Io} {H : Hp} {y x : MV} {u : V} (hy : isKey y = true) (r : VR C ι H x u) {kvs : List (MV × MV)} {kx : List (Key × V)} (h : KRs C ι H kvs kx) : KRs C ι H (putKM kvs y x) (putK kx (keyOf y) u) := by
  unfold putKM putK
  rw [KRs.any hy h]
  split
  · exact KRs.mapPut hy r h
  · exact KRs.snoc (by simp only [KR]; exact ⟨keyR_of hy, r⟩) h
theorem KRs.merge {ι : Io} {H : Hp} : ∀ {more : List (MV × MV)} {mx : List (Key × V)} {kvs : List (MV × MV)} {kx : List (Key × V)}, KRs C ι H more mx → KRs C ι H kvs kx → KRs C ι H (mergeKM kvs more) (mergeK kx mx)
  | [], mx, kvs, kx, h, h2 => by simp only [KRs] at h; subst h; exact h2
  | (k, z) :: rr, mx, kvs, kx, h, h2 => by
    simp only [KRs] at h
    obtain ⟨⟨key, v⟩, w, rfl, h1, h3⟩ := h
    simp only [KR] at h1
    obtain ⟨hk, e⟩ := keyR_eq h1.1
    obtain rfl : key = keyOf k := e
    show KRs C ι H (mergeKM (putKM kvs k z) rr) (mergeK (putK kx (keyOf k) v) w)
    exact KRs.merge h3 (KRs.put hk h1.2 h2)
def mPrs : List (ME × ME) → Env → Sto → Res (List (MV × MV))
  | [], _, S => .ok [] S
  | (k, v) :: r, env, S => (k env S).bind fun x S1 => (v env S1).bind fun y S2 => if isKey x = true then (mPrs r env S2).bind fun ps S3 => .ok ((x, y) :: ps) S3 else .bad
noncomputable def mDic (mu : Bool) (ps : List (ME × ME)) : ME := fun env S => (mPrs ps env (S ++ [.dic []])).bind fun kvs S1 => match S1[S.length]? with
  | some (.dic []) => if kvs.length ≤ 15 then compE mu S (S1.set S.length (.dic (mergeKM [] kvs))) else .bad
  | _ => .bad
end
end Mi
namespace Mi
open PySem L2
structure FnIn (P : Program) (w : World) (C : Ct) (mg : Str → Option Value) (base : Heap) (x : Str) (k n : Nat) (g : List MV → Sto → Res MV) (ms : List MV) : Prop where
  ex : ∃ (f : Addr) (fd : FuncData) (ps : List Str) (dvs : List V) (ds : List Value), mg x = some (.ref f) ∧ PySem.W.keepIn C.K (.ref f) = true ∧ Binds C.K fd ps ds ∧ Vals dvs ds ∧ CstR ms dvs ∧ FnOk P w C.K mg base (L2.CX P w) k f fd ps (spM C n g)
section
variable {X : Cx} {C : Ct} {W : WX} {k j n : Nat} {x : Str} {p pos : Pos} {e : Expr} {es : List Expr} {ms : List MV} {g : List MV → Sto → Res MV} {as : MA}
theorem je_f (B : Bx C W j X) (G : FnIn X.prog X.w C X.mg X.base x k n g ms) (ha : PA X (e :: es) (tMA C W as)) (hkj : k ≤ j := by decide) (hg : Gl X x := by rfl) (hdb : (x == ("__debug__" : Str)) = false := by decide)
    (he : starEach (e :: es) X.env = (false, eval e X.env) :: starEach es X.env := by rfl) (hpl : (backTo pos (starEach es X.env)).any (·.1) = false := by rfl) :
    PE X (.Call (.Name x p) (e :: es) [] pos) (tM C W (mCall n g ms as)) := by
  obtain ⟨f, fd, ps, dvs, ds, h1, h2, h3, h4, h5, h6⟩ := G.ex
  rw [← B.hK] at h2 h3 h6
  exact je_call B h6 h1 h2 h3 h4 h5 ha hkj hg hdb he hpl
end
theorem cx_none {P : Program} {w : World} {H : Hp} {s : Shared} {e : Value} {s' : Shared} (h : L2.CX P w [] H s (fun _ _ _ => False) e s') : False := by
  unfold L2.CX at h
  obtain ⟨_, _, _, _, _, _, _, _, _, _, _, _, h⟩ := h
  exact h
def spE (K : PySem.W.Frag) : Sp := fun vs H Q _ => ∃ (a : Addr) (ns : List Int), vs = [.ref a] ∧ ns.length ≤ 63 ∧ SqL K H a (ns.map V.int) ∧ ∀ H', Q (.bl true) H'
theorem law_sp {C : Ct} {g : List MV → Sto → Res MV} (h : ∀ ns : List Int, ns.length ≤ 63 → ∃ S, g [.rol (ns.map MV.int)] [] = .ok (.bl true) S) (vs : List V) (H : Hp) (Q : VK) (E : XK) (hs : spE C.K vs H Q E) (hx : C.dx = none) : spM C 1 g vs H Q E := by
  obtain ⟨a, ns, rfl, hl, hS, hQ⟩ := hs
  obtain ⟨S', h⟩ := h ns hl
  refine ⟨rfl, [], [], [.rol (ns.map MV.int)], ⟨rfl, by simp, fun l o a h => by simp at h, fun d fs fx e => by rw [hx] at e; cases e⟩, ?_, ?_⟩
  · have hv : ∀ ns : List Int, VRs C [] H (ns.map MV.int) (ns.map V.int) := by
      intro ns
      induction ns with
      | nil => simp only [List.map_nil, VRs]
      | cons i r ih => simp only [List.map_cons, VRs]; exact ⟨_, _, rfl, by simp only [VR], ih⟩
    simp only [VRs, VR]
    refine ⟨_, _, rfl, ⟨a, _, rfl, ?_, hv ns⟩, rfl⟩
    rcases hS with hS | hS
    · exact .inl ⟨by simp, hS⟩
    · exact .inr hS
  · rw [h]
    intro ι1 H1 v e1 s1 r1
    have r2 : v = .bl true := by simpa only [VR] using r1
    rw [r2]
    exact hQ H1
theorem law_walk {l : PySem.W.OpenLaw} {k : Nat} {q : Program} {loose : List Str} {XP : (Str → Option Value) → Heap → Prop} {YP : World → Heap → Prop} {d : DefRec} {K : Params → PySem.W.Frag} {x : Str} {g : List MV → Sto → Res MV} (hn : l.most = some 63) (hdf : d.params.defaults = [])
    (hr : Room k callerA) (hY : ∀ (w : World) (h : Heap), YP w h → (K w.params).In h) (hg : ∀ ns : List Int, ns.length ≤ 63 → ∃ S, g [.rol (ns.map MV.int)] [] = .ok (.bl true) S)
    (F : ∀ (w : World) (mg : Str → Option Value) (fa : Addr) (h : Heap), (K w.params).In h → h.Ns mainGlobals mg → mg d.name = some (.ref fa) →
      ∃ fd : FuncData, (∀ (s : Shared) (u : Value), BindsTo s fd ⟨[u], []⟩ [(x, u)]) ∧ ∃ C : Ct, C.K = K w.params ∧ C.dx = none ∧ ∀ base : Heap, (K w.params).In base → base.Ns mainGlobals mg → FnOk l.prog w C.K mg base (L2.CX l.prog w) k fa fd [x] (spM C 1 g)) :
    PySem.W.WalkO q loose XP YP l.row.toRowW d [] (fun f vs => PySem.call f vs) := by
  refine L2.walk_of (n := 63) (k := k) (x := x) (CX := fun w => L2.CX l.prog w) (sp := fun w => spE (K w.params)) hn (by decide) hdf hr hY ?_ ?_ ?_
  · intro w mg fa h hK hG hmg
    obtain ⟨fd, hb, C, hC, hX, hF⟩ := F w mg fa h hK hG hmg
    refine ⟨fd, hb, fun base h1 h2 => ?_⟩
    have q := (hF base h1 h2).imp fun vs H Q E h => law_sp hg vs H Q E h hX
    rw [hC] at q
    exact q
  · intro w H a ns hl _ hS
    exact ⟨a, ns, rfl, hl, hS, fun _ => rfl⟩
  · intro w H s e s' h
    exact cx_none h
end Mi
namespace Mi
open PySem L2
theorem leaveV_cl {S S' : Sto} {v : MV} (k : Keeps S S') (h : Cl S.length v) : leaveV S S' v = .ok v (S'.take S.length) := by
  unfold leaveV
  rw [if_pos k, fz_cl h]
theorem keeps_refl (S : Sto) : Keeps S S := ⟨Nat.le_refl _, fun l _ => .inl rfl⟩
theorem keeps_app {S S' : Sto} (T : Sto) (k : Keeps S S') : Keeps S (S' ++ T) := by
  refine ⟨by rw [List.length_append]; have := k.1; omega, fun l hl => ?_⟩
  have h2 : l < S'.length := by have := k.1; omega
  rw [List.getElem?_append_left h2]
  exact k.2 l hl
theorem keeps_set {S S' : Sto} {l : Nat} {o : MO} (k : Keeps S S') (h : ClO S.length o) : Keeps S (S'.set l o) := by
  refine ⟨by rw [List.length_set]; exact k.1, fun j hj => ?_⟩
  by_cases e : l = j
  · subst e
    have h2 : l < S'.length := by have := k.1; omega
    exact .inr ⟨o, by rw [List.getElem?_set_self h2], h⟩
  · rw [List.getElem?_set_ne e]
    exact k.2 j hj
theorem leaveR_push {S : Sto} {o : MO} (h : ClO S.length o) : leaveR S (S ++ [o]) (.ref S.length) = .ok (.ref S.length) (S ++ [o]) := by
  unfold leaveR
  rw [if_pos (keeps_app _ (keeps_refl S))]
  simp [h]
abbrev dr (a b c : Int) : MO := .lst [.int a, .int b, .int c]
theorem dr_cl (n : Nat) (a b c : Int) : ClO n (dr a b c) := by simp [ClO, ClL, Cl]
def HasDr (l n : Nat) (S : Sto) : Prop := ∃ a b c : Int, S[l]? = some (dr a b c) ∧ 0 ≤ c ∧ c ≤ n
def Draws (l q : Nat) (S S' : Sto) : Prop := ∃ a b c a' c' : Int, S[l]? = some (dr a b c) ∧ S' = S.set l (dr a' b c') ∧ c ≤ c' ∧ c' ≤ c + q
theorem HasDr.lt {l n : Nat} {S : Sto} (h : HasDr l n S) : l < S.length := by
  obtain ⟨a, b, c, h, _⟩ := h
  exact (List.getElem?_eq_some_iff.mp h).1
theorem HasDr.draws {l n q : Nat} {S S' : Sto} (h : HasDr l n S) (d : Draws l q S S') : HasDr l (n + q) S' := by
  have hl := h.lt
  obtain ⟨a, b, c, h, h1, h2⟩ := h
  obtain ⟨a1, b1, c1, a', c', g, rfl, g2, g3⟩ := d
  rw [h] at g; cases g
  exact ⟨a', b, c', by rw [List.getElem?_set_self hl], by omega, by omega⟩
theorem HasDr.mono {l n m : Nat} {S : Sto} (h : HasDr l n S) (k : n ≤ m) : HasDr l m S := by
  obtain ⟨a, b, c, h, h1, h2⟩ := h
  exact ⟨a, b, c, h, h1, by omega⟩
theorem Draws.trans {l q r : Nat} {S S1 S2 : Sto} (d : Draws l q S S1) (e : Draws l r S1 S2) : Draws l (q + r) S S2 := by
  obtain ⟨a, b, c, a', c', g, rfl, g2, g3⟩ := d
  have hl := (List.getElem?_eq_some_iff.mp g).1
  obtain ⟨a1, b1, c1, a2, c2, h, rfl, h2, h3⟩ := e
  rw [List.getElem?_set_self hl] at h; cases h
  exact ⟨a, b, c, a2, c2, g, by rw [List.set_set], by omega, by omega⟩
theorem Draws.mono {l q r : Nat} {S S1 : Sto} (d : Draws l q S S1) (h : q ≤ r) : Draws l r S S1 := by
  obtain ⟨a, b, c, a', c', g, e, g2, g3⟩ := d
  exact ⟨a, b, c, a', c', g, e, g2, by omega⟩
theorem Draws.len {l q : Nat} {S S1 : Sto} (d : Draws l q S S1) : S1.length = S.length := by
  obtain ⟨a, b, c, a', c', g, rfl, g2, g3⟩ := d
  simp
theorem Draws.zero {l n : Nat} {S : Sto} (h : HasDr l n S) : Draws l 0 S S := by
  obtain ⟨a, b, c, h, h1, h2⟩ := h
  refine ⟨a, b, c, a, c, h, ?_, by omega, by omega⟩
  obtain ⟨h3, h4⟩ := List.getElem?_eq_some_iff.mp h
  rw [← h4]; simp
theorem Draws.ne {l q j : Nat} {S S1 : Sto} (d : Draws l q S S1) (h : l ≠ j) : S1[j]? = S[j]? := by
  obtain ⟨a, b, c, a', c', g, rfl, g2, g3⟩ := d
  rw [List.getElem?_set_ne h]
theorem Draws.keeps {l q : Nat} {S S1 : Sto} (d : Draws l q S S1) : Keeps S S1 := by
  obtain ⟨a, b, c, a', c', g, rfl, g2, g3⟩ := d
  exact keeps_set (keeps_refl S) (dr_cl _ _ _ _)
theorem Draws.leave {l q : Nat} {S S1 : Sto} {v : MV} (d : Draws l q S S1) (h : Cl S.length v) : leaveV S S1 v = .ok v S1 := by
  rw [leaveV_cl d.keeps h, ← d.len, List.take_length]
/-- behind new places of the def's own -/
theorem Draws.app {l q : Nat} {S S1 : Sto} {T : Sto} (d : Draws l q (S ++ T) S1) (h : l < S.length) : ∃ S2, S1 = S2 ++ T ∧ Draws l q S S2 := by
  obtain ⟨a, b, c, a', c', g, rfl, g2, g3⟩ := d
  rw [List.getElem?_append_left h] at g
  exact ⟨S.set l (dr a' b c'), by rw [List.set_append_left _ _ h], a, b, c, a', c', g, rfl, g2, g3⟩
theorem HasDr.app {l n : Nat} {S : Sto} (T : Sto) (h : HasDr l n S) : HasDr l n (S ++ T) := by
  have hl := h.lt
  obtain ⟨a, b, c, h, h1⟩ := h
  exact ⟨a, b, c, by rw [List.getElem?_append_left hl]; exact h, h1⟩
theorem ix_dr {l : Nat} {S : Sto} {a b c : Int} (h : S[l]? = some (dr a b c)) : fIx (.ref l) (.int 0) S = .ok (.int a) S ∧ fIx (.ref l) (.int 1) S = .ok (.int b) S ∧ fIx (.ref l) (.int 2) S = .ok (.int c) S := by
  refine ⟨?_, ?_, ?_⟩ <;> simp [fIx, asSq, asU, asL, h, L2.atI, ixN]
theorem optL_cl {S : Sto} {n d : Nat} : ∀ {xs : List MV}, ClL n xs → optL (fz S n d) xs = some xs
  | [], _ => rfl
  | x :: r, h => by
    simp only [ClL] at h
    simp only [optL, fz_cl h.1, optL_cl h.2, Option.bind_some, Option.map_some]
theorem leaveV_new {S S1 : Sto} {xs : List MV} (k : Keeps S S1) (hl : S1.length = S.length) (h : ClL S.length xs) : leaveV S (S1 ++ [.lst xs]) (.ref S.length) = .ok (.lst xs) S1 := by
  unfold leaveV
  rw [if_pos (keeps_app _ k)]
  have e : (S1 ++ [MO.lst xs])[S.length]? = some (.lst xs) := by rw [← hl]; simp
  have f : fz (S1 ++ [MO.lst xs]) S.length 6 (.ref S.length) = some (.lst xs) := by
    unfold fz
    rw [if_neg (by simp [Cl])]
    simp only [e, optL_cl h, Option.map_some]
  rw [f]
  simp only [← hl]
  rw [List.take_left]
theorem clL_app {n : Nat} : ∀ {xs ys : List MV}, ClL n xs → ClL n ys → ClL n (xs ++ ys)
  | [], _, _, h => h
  | x :: r, ys, h, g => by simp only [ClL] at h; simp only [List.cons_append, ClL]; exact ⟨h.1, clL_app h.2 g⟩
theorem chk_nil {t : Itv} (h : t.deps = []) (S : Sto) : t.chk S := by
  unfold Itv.chk; rw [h]; intro p hp; cases hp
theorem compL_pure {t : Itv} {g : MG} {c : MB} {e : ME} {env : Env} {S0 : Sto} {p : MV → Bool} {F : MV → MV} (ht : ∀ acc, t.chk (S0 ++ [.lst acc])) :
    ∀ (items acc : List MV), (∀ v ∈ items, ∃ env1, g v env = some env1 ∧ ∀ acc, c env1 (S0 ++ [.lst acc]) = .ok (p v) (S0 ++ [.lst acc]) ∧ (p v = true → e env1 (S0 ++ [.lst acc]) = .ok (F v) (S0 ++ [.lst acc]))) → acc.length + items.length ≤ sizeLine →
    compL t g c e S0.length items env (S0 ++ [.lst acc]) = .ok () (S0 ++ [.lst (acc ++ (items.filter p).map F)])
  | [], acc, _, _ => by unfold compL; rw [if_pos (ht _)]; simp
  | v :: r, acc, h, hs => by
    obtain ⟨env1, h1, h2⟩ := h v (by simp)
    obtain ⟨h3, h4⟩ := h2 acc
    have hr : ∀ u ∈ r, _ := fun u hu => h u (List.mem_cons_of_mem _ hu)
    unfold compL
    rw [if_pos (ht _)]
    simp only [h1, h3]
    rw [List.length_cons] at hs
    cases hp : p v with
    | true =>
      have e1 : (S0 ++ [MO.lst acc])[S0.length]? = some (.lst acc) := by simp
      have e2 : (S0 ++ [MO.lst acc]).set S0.length (.lst (acc ++ [F v])) = S0 ++ [.lst (acc ++ [F v])] := by simp
      simp only [h4 hp, e1, e2]
      rw [if_pos (by omega), compL_pure ht r (acc ++ [F v]) hr (by rw [List.length_append]; simp; omega)]
      simp [List.filter_cons, hp]
    | false =>
      simp only []
      rw [compL_pure ht r acc hr (by omega)]
      simp [List.filter_cons, hp]
theorem mComp_pure {mu : Bool} {mi : Env → Sto → Res Itv} {vs : List Nat} {g : MG} {c : MB} {e : ME} {env : Env} {S : Sto} {t : Itv} {p : MV → Bool} {F : MV → MV} (hi : mi env S = .ok t S) (ht : ∀ acc, t.chk (S ++ [.lst acc]))
    (h : ∀ v ∈ t.items, ∃ env1, g v (wipeE env vs) = some env1 ∧ ∀ acc, c env1 (S ++ [.lst acc]) = .ok (p v) (S ++ [.lst acc]) ∧ (p v = true → e env1 (S ++ [.lst acc]) = .ok (F v) (S ++ [.lst acc]))) (hs : t.items.length ≤ sizeLine) (hc : ClL S.length ((t.items.filter p).map F)) :
    mComp mu mi vs g c e env S = if mu = true then .ok (.ref S.length) (S ++ [.lst ((t.items.filter p).map F)]) else .ok (.lst ((t.items.filter p).map F)) S := by
  unfold mComp
  have q := compL_pure (t := t) (g := g) (c := c) (e := e) (env := wipeE env vs) (S0 := S) (p := p) (F := F) ht t.items [] h (by simpa using hs)
  simp only [List.nil_append] at q
  simp only [hi, bind_ok, q, compE]
  cases mu with
  | true => rfl
  | false => simp only [Bool.false_eq_true, if_false]; exact leaveV_new (keeps_refl S) rfl hc
theorem compL_draws {t : Itv} {g : MG} {e : ME} {P : MV → Prop} {l m q : Nat} {env : Env} (ht : t.deps = []) (hlm : l ≠ m) {N : Nat} :
    ∀ (items : List MV) (n : Nat) (S : Sto) (acc : List MV), (∀ v ∈ items, ∃ env1, g v env = some env1 ∧ ∀ (n : Nat) (S : Sto), n + q ≤ N → m < S.length → HasDr l n S → ∃ y S1, e env1 S = .ok y S1 ∧ Draws l q S S1 ∧ P y) →
      HasDr l n S → n + q * items.length ≤ N → S[m]? = some (.lst acc) → acc.length + items.length ≤ sizeLine →
      ∃ S1 ys, compL t g mYes e m items env S = .ok () (S1.set m (.lst (acc ++ ys))) ∧ ys.length = items.length ∧ (∀ y ∈ ys, P y) ∧ Draws l (q * items.length) S S1
  | [], n, S, acc, _, hd, _, hm, _ => by
    refine ⟨S, [], ?_, rfl, by simp, (Draws.zero hd).mono (by omega)⟩
    unfold compL
    rw [if_pos (chk_nil ht S), List.append_nil]
    obtain ⟨h1, h2⟩ := List.getElem?_eq_some_iff.mp hm
    congr 1
    rw [← h2]; simp
  | v :: r, n, S, acc, h, hd, hn, hm, hs => by
    rw [List.length_cons, Nat.mul_add, Nat.mul_one] at hn
    rw [List.length_cons] at hs
    obtain ⟨env1, h1, h2⟩ := h v (by simp)
    have hml : m < S.length := (List.getElem?_eq_some_iff.mp hm).1
    obtain ⟨y, S1, e1, d1, py⟩ := h2 n S (by omega) hml hd
    have hm1 : S1[m]? = some (.lst acc) := by rw [d1.ne hlm]; exact hm
    have hml1 : m < S1.length := by rw [d1.len]; exact hml
    have hd1 := hd.draws d1
    have hd2 : HasDr l (n + q) (S1.set m (.lst (acc ++ [y]))) := by
      obtain ⟨a, b, c, g1, g2⟩ := hd1
      exact ⟨a, b, c, by rw [List.getElem?_set_ne (Ne.symm hlm)]; exact g1, g2⟩
    obtain ⟨S3, ys, e3, l3, p3, d3⟩ := compL_draws ht hlm r (n + q) (S1.set m (.lst (acc ++ [y]))) (acc ++ [y]) (fun u hu => h u (List.mem_cons_of_mem _ hu)) hd2 (by omega) (by rw [List.getElem?_set_self hml1]) (by rw [List.length_append]; simp; omega)
    obtain ⟨a, b, c, a', c', g1, rfl, g3, g4⟩ := d3
    rw [List.getElem?_set_ne (Ne.symm hlm)] at g1
    have d4 : Draws l (q * r.length) S1 (S1.set l (dr a' b c')) := ⟨a, b, c, a', c', g1, rfl, g3, g4⟩
    refine ⟨S1.set l (dr a' b c'), y :: ys, ?_, by simp [l3], ?_, (d1.trans d4).mono (by rw [List.length_cons, Nat.mul_add, Nat.mul_one]; omega)⟩
    · unfold compL
      rw [if_pos (chk_nil ht S)]
      simp only [h1, mYes, e1, hm1]
      rw [if_pos (by omega)]
      rw [e3, List.set_comm _ _ (Ne.symm hlm), List.set_set, List.append_assoc]
      try rfl
    · intro u hu
      rcases List.mem_cons.mp hu with rfl | hu
      · exact py
      · exact p3 u hu
/-- a comprehension whose turns draw -/
theorem mComp_draws {mu : Bool} {mi : Env → Sto → Res Itv} {vs : List Nat} {g : MG} {e : ME} {env : Env} {S S1 : Sto} {t : Itv} {P : MV → Prop} {l n q k N : Nat} (hi : mi env S = .ok t S1) (hd : HasDr l n S) (d0 : Draws l k S S1) (ht : t.deps = [])
    (h : ∀ v ∈ t.items, ∃ env1, g v (wipeE env vs) = some env1 ∧ ∀ (n : Nat) (S' : Sto), n + q ≤ N → S.length < S'.length → HasDr l n S' → ∃ y S2, e env1 S' = .ok y S2 ∧ Draws l q S' S2 ∧ P y) (hn : n + k + q * t.items.length ≤ N) (hs : t.items.length ≤ sizeLine) (hc : ∀ y, P y → Cl S.length y) :
    ∃ S2 ys, mComp mu mi vs g mYes e env S = (if mu = true then .ok (.ref S.length) (S2 ++ [.lst ys]) else .ok (.lst ys) S2) ∧ ys.length = t.items.length ∧ (∀ y ∈ ys, P y) ∧ Draws l (k + q * t.items.length) S S2 := by
  have hd1 := hd.draws d0
  have hl1 := hd1.lt
  have hne : l ≠ S1.length := by omega
  obtain ⟨S3, ys, e3, l3, p3, d3⟩ := compL_draws (t := t) (g := g) (e := e) (P := P) (l := l) (m := S1.length) (q := q) (env := wipeE env vs) (N := N) ht hne t.items (n + k) (S1 ++ [.lst []]) [] (by
    rw [d0.len]
    exact h) (hd1.app _) (by omega) (by simp) (by simpa using hs)
  obtain ⟨S4, rfl, d4⟩ := d3.app hl1
  have h4 := d4.len
  have hcl : ClL S.length ys := by
    clear e3 l3 d3
    induction ys with
    | nil => simp only [ClL]
    | cons a b ih => simp only [ClL]; exact ⟨hc a (p3 a (by simp)), ih fun y hy => p3 y (List.mem_cons_of_mem _ hy)⟩
  refine ⟨S4, ys, ?_, l3, p3, d0.trans d4⟩
  unfold mComp
  have e5 : (S4 ++ [MO.lst []]).set S1.length (.lst ([] ++ ys)) = S4 ++ [.lst ys] := by rw [← h4]; simp
  rw [e5] at e3
  simp only [hi, bind_ok, e3, compE]
  cases mu with
  | true => simp only [if_true, d0.len]
  | false =>
    simp only [Bool.false_eq_true, if_false]
    exact leaveV_new d4.keeps h4 (by rw [d0.len]; exact hcl)
theorem deq_flat {n : Nat} {x y : MV} (h : flat x = true) (g : flat y = true) : deq n x y = some (eqF x y) := by
  cases n <;> (unfold deq; rw [h, g]; rfl)
theorem fEq_flat {x y : MV} {S : Sto} (h : flat x = true) (g : flat y = true) (hx : view S x = x) (hy : view S y = y) : fEq x y S = .ok (.bl (eqF x y)) S := by
  unfold fEq; rw [hx, hy, deq_flat h g]
theorem fNe_flat {x y : MV} {S : Sto} (h : flat x = true) (g : flat y = true) (hx : view S x = x) (hy : view S y = y) : fNe x y S = .ok (.bl (!eqF x y)) S := by
  unfold fNe; rw [hx, hy, deq_flat h g]
theorem fEq_int (i j : Int) (S : Sto) : fEq (.int i) (.int j) S = .ok (.bl (decide (i = j))) S := by
  rw [fEq_flat rfl rfl rfl rfl]; first | rfl | (congr 2; by_cases h : i = j <;> simp [eqF, h])
theorem fNe_int (i j : Int) (S : Sto) : fNe (.int i) (.int j) S = .ok (.bl (!decide (i = j))) S := by
  rw [fNe_flat rfl rfl rfl rfl]; first | rfl | (congr 3; by_cases h : i = j <;> simp [eqF, h])
theorem fEq_bl (i j : Bool) (S : Sto) : fEq (.bl i) (.bl j) S = .ok (.bl (decide (i = j))) S := by
  rw [fEq_flat rfl rfl rfl rfl]; cases i <;> cases j <;> rfl
theorem fNe_bl (i j : Bool) (S : Sto) : fNe (.bl i) (.bl j) S = .ok (.bl (!decide (i = j))) S := by
  rw [fNe_flat rfl rfl rfl rfl]; cases i <;> cases j <;> rfl
theorem fEq_str (i j : List Nat) (S : Sto) : fEq (.str i) (.str j) S = .ok (.bl (decide (i = j))) S := by
  rw [fEq_flat rfl rfl rfl rfl]; first | rfl | (congr 2; by_cases h : i = j <;> simp [eqF, h])
theorem fNe_str (i j : List Nat) (S : Sto) : fNe (.str i) (.str j) S = .ok (.bl (!decide (i = j))) S := by
  rw [fNe_flat rfl rfl rfl rfl]; first | rfl | (congr 3; by_cases h : i = j <;> simp [eqF, h])
theorem forL_inv {t : Itv} {g : MG} {mb : MSt} (ht : t.deps = []) (Inv : Nat → Env → Sto → Prop) : ∀ (items : List MV) (i : Nat) (env : Env) (S : Sto), Inv i env S →
    (∀ (j : Nat) (v : MV), items[j]? = some v → ∀ env S, Inv (i + j) env S → ∃ e1, g v env = some e1 ∧ ∃ e2 S2, (mb e1 S = .nx e2 S2 ∨ mb e1 S = .ct e2 S2) ∧ Inv (i + j + 1) e2 S2) →
    ∃ e2 S2, forL t g mb items env S = .nx e2 S2 ∧ Inv (i + items.length) e2 S2
  | [], i, env, S, h, _ => ⟨env, S, by unfold forL; rw [if_pos (chk_nil ht S)], h⟩
  | v :: r, i, env, S, h, hv => by
    obtain ⟨e1, h1, e2, S2, h2, h3⟩ := hv 0 v rfl env S h
    obtain ⟨e3, S3, h4, h5⟩ := forL_inv ht Inv r (i + 1) e2 S2 h3 fun j u hj env S hI => by
      obtain ⟨e1, h1, e2, S2, h2, h3⟩ := hv (j + 1) u (by simpa using hj) env S (by rw [show i + (j + 1) = i + 1 + j by omega]; exact hI)
      exact ⟨e1, h1, e2, S2, h2, by rw [show i + 1 + j + 1 = i + (j + 1) + 1 by omega]; exact h3⟩
    refine ⟨e3, S3, ?_, by rw [List.length_cons, show i + (r.length + 1) = i + 1 + r.length by omega]; exact h5⟩
    unfold forL
    rw [if_pos (chk_nil ht S)]
    simp only [h1]
    rcases h2 with h2 | h2 <;> (rw [h2]; exact h4)
theorem leave_top {S' : Sto} (b : Bool) : leaveV [] S' (.bl b) = .ok (.bl b) [] := by
  rw [leaveV_cl ⟨Nat.zero_le _, fun l hl => by simp at hl⟩ (by simp [Cl])]
  simp
/-- the script's first so many numbers -/
theorem cut_none {α : Type} (xs : List α) (n : Nat) : cutL xs none (some (n : Int)) = xs.take n := by
  unfold cutL
  rw [HT.sIx_none, HT.sIx_nat, List.drop_zero, Nat.sub_zero, List.take_eq_take_iff]
  omega
theorem head_ok {ns d : List Int} {k : Nat} {env : Env} {S : Sto} {a : ME} (h0 : env[0]? = some (some (.rol (ns.map MV.int)))) (ha : a env S = .ok (.lst (d.map MV.int)) S) : mSl false (mOrT (mV 0) a) mNoPart (mPart (mC (.int k))) env S = .ok (.lst (((if ns = [] then d else ns).take k).map MV.int)) S := by
  simp only [mSl, mOrT, mV, h0, bind_ok, tru]
  cases ns with
  | nil => simp only [List.map_nil, List.isEmpty_nil, Bool.not_true, Bool.false_eq_true, if_false, ha, bind_ok, mNoPart, mPart, mC, fSl, asL, mkL, cut_none, if_true, List.map_take]
  | cons x r => simp only [List.map_cons, List.isEmpty_cons, Bool.not_false, if_true, bind_ok, mNoPart, mPart, mC, fSl, asL, mkL, cut_none, Bool.false_eq_true, if_false, List.map_take, reduceCtorEq]
theorem enu_at {xs : List MV} {j : Nat} {v : MV} (h : (enuL xs)[j]? = some v) : ∃ x, xs[j]? = some x ∧ v = .tup [.int (j : Int), x] := by
  unfold enuL at h
  rw [List.getElem?_map] at h
  by_cases hj : j < xs.length
  · rw [List.getElem?_range hj] at h
    simp only [Option.map_some, Option.some.injEq] at h
    exact ⟨xs[j], by simp [hj], by rw [← h]; simp [List.getD, hj]⟩
  · have : (List.range xs.length)[j]? = none := by simp; omega
    rw [this] at h; cases h
theorem ints_at {xs : List Int} {j : Nat} {x : MV} (h : (xs.map MV.int)[j]? = some x) : j < xs.length ∧ ∃ c, x = .int c := by
  rw [List.getElem?_map] at h
  cases e : xs[j]? with
  | none => rw [e] at h; cases h
  | some c => rw [e] at h; exact ⟨(List.getElem?_eq_some_iff.mp e).1, c, by simpa using h.symm⟩
def NxP (P : Env → Sto → Prop) : SRes → Prop
  | .nx e S => P e S
  | .ct e S => P e S
  | _ => False
theorem NxP.ex {P : Env → Sto → Prop} {r : SRes} (h : NxP P r) : ∃ e S, (r = .nx e S ∨ r = .ct e S) ∧ P e S := by
  cases r with
  | nx e S => exact ⟨e, S, .inl rfl, h⟩
  | ct e S => exact ⟨e, S, .inr rfl, h⟩
  | _ => exact h.elim
end Mi
namespace Mi
open PySem L2 PyProof.Rows
/-- the texts, each once, in their order -/
def once (xs : List Str) : List Str := xs.foldl (fun acc x => if x ∈ acc then acc else acc ++ [x]) []
theorem once_snoc (xs : List Str) (x : Str) : once (xs ++ [x]) = if x ∈ once xs then once xs else once xs ++ [x] := by
  unfold once; rw [List.foldl_append]; rfl
theorem once_le (n : Nat) : ∀ xs : List Str, xs.length = n → (once xs).length ≤ n := by
  induction n with
  | zero => intro xs h; have : xs = [] := List.length_eq_zero_iff.mp h; subst this; exact Nat.le_refl 0
  | succ n ih =>
    intro xs h
    rcases List.eq_nil_or_concat xs with rfl | ⟨ys, y, rfl⟩
    · simp at h
    · rw [List.concat_eq_append] at h ⊢
      have hy : ys.length = n := by simpa using h
      have := ih ys hy
      rw [once_snoc]
      split
      · omega
      · simp; omega
section
variable {prog : Program} {w : World} {A : Around} {R : Result → Shared → Prop} {I : Addr} {fp wr : List Addr} {G : Array GenState → Array GenState → Prop} {n : Nat} {P : Nat → Value → Prop} {St : Nat → Shared → Prop}
abbrev Holds (prog : Program) (w : World) (h : Heap) (a : Addr) (xs : List Str) : Prop := h.SetOf (PySem.strKind prog w) a (fun k => decide (k ∈ once xs)) (once xs).length
theorem Holds.moved {s s' : Shared} {a : Addr} {xs : List Str} {wr : List Addr} {G : Array GenState → Array GenState → Prop} (h : Holds prog w s.heap a xs) (m : Moved wr G s s') (ha : a ∉ wr) : Holds prog w s'.heap a xs := by
  obtain ⟨ob, es, ep, tb, h1, h2⟩ := h
  exact ⟨ob, es, ep, tb, m.heap a _ ha h1, h2⟩
theorem Holds.next {h : Heap} {a : Addr} {xs : List Str} {x : Str}
    (g : h.SetOf (PySem.strKind prog w) a (fun k => decide (k ∈ once xs) || decide (k = x)) (if decide (x ∈ once xs) = true then (once xs).length else (once xs).length + 1)) : Holds prog w h a (xs ++ [x]) := by
  refine SetOf_congr g (fun k => ?_) ?_
  · rw [once_snoc]
    by_cases e : x ∈ once xs
    · rw [if_pos e]
      by_cases f : k = x
      · subst f; simp [e]
      · simp [f]
    · rw [if_neg e]
      by_cases f : k = x
      · subst f; simp
      · simp [f]
  · rw [once_snoc]
    by_cases e : x ∈ once xs <;> simp [e]
theorem set_turns (W : WalksS prog w A.in1 I fp wr G n P St) (a : Addr) (ha : a ∉ fp) (xs : List Str) (hx : xs.length = n) (hv : ∀ i v, P i v → ∃ t, v = .str (xs.getD i Str.empty) t) (hn : n + 1 < scanBound) (k : Nat) :
    ∀ (i : Nat) (s : Shared), i + k = n → St i s → Holds prog w s.heap a (xs.take i) →
      (∀ s', Moved (a :: wr) G s s' → Holds prog w s'.heap a xs → R (.ok (.ret .none)) s') → codeAny (model prog w) A (.builtin "set.update.loop" ⟨[.ref a, .ref I], []⟩) R s := by
  have haw : a ∉ wr := fun z => ha (W.sub _ z)
  have up : ∀ b ∈ wr, b ∈ a :: wr := fun b z => List.mem_cons_of_mem _ z
  induction k with
  | zero =>
    intro i s hi st hS fin
    have e : xs.take i = xs := List.take_of_length_le (by omega)
    have ei : i = n := by omega
    subst ei
    rw [e] at hS
    refine codeAny_builtin PyProof.Rows.F.entry_set_update_loop ?_
    rw [Around.under_plainId PyProof.Rows.F.plain_set_update_loop _]
    exact wpAny_bind (W.done s _ _ st fun s2 m => wpAny_pure (fin s2 (m.mono up) (hS.moved m haw)))
  | succ k ih =>
    intro i s hi st hS fin
    have il : i < n := by omega
    refine codeAny_builtin PyProof.Rows.F.entry_set_update_loop ?_
    rw [Around.under_plainId PyProof.Rows.F.plain_set_update_loop _]
    refine wpAny_bind (W.item i s _ _ il st fun v s2 hP st2 m => ?_)
    obtain ⟨t, rfl⟩ := hv i v hP
    have hS2 := hS.moved m haw
    show wpAny _ A.in1 (holding [Value.str (xs.getD i Str.empty) t] (setAdd a (.str (xs.getD i Str.empty) t)) >>= _) _ _ s2
    refine wpAny_bind (wpAny_holding ?_)
    unfold setAdd
    refine wpAny_holding (wpAny_bind ((PySem.strKind prog w).pyHash (k := xs.getD i Str.empty) (strKind_is _ _ _ _) ?_))
    have room : (once (xs.take i)).length + 1 < scanBound := by
      have := once_le i (xs.take i) (by rw [List.length_take]; omega)
      omega
    refine wpAny_setAddHashed_of (knd := PySem.strKind prog w) (s := { s2 with toks := s2.toks + 1 }) (strKind_is _ _ _ _) rfl hS2 room fun h' same hS3 => ?_
    have e : xs.take (i + 1) = xs.take i ++ [xs.getD i Str.empty] := by
      rw [List.take_add_one, List.getD_eq_getElem?_getD, List.getElem?_eq_getElem (by omega)]; rfl
    have hS4 : Holds prog w h' a (xs.take (i + 1)) := by rw [e]; exact Holds.next hS3
    refine wpAny_pure ⟨plainId_quiet PyProof.Rows.F.plain_set_update_loop _, ih (i + 1) _ (by omega) (W.frame _ s2 _ _ st2 (Nat.le_succ _) fun b hb o q => ?_) hS4 fun s3 m3 hS5 => ?_⟩
    · rw [same.2 b (fun z : b = a => ha (by rw [← z]; exact hb))]; exact q
    · refine fin s3 (Moved.trans W.gtrans ((m.mono up).then_heap (Nat.le_succ _) fun b o hb q => ?_) m3) hS5
      rw [same.2 b (fun z : b = a => hb (by rw [z]; exact List.mem_cons_self))]; exact q
end
section
variable {prog : Program} {w : World} {A : Around} {E : Value → Shared → Prop} {s : Shared}
abbrev newSet (led : Bool) : Obj := { cls := .type "set", dict := none, data := .set #[] 0 (.fresh 0 0 led) }
theorem set_of_texts {l : Addr} {items : Array Value} {xs : List Str} {Q : Value → Shared → Prop} (hh : A.handled = none) (hl : s.heap.IsList l items) (hx : StrsAre items.toList xs) (hn : xs.length + 1 < scanBound)
    (fin : ∀ (h' : Heap) (tk : Nat), Holds prog w h' s.heap.objs.size xs → (∀ b o, b < s.heap.objs.size → s.heap.get? b = some o → h'.get? b = some o) → Q (.ref s.heap.objs.size) { s with heap := h', toks := tk }) :
    wpAny (model prog w) A (call (.type "set") [.ref l]) Q E s := by
  have q1 := PySem.F.called_set.mro
  obtain ⟨mc, ml, q1⟩ := q1
  have q2 := PySem.F.called_set.made
  have q3 := PySem.F.called_set.sub
  have q4 := PySem.F.called_set.notType
  have q5 := PySem.F.called_set.canCreate
  have q6 := PySem.F.typeCall_set_1 (.ref l)
  refine wpAny_call (codeAny_of_tree ?_)
  show wpAny _ _ (callAny (.type "set") _) _ _ _
  refine wpAny_pure ⟨Code.quiet_builtin _ (by decide +kernel), codeAny_builtin PySem.F.entry_type_call ?_⟩
  rw [Around.under_plain (weight_type_call_type "set" [.ref l] []) rfl]
  repeat any_goals first | assumption | wp_step
  refine codeAny_mono (code_set_new_1 (.ref l) (E := E) (Q₁ := fun ob z => ∃ led : Bool, ob = .ref s.heap.objs.size ∧ z = { s with heap := s.heap.push (newSet led) }) fun led => ⟨led, rfl, rfl⟩) fun r z hr => ?_
  rcases r with u | fl
  · exact hr
  cases fl with
  | next => exact hr.elim
  | brk => exact hr.elim
  | cont => exact hr.elim
  | ret ob =>
    obtain ⟨led, rfl, rfl⟩ := hr
    have here : (s.heap.push (newSet led)).get? s.heap.objs.size = some (newSet led) := Heap.get?_push_size _ rfl
    have isSet : Shared.TypeIs { s with heap := s.heap.push (newSet led) } (.ref s.heap.objs.size) "set" := ⟨_, here, rfl⟩
    have q7 := PySem.F.called_set.init.lookup
    have q8 := PySem.F.called_set.init.bind (.ref s.heap.objs.size)
    repeat any_goals first | assumption | wp_step
    refine codeAny_mono (codeAny_call_builtin (R := wants (fun r z => r = .none ∧ ∃ h' tk, z = { s with heap := h', toks := tk } ∧ Holds prog w h' s.heap.objs.size xs ∧ (∀ b o, b < s.heap.objs.size → s.heap.get? b = some o → h'.get? b = some o)) E)
      PySem.F.called_set.init.plain PySem.F.entry_set_init (check_set_init_1 isSet ?_)) fun r z hz => ?_
    rotate_left
    · rcases r with u | fl
      · exact hz
      cases fl with
      | ret y =>
        obtain ⟨rfl, h', tk, rfl, g1, g2⟩ := hz
        repeat any_goals first | assumption | wp_step
        exact fin _ _ g1 g2
      | next => exact hz.elim
      | brk => exact hz.elim
      | cont => exact hz.elim
    · obtain ⟨ol, hol, hcl, nl, hdl⟩ := hl
      obtain ⟨ocls, odict, odata, oslots⟩ := ol
      simp only at hcl hdl
      subst hcl
      subst hdl
      have hol1 : (s.heap.push (newSet led)).get? l = some { cls := .type "list", dict := odict, data := .seq items nl, slots := oslots } := Heap.get?_push_of_some _ hol
      have q9 := PySem.F.sub_list_set
      have q10 := PySem.F.sub_list_frozenset
      have q11 : (Value.type "list" == Value.type "dict") = false := by decide
      have hl1 : (s.heap.push (newSet led)).IsList l items := ⟨_, hol1, rfl, nl, rfl⟩
      unfold Builtin.«set.__init__» noKeywords Builtin.Frozenset.updateFrom
      generalize hit : pyIter = IT
      wp_walk
      subst hit
      refine wpAny_pyIter_list hl1 (wpAny_bind (wpAny_runValue ?_))
      have ll : l < s.heap.objs.size := Heap.lt_size hol
      have calm : A.in1.in1.in1.handled = none := by simp [hh]
      have sz : (s.heap.push (newSet led)).objs.size = s.heap.objs.size + 1 := Heap.size_push _ _
      have n1 : l ≠ (s.heap.push (newSet led)).objs.size := by rw [sz]; exact Nat.ne_of_lt (Nat.lt_succ_of_lt ll)
      have n2 : s.heap.objs.size ∉ [(s.heap.push (newSet led)).objs.size, l] := by
        rw [sz]
        intro z
        simp only [List.mem_cons, List.not_mem_nil, or_false] at z
        exact z.elim (Nat.ne_of_lt (Nat.lt_succ_self _)) (Nat.ne_of_gt ll)
      have len : xs.length = items.size := by rw [← StrsAre.len_eq hx, Array.length_toList]
      refine set_turns ((Walks.list calm _ l n1 items).toS) s.heap.objs.size n2 xs len (fun i v hv => SS.strs_at hx i v (by rw [Array.getElem?_toList]; exact hv)) (by rw [← len]; exact hn) items.size 0 _ (by omega)
        ⟨⟨_, Heap.get?_push_size _ rfl, rfl, rfl⟩, (hl1.push _)⟩ ?first ?last
      case first =>
        have there := Heap.get?_push_of_some { cls := .type "list_iterator", data := .fields #[.ref l, .int 0 0] } here
        exact SetOf_congr ((setObjOf_fresh (knd := PySem.strKind prog w) led).setOf there (by unfold scanBound; omega)) (fun _ => rfl) rfl
      case last =>
        rintro ⟨h', g', d', tk', os'⟩ m hS
        obtain rfl : g' = s.gens := m.gens
        obtain rfl : d' = s.drawn := m.drawn
        obtain rfl : os' = s.os := m.os
        show wpAny _ _ _ _ _ _
        refine wpAny_pure ?_
        show wpAny _ _ (ret Value.none) _ _ _
        refine wpAny_pure ⟨rfl, h', tk', rfl, hS, fun b o hb q => ?_⟩
        refine m.heap b o (fun z => ?_) (Heap.get?_push_of_some _ (Heap.get?_push_of_some _ q))
        rw [sz] at z
        simp only [List.mem_cons, List.not_mem_nil, or_false] at z
        exact z.elim (Nat.ne_of_lt hb) (Nat.ne_of_lt (Nat.lt_succ_of_lt hb))
end
section
variable {X : Cx} {C : Ct} {W : WX} {pos p p2 q : Pos}
def tLenOnce (K : PySem.W.Frag) (ta : TE) : TE := fun σ H Q => ta σ H fun x H1 => ∃ l, ∃ xs : List Str, x = .ref l ∧ SqL K H1 l (xs.map V.str) ∧ xs.length ≤ 4000 ∧ Q (.int (once xs).length) H1
theorem pe_lenOnce {a : Expr} {ta : TE} (hc : X.calm = true) (hg : Gl X "len") (hm : X.mg "len" = none) (hg2 : Gl X "set") (hm2 : X.mg "set" = none) (ha : PE X a ta)
    (na : starEach [a] X.env = (false, eval a X.env) :: starEach [] X.env) : PE X (.Call (.Name "len" p) [.Call (.Name "set" p2) [a] [] q] [] pos) (tLenOnce X.K ta) := by
  refine ⟨fun pins s σ H Q I h => Call_ (ld_blt I hg hm boot_len (callWith_builtin1 (args_cons ?_ rfl) rfl rfl))⟩
  refine Call_ (ld_blt I hg2 hm2 boot_set (callWith_type1 (args_cons (thn (ha.run pins s σ H _ I h) fun v s1 z => args_nil ?_) na) na rfl))
  obtain ⟨x, H1, I1, r1, l, xs, rfl, hq, h1, q1⟩ := z
  cases r1
  obtain ⟨its, r, pl, hz⟩ := I1.list hq
  refine set_of_texts (I1.ok.hd hc) pl.isList (by simpa using strsAre_of r) (by unfold scanBound; omega) fun h' tk hS hk => args_nil ?_
  obtain ⟨o, es, ep, t, ho, hex, hd, _, _, _, hf, hn⟩ := hS
  have I2 : Inv X pins σ H1 { s1 with heap := h', toks := tk } := I1.kept fun b o e => hk b o (Heap.lt_size e) e
  have le := once_le _ xs rfl
  exact call_len_set ho hex hd hf (by rw [hn]; omega) ⟨.int (once xs).length, H1, I2.tok _, ⟨_, by rw [hn]⟩, q1⟩
def onceM (zs : List (List Nat)) : List (List Nat) := zs.foldl (fun acc x => if x ∈ acc then acc else acc ++ [x]) []
end
end Mi
namespace Mi
open PySem L2
structure Lk (d : Addr) (kx : List (Key × V)) (H H' : Hp) : Prop where
  ne : ∀ a, a ≠ d → H' a = H a
  at1 : Rd H d (.dK kx)
  at2 : Rd H' d (.dK kx)
theorem Rd.uniq {H : Hp} {a : Addr} {u o : HO} (h : Rd H a u) (g : Rd H a o) (hu : ∀ ob w, u ≠ .frz ob w) (ho : ∀ ob w, o ≠ .frz ob w) : u = o := by
  rcases h with h | ⟨x, h⟩ <;> rcases g with g | ⟨y, g⟩ <;> rw [h] at g <;> cases g
  · rfl
  · exact absurd rfl (hu _ _)
  · exact absurd rfl (ho _ _)
  · rfl
section
variable {C : Ct} {ι : Io} {H H' : Hp} {d : Addr} {kx : List (Key × V)}
theorem Lk.rd (l : Lk d kx H H') {a : Addr} {o : HO} (h : Rd H a o) (ho : ∀ ob w, o ≠ .frz ob w) : Rd H' a o := by
  by_cases e : a = d
  · subst e
    rw [Rd.uniq h l.at1 ho (fun _ _ z => nomatch z)]
    exact l.at2
  · rcases h with h | ⟨x, h⟩
    · exact .inl (by rw [l.ne a e]; exact h)
    · exact .inr ⟨x, by rw [l.ne a e]; exact h⟩
theorem Lk.same (l : Lk d kx H H') {a : Addr} {o : HO} (h : H a = some o) (ho : ∀ ob w, o ≠ .frz ob w) (hd : ∀ k, o ≠ .dK k) : H' a = some o := by
  rw [l.ne a ?_]; exact h
  intro e
  subst e
  exact hd _ (Rd.uniq (.inl h) l.at1 ho (fun _ _ z => nomatch z))
theorem Lk.ext (l : Lk d kx H H') {a : Addr} {φ : Heap → Prop} (h : H a = some (.ext φ)) : H' a = some (.ext φ) := l.same h (fun _ _ z => by cases z) (fun _ z => by cases z)
theorem CelR.lk (l : Lk d kx H H') {fr : List Str} {cl : List (Str × Addr)} {vs : List V} (h : CelR ι H fr cl vs) : CelR ι H' fr cl vs :=
  ⟨h.len, h.dom, h.inj, fun i y q => by
    obtain ⟨c, v, e1, e2, e3⟩ := h.has i y q
    exact ⟨c, v, e1, e2, l.ext e3⟩⟩
mutual
theorem VR.lk (l : Lk d kx H H') : ∀ (x : MV) (v : V), VR C ι H x v → VR C ι H' x v
  | .non, v, h => by simp only [VR] at h ⊢; exact h
  | .bl _, v, h => by simp only [VR] at h ⊢; exact h
  | .int _, v, h => by simp only [VR] at h ⊢; exact h
  | .str _, v, h => by simp only [VR] at h ⊢; exact h
  | .ty _, v, h => by simp only [VR] at h ⊢; exact h
  | .tup xs, v, h => by
    simp only [VR] at h ⊢
    obtain ⟨a, vs, rfl, h1, h2⟩ := h
    exact ⟨a, vs, rfl, h1.imp (fun z => ⟨z.1, l.rd z.2 (fun _ _ z => nomatch z)⟩) id, VRs.lk l xs vs h2⟩
  | .lst xs, v, h => by
    simp only [VR] at h ⊢
    obtain ⟨a, vs, rfl, h0, h1, h2⟩ := h
    exact ⟨a, vs, rfl, h0, l.same h1 (fun _ _ z => nomatch z) (fun _ z => nomatch z), VRs.lk l xs vs h2⟩
  | .rol xs, v, h => by
    simp only [VR] at h ⊢
    obtain ⟨a, vs, rfl, h1, h2⟩ := h
    exact ⟨a, vs, rfl, h1.imp (fun z => ⟨z.1, l.rd z.2 (fun _ _ z => nomatch z)⟩) id, VRs.lk l xs vs h2⟩
  | .dic kvs, v, h => by
    simp only [VR] at h ⊢
    obtain ⟨a, vs, rfl, h0, h1, h2⟩ := h
    exact ⟨a, vs, rfl, h0, l.rd h1 (fun _ _ z => nomatch z), KRs.lk l kvs vs h2⟩
  | .ins c fs, v, h => by
    simp only [VR] at h ⊢
    obtain ⟨a, dx, vs, rfl, h0, h1, h2⟩ := h
    exact ⟨a, dx, vs, rfl, h0, l.same h1 (fun _ _ z => nomatch z) (fun _ z => nomatch z), FRs.lk l fs vs h2⟩
  | .ref _, v, h => by simp only [VR] at h ⊢; exact h
  | .fn _, v, h => by simp only [VR] at h ⊢; exact h
  | .clo g cs, v, h => by
    simp only [VR] at h ⊢
    obtain ⟨f, c, cl, vs, h1, h2, h3, h4, h5, h6, h7⟩ := h
    exact ⟨f, c, cl, vs, h1, h2, l.ext h3, h4, l.ext h5, h6.lk l, VRs.lk l cs vs h7⟩
theorem VRs.lk (l : Lk d kx H H') : ∀ (x : List MV) (v : List V), VRs C ι H x v → VRs C ι H' x v
  | [], v, h => by simpa only [VRs] using h
  | x :: r, v, h => by
    simp only [VRs] at h ⊢
    obtain ⟨u, w, h1, h2, h3⟩ := h
    exact ⟨u, w, h1, VR.lk l x u h2, VRs.lk l r w h3⟩
theorem KRs.lk (l : Lk d kx H H') : ∀ (x : List (MV × MV)) (v : List (Key × V)), KRs C ι H x v → KRs C ι H' x v
  | [], v, h => by simpa only [KRs] using h
  | x :: r, v, h => by
    simp only [KRs] at h ⊢
    obtain ⟨u, w, h1, h2, h3⟩ := h
    exact ⟨u, w, h1, KR.lk l x u h2, KRs.lk l r w h3⟩
theorem KR.lk (l : Lk d kx H H') : ∀ (x : MV × MV) (v : Key × V), KR C ι H x v → KR C ι H' x v
  | (k, x), v, h => by
    simp only [KR] at h ⊢
    exact ⟨h.1, VR.lk l x v.2 h.2⟩
theorem FRs.lk (l : Lk d kx H H') : ∀ (x : List (Str × MV)) (v : List (Str × V)), FRs C ι H x v → FRs C ι H' x v
  | [], v, h => by simpa only [FRs] using h
  | x :: r, v, h => by
    simp only [FRs] at h ⊢
    obtain ⟨u, w, h1, h2, h3⟩ := h
    exact ⟨u, w, h1, FR.lk l x u h2, FRs.lk l r w h3⟩
theorem FR.lk (l : Lk d kx H H') : ∀ (x : Str × MV) (v : Str × V), FR C ι H x v → FR C ι H' x v
  | (k, x), v, h => by
    simp only [FR] at h ⊢
    exact ⟨h.1, VR.lk l x v.2 h.2⟩
end
theorem TRs.lk (l : Lk d kx H H') : ∀ (x : List (MV × MV)) (v : List (NK × Addr × V)), TRs C ι H x v → TRs C ι H' x v
  | [], v, h => h
  | x :: r, v, h => by
    obtain ⟨u, w, h1, h2, h3⟩ := h
    exact ⟨u, w, h1, ⟨h2.1, VR.lk l _ _ h2.2.1, VR.lk l _ _ h2.2.2⟩, TRs.lk l r w h3⟩
theorem TbR.lk (l : Lk d kx H H') {a : Addr} {nm : Nat → Nat → Str} (h : TbR ι H a nm) : TbR ι H' a nm := by
  obtain ⟨ps, h1, h2, h3⟩ := h
  refine ⟨ps, l.same h1 (fun _ _ z => nomatch z) (fun _ z => nomatch z), h2, fun pos cv hc => ?_⟩
  obtain ⟨c, e1, e2, e3⟩ := h3 pos cv hc
  exact ⟨c, e1, e2, l.ext e3⟩
theorem EnvR.lk (l : Lk d kx H H') {env : Env} {σ : L2.St} (h : EnvR C ι H env σ) : EnvR C ι H' env σ :=
  ⟨h.1, fun i x q => by
    obtain ⟨v, h1, h2⟩ := h.2 i x q
    exact ⟨v, h1, VR.lk l _ _ h2⟩⟩
theorem StR.lk (l : Lk d kx H H') {S : Sto} (hd : d ∉ ι) (h : StR C ι S H) : StR C ι S H' := by
  refine ⟨h.len, h.nd, fun k o a e1 e2 => ?_, fun d' fs fx e => ?_⟩
  rotate_left
  · obtain ⟨z1, z2, z3⟩ := h.ex d' fs fx e
    exact ⟨z1, l.same z2 (fun _ _ z => nomatch z) (fun _ z => nomatch z), FRs.lk l _ _ z3⟩
  have q := h.ob k o a e1 e2
  have ne : a ≠ d := fun z => hd (by rw [← z]; exact List.mem_of_getElem? e2)
  cases o with
  | lst xs => obtain ⟨vs, h1, h2⟩ := q; exact ⟨vs, by rw [l.ne a ne]; exact h1, VRs.lk l _ _ h2⟩
  | dic xs => obtain ⟨vs, h1, h2⟩ := q; exact ⟨vs, by rw [l.ne a ne]; exact h1, KRs.lk l _ _ h2⟩
  | ins c xs => obtain ⟨dx, vs, h1, h2⟩ := q; exact ⟨dx, vs, by rw [l.ne a ne]; exact h1, FRs.lk l _ _ h2⟩
  | td xs => obtain ⟨vs, h1, h2⟩ := q; exact ⟨vs, by rw [l.ne a ne]; exact h1, TRs.lk l _ _ h2⟩
  | tb t => exact ⟨q.1, q.2.lk l⟩
theorem lk_on {od : Obj} (h : H d = some (.dK kx)) : Lk d kx H (upd H d (.frz od (.dK kx))) :=
  ⟨fun a e => upd_ne e, .inl h, .inr ⟨od, upd_same⟩⟩
theorem lk_off {od : Obj} (h : H d = some (.frz od (.dK kx))) : Lk d kx H (upd H d (.dK kx)) :=
  ⟨fun a e => upd_ne e, .inr ⟨od, h⟩, .inl upd_same⟩
theorem Ext.unlock {ι' : Io} {od : Obj} (h : H d = some (.dK kx)) (hd : d ∉ ι) (e : Ext ι (L2.upd H d (.frz od (.dK kx))) ι' H') : d ∉ ι' ∧ H' d = some (.frz od (.dK kx)) ∧ Ext ι H ι' (L2.upd H' d (.dK kx)) := by
  have h2 := e.old d _ upd_same hd
  refine ⟨e.notin hd upd_same, h2, e.pre, fun a ha => ?_, fun a o q ha => ?_⟩
  · rcases e.new a ha with z | z
    · exact .inl z
    · right
      by_cases ed : a = d
      · subst ed; rw [upd_same] at z; cases z
      · rw [upd_ne ed] at z; exact z
  · by_cases ed : a = d
    · subst ed; rw [h] at q; cases q; exact .inl upd_same
    · rw [upd_ne ed]
      exact e.oldT a o (by rw [upd_ne ed]; exact q) ha
end
def itemsM (n : Nat) (kvs : List (MV × MV)) : List MV := match n with
  | 0 => kvs.map fun p => .tup [p.1, p.2]
  | 1 => kvs.map fun p => p.2
  | _ => kvs.map fun p => p.1
theorem KRs.at {C : Ct} {ι : Io} {H : Hp} : ∀ {kvs : List (MV × MV)} {kx : List (Key × V)} {i : Nat} {k : Key} {v : V}, KRs C ι H kvs kx → kx[i]? = some (k, v) → ∃ p, kvs[i]? = some p ∧ KR C ι H p (k, v)
  | [], kx, i, k, v, h, e => by simp only [KRs] at h; subst h; simp at e
  | p :: r, kx, i, k, v, h, e => by
    simp only [KRs] at h
    obtain ⟨q, w, rfl, h1, h2⟩ := h
    cases i with
    | zero => simp at e; subst e; exact ⟨p, rfl, h1⟩
    | succ i => obtain ⟨p', e1, e2⟩ := KRs.at h2 (by simpa using e); exact ⟨p', by simpa using e1, e2⟩
theorem kr_key {C : Ct} {ι : Io} {H : Hp} {p : MV × MV} {k : Key} {v : V} (h : KR C ι H p (k, v)) : VR C ι H p.1 (kV k) := by
  obtain ⟨a, b⟩ := p
  simp only [KR] at h
  obtain ⟨h1, e⟩ := keyR_eq h.1
  subst e
  cases a with
  | int i => simp only [VR, keyOf, kV]
  | str i => simp only [VR, keyOf, kV]
  | _ => cases h1
theorem kr_val {C : Ct} {ι : Io} {H : Hp} {p : MV × MV} {k : Key} {v : V} (h : KR C ι H p (k, v)) : VR C ι H p.2 v := by
  obtain ⟨a, b⟩ := p
  simp only [KR] at h
  exact h.2
theorem itemsM_len (n : Nat) (kvs : List (MV × MV)) : (itemsM n kvs).length = kvs.length := by
  unfold itemsM; split <;> simp
def ItD (n : Nat) (d : Addr) (o : Obj) (kx : List (Key × V)) : It := match n with
  | 0 => Iti d o kx
  | 1 => Itd d o kx
  | _ => Itk d o kx
theorem walkD {C : Ct} {ι : Io} {H : Hp} {d : Addr} {o : Obj} {kvs : List (MV × MV)} {kx : List (Key × V)} (n : Nat) (hd : d ∉ ι) (h : H d = some (.frz o (.dK kx))) (r : KRs C ι H kvs kx) : WalkOk C ι H ⟨itemsM n kvs, []⟩ (ItD n d o kx) := by
  have hl : (itemsM n kvs).length = kx.length := by rw [itemsM_len, r.len]
  have hG : ∀ ι' S' H', Ext ι H ι' H' → StR C ι' S' H' → (Itv.mk (itemsM n kvs) []).chk S' → H' d = some (.frz o (.dK kx)) := fun ι' S' H' e _ _ => e.old d _ h hd
  match n with
  | 0 =>
    refine ⟨fun H => H d = some (.frz o (.dK kx)), fun i H x H' => ∃ T k v, kx[i]? = some (k, v) ∧ x = .ref T ∧ H T = none ∧ H' = upd H T (.tup [kV k, v]), ?_, hG, ?_⟩
    · show Walk (Iti d o kx) (itemsM 0 kvs).length _ _
      rw [hl]
      exact ⟨fun _ _ hi q => ⟨q, hi⟩, fun _ q => ⟨q, Nat.le_refl _⟩, fun _ _ _ _ _ _ y => y⟩
    · rintro i ι' S' H1 x H2 e s' c hi ⟨T, k, v, h1, rfl, h3, rfl⟩
      obtain ⟨p, e1, e2⟩ := (KRs.mono e _ _ r).at h1
      obtain ⟨x1, x2, x3⟩ := pairNew s' h3 (kr_key e2) (kr_val e2)
      exact ⟨.tup [p.1, p.2], by simp [itemsM, e1], x1, x2, x3⟩
  | 1 =>
    refine ⟨fun H => H d = some (.frz o (.dK kx)), fun i H x H' => H' = H ∧ ∃ k, kx[i]? = some (k, x), ?_, hG, ?_⟩
    · show Walk (Itd d o kx) (itemsM 1 kvs).length _ _
      rw [hl]
      exact walk_values
    · rintro i ι' S' H1 x H2 e s' c hi ⟨rfl, k, h1⟩
      obtain ⟨p, e1, e2⟩ := (KRs.mono e _ _ r).at h1
      exact ⟨p.2, by simp [itemsM, e1], .refl, s', kr_val e2⟩
  | n + 2 =>
    refine ⟨fun H => H d = some (.frz o (.dK kx)), fun i H x H' => H' = H ∧ ∃ k v, kx[i]? = some (k, v) ∧ x = kV k, ?_, hG, ?_⟩
    · show Walk (Itk d o kx) (itemsM (n + 2) kvs).length _ _
      rw [hl]
      exact walk_keys
    · rintro i ι' S' H1 x H2 e s' c hi ⟨rfl, k, v, h1, rfl⟩
      obtain ⟨p, e1, e2⟩ := (KRs.mono e _ _ r).at h1
      exact ⟨p.1, by simp [itemsM, e1], .refl, s', kr_key e2⟩
theorem peOr {X : Cx} {e : Expr} {t t' : TE} (h : PE X e t) (g : PE X e t') : PE X e (fun σ H Q => t σ H Q ∨ t' σ H Q) :=
  ⟨fun pins s σ H Q I q => q.elim (h.run pins s σ H Q I) (g.run pins s σ H Q I)⟩
/-- a comprehension over the dict that a local holds: 0 items, 1 values, 2 keys -/
noncomputable def mCompD (mu : Bool) (n i : Nat) (vs : List Nat) (g : MG) (c : MB) (e : ME) : ME := fun env S => match env[i]? with
  | some (some (.dic kvs)) => noX ((compL ⟨itemsM n kvs, []⟩ g c e S.length (itemsM n kvs) (wipeE env vs) (S ++ [.lst []])).bind fun _ S2 => compE mu S S2)
  | _ => .bad
section
variable {X : Cx} {C : Ct} {W : WX} {k : Nat} {pos apos cpos p : Pos}
theorem compD_imp {mu : Bool} {n i : Nat} {g : MG} {ws vs : List Nat} {c : MB} {e : ME} {tI : TE → TI} {σ : L2.St} {H : Hp} {Q : VK} (hw : ∀ i ∈ ws, i ∈ vs)
    (hI : ∀ (σ : L2.St) (H : Hp) (R : It → Hp → Prop) (d : Addr) (o : Obj) (kx : List (Key × V)), σ[i]? = some (some (.ref d)) → H d = some (.frz o (.dK kx)) → R (ItD n d o kx) H → tI (tVar i) σ H R)
    (h : tM C W (mCompD mu n i vs g c e) σ H Q) :
    tLockE (tLc (tI (tVar i)) (tMG C ws g) (tMB C W0 c) (tM C W0 e) vs) σ H Q ∨ tLc (tI (tVar i)) (tMG C ws g) (tMB C W0 c) (tM C W0 e) vs σ H Q := by
  obtain ⟨ι, env, S, he, hs, hp⟩ := h
  unfold mCompD at hp
  split at hp
  · rename_i kvs ei
    obtain ⟨v, hv, r⟩ := he.2 i _ (by rw [ei])
    simp only [VR] at r
    obtain ⟨d, kx, rfl, hd, hrd, hkr⟩ := r
    generalize er : ((compL ⟨itemsM n kvs, []⟩ g c e S.length (itemsM n kvs) (wipeE env vs) (S ++ [.lst []])).bind fun _ S2 => compE mu S S2) = rr at hp
    cases rr with
    | bad => exact hp.elim
    | ex x S2 => exact hp.elim
    | ok y S2 =>
      rcases hrd with h0 | ⟨o, h0⟩
      · left
        refine ⟨d, .dK kx, h0, trivial, fun od => ?_⟩
        have l := lk_on (od := od) h0
        have wk := walkD (C := C) n hd (upd_same (H := H) (a := d) (o := .frz od (.dK kx))) (KRs.lk l _ _ hkr)
        refine hI _ _ _ d od kx hv upd_same ?_
        refine comp_core (W := W) (mu := mu) (t := ⟨itemsM n kvs, []⟩) (g := g) (c := c) (e := e) (Q := fun v H' => H' d = some (.frz od (.dK kx)) ∧ Q v (upd H' d (.dK kx))) hw (he.lk l) (hs.lk l hd) wk ?_
        show Post C W (VR C) ι σ _ ((compL ⟨itemsM n kvs, []⟩ g c e S.length (itemsM n kvs) (wipeE env vs) (S ++ [.lst []])).bind fun _ S2 => compE mu S S2) _
        rw [er]
        intro ι2 H2 u e2 s2 r2
        obtain ⟨z1, z2, z3⟩ := Ext.unlock h0 hd e2
        exact ⟨z2, hp ι2 _ u z3 (s2.lk (lk_off z2) z1) (VR.lk (lk_off z2) _ _ r2)⟩
      · right
        refine hI _ _ _ d o kx hv h0 ?_
        refine comp_core (W := W) (mu := mu) (t := ⟨itemsM n kvs, []⟩) (g := g) (c := c) (e := e) (Q := Q) hw he hs (walkD (C := C) n hd h0 hkr) ?_
        show Post C W (VR C) ι σ _ ((compL ⟨itemsM n kvs, []⟩ g c e S.length (itemsM n kvs) (wipeE env vs) (S ++ [.lst []])).bind fun _ S2 => compE mu S S2) _
        rw [er]
        exact hp
  · exact hp.elim
theorem je_lcItems (mu : Bool) {i : Nat} {x : Str} {elt : Expr} {elts : List Expr} {kk : Nat} {tpos : Pos} {ifs : List Expr} {scope : Scope} {own : List (Str × Nat)} {g : MG} {ws : List Nat} {c : MB} {e : ME} (B : Bx C W k X) (hN : X.N.Nodup) (ok : BlkOk X.N X.env.scope scope own)
    (hg : ∀ (Y : Cx), Bx C W0 k Y → Y.N = X.N → (∃ (s : Shared) (H : Hp) (A : Addr) (cl : List (Str × Addr)) (fp : List Addr), Y = X.blk s H scope (compEnvC scope cl A X.env) fp) → PG Y (.Tuple elts kk tpos) (tMG C ws g))
    (ht : ∀ (s : Shared) (H : Hp) (A : Addr) (cl : List (Str × Addr)) (fp : List Addr), Bx C W0 k (X.blk s H scope (compEnvC scope cl A X.env) fp) → PTs (X.blk s H scope (compEnvC scope cl A X.env) fp) ifs (tMB C W0 c))
    (hel : ∀ (s : Shared) (H : Hp) (A : Addr) (cl : List (Str × Addr)) (fp : List Addr), Bx C W0 k (X.blk s H scope (compEnvC scope cl A X.env) fp) → PE (X.blk s H scope (compEnvC scope cl A X.env) fp) elt (tM C W0 e)) (hi : X.N[i]? = some x := by rfl) (hv : Vis X.env.scope x := by first | exact Or.inl rfl | exact Or.inr (Or.inl rfl) | exact Or.inr (Or.inr rfl)) (hdb : (x == ("__debug__" : Str)) = false := by decide) (hcd : (x == ("__classdict__" : Str)) = false := by decide)
    (hw : ∀ i ∈ ws, i ∈ own.map (·.2) := by decide) (hbase : attributeBase (.Name x p) "items" X.env (eval (.Name x p) X.env) = eval (.Name x p) X.env := by rfl) (hline : (apos.endLine == cpos.line) = true := by rfl)
    (hs : ∀ y, foldedSetIterable (.Call (.Attribute (.Name x p) "items" apos) [] [] cpos) X.env y = pure y := by intro _; rfl) :
    PE X (.ListComp elt [⟨.Tuple elts kk tpos, .Call (.Attribute (.Name x p) "items" apos) [] [] cpos, ifs, 0⟩] scope pos) (tM C W (mCompD mu 0 i (own.map (·.2)) g c e)) := by
  have base := pe_lc (pos := pos) B.calm hN (pi_items (tpos := tpos) (elts := elts) (kk := kk) (pv (pos := p) i hi hv hdb hcd) hbase hline) ok (fun s H A cl fp => hg _ (bx_blk B) rfl ⟨s, H, A, cl, fp, rfl⟩) (fun s H A cl fp => ht s H A cl fp (bx_blk B)) (fun s H A cl fp => hel s H A cl fp (bx_blk B)) hs
  exact peImp (peOr (pe_lock base) base) fun σ H Q h => compD_imp (n := 0) (tI := iItems) hw (fun σ H R d o kx h1 h2 h3 => ⟨.ref d, h1, d, o, kx, rfl, h2, h3⟩) h
end
end Mi
namespace Mi
open PySem L2 TL
section
variable {X : Cx} {C : Ct} {W : WX} {pos p p2 q : Pos} {k : Nat}
def mNeg (a : ME) : ME := fun env S => (a env S).bind fun x S1 => match x with
  | .int i => .ok (.int (-i)) S1
  | _ => .bad
theorem je_neg {e : Expr} {a : ME} (h : PE X e (tM C W a)) : PE X (.UnaryOp .USub e pos) (tM C W (mNeg a)) :=
  peImp (pe_un un_neg h) fun σ H Q h => by
    obtain ⟨ι, env, S, he, hs, hp⟩ := h
    refine ⟨ι, env, S, he, hs, Post.bind hp fun x S1 ι1 H1 v e1 s1 q1 p1 => ?_⟩
    split at p1
    · simp only [VR] at q1
      exact ⟨_, q1, p1 ι1 H1 _ .refl s1 (by simp only [VR])⟩
    · exact p1.elim
def mkD (mu : Bool) (kvs : List (MV × MV)) (S : Sto) : Res MV := if mu then .ok (.ref S.length) (S ++ [.dic kvs]) else .ok (.dic kvs) S
theorem mkD_ok {mu : Bool} {kvs : List (MV × MV)} {kx : List (Key × V)} {ι : Io} {σ : L2.St} {S : Sto} {H : Hp} {Q : VK} (hs : StR C ι S H) (r : KRs C ι H kvs kx) (hp : Post C W (VR C) ι σ H (mkD mu kvs S) Q) : ∀ p, H p = none → Q (.ref p) (upd H p (.dK kx)) := by
  intro p hn
  cases mu with
  | true =>
    have e := Ext.push (o := .dK kx) hs hn
    refine hp (ι ++ [p]) _ _ e (hs.push hn ⟨kx, upd_same, KRs.mono e _ _ r⟩) ?_
    simp only [VR]
    exact ⟨p, rfl, by rw [← hs.len]; simp⟩
  | false =>
    have e := Ext.upd (o := .dK kx) hs hn
    refine hp ι _ _ e (hs.upd hn) ?_
    simp only [VR]
    exact ⟨p, kx, rfl, hs.fresh hn, .inl upd_same, KRs.mono e _ _ r⟩
def mDic0 (mu : Bool) : ME := fun _ S => mkD mu [] S
theorem je_dic0 (mu : Bool) : PE X (.Dict [] [] pos) (tM C W (mDic0 mu)) := peImp pe_dnewK fun σ H Q h => by
  obtain ⟨ι, env, S, he, hs, hp⟩ := h
  exact mkD_ok hs (by simp only [KRs]) hp
/-- dict(d), dict(pairs) -/
def pairsOf : List MV → Option (List (MV × MV))
  | [] => some []
  | .tup [x, y] :: r => if isKey x = true then (pairsOf r).map ((x, y) :: ·) else none
  | _ => none
def fDict (mu : Bool) (xs : List MV) (S : Sto) : Res MV := match xs with
  | [x] => (match asD S x with
    | some kvs => mkD mu kvs S
    | none => match (asL S x).bind pairsOf with
      | some kvs => mkD mu (mergeKM [] kvs) S
      | none => .bad)
  | _ => .bad
def rDictD : List V → Hp → VK → Prop := fun xs H Q => ∃ (a : Addr) (kvs : List (Key × V)), xs = [.ref a] ∧ Rd H a (.dK kvs) ∧ ∀ p, H p = none → Q (.ref p) (upd H p (.dK kvs))
def rDictP (K : PySem.W.Frag) : List V → Hp → VK → Prop := fun xs H Q => ∃ (a : Addr) (ps : List Addr) (kvs : List (Key × V)), xs = [.ref a] ∧ SqL K H a (ps.map V.ref) ∧ Paired (fun p kv => SqT K H p [kV kv.1, kv.2]) ps kvs ∧
    ∀ p, H p = none → Q (.ref p) (upd H p (.dK (mergeK [] kvs)))
theorem call_dictM (hc : X.calm = true) : CallR X (.type "dict") (fun xs H Q => rDictD xs H Q ∨ rDictP X.K xs H Q) := CallR.or call_dictD (call_dictP hc)
theorem pairsOf_ok {ι : Io} {H : Hp} : ∀ {xs : List MV} {vs : List V} {kvs : List (MV × MV)}, VRs C ι H xs vs → pairsOf xs = some kvs → ∃ (ps : List Addr) (kx : List (Key × V)), vs = ps.map V.ref ∧ Paired (fun p kv => SqT C.K H p [kV kv.1, kv.2]) ps kx ∧ KRs C ι H kvs kx
  | [], vs, kvs, r, h => by
    simp only [VRs] at r
    simp only [pairsOf, Option.some.injEq] at h
    subst r; subst h
    exact ⟨[], [], rfl, .nil, by simp only [KRs]⟩
  | .tup [x, y] :: r, vs, kvs, rr, h => by
    simp only [VRs, VR] at rr
    obtain ⟨v, w, rfl, ⟨a, us, rfl, h1, h2⟩, h3⟩ := rr
    obtain ⟨ux, w2, rfl, rx, uy, w3, rfl, ry, rfl⟩ := h2
    simp only [pairsOf] at h
    split at h
    · rename_i hk
      cases e : pairsOf r with
      | none => rw [e] at h; cases h
      | some ks =>
        rw [e] at h
        simp only [Option.map_some, Option.some.injEq] at h
        subst h
        obtain ⟨ps, kx, rfl, g1, g2⟩ := pairsOf_ok h3 e
        have ek := keyOf_ok rx hk
        refine ⟨a :: ps, (keyOf x, uy) :: kx, rfl, .cons (by rw [← ek]; exact h1.sq) g1, ?_⟩
        simp only [KRs]
        exact ⟨_, _, rfl, by simp only [KR]; exact ⟨keyR_of hk, ry⟩, g2⟩
    · cases h
  | .non :: _, _, _, _, h => by simp [pairsOf] at h
  | .bl _ :: _, _, _, _, h => by simp [pairsOf] at h
  | .int _ :: _, _, _, _, h => by simp [pairsOf] at h
  | .str _ :: _, _, _, _, h => by simp [pairsOf] at h
  | .ty _ :: _, _, _, _, h => by simp [pairsOf] at h
  | .lst _ :: _, _, _, _, h => by simp [pairsOf] at h
  | .rol _ :: _, _, _, _, h => by simp [pairsOf] at h
  | .dic _ :: _, _, _, _, h => by simp [pairsOf] at h
  | .ins _ _ :: _, _, _, _, h => by simp [pairsOf] at h
  | .ref _ :: _, _, _, _, h => by simp [pairsOf] at h
  | .fn _ :: _, _, _, _, h => by simp [pairsOf] at h
  | .clo _ _ :: _, _, _, _, h => by simp [pairsOf] at h
  | .tup [] :: _, _, _, _, h => by simp [pairsOf] at h
  | .tup [_] :: _, _, _, _, h => by simp [pairsOf] at h
  | .tup (_ :: _ :: _ :: _) :: _, _, _, _, h => by simp [pairsOf] at h
theorem cm_dict (mu : Bool) : CallM C (fDict mu) (fun xs H Q => rDictD xs H Q ∨ rDictP C.K xs H Q) := by
  intro W ι σ S H xs vs Q hs hr hp
  unfold fDict at hp
  split at hp
  · obtain ⟨v, rfl, r⟩ := vrs1 hr
    split at hp
    · rename_i kvs e
      obtain ⟨a, kx, rfl, g1, g2⟩ := asD_ok hs r e
      exact .inl ⟨a, kx, rfl, g1, mkD_ok hs g2 hp⟩
    · split at hp
      · rename_i kvs e
        cases el : asL S _ with
        | none => rw [el] at e; cases e
        | some ys =>
          rw [el] at e
          obtain ⟨a, ws, rfl, g1, g2⟩ := asL_ok hs r el
          obtain ⟨ps, kx, rfl, g3, g4⟩ := pairsOf_ok g2 e
          exact .inr ⟨a, ps, kx, rfl, g1, g3, mkD_ok hs (KRs.merge g4 (by simp only [KRs])) hp⟩
      · exact hp.elim
  · exact hp.elim
/-- list(x): of a dict its keys -/
def fListA (mu : Bool) (xs : List MV) (S : Sto) : Res MV := match xs with
  | [x] => (match asD S x with
    | some kvs => mkL mu (kvs.map fun p => p.1) S
    | none => match asSq S x with
      | some ys => mkL mu ys S
      | none => .bad)
  | _ => .bad
def rListK : List V → Hp → VK → Prop := fun xs H Q => ∃ (a : Addr) (kvs : List (Key × V)), xs = [.ref a] ∧ Rd H a (.dK kvs) ∧ ∀ p, H p = none → Q (.ref p) (upd H p (.lst (kvs.map fun kv => kV kv.1)))
theorem call_listA (hc : X.calm = true) : CallR X (.type "list") (fun xs H Q => rListK xs H Q ∨ rListM X.K xs H Q) := CallR.or (call_listD hc) call_listM
theorem KRs.keys {ι : Io} {H : Hp} : ∀ {kvs : List (MV × MV)} {kx : List (Key × V)}, KRs C ι H kvs kx → VRs C ι H (kvs.map fun p => p.1) (kx.map fun kv => kV kv.1)
  | [], kx, h => by simp only [KRs] at h; subst h; simp only [List.map_nil, VRs]
  | p :: r, kx, h => by
    simp only [KRs] at h
    obtain ⟨⟨key, v⟩, w, rfl, h1, h2⟩ := h
    simp only [List.map_cons, VRs]
    exact ⟨_, _, rfl, kr_key h1, KRs.keys h2⟩
theorem cm_listA (mu : Bool) : CallM C (fListA mu) (fun xs H Q => rListK xs H Q ∨ rListM C.K xs H Q) := by
  intro W ι σ S H xs vs Q hs hr hp
  unfold fListA at hp
  split at hp
  · obtain ⟨v, rfl, r⟩ := vrs1 hr
    split at hp
    · rename_i kvs e
      obtain ⟨a, kx, rfl, g1, g2⟩ := asD_ok hs r e
      exact .inl ⟨a, kx, rfl, g1, mkL_ok hs g2.keys hp⟩
    · split at hp
      · rename_i ys e
        obtain ⟨a, ws, rfl, g1, g2⟩ := asSq_ok hs r e
        exact .inr ⟨a, ws, rfl, g1, mkL_ok hs g2 hp⟩
      · exact hp.elim
  · exact hp.elim
def sDPutM (o i m : ME) : MSt := fun env S => sBind (m env S) env fun y S1 => sBind (o env S1) env fun x S2 => sBind (i env S2) env fun j S3 => match x with
  | .ref l => (match S3[l]? with
    | some (.dic kvs) => if isKey j = true ∧ kvs.length < sizeLine then .nx env (S3.set l (.dic (putKM kvs j y))) else .bad
    | _ => .bad)
  | _ => .bad
theorem js_dput {oe ie ee : Expr} {pos' : Pos} {o i m : ME} (B : Bx C W k X) (ho : PE X oe (tM C W o)) (hi : PE X ie (tM C W i)) (he : PE X ee (tM C W m)) (hs : swapsWith ee (some (.Subscript oe ie pos')) pos.line X.env = pure false := by rfl) :
    PS X (.Assign [.Subscript oe ie pos'] ee pos) (tMS C W (sDPutM o i m)) :=
  psImp (ps_dput B.u1 ho hi he hs) fun D σ H h => by
    obtain ⟨ι, env, S, he, hs, hp⟩ := h
    refine ⟨ι, env, S, he, hs, SPost.bind he hp fun y S1 ι1 H1 u e1 s1 q1 p1 => ?_⟩
    refine ⟨ι1, env, S1, he.mono e1, s1, SPost.bind (he.mono e1) p1 fun x S2 ι2 H2 v e2 s2 q2 p2 => ?_⟩
    refine ⟨ι2, env, S2, (he.mono e1).mono e2, s2, SPost.bind ((he.mono e1).mono e2) p2 fun j S3 ι3 H3 w e3 s3 q3 p3 => ?_⟩
    split at p3
    · rename_i l
      split at p3
      · rename_i kvs ek
        split at p3
        · rename_i hh
          have q2 := q2.mono e3
          simp only [VR] at q2
          obtain ⟨a, rfl, hl⟩ := q2
          obtain ⟨kx, g1, g2⟩ := s3.ob l _ a ek hl
          refine ⟨a, _, rfl, .inl ⟨kx, keyOf j, g1, keyOf_ok q3 hh.1, by rw [g2.len]; exact hh.2, rfl⟩, ?_⟩
          have ex : Ext ι3 H3 ι3 (upd H3 a (.dK (putK kx (keyOf j) u))) := Ext.set hl
          exact p3 ι3 _ σ ex (s3.set hl (m := .dic (putKM kvs j y)) ⟨_, upd_same, KRs.mono ex _ _ (KRs.put hh.1 ((q1.mono e2).mono e3) g2)⟩) ((((he.mono e1).mono e2).mono e3).mono ex)
        · exact p3.elim
      · exact p3.elim
    · exact p3.elim
def mLenOnce (a : ME) : ME := fun env S => (a env S).bind fun x S1 => match (asL S1 x).bind strsOf with
  | some zs => if zs.length ≤ 4000 then .ok (.int (onceM zs).length) S1 else .bad
  | none => .bad
theorem once_map (zs : List (List Nat)) : once (zs.map st) = (onceM zs).map st := by
  have key : ∀ (zs acc : List (List Nat)), List.foldl (fun acc x => if x ∈ acc then acc else acc ++ [x]) (acc.map st) (zs.map st) = (List.foldl (fun acc x => if x ∈ acc then acc else acc ++ [x]) acc zs).map st := by
    intro zs
    induction zs with
    | nil => intro acc; rfl
    | cons z r ih =>
      intro acc
      simp only [List.map_cons, List.foldl_cons]
      have hm : st z ∈ acc.map st ↔ z ∈ acc := ⟨fun h => by obtain ⟨y, h1, h2⟩ := List.mem_map.mp h; rw [← st_inj h2]; exact h1, fun h => List.mem_map.mpr ⟨z, h, rfl⟩⟩
      by_cases e : z ∈ acc
      · rw [if_pos (hm.mpr e), if_pos e, ih]
      · rw [if_neg (fun z => e (hm.mp z)), if_neg e, ← ih]
        simp
  exact key zs []
theorem je_lenOnce {e : Expr} {a : ME} (B : Bx C W k X) (hm : X.mg "len" = none) (hm2 : X.mg "set" = none) (h : PE X e (tM C W a)) (hg : Gl X "len" := by rfl) (hg2 : Gl X "set" := by rfl) (na : starEach [e] X.env = (false, eval e X.env) :: starEach [] X.env := by rfl) : PE X (.Call (.Name "len" p) [.Call (.Name "set" p2) [e] [] q] [] pos) (tM C W (mLenOnce a)) :=
  peImp (pe_lenOnce B.calm hg hm hg2 hm2 h na) fun σ H Q h => by
    obtain ⟨ι, env, S, he, hs, hp⟩ := h
    refine ⟨ι, env, S, he, hs, Post.bind hp fun x S1 ι1 H1 v e1 s1 q1 p1 => ?_⟩
    split at p1
    · rename_i zs ez
      split at p1
      · rename_i hl
        cases el : asL S1 x with
        | none => rw [el] at ez; cases ez
        | some ys =>
          rw [el] at ez
          obtain ⟨a, ws, rfl, g1, g2⟩ := asL_ok s1 q1 el
          have := strsOf_ok g2 ez
          subst this
          refine ⟨a, zs.map st, rfl, by rw [B.hK]; exact g1, by rw [List.length_map]; exact hl, ?_⟩
          rw [once_map, List.length_map]
          exact p1 ι1 H1 _ .refl s1 (by simp only [VR])
      · exact p1.elim
    · exact p1.elim
def fReverse (x : MV) (vs : List MV) (S : Sto) : Res MV := match vs with
  | [] => onL x S fun l xs => .ok .non (S.set l (.lst xs.reverse))
  | _ => .bad
theorem mm_reverse : MethM C fReverse rReverse := by
  intro W ι σ S H x xs v vs Q hs r1 r2 hp
  unfold fReverse at hp
  split at hp
  · simp only [VRs] at r2
    subst r2
    obtain ⟨l, a, ys, ws, rfl, hl, _, h1, h2, hp⟩ := onL_ok hs r1 hp
    exact ⟨a, ws, rfl, rfl, h1, setL_ok hs hl h2.rev (by simp only [VR]) hp⟩
  · exact hp.elim
/-- s.split(sep) -/
def fSplit (mu : Bool) (x : MV) (vs : List MV) (S : Sto) : Res MV := match x, vs with
  | .str a, [.str b] => if b ≠ [] ∧ a.length + 2 ≤ sizeLine then mkL mu ((Txt.split (st a) (st b)).map fun z => .str (tl z)) S else .bad
  | _, _ => .bad
def rSplitM : V → List V → Hp → VK → Prop := fun x xs H Q => ∃ a b, x = .str a ∧ xs = [.str b] ∧ (b.length == 0) = false ∧ a.length + 2 ≤ sizeLine ∧ rNewStrs (Txt.split a b) H Q
theorem mt_splitM : MtR X "str.split" rSplitM := mt_split
theorem vrs_strs {ι : Io} {H : Hp} : ∀ zs : List Str, VRs C ι H (zs.map fun z => .str (tl z)) (zs.map V.str)
  | [] => by simp only [List.map_nil, VRs]
  | z :: r => by
    simp only [List.map_cons, VRs]
    exact ⟨_, _, rfl, by simp only [VR, mk_tl], vrs_strs r⟩
theorem mm_split (mu : Bool) : MethM C (fSplit mu) rSplitM := by
  intro W ι σ S H x xs v vs Q hs r1 r2 hp
  unfold fSplit at hp
  split at hp
  · rename_i a b
    obtain ⟨u, rfl, r3⟩ := vrs1 r2
    simp only [VR] at r1 r3
    subst r1; subst r3
    split at hp
    · rename_i hh
      refine ⟨_, _, rfl, rfl, ?_, by rw [st_len]; exact hh.2, mkL_ok hs (vrs_strs _) hp⟩
      rw [st_len]
      cases b with
      | nil => exact absurd rfl hh.1
      | cons _ _ => rfl
    · exact hp.elim
  · exact hp.elim
end
end Mi
namespace Mi
open PySem L2
section
variable {X : Cx} {C : Ct} {W : WX} {CX : CXT} {k j n : Nat} {f cl : Addr} {fd : FuncData} {ps : List Str} {sp : Sp} {dvs : List V} {ds : List Value} {x : Str} {p pos apos : Pos} {e o : Expr} {es : List Expr} {t : TA}
theorem makeAt {pins : List (Addr × Obj)} {σ : L2.St} {H : Hp} {s : Shared} {Q : VK} {us : List Value} {vs : List V} {E : XK} (M : Mk X.K cl f) (F : FnOk X.prog X.w X.K X.mg X.base CX k f fd ps sp) (hr : Room (k + 1) X.A) (hb : Binds X.K fd ps ds) (hd : Vals dvs ds) (hx : PassesAt CX X σ E)
    (I : Inv X pins σ H s) (r : Vals vs us) (h : ∀ x dx, H x = none → H dx = none → dx ≠ x → sp (.ref x :: (vs ++ dvs)) (upd (upd H dx (.own x)) x (.ins cl dx [])) (fun v H2 => v = .non ∧ Q (.ref x) H2) E) :
    wpAny (model X.prog X.w) X.A (call (.ref cl) us) (EP X pins σ Q) X.xe s := by
  have want := h (s.heap.objs.size + 1) s.heap.objs.size (I.hok.fresh (Nat.le_succ _)) (I.hok.fresh (Nat.le_refl _)) (Nat.ne_of_lt (Nat.lt_succ_self _))
  have J := Inv.made (C := cl) I
  have rr : Vals (V.ref (s.heap.objs.size + 1) :: (vs ++ dvs)) (Value.ref (s.heap.objs.size + 1) :: (us ++ ds)) := .cons rfl (r.append hd)
  have len : (Value.ref (s.heap.objs.size + 1) :: us ++ ds).length = ps.length := by
    have q := rr.length
    rw [F.len _ _ _ _ want] at q
    exact q.symm
  have run := F.run _ X.stack _ _ ⟨Value.ref (s.heap.objs.size + 1) :: us, []⟩ (Value.ref (s.heap.objs.size + 1) :: (us ++ ds)) _ _ E (hr.make cl us []) (J.env0.make cl us []) (hb _ (Value.ref (s.heap.objs.size + 1) :: us) J.kIn len) rr want
  refine wpAny_call (make_map (f := f) I.kIn M.makes M.init (beq_iff_eq.mp M.fn) (codeAny_mono run fun z s' hz => ?_))
  rcases z with u | fl
  · exact hx pins _ _ u s' J hz
  cases fl with
  | ret u =>
    obtain ⟨v, H', I3, rv, ev, q3⟩ := J.after hz
    subst ev
    exact ⟨rv, ⟨V.ref (s.heap.objs.size + 1), H', I3, rfl, q3⟩⟩
  | next => exact hz.elim
  | brk => exact hz.elim
  | cont => exact hz.elim
def tMakeA (cl : Addr) (sp : Sp) (dvs : List V) (E : L2.St → XK) (t : TA) : TE := fun σ H Q => t σ H fun vs H1 => ∀ x dx, H1 x = none → H1 dx = none → dx ≠ x →
  sp (.ref x :: (vs ++ dvs)) (upd (upd H1 dx (.own x)) x (.ins cl dx [])) (fun v H2 => v = .non ∧ Q (.ref x) H2) (E σ)
theorem pe_makeA {E : L2.St → XK} (M : Mk X.K cl f) (F : FnOk X.prog X.w X.K X.mg X.base CX k f fd ps sp) (hr : Room (k + 1) X.A) (hg : Gl X x) (hm : X.mg x = some (.ref cl)) (hb : Binds X.K fd ps ds) (hd : Vals dvs ds) (hx : ∀ σ, PassesAt CX X σ (E σ))
    (ha : PA X (e :: es) t) (hdb : (x == ("__debug__" : Str)) = false) (he : starEach (e :: es) X.env = (false, eval e X.env) :: starEach es X.env) (hpl : (backTo pos (starEach es X.env)).any (·.1) = false) :
    PE X (.Call (.Name x p) (e :: es) [] pos) (tMakeA cl sp dvs E t) := by
  refine ⟨fun pins s σ H Q I h => wpAny_Call_Name_kw (ld_glob I hg hm ?_ hdb)⟩
  refine PySem.W.callWith_K (h₀ := X.base) I.ok.mod.kin M.kp (thn (ha.run pos pins s σ H _ I h) fun us s1 ⟨vs, H1, I1, r, z⟩ => ⟨I1.kIn, makeAt M F hr hb hd (hx σ) I1 r z⟩) he hpl
noncomputable def mMake (mu : Bool) (c n : Nat) (g : List MV → Sto → Res MV) (ms : List MV) (as : MA) : ME := fun env S => (as env S).bind fun vs S1 => if (MV.ref S1.length :: (vs ++ ms)).length = n then (match g (.ref S1.length :: (vs ++ ms)) (S1 ++ [.ins c []]) with
  | .ok .non S2 => compE mu S1 S2
  | .ex x S2 => leaveX S1 S2 x
  | _ => .bad) else .bad
theorem make_imp {mu : Bool} {c : Nat} {ms : List MV} {g : List MV → Sto → Res MV} {as : MA} {σ : L2.St} {H : Hp} {Q : VK} (hcl : C.cA c = cl) (hc : CstR ms dvs) (h : tM C W (mMake mu c n g ms as) σ H Q) : tMakeA cl (spM C n g) dvs (WE W) (tMA C W as) σ H Q := by
  obtain ⟨ι, env, S, he, hs, hp⟩ := h
  refine ⟨ι, env, S, he, hs, Post.bind hp fun vs S1 ι1 H1 us e1 s1 q1 p1 => ?_⟩
  intro x dx nx ndx ne
  split at p1
  · rename_i hl
    have e0 : Ext ι1 H1 ι1 (upd H1 dx (.own x)) := Ext.upd s1 ndx
    have s0 : StR C ι1 S1 (upd H1 dx (.own x)) := s1.upd ndx
    have nx0 : (upd H1 dx (.own x)) x = none := by rw [upd_ne (Ne.symm ne)]; exact nx
    have e2 := Ext.push (o := .ins cl dx []) s0 nx0
    have s2 : StR C (ι1 ++ [x]) (S1 ++ [.ins c []]) (upd (upd H1 dx (.own x)) x (.ins cl dx [])) := s0.push nx0 ⟨dx, [], by rw [upd_same, hcl], by simp only [FRs]⟩
    have e3 := e0.trans e2
    have hx : (ι1 ++ [x])[S1.length]? = some x := by rw [← s1.len]; simp
    refine ⟨?_, ι1 ++ [x], S1 ++ [.ins c []], .ref S1.length :: (vs ++ ms), s2, ?_, ?_⟩
    · have w := (q1.append hc.vrs).len
      rw [List.length_cons] at hl ⊢
      rw [w]; exact hl
    · simp only [VRs, VR]
      exact ⟨_, _, rfl, ⟨x, rfl, hx⟩, (VRs.mono e3 _ _ q1).append hc.vrs⟩
    · cases eg : g (.ref S1.length :: (vs ++ ms)) (S1 ++ [.ins c []]) with
      | bad => rw [eg] at p1; exact p1.elim
      | ex y S2 =>
        rw [eg] at p1
        intro ι3 H3 cls d f3 t3 xr
        rcases leaveX_ok (α := MV) s1 (e3.trans f3) t3 xr rfl with z | ⟨S4, z, a1, a2, a3⟩
        · simp only [z] at p1; exact p1.elim
        · simp only [z] at p1; exact p1 ι1 H3 cls d a1 a2 a3
      | ok y S2 =>
        rw [eg] at p1
        intro ι3 H3 v f3 t3 r3
        cases y with
        | non =>
          simp only [VR] at r3
          have e4 := e3.trans f3
          have rD : VR C ι3 H3 (.ref S1.length) (.ref x) := by simp only [VR]; exact ⟨x, rfl, f3.at hx⟩
          refine ⟨r3, ?_⟩
          cases mu with
          | true => exact p1 ι3 H3 _ e4 t3 rD
          | false =>
            cases el : leaveV S1 S2 (.ref S1.length) with
            | ok z S3 =>
              simp only [compE, el] at p1
              obtain ⟨a1, a2, a3⟩ := leaveV_ok s1 e4 t3 rD el
              exact p1 ι1 H3 _ a1 a2 a3
            | ex z S3 => unfold leaveV at el; (repeat (split at el)) <;> cases el
            | bad => simp only [compE, el] at p1; exact p1.elim
        | _ => exact p1.elim
  · exact p1.elim
structure MkIn (P : Program) (w : World) (C : Ct) (mg : Str → Option Value) (base : Heap) (x : Str) (c k n : Nat) (g : List MV → Sto → Res MV) (ms : List MV) : Prop where
  ex : ∃ (f : Addr) (fd : FuncData) (ps : List Str) (dvs : List V) (ds : List Value), mg x = some (.ref (C.cA c)) ∧ Mk C.K (C.cA c) f ∧ Binds C.K fd ps ds ∧ Vals dvs ds ∧ CstR ms dvs ∧ FnOk P w C.K mg base (L2.CX P w) k f fd ps (spM C n g)
theorem je_mk (mu : Bool) {c : Nat} {ms : List MV} {g : List MV → Sto → Res MV} {as : MA} (B : Bx C W j X) (G : MkIn X.prog X.w C X.mg X.base x c k n g ms) (ha : PA X (e :: es) (tMA C W as)) (hkj : k + 1 ≤ j := by decide) (hg : Gl X x := by rfl) (hdb : (x == ("__debug__" : Str)) = false := by decide)
    (he : starEach (e :: es) X.env = (false, eval e X.env) :: starEach es X.env := by rfl) (hpl : (backTo pos (starEach es X.env)).any (·.1) = false := by rfl) : PE X (.Call (.Name x p) (e :: es) [] pos) (tM C W (mMake mu c n g ms as)) := by
  obtain ⟨f, fd, ps, dvs, ds, h1, h2, h3, h4, h5, h6⟩ := G.ex
  rw [← B.hK] at h2 h3 h6
  exact peImp (pe_makeA h2 h6 (B.room.mono hkj) hg h1 h3 h4 (fun σ => passAt B.tk σ) ha hdb he hpl) fun σ H Q h => make_imp rfl h5 h
structure MethIn (P : Program) (w : World) (C : Ct) (mg : Str → Option Value) (base : Heap) (c : Nat) (m : Str) (k n : Nat) (g : List MV → Sto → Res MV) (ms : List MV) : Prop where
  ex : ∃ (f : Addr) (fd : FuncData) (ps : List Str) (dvs : List V) (ds : List Value), Cls C.K (C.cA c) ∧ Meth C.K (C.cA c) m f ∧ Binds C.K fd ps ds ∧ Vals dvs ds ∧ CstR ms dvs ∧ FnOk P w C.K mg base (L2.CX P w) k f fd ps (spM C n g)
theorem je_me {c : Nat} {m : Str} {pl : Sem Bool} {ms : List MV} {g : List MV → Sto → Res MV} {mo : ME} {as : MA} (B : Bx C W j X) (G : MethIn X.prog X.w C X.mg X.base c m k n g ms) (ho : PE X o (tM C W mo)) (ha : PA X (e :: es) (tMA C W as)) (hkj : k ≤ j := by decide)
    (hst : starEach (e :: es) X.env = (false, eval e X.env) :: starEach es X.env := by rfl) (hpl : (backTo pos (starEach es X.env)).any (·.1) = false := by rfl)
    (ht : eval (.Call (.Attribute o m apos) (e :: es) [] pos) X.env = (do
      let ov ← eval o X.env
      standAt apos.atName
      let (f, first) ← holding [ov] (getMethod ov m pl)
      callWith pos f first (backTo pos (starEach (e :: es) X.env)) (backToKw pos (keywordEach [] X.env))) := by rfl) :
    PE X (.Call (.Attribute o m apos) (e :: es) [] pos) (tM C W (mMeth c n m g ms mo as)) := by
  obtain ⟨f, fd, ps, dvs, ds, h1, h2, h3, h4, h5, h6⟩ := G.ex
  rw [← B.hK] at h1 h2 h3 h6
  exact je_meth B rfl ho h1 h2 h6 h3 h4 h5 ha hkj hst hpl ht
theorem je_me0 {c : Nat} {m : Str} {pl : Sem Bool} {ms : List MV} {g : List MV → Sto → Res MV} {mo : ME} (B : Bx C W j X) (G : MethIn X.prog X.w C X.mg X.base c m k n g ms) (ho : PE X o (tM C W mo)) (hkj : k ≤ j := by decide)
    (ht : eval (.Call (.Attribute o m apos) [] [] pos) X.env = (do
      let ov ← eval o X.env
      standAt apos.atName
      let (f, first) ← holding [ov] (getMethod ov m pl)
      callWith pos f first (backTo pos (starEach [] X.env)) (backToKw pos (keywordEach [] X.env))) := by rfl) :
    PE X (.Call (.Attribute o m apos) [] [] pos) (tM C W (mMeth c n m g ms mo mNil)) := by
  obtain ⟨f, fd, ps, dvs, ds, h1, h2, h3, h4, h5, h6⟩ := G.ex
  rw [← B.hK] at h1 h2 h3 h6
  exact je_meth0 B rfl ho h1 h2 h6 h3 h4 h5 hkj ht
/-- a field of an own class -/
structure FldIn (C : Ct) (c : Nat) (f : Str) : Prop where
  cls : Cls C.K (C.cA c)
  no : NoAttr C.K (C.cA c) f
theorem je_fd {c : Nat} {fl : Str} {mo : ME} (B : Bx C W j X) (G : FldIn C c fl) (ho : PE X o (tM C W mo)) (hb : attributeBase o fl X.env (eval o X.env) = eval o X.env := by rfl) : PE X (.Attribute o fl pos) (tM C W (mFld c fl mo)) := by
  have h1 := G.cls
  have h2 := G.no
  rw [← B.hK] at h1 h2
  exact je_fld rfl ho h1 h2 hb
theorem js_fd {c : Nat} {fl : Str} {pos' : Pos} {mo m : ME} (B : Bx C W j X) (G : FldIn C c fl) (ho : PE X o (tM C W mo)) (hv : PE X e (tM C W m)) (hs : swapsWith e (some (.Attribute o fl pos')) pos.line X.env = pure false := by rfl) : PS X (.Assign [.Attribute o fl pos'] e pos) (tMS C W (sFldM c fl mo m)) := by
  have h1 := G.cls
  have h2 := G.no
  rw [← B.hK] at h1 h2
  exact js_fld rfl ho h1 h2 hv hs
def mRevL (mu : Bool) (a : ME) : ME := fun env S => (a env S).bind fun x S1 => match asL S1 x with
  | some xs => mkL mu xs.reverse S1
  | none => .bad
end
def sPar3 (i j l : Nat) (a b c : ME) : MSt := fun env S => sBind (a env S) env fun x S1 => sBind (b env S1) env fun y S2 => sBind (c env S2) env fun z S3 => .nx (((env.set i (some x)).set j (some y)).set l (some z)) S3
section
variable {P : Program} {w : World} {K : PySem.W.Frag} {mg : Str → Option Value} {base : Heap} {C : Ct}
theorem def_okD {x qual : Str} {st : Stmt} {f : Addr} {fd : FuncData} {N ps : List Str} {dvs : List V} {k n m : Nat} {b : MSt} {g : List MV → Sto → Res MV} (F : FunD K x qual (defArgs st) (defBody st) (defScope st) dvs [] f fd) (Sc : FnScope N ps (defScope st)) (hg : g = mDef n b ∨ g = mDefR n b)
    (hb : ∀ (cdv : Value) (A : Around) (outer : List PySem.Env) (s : Shared) (H : Hp) (E : XK) (X : Cx), X = cxOf (L2.CX P w) P w K mg base N qual (defScope st) f cdv A outer s H E → Room k X.A →
      PSs X (defBody st) (tMS C (fun cls d _ H' => E cls d H') b)) (hn : N.length = n := by rfl) (hm : ps.length = m := by rfl) :
    FnOk P w K mg base (L2.CX P w) (k + 1) f fd ps (spM C m g) :=
  F.ok Sc (fun vs H Q E h => h.1.trans hm.symm) fun cdv A outer s H vs Q E hr h => ⟨_, hb cdv A outer s H E _ rfl hr, def_core hn hg h⟩
theorem funD_mk {x qual : Str} {st : Stmt} {f T : Addr} {oc toc : Value} {od an tod : Option Addr} {osl tsl : Array (Option Value)} {kV doc pm cdv ct : Value} {its : List Value} {tn : Nat} {dvs : List V} (l : K.lookup f = some ⟨oc, od, .func (PySem.W.fnOf x qual (defArgs st) (defBody st) (defScope st) (.ref T) kV doc pm an cdv ct), osl⟩)
    (c : PySem.W.codeIn K cdv qual = true) (k : PySem.W.keepIn K (.ref f) = true) (t : K.lookup T = some ⟨toc, tod, .seq its.toArray tn, tsl⟩) (hd : dvs ≠ []) (hv : Vals dvs its) :
    FunD K x qual (defArgs st) (defBody st) (defScope st) dvs [] f (PySem.W.fnOf x qual (defArgs st) (defBody st) (defScope st) (.ref T) kV doc pm an cdv ct) :=
  ⟨⟨oc, od, .ref T, kV, doc, pm, an, cdv, ct, osl, rfl, l, c, .inr ⟨hd, T, _, its, tn, rfl, t, rfl, hv⟩, .inl rfl⟩, k⟩
end
end Mi
namespace Mi
open PySem L2 TL
section
variable {X : Cx} {C : Ct} {W : WX} {pos p p2 q : Pos} {k : Nat}
/-- int(x), bool(x) -/
def fInt1 (xs : List MV) (S : Sto) : Res MV := match xs with
  | [.int i] => .ok (.int i) S
  | [.bl b] => .ok (.int (if b then 1 else 0)) S
  | _ => .bad
def mGet2 (o i d : ME) : ME := fun env S => (o env S).bind fun x S1 => if (asD S1 x).isSome = true then (i env S1).bind fun y S2 => (d env S2).bind fun z S3 => (match asD S3 x with
  | some kvs => if isKey y = true then .ok ((kLook kvs y).getD z) S3 else .bad
  | none => .bad) else .bad
theorem kLook_val {ι : Io} {H : Hp} {y : MV} (hy : isKey y = true) : ∀ {kvs : List (MV × MV)} {kx : List (Key × V)}, KRs C ι H kvs kx → (∀ v, kLook kvs y = some v → ∃ u, valV kx (keyOf y) = some u ∧ VR C ι H v u) ∧ (kLook kvs y = none → valV kx (keyOf y) = none) := by
  intro kvs
  induction kvs with
  | nil =>
    intro kx h
    simp only [KRs] at h; subst h
    refine ⟨fun v h => ?_, fun _ => rfl⟩; cases h
  | cons p r ih =>
    intro kx h
    have an := KRs.any hy h
    simp only [KRs] at h
    obtain ⟨q, w, rfl, h1, h2⟩ := h
    obtain ⟨k, x⟩ := p
    simp only [KR] at h1
    have a1 := KRs.any hy (kvs := [(k, x)]) (kx := [q]) (by simp only [KRs, KR]; exact ⟨q, [], rfl, h1, rfl⟩)
    simp only [List.any_cons, List.any_nil, Bool.or_false] at a1
    obtain ⟨i1, i2⟩ := ih h2
    unfold kLook valV
    simp only [List.find?_cons, a1]
    by_cases hk : keyB k y = true
    · rw [hk]
      simp only [if_true, Option.map_some, Option.some.injEq, -reduceCtorEq]
      refine ⟨fun v e => ⟨q.2, rfl, e ▸ h1.2⟩, ?_⟩
      intro e
      cases e
    · have hk2 : keyB k y = false := by simpa using hk
      rw [hk2]
      simp only [Bool.false_eq_true, if_false]
      exact ⟨i1, i2⟩
def fExtend (x : MV) (vs : List MV) (S : Sto) : Res MV := match vs with
  | [y] => onL x S fun l xs => (match asH S y with
    | some zs => if xs.length + zs.length ≤ sizeLine then .ok .non (S.set l (.lst (xs ++ zs))) else .bad
    | none => .bad)
  | _ => .bad
theorem mm_extend : MethM C fExtend rExtend := by
  intro W ι σ S H x xs v vs Q hs r1 r2 hp
  unfold fExtend at hp
  split at hp
  · obtain ⟨u, rfl, r3⟩ := vrs1 r2
    obtain ⟨l, a, ys, ws, rfl, hl, _, h1, h2, hp⟩ := onL_ok hs r1 hp
    split at hp
    · rename_i zs hz
      obtain ⟨b, us, rfl, g1, g2⟩ := asH_ok hs r3 hz
      split at hp
      · rename_i hc
        exact ⟨a, b, ws, us, rfl, rfl, h1, g1, by rw [h2.len, g2.len]; exact hc, setL_ok hs hl (h2.append g2) (by simp only [VR]) hp⟩
      · exact hp.elim
    · exact hp.elim
  · exact hp.elim
end
end Mi
namespace Mi
namespace Sh
open PySem L2
noncomputable def b_law_begun : MSt :=
  (sRet (mLst true (mCons (mB fMax2 (mCons (mC (.int 0)) (mCons (mBin fSub (mV 0) (mBin fPow (mC (.int 10)) (mC (.int 18)))) mNil))) (mCons (mBin (fAdd false) (mV 0) (mBin (fMul false) (mC (.int 977)) (mV 1))) (mCons (mC (.int 0)) mNil)))))
noncomputable def m_law_begun : List MV → Sto → Res MV := mDefR 2 b_law_begun
noncomputable def b_law_next : MSt :=
  (sSeq (sIf (asB (mBin fGt (mBin fIx (mV 0) (mC (.int 0))) (mC (.int 0)))) (sSeq (sSet 2 (mBin fMod (mBin fIx (mV 0) (mC (.int 0))) (mV 1)))
    (sSeq (sSub (mV 0) (mC (.int 0)) (mBin fDiv (mBin fIx (mV 0) (mC (.int 0))) (mV 1)))
    (sRet (mV 2)))) sNext)
  (sSeq (sSub (mV 0) (mC (.int 2)) (mBin (fAdd false) (mBin fIx (mV 0) (mC (.int 2))) (mC (.int 1))))
  (sSeq (sSet 2 (mBin (fAdd false) (mBin fMod (mBin fIx (mV 0) (mC (.int 1))) (mC (.int 2147483629))) (mBin (fMul false) (mC (.int 104729)) (mBin fIx (mV 0) (mC (.int 2))))))
  (sSeq (sSet 2 (mBin (fMul false) (mV 2) (mBin (fAdd false) (mBin (fAdd false) (mBin fMod (mBin fIx (mV 0) (mC (.int 1))) (mC (.int 2147483587))) (mBin (fMul false) (mBin (fMul false) (mC (.int 7919)) (mBin fIx (mV 0) (mC (.int 2)))) (mBin fIx (mV 0) (mC (.int 2))))) (mC (.int 11)))))
  (sRet (mBin fMod (mBin fDiv (mBin fMod (mBin fPow (mV 2) (mC (.int 3))) (mC (.int 2147483647))) (mC (.int 11))) (mV 1)))))))
noncomputable def m_law_next : List MV → Sto → Res MV := mDef 3 b_law_next
noncomputable def b_law_pick : MSt :=
  (sRet (mBin fIx (mV 1) (mCall 2 m_law_next [] (mCons (mV 0) (mCons (mB fLen (mCons (mV 1) mNil)) mNil)))))
noncomputable def m_law_pick : List MV → Sto → Res MV := mDef 2 b_law_pick
def Bd (x : Int) (k : Nat) : Prop := x.natAbs < 2 ^ k
theorem Bd.lg {x : Int} {k : Nat} (h : Bd x k) (hk : 0 < k) : x.natAbs.log2 < k := by
  unfold Bd at h
  by_cases e : x.natAbs = 0
  · rw [e]; simpa using hk
  · exact (Nat.log2_lt e).mpr h
theorem Bd.mul {x y : Int} {i j : Nat} (h : Bd x i) (g : Bd y j) : Bd (x * y) (i + j) := by
  unfold Bd at *
  rw [Int.natAbs_mul, Nat.pow_add]
  exact Nat.mul_lt_mul'' h g
theorem Bd.add {x y : Int} {i : Nat} (h : Bd x i) (g : Bd y i) : Bd (x + y) (i + 1) := by
  unfold Bd at *
  have := Int.natAbs_add_le x y
  rw [Nat.pow_succ]; omega
theorem Bd.mono {x : Int} {i j : Nat} (h : Bd x i) (g : i ≤ j) : Bd x j :=
  Nat.lt_of_lt_of_le h (Nat.pow_le_pow_right (by decide) g)
theorem Bd.mod {x y : Int} {i : Nat} (h : Bd y i) (g : 0 < y) : Bd (x % y) i := by
  unfold Bd at *
  have h1 := Int.emod_nonneg x (by omega : y ≠ 0)
  have h2 := Int.emod_lt_of_pos x g
  omega
theorem Bd.bits {x : Int} {k : Nat} (h : Bd x k) (hk : 0 < k) : Builtin.Int.intBits x ≤ k := by
  have q := h.lg hk
  have : Builtin.Int.intBits x ≤ x.natAbs.log2 + 1 := by
    unfold Builtin.Int.intBits
    split <;> omega
  omega
theorem begun_ok (c k : Int) (S : Sto) (hk : Bd k 60) : m_law_begun [.int c, .int k] S = .ok (.ref S.length) (S ++ [dr (if c - 10 ^ 18 > 0 then c - 10 ^ 18 else 0) (c + 977 * k) 0]) := by
  have e1 : (977 : Int).natAbs.log2 + k.natAbs.log2 < 1000000 := by
    have h1 : (977 : Int).natAbs.log2 = 9 := by decide +kernel
    have h2 := hk.lg (by decide)
    omega
  have e2 : (0 : Int) ≤ 18 ∧ (Builtin.Int.intBits 10 : Int) * 18 ≤ 2 ^ 27 := by decide +kernel
  have e3 : ((10 : Int) ^ (18 : Int).toNat) = 10 ^ 18 := rfl
  have hl := leaveR_push (dr_cl S.length (if c - 10 ^ 18 > 0 then c - 10 ^ 18 else 0) (c + 977 * k) 0)
  unfold m_law_begun mDefR b_law_begun
  simp only [env0, sRet, sBind, sSeq, sIf, sSet, sSub, sNext, sRetN, sDrop, mLst, mTup, mCons, mB, mBin, mV, mC, mNil, mCall, asB, asT, bind_ok, List.map_cons, List.map_nil, List.length_cons, List.length_nil, List.cons_append, List.nil_append, List.append_nil, List.getElem?_cons_zero, List.getElem?_cons_succ, List.set_cons_zero, List.set_cons_succ, List.replicate_zero, List.replicate_succ, List.replicate_one, if_true, if_false, Bool.false_eq_true, Nat.reduceSub, Nat.reduceAdd, Nat.sub_self, fMax2, fSub, fPow, fAdd, fMul, e1, e2, e3, mkL, sizeLine, and_self, reduceIte]
  simp (decide := true) only [reduceIte, hl]
theorem next_ok {l n : Nat} {S : Sto} {sz : Int} (h : HasDr l n S) (hn : n < 2 ^ 20) (h0 : 0 < sz) (h1 : Bd sz 60) : ∃ (r : Int) (S' : Sto), m_law_next [.ref l, .int sz] S = .ok (.int r) S' ∧ Draws l 1 S S' ∧ 0 ≤ r ∧ r < sz := by
  have hl := h.lt
  obtain ⟨a, b, c, h, hc, hcn⟩ := h
  obtain ⟨i0, i1, i2⟩ := ix_dr h
  have hlg : sz.natAbs.log2 < 9000 := Nat.lt_of_lt_of_le (h1.lg (by decide)) (by decide)
  have h3 : ∀ v : MV, ([MV.int a, .int b, .int c].set 0 v) = [v, .int b, .int c] := fun v => rfl
  have h4 : ∀ v : MV, ([MV.int a, .int b, .int c].set 2 v) = [.int a, .int b, v] := fun v => rfl
  have x0 : ixN 3 0 = some 0 := by decide
  have x2 : ixN 3 2 = some 2 := by decide
  unfold m_law_next mDef b_law_next
  by_cases ha : 0 < a
  · have d : Draws l 1 S (S.set l (dr (a / sz) b c)) := ⟨a, b, c, _, c, h, rfl, by omega, by omega⟩
    refine ⟨a % sz, _, ?_, d, Int.emod_nonneg a (by omega), Int.emod_lt_of_pos a h0⟩
    have dl := d.leave (v := .int (a % sz)) (by simp [Cl])
    simp only [env0, sRet, sBind, sSeq, sIf, sSet, sSub, sNext, sRetN, sDrop, mLst, mTup, mCons, mB, mBin, mV, mC, mNil, mCall, asB, asT, bind_ok, List.map_cons, List.map_nil, List.length_cons, List.length_nil, List.cons_append, List.nil_append, List.append_nil, List.getElem?_cons_zero, List.getElem?_cons_succ, List.set_cons_zero, List.set_cons_succ, List.replicate_zero, List.replicate_succ, List.replicate_one, if_true, if_false, Bool.false_eq_true, Nat.reduceSub, Nat.reduceAdd, Nat.sub_self, i0, fGt, ha, decide_true, fMod, h0, fDiv, hlg, and_self, h, x0, h3, dl]
  · have hc2 : Bd (c + 1) 21 := by unfold Bd; have : (2:Nat)^20 = 1048576 := rfl; have : (2:Nat)^21 = 2097152 := rfl; omega
    have k1 : Bd 104729 17 := by unfold Bd; decide
    have k2 : Bd 7919 13 := by unfold Bd; decide
    have k3 : Bd 11 47 := by unfold Bd; decide
    have m1 : Bd (b % 2147483629) 38 := (Bd.mod (i := 31) (by unfold Bd; decide) (by decide)).mono (by decide)
    have m2 : Bd (b % 2147483587) 55 := (Bd.mod (i := 31) (by unfold Bd; decide) (by decide)).mono (by decide)
    have t1 : Bd (104729 * (c + 1)) 38 := k1.mul hc2
    have t2 : Bd (7919 * (c + 1)) 34 := k2.mul hc2
    have t3 : Bd (7919 * (c + 1) * (c + 1)) 55 := t2.mul hc2
    have f1 := m1.add t1
    have f2 := (m2.add t3).add (k3.mono (j := 56) (by decide))
    have f3 := f1.mul f2
    have l1 : (104729 : Int).natAbs.log2 + (c + 1).natAbs.log2 < 1000000 := by have := k1.lg (by decide); have := hc2.lg (by decide); omega
    have l2 : (7919 : Int).natAbs.log2 + (c + 1).natAbs.log2 < 1000000 := by have := k2.lg (by decide); have := hc2.lg (by decide); omega
    have l3 : (7919 * (c + 1)).natAbs.log2 + (c + 1).natAbs.log2 < 1000000 := by have := t2.lg (by decide); have := hc2.lg (by decide); omega
    have l4 : (b % 2147483629 + 104729 * (c + 1)).natAbs.log2 + (b % 2147483587 + 7919 * (c + 1) * (c + 1) + 11).natAbs.log2 < 1000000 := by have := f1.lg (by decide); have := f2.lg (by decide); omega
    have l5 : (0 : Int) ≤ 3 ∧ (Builtin.Int.intBits ((b % 2147483629 + 104729 * (c + 1)) * (b % 2147483587 + 7919 * (c + 1) * (c + 1) + 11)) : Int) * 3 ≤ 2 ^ 27 := by
      have := f3.bits (by decide)
      refine ⟨by decide, ?_⟩
      have : (2 : Int) ^ 27 = 134217728 := rfl
      omega
    have l6 : (0 : Int) < 11 ∧ (11 : Int).natAbs.log2 < 9000 := by decide +kernel
    have d : Draws l 1 S (S.set l (dr a b (c + 1))) := ⟨a, b, c, a, c + 1, h, rfl, by omega, by omega⟩
    obtain ⟨j0, j1, j2⟩ := ix_dr (S := S.set l (dr a b (c + 1))) (by rw [List.getElem?_set_self hl])
    refine ⟨((b % 2147483629 + 104729 * (c + 1)) * (b % 2147483587 + 7919 * (c + 1) * (c + 1) + 11)) ^ 3 % 2147483647 / 11 % sz, _, ?_, d, Int.emod_nonneg _ (by omega), Int.emod_lt_of_pos _ h0⟩
    have dl : ∀ x : Int, leaveV S (S.set l (dr a b (c + 1))) (.int x) = .ok (.int x) (S.set l (dr a b (c + 1))) := fun x => d.leave (by simp [Cl])
    have p3 : (3 : Int).toNat = 3 := rfl
    simp only [env0, sRet, sBind, sSeq, sIf, sSet, sSub, sNext, sRetN, sDrop, mLst, mTup, mCons, mB, mBin, mV, mC, mNil, mCall, asB, asT, bind_ok, List.map_cons, List.map_nil, List.length_cons, List.length_nil, List.cons_append, List.nil_append, List.append_nil, List.getElem?_cons_zero, List.getElem?_cons_succ, List.set_cons_zero, List.set_cons_succ, List.replicate_zero, List.replicate_succ, List.replicate_one, if_true, if_false, Bool.false_eq_true, Nat.reduceSub, Nat.reduceAdd, Nat.sub_self, i0, i2, fGt, ha, decide_false, fAdd, h, x2, h4]
    simp only [env0, sRet, sBind, sSeq, sIf, sSet, sSub, sNext, sRetN, sDrop, mLst, mTup, mCons, mB, mBin, mV, mC, mNil, mCall, asB, asT, bind_ok, List.map_cons, List.map_nil, List.length_cons, List.length_nil, List.cons_append, List.nil_append, List.append_nil, List.getElem?_cons_zero, List.getElem?_cons_succ, List.set_cons_zero, List.set_cons_succ, List.replicate_zero, List.replicate_succ, List.replicate_one, if_true, if_false, Bool.false_eq_true, Nat.reduceSub, Nat.reduceAdd, Nat.sub_self, j0, j1, j2, fMod, (by decide : (0:Int) < 2147483629), (by decide : (0:Int) < 2147483587), (by decide : (0:Int) < 2147483647), fMul, fAdd, l1, l2, l3, l4, l5, l6, fPow, fDiv, h0, p3, dl, and_self]
theorem pick_gen {l n N : Nat} {S : Sto} {x : MV} {P : MV → Prop} (h : HasDr l n S) (hn : n < 2 ^ 20) (hL : lenM S x = some N) (h0 : 0 < N) (h1 : N < 2 ^ 60)
    (hI : ∀ (r : Int) (S' : Sto), 0 ≤ r → r < N → Draws l 1 S S' → ∃ v, fIx x (.int r) S' = .ok v S' ∧ Cl S.length v ∧ P v) :
    ∃ (v : MV) (S' : Sto), m_law_pick [.ref l, x] S = .ok v S' ∧ Draws l 1 S S' ∧ P v := by
  obtain ⟨r, S1, e1, d1, r0, r1⟩ := next_ok (sz := (N : Int)) h hn (by omega) (by unfold Bd; omega)
  obtain ⟨v, e2, cv, pv⟩ := hI r S1 r0 r1 d1
  refine ⟨v, S1, ?_, d1, pv⟩
  unfold m_law_pick mDef b_law_pick
  simp only [env0, sRet, sBind, sSeq, sIf, sSet, sSub, sNext, sRetN, sDrop, mLst, mTup, mCons, mB, mBin, mV, mC, mNil, mCall, asB, asT, bind_ok, List.map_cons, List.map_nil, List.length_cons, List.length_nil, List.cons_append, List.nil_append, List.append_nil, List.getElem?_cons_zero, List.getElem?_cons_succ, List.set_cons_zero, List.set_cons_succ, List.replicate_zero, List.replicate_succ, List.replicate_one, if_true, if_false, Bool.false_eq_true, Nat.reduceSub, Nat.reduceAdd, Nat.sub_self, fLen, hL, e1, e2, d1.leave cv]
theorem pick_at {xs : List MV} {r : Int} (r0 : 0 ≤ r) (r1 : r < xs.length) : ∃ v, L2.atI xs r = some v ∧ v ∈ xs := by
  have h2 : r.toNat < xs.length := by omega
  refine ⟨xs[r.toNat], ?_, List.getElem_mem h2⟩
  unfold L2.atI L2.ixN
  simp [r0, r1, h2]
theorem clL_mem {n : Nat} : ∀ {xs : List MV} {x : MV}, ClL n xs → x ∈ xs → Cl n x
  | y :: r, x, h, hm => by
    simp only [ClL] at h
    rcases List.mem_cons.mp hm with e | e
    · rw [e]; exact h.1
    · exact clL_mem h.2 e
/-- one of a written list -/
theorem pick_lst {l n : Nat} {S : Sto} {xs : List MV} (h : HasDr l n S) (hn : n < 2 ^ 20) (h0 : xs ≠ []) (h1 : xs.length < 2 ^ 60) (hc : ClL S.length xs) :
    ∃ (v : MV) (S' : Sto), m_law_pick [.ref l, .lst xs] S = .ok v S' ∧ Draws l 1 S S' ∧ v ∈ xs := by
  refine pick_gen h hn (N := xs.length) rfl (List.length_pos_iff.mpr h0) h1 fun r S' r0 r1 _ => ?_
  obtain ⟨v, e, m⟩ := pick_at r0 r1
  exact ⟨v, by simp only [fIx, asSq, asU, asL, e], clL_mem hc m, m⟩
theorem pick_str {l n : Nat} {S : Sto} {z : List Nat} (h : HasDr l n S) (hn : n < 2 ^ 20) (h0 : z ≠ []) (h1 : z.length ≤ sizeLine) :
    ∃ (v : MV) (S' : Sto), m_law_pick [.ref l, .str z] S = .ok v S' ∧ Draws l 1 S S' ∧ ∃ c ∈ z, v = .str [c] := by
  refine pick_gen h hn (N := z.length) (by simp only [lenM, if_pos h1]) (List.length_pos_iff.mpr h0) (Nat.lt_of_le_of_lt h1 (by decide)) fun r S' r0 r1 _ => ?_
  have h2 : r.toNat < z.length := by omega
  refine ⟨.str [z[r.toNat]], ?_, by simp [Cl], z[r.toNat], List.getElem_mem h2, rfl⟩
  have e : L2.atI z r = some z[r.toNat] := by unfold L2.atI L2.ixN; simp [r0, r1, h2]
  simp only [fIx, if_pos h1, e]
end Sh
end Mi
namespace Mi
namespace Sh
open PySem L2 TL
noncomputable def b_law_name_c1 : ME :=
  (mComp false (mItR1 (mCons (mBin (fAdd false) (mC (.int 1)) (mCall 2 m_law_next [] (mCons (mV 0) (mCons (mC (.int 8)) mNil)))) mNil)) [4] (gN 4) mYes (mCall 2 m_law_pick [] (mCons (mV 0) (mCons (mC (.str [101, 116, 97, 111, 105, 110, 115, 104, 114, 100, 108, 99, 117, 109, 119, 102, 103, 121, 112, 98, 118, 107, 106, 120, 113, 122])) mNil))))
noncomputable def b_law_name_c2 : ME :=
  (mComp false (mItT (mC (.str [97, 98, 99, 100, 101, 102, 103, 104, 105, 106, 107, 108, 109, 110, 111, 112, 113, 114, 115, 116, 117, 118, 119, 120, 121, 122]))) [5] (gN 5) (asB (mBin fNotIn (mBin (fAdd false) (mSl false (mV 3) mNoPart (mPart (mC (.int 7)))) (mV 5)) (mV 1))) (mBin (fAdd false) (mSl false (mV 3) mNoPart (mPart (mC (.int 7)))) (mV 5)))
noncomputable def b_law_name : MSt :=
  (sSeq (sSet 2 (mC (.str [97, 115, 107, 32, 112, 117, 116, 32, 111, 110, 32, 116, 111, 32, 115, 116, 111, 112, 32, 115, 101, 101, 110, 32, 104, 105, 100, 100, 101, 110, 32, 100, 101, 101, 100, 32, 100, 111, 32, 105, 102, 32, 116, 104, 101, 110, 32, 101, 108, 115, 101, 32, 111, 112, 32, 109, 101, 97, 110, 115, 32, 106, 117, 109, 112, 32, 109, 111, 118, 101, 32, 110, 111, 110, 101, 32, 99, 97, 115, 101, 32, 98, 101, 108, 108, 32, 103, 111, 101, 115])))
  (sSeq (sIf (asB (mBin fEq (mCall 2 m_law_next [] (mCons (mV 0) (mCons (mC (.int 3)) mNil))) (mC (.int 0)))) (sSet 3 (mCall 2 m_law_pick [] (mCons (mV 0) (mCons (mBM "str" (fSplit false) (mV 2) (mCons (mC (.str [32])) mNil)) mNil)))) (sSet 3 (mBM "str" fJoin (mC (.str [])) (mCons b_law_name_c1 mNil))))
  (sSeq (sIf (mOrB (asB (mBin fIn (mV 3) (mV 1))) (asB (mBin fIn (mV 3) (mTup (mCons (mC (.str [112])) (mCons (mC (.str [113])) mNil)))))) (sSet 3 (mBin fIx b_law_name_c2 (mC (.int 0)))) sNext)
  (sRet (mV 3)))))
noncomputable def m_law_name : List MV → Sto → Res MV := mDef 6 b_law_name
noncomputable def b_law_names_l1 : MSt :=
  (sDrop (mBM "list" fAppend (mV 3) (mCons (mCall 2 m_law_name [] (mCons (mV 0) (mCons (mBin (fAdd false) (mV 2) (mV 3)) mNil))) mNil)))
noncomputable def b_law_names : MSt :=
  (sSeq (sSet 3 (mLst true mNil))
  (sSeq (sFor (mItR1 (mCons (mV 1) mNil)) (gN 4) b_law_names_l1)
  (sRet (mV 3))))
noncomputable def m_law_names : List MV → Sto → Res MV := mDef 5 b_law_names
noncomputable def b_Gear_deeds : MSt :=
  (sRet (mB (fDict false) (mCons (mFld 0 "makers" (mV 0)) mNil)))
noncomputable def m_Gear_deeds : List MV → Sto → Res MV := mDef 1 b_Gear_deeds
noncomputable def b_is_name_c1 : ME :=
  (mComp false (mItT (mV 0)) [1] (gN 1) mYes (mBin fIn (mV 1) (mC (.str [97, 98, 99, 100, 101, 102, 103, 104, 105, 106, 107, 108, 109, 110, 111, 112, 113, 114, 115, 116, 117, 118, 119, 120, 121, 122]))))
noncomputable def b_is_name : MSt :=
  (sSeq (sIf (mOrB (mNotB (asT (mB fIsi (mCons (mV 0) (mCons (mC (.ty "str")) mNil))))) (mNotB (asB (mChain fLe fLe (mC (.int 1)) (mB fLen (mCons (mV 0) mNil)) (mC (.int 8)))))) (sRet (mC (.bl false))) sNext)
  (sRet (mB fAll (mCons b_is_name_c1 mNil))))
noncomputable def m_is_name : List MV → Sto → Res MV := mDef 2 b_is_name
noncomputable def b_is_named_c1 : ME :=
  (mComp false (mItS (mV 0)) [2] (gN 2) mYes (mCall 1 m_is_name [] (mCons (mV 2) mNil)))
noncomputable def b_is_named : MSt :=
  (sSeq (sIf (mOrB (mNotB (asT (mB fIsi (mCons (mV 0) (mCons (mC (.ty "list")) mNil))))) (mNotB (asB (mChain fLe fLe (mV 1) (mB fLen (mCons (mV 0) mNil)) (mC (.int 4)))))) (sRet (mC (.bl false))) sNext)
  (sRet (mB fAll (mCons b_is_named_c1 mNil))))
noncomputable def m_is_named : List MV → Sto → Res MV := mDef 3 b_is_named
noncomputable def b_is_number : MSt :=
  (sRet (mAndT (mB fIsi (mCons (mV 0) (mCons (mC (.ty "int")) mNil))) (mAndT (mNotT (mB fIsi (mCons (mV 0) (mCons (mC (.ty "bool")) mNil)))) (mChain fLe fLe (mV 1) (mV 0) (mV 2)))))
noncomputable def m_is_number : List MV → Sto → Res MV := mDef 3 b_is_number
noncomputable def b_is_counted_c1 : ME :=
  (mCompD false 0 0 [2, 3] (gT 2 (gCs (gN 2) (gCs (gN 3) gNl))) mYes (mAndT (mCall 1 m_is_name [] (mCons (mV 2) mNil)) (mCall 3 m_is_number [] (mCons (mV 3) (mCons (mV 1) (mCons (mC (.int 2)) mNil))))))
noncomputable def b_is_counted : MSt :=
  (sSeq (sIf (mOrB (mNotB (asT (mB fIsi (mCons (mV 0) (mCons (mC (.ty "dict")) mNil))))) (asB (mBin fGt (mB fLen (mCons (mV 0) mNil)) (mC (.int 6))))) (sRet (mC (.bl false))) sNext)
  (sRet (mB fAll (mCons b_is_counted_c1 mNil))))
noncomputable def m_is_counted : List MV → Sto → Res MV := mDef 4 b_is_counted
noncomputable def b_Gear_init : MSt :=
  (sSeq (sSet 5 (mIf (asB (mIsN (mV 2))) (mLst false mNil) (mV 2)))
  (sSeq (sSet 6 (mIf (asB (mIsN (mV 3))) (mDic0 false) (mV 3)))
  (sSeq (sSet 7 (mIf (asB (mIsN (mV 4))) (mDic0 false) (mV 4)))
  (sSeq (sIf (mOrB (mNotB (asT (mCall 2 m_is_named [] (mCons (mV 1) (mCons (mC (.int 1)) mNil))))) (mNotB (asT (mCall 2 m_is_named [] (mCons (mV 5) (mCons (mC (.int 0)) mNil)))))) sBad sNext)
  (sSeq (sIf (mOrB (mNotB (asT (mCall 2 m_is_counted [] (mCons (mV 6) (mCons (mC (.int 0)) mNil))))) (mNotB (asT (mCall 2 m_is_counted [] (mCons (mV 7) (mCons (mC (.int 1)) mNil)))))) sBad sNext)
  (sSeq (sSet 8 (mBin (fAdd false) (mBin (fAdd false) (mBin (fAdd false) (mV 1) (mV 5)) (mB (fListA false) (mCons (mV 6) mNil))) (mB (fListA false) (mCons (mV 7) mNil))))
  (sSeq (sIf (mOrB (asB (mBin fNe (mLenOnce (mV 8)) (mB fLen (mCons (mV 8) mNil)))) (mOrB (asB (mBin fIn (mC (.str [112])) (mV 8))) (asB (mBin fIn (mC (.str [113])) (mV 8))))) sBad sNext)
  (sSeq (sFldM 0 "upper" (mV 0) (mB (fListA false) (mCons (mV 1) mNil)))
  (sSeq (sFldM 0 "lower" (mV 0) (mB (fListA false) (mCons (mV 5) mNil)))
  (sSeq (sFldM 0 "makers" (mV 0) (mB (fDict false) (mCons (mV 6) mNil)))
  (sFldM 0 "tellers" (mV 0) (mB (fDict false) (mCons (mV 7) mNil)))))))))))))
noncomputable def m_Gear_init : List MV → Sto → Res MV := mDef 9 b_Gear_init
abbrev abc : List Nat := [97, 98, 99, 100, 101, 102, 103, 104, 105, 106, 107, 108, 109, 110, 111, 112, 113, 114, 115, 116, 117, 118, 119, 120, 121, 122]
abbrev freq : List Nat := [101, 116, 97, 111, 105, 110, 115, 104, 114, 100, 108, 99, 117, 109, 119, 102, 103, 121, 112, 98, 118, 107, 106, 120, 113, 122]
structure Nm (z : List Nat) : Prop where
  pos : 1 ≤ z.length
  le : z.length ≤ 8
  abc : ∀ c ∈ z, 97 ≤ c ∧ c ≤ 122
  np : z ≠ [112]
  nq : z ≠ [113]
theorem ones {ys : List MV} {P : Nat → Prop} (h : ∀ y ∈ ys, ∃ c, P c ∧ y = .str [c]) : ∃ cs : List Nat, ys = (cs.map fun c => MV.str [c]) ∧ ∀ c ∈ cs, P c := by
  induction ys with
  | nil => exact ⟨[], rfl, by simp⟩
  | cons y r ih =>
    obtain ⟨c, hc, rfl⟩ := h y (by simp)
    obtain ⟨cs, rfl, hs⟩ := ih fun y hy => h y (List.mem_cons_of_mem _ hy)
    exact ⟨c :: cs, rfl, by simpa using ⟨hc, hs⟩⟩
theorem strs_ones : ∀ cs : List Nat, strsOf (cs.map fun c => MV.str [c]) = some (cs.map fun c => [c])
  | [] => rfl
  | c :: r => by simp only [List.map_cons, strsOf, strs_ones r, Option.map_some]
theorem strs_map : ∀ zs : List (List Nat), strsOf (zs.map MV.str) = some zs
  | [] => rfl
  | c :: r => by simp only [List.map_cons, strsOf, strs_map r, Option.map_some]
theorem join_ones : ∀ cs : List Nat, TL.joinL [] (cs.map fun c => [c]) = cs
  | [] => rfl
  | [c] => rfl
  | c :: d :: r => by
    have := join_ones (d :: r)
    simp only [List.map_cons] at this ⊢
    simp only [TL.joinL, this]
    simp
theorem sum_ones (cs : List Nat) : (List.map List.length (List.map (fun c => [c]) cs)).sum = cs.length := by
  induction cs with
  | nil => rfl
  | cons a r ih => simp only [List.map_cons, List.sum_cons, ih, List.length_cons, List.length_nil]; omega
theorem join_lst {S : Sto} {cs : List Nat} (hl : cs.length ≤ 2 ^ 20) : fJoin (.str []) [.lst (cs.map fun c => .str [c])] S = .ok (.str cs) S := by
  have e1 : asSq S (.lst (cs.map fun c => .str [c])) = some (cs.map fun c => .str [c]) := rfl
  simp only [fJoin, e1, Option.bind_some, strs_ones, join_ones]
  rw [if_pos]
  rw [sum_ones]; simp; omega
theorem clL_strs (n : Nat) : ∀ zs : List (List Nat), ClL n (zs.map MV.str)
  | [] => by simp only [List.map_nil, ClL]
  | z :: r => by simp only [List.map_cons, ClL]; exact ⟨by simp only [Cl], clL_strs n r⟩
theorem flat_strs : ∀ zs : List (List Nat), (zs.map MV.str).all flat = true
  | [] => rfl
  | z :: r => by simp only [List.map_cons, List.all_cons, flat_strs r]; rfl
theorem any_strs (z : List Nat) : ∀ F : List (List Nat), ((F.map MV.str).any fun y => eqF y (.str z)) = decide (z ∈ F)
  | [] => by simp
  | y :: r => by
    rw [List.map_cons, List.any_cons, any_strs z r]
    by_cases e : z = y
    · subst e; simp [eqF]
    · have : (y == z) = false := by simpa using fun h => e h.symm
      simp [eqF, this, e]
theorem in_strs {S : Sto} {x : MV} {z : List Nat} {F : List (List Nat)} (h : asSq S x = some (F.map MV.str)) (hx : ∀ s, x ≠ .str s) : isIn S (.str z) x = some (decide (z ∈ F)) := by
  have hf : (flat (.str z) && (F.map MV.str).all flat) = true := by rw [flat_strs]; rfl
  unfold isIn
  split
  · exact absurd rfl (hx _)
  · rename_i heq _ _ _
    rw [h]
    simp only [hf, if_true, any_strs]
/-- more things than places -/
theorem pigeon {α : Type} [DecidableEq α] : ∀ (xs F : List α), xs.Nodup → (∀ x ∈ xs, x ∈ F) → xs.length ≤ F.length
  | [], F, _, _ => Nat.zero_le _
  | x :: r, F, nd, h => by
    rw [List.nodup_cons] at nd
    have hx := h x (by simp)
    have := pigeon r (F.erase x) nd.2 fun y hy => (List.mem_erase_of_ne (fun e => nd.1 (by rw [← e]; exact hy))).mpr (h y (List.mem_cons_of_mem _ hy))
    rw [List.length_erase_of_mem hx] at this
    have : 0 < F.length := List.length_pos_of_mem hx
    rw [List.length_cons]; omega
theorem fresh_sign (z : List Nat) (F : List (List Nat)) (hF : F.length ≤ 25) : abc.filter (fun c => !decide (z ++ [c] ∈ F)) ≠ [] := by
  intro h
  have all : ∀ c ∈ abc, z ++ [c] ∈ F := fun c hc => by
    by_cases e : z ++ [c] ∈ F
    · exact e
    · have : c ∈ abc.filter (fun c => !decide (z ++ [c] ∈ F)) := List.mem_filter.mpr ⟨hc, by simp [e]⟩
      rw [h] at this; cases this
  have nd : (abc.map fun c => z ++ [c]).Nodup := by
    have n0 : abc.Nodup := by decide
    rw [List.nodup_iff_pairwise_ne, List.pairwise_map]
    exact (List.nodup_iff_pairwise_ne.mp n0).imp fun hab e => hab (by simpa using e)
  have := pigeon _ F nd fun x hx => by
    obtain ⟨c, hc, rfl⟩ := List.mem_map.mp hx
    exact all c hc
  rw [List.length_map] at this
  have e26 : abc.length = 26 := rfl
  omega
abbrev ownT : List Nat := [97, 115, 107, 32, 112, 117, 116, 32, 111, 110, 32, 116, 111, 32, 115, 116, 111, 112, 32, 115, 101, 101, 110, 32, 104, 105, 100, 100, 101, 110, 32, 100, 101, 101, 100, 32, 100, 111, 32, 105, 102, 32, 116, 104, 101, 110, 32, 101, 108, 115, 101, 32, 111, 112, 32, 109, 101, 97, 110, 115, 32, 106, 117, 109, 112, 32, 109, 111, 118, 101, 32, 110, 111, 110, 101, 32, 99, 97, 115, 101, 32, 98, 101, 108, 108, 32, 103, 111, 101, 115]
abbrev words : List (List Nat) := [[97, 115, 107], [112, 117, 116], [111, 110], [116, 111], [115, 116, 111, 112], [115, 101, 101, 110], [104, 105, 100, 100, 101, 110], [100, 101, 101, 100], [100, 111], [105, 102], [116, 104, 101, 110], [101, 108, 115, 101], [111, 112], [109, 101, 97, 110, 115], [106, 117, 109, 112], [109, 111, 118, 101], [110, 111, 110, 101], [99, 97, 115, 101], [98, 101, 108, 108], [103, 111, 101, 115]]
theorem split_own : (Txt.split (st ownT) (st [32])).map (fun z => MV.str (tl z)) = words.map MV.str := by
  have h : (Txt.split (st ownT) (st [32])).map tl = words := by decide +kernel
  rw [← h, List.map_map]
  rfl
theorem words_nm : ∀ z ∈ words, Nm z := by
  have h : ∀ z ∈ words, (1 ≤ z.length ∧ z.length ≤ 8) ∧ (∀ c ∈ z, 97 ≤ c ∧ c ≤ 122) ∧ z ≠ [112] ∧ z ≠ [113] := by decide +kernel
  intro z hz
  obtain ⟨h1, h2, h3, h4⟩ := h z hz
  exact ⟨h1.1, h1.2, h2, h3, h4⟩
theorem freq_abc : ∀ c ∈ freq, 97 ≤ c ∧ c ≤ 122 := by decide +kernel
theorem cut7 (z : List Nat) : cutL z none (some 7) = z.take 7 := cut_none z 7
/-- letters one by one -/
theorem letters_ok {l n : Nat} {S : Sto} {x1 x2 x3 x4 x5 : Option MV} (h : HasDr l n S) (hn : n + 10 ≤ 2 ^ 20) : ∃ (cs : List Nat) (S' : Sto), b_law_name_c1 [some (.ref l), x1, x2, x3, x4, x5] S = .ok (.lst (cs.map fun c => .str [c])) S' ∧ Draws l 9 S S' ∧ (1 ≤ cs.length ∧ cs.length ≤ 8) ∧ ∀ c ∈ cs, 97 ≤ c ∧ c ≤ 122 := by
  obtain ⟨r, S1, e1, d1, r0, r1⟩ := next_ok (sz := 8) h (by omega) (by decide) (by unfold Bd; decide)
  have hi : mItR1 (mCons (mBin (fAdd false) (mC (.int 1)) (mCall 2 m_law_next [] (mCons (mV 0) (mCons (mC (.int 8)) mNil)))) mNil) [some (.ref l), x1, x2, x3, x4, x5] S = .ok ⟨rngL 0 (1 + r).toNat, []⟩ S1 := by
    unfold mItR1
    simp (decide := true) only [env0, sRet, sBind, sSeq, sIf, sSet, sSub, sNext, sRetN, sDrop, mLst, mTup, mCons, mB, mBin, mV, mC, mNil, mCall, asB, asT, bind_ok, List.map_cons, List.map_nil, List.length_cons, List.length_nil, List.cons_append, List.nil_append, List.append_nil, List.getElem?_cons_zero, List.getElem?_cons_succ, List.set_cons_zero, List.set_cons_succ, List.replicate_zero, List.replicate_succ, List.replicate_one, if_true, if_false, Bool.false_eq_true, Nat.reduceSub, Nat.reduceAdd, Nat.sub_self, fAdd, reduceIte, e1]
    exact if_pos ⟨by omega, by omega⟩
  obtain ⟨S2, ys, e2, l2, p2, d2⟩ := mComp_draws (mu := false) (vs := [4]) (g := gN 4) (e := mCall 2 m_law_pick [] (mCons (mV 0) (mCons (mC (.str freq)) mNil))) (P := fun y => ∃ c, (97 ≤ c ∧ c ≤ 122) ∧ y = .str [c]) (q := 1) (N := 2 ^ 20 - 1) hi h d1 rfl (by
      intro v hv
      refine ⟨_, rfl, fun n S' hn hl hd => ?_⟩
      obtain ⟨y, S3, e3, d3, c, hc, rfl⟩ := pick_str (z := freq) hd (by omega) (by decide) (by decide)
      refine ⟨_, S3, ?_, d3, c, freq_abc c hc, rfl⟩
      simp (decide := true) only [env0, sRet, sBind, sSeq, sIf, sSet, sSub, sNext, sRetN, sDrop, mLst, mTup, mCons, mB, mBin, mV, mC, mNil, mCall, asB, asT, bind_ok, List.map_cons, List.map_nil, List.length_cons, List.length_nil, List.cons_append, List.nil_append, List.append_nil, List.getElem?_cons_zero, List.getElem?_cons_succ, List.set_cons_zero, List.set_cons_succ, List.replicate_zero, List.replicate_succ, List.replicate_one, if_true, if_false, Bool.false_eq_true, Nat.reduceSub, Nat.reduceAdd, Nat.sub_self, reduceIte, wipeE, e3]) (by simp [rngL]; omega) (by simp [rngL]; unfold sizeLine; omega) (by rintro y ⟨c, _, rfl⟩; simp [Cl])
  obtain ⟨cs, rfl, hcs⟩ := ones p2
  rw [List.length_map] at l2
  refine ⟨cs, S2, by unfold b_law_name_c1; simpa using e2, d2.mono (by simp [rngL]; omega), ?_, hcs⟩
  simp [rngL] at l2
  omega
/-- the way out: the name's first seven signs and a letter -/
theorem fresh_ok {S : Sto} {F : List (List Nat)} {z : List Nat} {x0 x2 x4 x5 : Option MV} (hz : z.length ≤ 2 ^ 20) :
    b_law_name_c2 [x0, some (.lst (F.map MV.str)), x2, some (.str z), x4, x5] S = .ok (.lst ((abc.filter fun c => !decide (z.take 7 ++ [c] ∈ F)).map fun c => .str (z.take 7 ++ [c]))) S := by
  have hz2 : z.length ≤ sizeLine := by unfold sizeLine; omega
  have hz3 : (z.take 7).length + ([0] : List Nat).length ≤ sizeLine := by rw [List.length_take]; unfold sizeLine; simp; omega
  unfold b_law_name_c2
  have ev : ∀ (c : Nat) (S' : Sto), mBin (fAdd false) (mSl false (mV 3) mNoPart (mPart (mC (.int 7)))) (mV 5) [x0, some (.lst (F.map MV.str)), x2, some (.str z), x4, some (.str [c])] S' = .ok (.str (z.take 7 ++ [c])) S' := by
    intro c S'
    have : (z.take 7).length + [c].length ≤ sizeLine := by simpa using hz3
    simp only [env0, sRet, sBind, sSeq, sIf, sSet, sSub, sNext, sRetN, sDrop, mLst, mTup, mCons, mB, mBin, mV, mC, mNil, mCall, asB, asT, bind_ok, List.map_cons, List.map_nil, List.length_cons, List.length_nil, List.cons_append, List.nil_append, List.append_nil, List.getElem?_cons_zero, List.getElem?_cons_succ, List.set_cons_zero, List.set_cons_succ, List.replicate_zero, List.replicate_succ, List.replicate_one, if_true, if_false, Bool.false_eq_true, Nat.reduceSub, Nat.reduceAdd, Nat.sub_self, mSl, mNoPart, mPart, fSl, if_pos hz2, cut7, fAdd]
    simp only [List.length_cons, List.length_nil] at this
    rw [if_pos this]
  have w := mComp_pure (mu := false) (mi := mItT (mC (.str abc))) (vs := [5]) (g := gN 5) (c := asB (mBin fNotIn (mBin (fAdd false) (mSl false (mV 3) mNoPart (mPart (mC (.int 7)))) (mV 5)) (mV 1))) (e := mBin (fAdd false) (mSl false (mV 3) mNoPart (mPart (mC (.int 7)))) (mV 5)) (env := [x0, some (.lst (F.map MV.str)), x2, some (.str z), x4, x5]) (S := S) (t := ⟨abc.map fun c => .str [c], []⟩)
    (p := fun v => match v with | .str [c] => !decide (z.take 7 ++ [c] ∈ F) | _ => false) (F := fun v => match v with | .str [c] => .str (z.take 7 ++ [c]) | _ => .non)
    (by simp only [env0, sRet, sBind, sSeq, sIf, sSet, sSub, sNext, sRetN, sDrop, mLst, mTup, mCons, mB, mBin, mV, mC, mNil, mCall, asB, asT, bind_ok, List.map_cons, List.map_nil, List.length_cons, List.length_nil, List.cons_append, List.nil_append, List.append_nil, List.getElem?_cons_zero, List.getElem?_cons_succ, List.set_cons_zero, List.set_cons_succ, List.replicate_zero, List.replicate_succ, List.replicate_one, if_true, if_false, Bool.false_eq_true, Nat.reduceSub, Nat.reduceAdd, Nat.sub_self, mItT]) (fun acc => chk_nil rfl _) (by
      intro v hv
      obtain ⟨c, _, rfl⟩ := List.mem_map.mp hv
      refine ⟨_, rfl, fun acc => ⟨?_, fun _ => ?_⟩⟩
      · have i := in_strs (S := S ++ [.lst acc]) (x := .lst (F.map MV.str)) (z := z.take 7 ++ [c]) (F := F) rfl (fun s => by simp)
        show asB (mBin fNotIn _ (mV 1)) [x0, some (.lst (F.map MV.str)), x2, some (.str z), x4, some (.str [c])] _ = _
        unfold asB
        rw [mBin, ev]
        simp only [env0, sRet, sBind, sSeq, sIf, sSet, sSub, sNext, sRetN, sDrop, mLst, mTup, mCons, mB, mBin, mV, mC, mNil, mCall, asB, asT, bind_ok, List.map_cons, List.map_nil, List.length_cons, List.length_nil, List.cons_append, List.nil_append, List.append_nil, List.getElem?_cons_zero, List.getElem?_cons_succ, List.set_cons_zero, List.set_cons_succ, List.replicate_zero, List.replicate_succ, List.replicate_one, if_true, if_false, Bool.false_eq_true, Nat.reduceSub, Nat.reduceAdd, Nat.sub_self, fNotIn, i]
      · exact ev c _) (by simp; unfold sizeLine; omega) (by
      have : ∀ xs : List MV, (∀ x ∈ xs, ∃ s, x = .str s) → ClL S.length xs := by
        intro xs
        induction xs with
        | nil => intro _; simp only [ClL]
        | cons a r ih => intro h; obtain ⟨c, rfl⟩ := h a (by simp); simp only [ClL]; exact ⟨by simp only [Cl], ih fun x hx => h x (List.mem_cons_of_mem _ hx)⟩
      refine this _ fun x hx => ?_
      obtain ⟨y, hy, rfl⟩ := List.mem_map.mp hx
      obtain ⟨c, _, rfl⟩ := List.mem_map.mp (List.mem_filter.mp hy).1
      exact ⟨_, rfl⟩)
  rw [w]
  simp only [Bool.false_eq_true, if_false, List.filter_map, List.map_map]
  rfl
theorem seq_nx {a b : MSt} {env e : Env} {S S1 : Sto} (h : a env S = .nx e S1) : sSeq a b env S = b e S1 := by
  unfold sSeq; rw [h]
theorem name_ok {l n : Nat} {S : Sto} {F : List (List Nat)} (h : HasDr l n S) (hn : n + 12 ≤ 2 ^ 20) (hF : F.length ≤ 25) : ∃ (z : List Nat) (S' : Sto), m_law_name [.ref l, .lst (F.map MV.str)] S = .ok (.str z) S' ∧ Draws l 12 S S' ∧ Nm z ∧ z ∉ F := by
  obtain ⟨r, S1, e1, d1, r0, r1⟩ := next_ok (sz := 3) h (by omega) (by decide) (by unfold Bd; decide)
  have h1 := h.draws d1
  -- the drawn name, before it is held against the found ones
  have drawn : ∃ (z : List Nat) (S2 : Sto), (1 ≤ z.length ∧ z.length ≤ 8) ∧ (∀ c ∈ z, 97 ≤ c ∧ c ≤ 122) ∧ Draws l 9 S1 S2 ∧
      sIf (asB (mBin fEq (mCall 2 m_law_next [] (mCons (mV 0) (mCons (mC (.int 3)) mNil))) (mC (.int 0)))) (sSet 3 (mCall 2 m_law_pick [] (mCons (mV 0) (mCons (mBM "str" (fSplit false) (mV 2) (mCons (mC (.str [32])) mNil)) mNil)))) (sSet 3 (mBM "str" fJoin (mC (.str [])) (mCons b_law_name_c1 mNil)))
        [some (.ref l), some (.lst (F.map MV.str)), some (.str ownT), none, none, none] S = .nx [some (.ref l), some (.lst (F.map MV.str)), some (.str ownT), some (.str z), none, none] S2 := by
    by_cases hr : r = 0
    · obtain ⟨v, S2, e2, d2, m2⟩ := pick_lst (xs := words.map MV.str) h1 (by omega) (by simp) (by decide) (clL_strs _ _)
      obtain ⟨z, hz, rfl⟩ := List.mem_map.mp m2
      have nz := words_nm z hz
      refine ⟨z, S2, ⟨nz.pos, nz.le⟩, nz.abc, d2.mono (by omega), ?_⟩
      have sp : fSplit false (.str ownT) [.str [32]] S1 = .ok (.lst (words.map MV.str)) S1 := by
        show (if ([32] : List Nat) ≠ [] ∧ ownT.length + 2 ≤ sizeLine then mkL false ((Txt.split (st ownT) (st [32])).map fun z => .str (tl z)) S1 else .bad) = _
        rw [if_pos (by decide), split_own]
        rfl
      generalize words.map MV.str = WW at sp e2
      simp (decide := true) only [env0, sRet, sBind, sSeq, sIf, sSet, sSub, sNext, sRetN, sDrop, mLst, mTup, mCons, mB, mBin, mV, mC, mNil, mCall, asB, asT, bind_ok, List.map_cons, List.map_nil, List.length_cons, List.length_nil, List.cons_append, List.nil_append, List.append_nil, List.getElem?_cons_zero, List.getElem?_cons_succ, List.set_cons_zero, List.set_cons_succ, List.replicate_zero, List.replicate_succ, List.replicate_one, if_true, if_false, Bool.false_eq_true, Nat.reduceSub, Nat.reduceAdd, Nat.sub_self, e1, fEq_int, hr, reduceIte, mBM, tyM, sp, e2]
    · obtain ⟨cs, S2, e2, d2, l2, a2⟩ := letters_ok (x1 := some (.lst (F.map MV.str))) (x2 := some (.str ownT)) (x3 := none) (x4 := none) (x5 := none) h1 (by omega)
      refine ⟨cs, S2, l2, a2, d2, ?_⟩
      have j := join_lst (S := S2) (cs := cs) (by omega)
      simp (decide := true) only [env0, sRet, sBind, sSeq, sIf, sSet, sSub, sNext, sRetN, sDrop, mLst, mTup, mCons, mB, mBin, mV, mC, mNil, mCall, asB, asT, bind_ok, List.map_cons, List.map_nil, List.length_cons, List.length_nil, List.cons_append, List.nil_append, List.append_nil, List.getElem?_cons_zero, List.getElem?_cons_succ, List.set_cons_zero, List.set_cons_succ, List.replicate_zero, List.replicate_succ, List.replicate_one, if_true, if_false, Bool.false_eq_true, Nat.reduceSub, Nat.reduceAdd, Nat.sub_self, e1, fEq_int, hr, reduceIte, mBM, tyM, e2, j, decide_false]
  obtain ⟨z, S2, lz, az, d2, e2⟩ := drawn
  have hz2 : z.length ≤ 2 ^ 20 := by omega
  have d3 : Draws l 12 S S2 := (d1.trans d2).mono (by omega)
  have ip : isIn S2 (.str z) (.tup [.str [112], .str [113]]) = some (decide (z ∈ [[112], [113]])) := in_strs (F := [[112], [113]]) rfl (fun s => by simp)
  have iF : isIn S2 (.str z) (.lst (F.map MV.str)) = some (decide (z ∈ F)) := in_strs rfl (fun s => by simp)
  have pq : (.str [112] : MV) = .str [112] := rfl
  have fin : ∀ y : List Nat, leaveV S S2 (.str y) = .ok (.str y) S2 := fun y => d3.leave (by simp [Cl])
  by_cases bad : z ∈ F ∨ z ∈ [[112], [113]]
  · have fr := fresh_ok (S := S2) (F := F) (z := z) (x0 := some (.ref l)) (x2 := some (.str ownT)) (x4 := none) (x5 := none) hz2
    have ne := fresh_sign (z.take 7) F hF
    cases hfil : abc.filter fun c => !decide (z.take 7 ++ [c] ∈ F) with
    | nil => exact absurd hfil ne
    | cons c rest =>
      rw [hfil] at fr
      have hc : c ∈ abc.filter fun c => !decide (z.take 7 ++ [c] ∈ F) := by rw [hfil]; simp
      obtain ⟨hc1, hc2⟩ := List.mem_filter.mp hc
      have l7 : (z.take 7).length = min 7 z.length := List.length_take
      refine ⟨z.take 7 ++ [c], S2, ?_, d3, ⟨by simp, by simp; omega, ?_, ?_, ?_⟩, by simpa using hc2⟩
      · have x0 : fIx (.lst ((c :: rest).map fun c => MV.str (z.take 7 ++ [c]))) (.int 0) S2 = .ok (.str (z.take 7 ++ [c])) S2 := by
          simp [fIx, asSq, asU, asL, L2.atI, ixN]
        generalize (c :: rest).map (fun c => MV.str (z.take 7 ++ [c])) = YY at fr x0
        have test : sIf (mOrB (asB (mBin fIn (mV 3) (mV 1))) (asB (mBin fIn (mV 3) (mTup (mCons (mC (.str [112])) (mCons (mC (.str [113])) mNil)))))) (sSet 3 (mBin fIx b_law_name_c2 (mC (.int 0)))) sNext [some (.ref l), some (.lst (F.map MV.str)), some (.str ownT), some (.str z), none, none] S2 =
            .nx [some (.ref l), some (.lst (F.map MV.str)), some (.str ownT), some (.str (z.take 7 ++ [c])), none, none] S2 := by
          by_cases b1 : z ∈ F
          · simp (decide := true) only [env0, sRet, sBind, sSeq, sIf, sSet, sSub, sNext, sRetN, sDrop, mLst, mTup, mCons, mB, mBin, mV, mC, mNil, mCall, asB, asT, bind_ok, List.map_cons, List.map_nil, List.length_cons, List.length_nil, List.cons_append, List.nil_append, List.append_nil, List.getElem?_cons_zero, List.getElem?_cons_succ, List.set_cons_zero, List.set_cons_succ, List.replicate_zero, List.replicate_succ, List.replicate_one, if_true, if_false, Bool.false_eq_true, Nat.reduceSub, Nat.reduceAdd, Nat.sub_self, mOrB, fIn, iF, b1, decide_true, reduceIte, fr, x0]
          · have b2 : z ∈ [[112], [113]] := bad.resolve_left b1
            simp (decide := true) only [env0, sRet, sBind, sSeq, sIf, sSet, sSub, sNext, sRetN, sDrop, mLst, mTup, mCons, mB, mBin, mV, mC, mNil, mCall, asB, asT, bind_ok, List.map_cons, List.map_nil, List.length_cons, List.length_nil, List.cons_append, List.nil_append, List.append_nil, List.getElem?_cons_zero, List.getElem?_cons_succ, List.set_cons_zero, List.set_cons_succ, List.replicate_zero, List.replicate_succ, List.replicate_one, if_true, if_false, Bool.false_eq_true, Nat.reduceSub, Nat.reduceAdd, Nat.sub_self, mOrB, fIn, iF, ip, b1, b2, decide_true, decide_false, reduceIte, fr, x0]
        have hb : b_law_name (env0 6 [.ref l, .lst (F.map MV.str)]) S = .rt (.str (z.take 7 ++ [c])) S2 := by
          refine Eq.trans (seq_nx (S1 := S) (e := [some (.ref l), some (.lst (F.map MV.str)), some (.str ownT), none, none, none]) rfl) ?_
          exact Eq.trans (seq_nx e2) (Eq.trans (seq_nx test) rfl)
        simp only [m_law_name, mDef, hb, fin]
      · intro d hd
        rcases List.mem_append.mp hd with hd | hd
        · exact az d (List.mem_of_mem_take hd)
        · have : d = c := by simpa using hd
          subst this
          have : ∀ c ∈ abc, 97 ≤ c ∧ c ≤ 122 := by decide +kernel
          exact this d hc1
      · intro e
        have q := congrArg List.length e
        rw [List.length_append, l7] at q
        simp only [List.length_cons, List.length_nil] at q
        omega
      · intro e
        have q := congrArg List.length e
        rw [List.length_append, l7] at q
        simp only [List.length_cons, List.length_nil] at q
        omega
  · have b1 : z ∉ F := fun q => bad (.inl q)
    have b2 : z ∉ [[112], [113]] := fun q => bad (.inr q)
    refine ⟨z, S2, ?_, d3, ⟨lz.1, lz.2, az, fun e => b2 (by simp [e]), fun e => b2 (by simp [e])⟩, b1⟩
    have test : sIf (mOrB (asB (mBin fIn (mV 3) (mV 1))) (asB (mBin fIn (mV 3) (mTup (mCons (mC (.str [112])) (mCons (mC (.str [113])) mNil)))))) (sSet 3 (mBin fIx b_law_name_c2 (mC (.int 0)))) sNext [some (.ref l), some (.lst (F.map MV.str)), some (.str ownT), some (.str z), none, none] S2 =
        .nx [some (.ref l), some (.lst (F.map MV.str)), some (.str ownT), some (.str z), none, none] S2 := by
      simp (decide := true) only [env0, sRet, sBind, sSeq, sIf, sSet, sSub, sNext, sRetN, sDrop, mLst, mTup, mCons, mB, mBin, mV, mC, mNil, mCall, asB, asT, bind_ok, List.map_cons, List.map_nil, List.length_cons, List.length_nil, List.cons_append, List.nil_append, List.append_nil, List.getElem?_cons_zero, List.getElem?_cons_succ, List.set_cons_zero, List.set_cons_succ, List.replicate_zero, List.replicate_succ, List.replicate_one, if_true, if_false, Bool.false_eq_true, Nat.reduceSub, Nat.reduceAdd, Nat.sub_self, mOrB, fIn, iF, ip, b1, b2, decide_false, reduceIte]
    have hb : b_law_name (env0 6 [.ref l, .lst (F.map MV.str)]) S = .rt (.str z) S2 := by
      refine Eq.trans (seq_nx (S1 := S) (e := [some (.ref l), some (.lst (F.map MV.str)), some (.str ownT), none, none, none]) rfl) ?_
      exact Eq.trans (seq_nx e2) (Eq.trans (seq_nx test) rfl)
    simp only [m_law_name, mDef, hb, fin]
theorem names_turn {l n : Nat} {S2 : Sto} {p : Nat} {F zs : List (List Nat)} {x1 v : Option MV} (h2 : HasDr l n S2) (hn : n + 12 ≤ 2 ^ 20) (hF : F.length + zs.length < 25) (hp : S2.length = p) :
    ∃ (z : List Nat) (S5 : Sto), b_law_names_l1 [some (.ref l), x1, some (.lst (F.map MV.str)), some (.ref p), v] (S2 ++ [.lst (zs.map MV.str)]) = .nx [some (.ref l), x1, some (.lst (F.map MV.str)), some (.ref p), v] (S5 ++ [.lst ((zs ++ [z]).map MV.str)]) ∧ Draws l 12 S2 S5 ∧ Nm z ∧ z ∉ F ++ zs := by
  obtain ⟨z, S4, e4, d4, n4, f4⟩ := name_ok (F := F ++ zs) (h2.app [.lst (zs.map MV.str)]) hn (by rw [List.length_append]; omega)
  obtain ⟨S5, rfl, d5⟩ := d4.app h2.lt
  have l5 : S5.length = p := by rw [d5.len, hp]
  have g2 : (S2 ++ [MO.lst (zs.map MV.str)])[p]? = some (.lst (zs.map MV.str)) := by rw [← hp]; simp
  have g5 : (S5 ++ [MO.lst (zs.map MV.str)])[p]? = some (.lst (zs.map MV.str)) := by rw [← l5]; simp
  have s5 : ∀ o, (S5 ++ [MO.lst (zs.map MV.str)]).set p o = S5 ++ [o] := fun o => by rw [← l5]; simp
  have c1 : (F.map MV.str).length + (zs.map MV.str).length ≤ sizeLine := by rw [List.length_map, List.length_map]; unfold sizeLine; omega
  have c2 : (zs.map MV.str).length < sizeLine := by rw [List.length_map]; unfold sizeLine; omega
  rw [List.map_append] at e4
  refine ⟨z, S5, ?_, d5, n4, f4⟩
  unfold b_law_names_l1
  simp only [env0, sRet, sBind, sSeq, sIf, sSet, sSub, sNext, sRetN, sDrop, mLst, mTup, mCons, mB, mBin, mV, mC, mNil, mCall, asB, asT, bind_ok, List.map_cons, List.map_nil, List.length_cons, List.length_nil, List.cons_append, List.nil_append, List.append_nil, List.getElem?_cons_zero, List.getElem?_cons_succ, List.set_cons_zero, List.set_cons_succ, List.replicate_zero, List.replicate_succ, List.replicate_one, if_true, if_false, Bool.false_eq_true, Nat.reduceSub, Nat.reduceAdd, Nat.sub_self, mBM, tyM, asL, g2, Option.isSome_some, Bool.and_true, fAdd, asH, if_pos c1, mkL, e4, fAppend, onL, g5, if_pos c2, s5, List.map_append, beq_self_eq_true]
theorem range1_int {j : Int} {S : Sto} (c : -(2 ^ 62) ≤ j ∧ j < 2 ^ 62) {as : MA} {env : Env} {S1 : Sto} (h : as env S = .ok [.int j] S1) : mItR1 as env S = .ok ⟨rngL 0 j.toNat, []⟩ S1 := by
  unfold mItR1
  simp only [h, bind_ok, if_pos c]
theorem range1_ok {m : Nat} {S : Sto} (hm : m ≤ 25) {x0 x2 x3 x4 : Option MV} : mItR1 (mCons (mV 1) mNil) [x0, some (.int m), x2, x3, x4] S = .ok ⟨rngL 0 m, []⟩ S := by
  have c1 : -(2 ^ 62) ≤ (m : Int) := Int.le_trans (by decide) (Int.natCast_nonneg m)
  have c2 : (m : Int) < 2 ^ 62 := Int.lt_of_le_of_lt (Int.ofNat_le.mpr hm) (by decide)
  have q := range1_int (S := S) (S1 := S) (as := mCons (mV 1) mNil) (env := [x0, some (.int m), x2, x3, x4]) ⟨c1, c2⟩ (by simp only [env0, sRet, sBind, sSeq, sIf, sSet, sSub, sNext, sRetN, sDrop, mLst, mTup, mCons, mB, mBin, mV, mC, mNil, mCall, asB, asT, bind_ok, List.map_cons, List.map_nil, List.length_cons, List.length_nil, List.cons_append, List.nil_append, List.append_nil, List.getElem?_cons_zero, List.getElem?_cons_succ, List.set_cons_zero, List.set_cons_succ, List.replicate_zero, List.replicate_succ, List.replicate_one, if_true, if_false, Bool.false_eq_true, Nat.reduceSub, Nat.reduceAdd, Nat.sub_self])
  rw [Int.toNat_natCast] at q
  exact q
theorem mDef_rt {n : Nat} {b : MSt} {args : List MV} {S S1 : Sto} {v : MV} {r : Res MV} (h : b (env0 n args) S = .rt v S1) (f : leaveV S S1 v = r) : mDef n b args S = r := by
  unfold mDef; rw [h]; exact f
theorem set_new {x0 x1 x2 x3 x4 : Option MV} {S : Sto} : sSet 3 (mLst true mNil) [x0, x1, x2, x3, x4] S = .nx [x0, x1, x2, some (.ref S.length), x4] (S ++ [.lst []]) := by
  have c0 : ([] : List MV).length ≤ sizeLine := Nat.zero_le _
  simp only [sSet, mLst, mNil, bind_ok, if_pos c0, mkL, if_true, sBind, List.set_cons_succ, List.set_cons_zero]
theorem for_step {mi : Env → Sto → Res Itv} {g : MG} {mb : MSt} {env : Env} {S S1 : Sto} {t : Itv} {r : SRes} (h : mi env S = .ok t S1) (f : forL t g mb t.items env S1 = r) : sFor mi g mb env S = r := by
  unfold sFor; rw [h]; exact f
theorem names_ok {l n : Nat} {S : Sto} {F : List (List Nat)} {m : Nat} (h : HasDr l n S) (hn : n + 12 * m + 12 ≤ 2 ^ 20) (hF : F.length + m ≤ 25) :
    ∃ (zs : List (List Nat)) (S' : Sto), m_law_names [.ref l, .int m, .lst (F.map MV.str)] S = .ok (.lst (zs.map MV.str)) S' ∧ Draws l (12 * m) S S' ∧ zs.length = m ∧ (∀ z ∈ zs, Nm z ∧ z ∉ F) ∧ zs.Nodup := by
  have lr : (rngL 0 m).length = m := by simp [rngL]
  have walk := forL_inv (t := ⟨rngL 0 m, []⟩) (g := gN 4) (mb := b_law_names_l1) rfl (fun i env S' => ∃ (zs : List (List Nat)) (S2 : Sto) (x4 : Option MV), env = [some (.ref l), some (.int m), some (.lst (F.map MV.str)), some (.ref S.length), x4] ∧ S' = S2 ++ [.lst (zs.map MV.str)] ∧ Draws l (12 * i) S S2 ∧ zs.length = i ∧ (∀ z ∈ zs, Nm z ∧ z ∉ F) ∧ zs.Nodup)
    (rngL 0 m) 0 [some (.ref l), some (.int m), some (.lst (F.map MV.str)), some (.ref S.length), none] (S ++ [.lst []]) ⟨[], S, none, rfl, rfl, Draws.zero h, rfl, by simp, List.nodup_nil⟩
  have turn : ∀ (j : Nat) (v : MV), (rngL 0 m)[j]? = some v → ∀ (env : Env) (S' : Sto), (∃ (zs : List (List Nat)) (S2 : Sto) (x4 : Option MV), env = [some (.ref l), some (.int m), some (.lst (F.map MV.str)), some (.ref S.length), x4] ∧ S' = S2 ++ [.lst (zs.map MV.str)] ∧ Draws l (12 * (0 + j)) S S2 ∧ zs.length = 0 + j ∧ (∀ z ∈ zs, Nm z ∧ z ∉ F) ∧ zs.Nodup) →
      ∃ e1, gN 4 v env = some e1 ∧ ∃ e2 S2, (b_law_names_l1 e1 S' = .nx e2 S2 ∨ b_law_names_l1 e1 S' = .ct e2 S2) ∧ (∃ (zs : List (List Nat)) (S3 : Sto) (x4 : Option MV), e2 = [some (.ref l), some (.int m), some (.lst (F.map MV.str)), some (.ref S.length), x4] ∧ S2 = S3 ++ [.lst (zs.map MV.str)] ∧ Draws l (12 * (0 + j + 1)) S S3 ∧ zs.length = 0 + j + 1 ∧ (∀ z ∈ zs, Nm z ∧ z ∉ F) ∧ zs.Nodup) := by
    rintro j v hv env S' ⟨zs, S2, x4, rfl, rfl, d2, lz, hN, hnd⟩
    have hj : j < m := by
      have := (List.getElem?_eq_some_iff.mp hv).1
      rwa [lr] at this
    have h2 := h.draws d2
    obtain ⟨z, S5, e5, d5, n4, f4⟩ := names_turn (x1 := some (.int m)) (v := some v) (zs := zs) (F := F) h2 (by omega) (by omega) d2.len
    refine ⟨_, rfl, _, _, .inl e5, zs ++ [z], S5, some v, rfl, rfl, (d2.trans d5).mono (by omega), by rw [List.length_append, lz]; rfl, ?_, ?_⟩
    · intro y hy
      rcases List.mem_append.mp hy with hy | hy
      · exact hN y hy
      · rw [List.mem_singleton.mp hy]
        exact ⟨n4, fun q => f4 (List.mem_append_left _ q)⟩
    · rw [List.nodup_append]
      refine ⟨hnd, by simp, fun a ha b hb e => ?_⟩
      rw [List.mem_singleton.mp hb] at e
      exact f4 (List.mem_append_right _ (by rw [← e]; exact ha))
  obtain ⟨e2, S2, h1, zs, S3, x4, he, hS, hd, hz, hN, hnd⟩ := walk turn
  have hk : 0 + (rngL 0 m).length = m := by rw [lr, Nat.zero_add]
  replace hz : zs.length = m := hz.trans hk
  replace hd : Draws l (12 * m) S S3 := Draws.mono hd (Nat.le_of_eq (congrArg (fun x => 12 * x) hk))
  clear walk turn
  subst he; subst hS
  refine ⟨zs, S3, ?_, hd, hz, hN, hnd⟩
  have hm25 : m ≤ 25 := Nat.le_trans (Nat.le_add_left _ _) hF
  have hi : mItR1 (mCons (mV 1) mNil) [some (.ref l), some (.int m), some (.lst (F.map MV.str)), some (.ref S.length), none] (S ++ [.lst []]) = .ok ⟨rngL 0 m, []⟩ (S ++ [.lst []]) := by
    exact range1_ok hm25
  have fin := leaveV_new (S := S) (S1 := S3) (xs := zs.map MV.str) hd.keeps hd.len (clL_strs _ _)
  have c0 : (0 : Nat) ≤ sizeLine := Nat.zero_le _
  have hb : b_law_names (env0 5 [.ref l, .int m, .lst (F.map MV.str)]) S = .rt (.ref S.length) (S3 ++ [.lst (zs.map MV.str)]) := by
    refine Eq.trans (seq_nx (S1 := S ++ [.lst []]) (e := [some (.ref l), some (.int m), some (.lst (F.map MV.str)), some (.ref S.length), none]) ?_) (Eq.trans (seq_nx (S1 := S3 ++ [.lst (zs.map MV.str)]) (e := [some (.ref l), some (.int m), some (.lst (F.map MV.str)), some (.ref S.length), x4]) ?_) ?_)
    · exact set_new
    · exact for_step hi h1
    · rfl
  exact mDef_rt (n := 5) (b := b_law_names) hb fin
def isAbc (c : Nat) : Bool := decide (97 ≤ c ∧ c ≤ 122)
theorem abc_iff (c : Nat) : decide (c ∈ abc) = isAbc c := by
  unfold isAbc
  simp only [List.mem_cons, List.not_mem_nil, or_false, decide_eq_decide]
  omega
theorem boolsOf_map (f : Nat → Bool) : ∀ z : List Nat, boolsOf (z.map fun c => MV.bl (f c)) = some (z.map f)
  | [] => rfl
  | c :: r => by simp only [List.map_cons, boolsOf, boolsOf_map f r, Option.map_some]
theorem clL_bools (n : Nat) (f : Nat → Bool) : ∀ z : List Nat, ClL n (z.map fun c => MV.bl (f c))
  | [] => by simp only [List.map_nil, ClL]
  | c :: r => by simp only [List.map_cons, ClL]; exact ⟨by simp only [Cl], clL_bools n f r⟩
def codeOf : MV → Nat
  | .str [c] => c
  | _ => 0
theorem is_name_str (z : List Nat) (S : Sto) (hz : z.length ≤ 2 ^ 20) : m_is_name [.str z] S = .ok (.bl (decide (1 ≤ z.length ∧ z.length ≤ 8) && z.all isAbc)) S := by
  have q : ∀ b : Bool, leaveV S S (.bl b) = .ok (.bl b) S := fun b => by rw [leaveV_cl (keeps_refl S) (by simp [Cl]), List.take_length]
  have hz2 : z.length ≤ sizeLine := by unfold sizeLine; omega
  have hc : b_is_name_c1 [some (.str z), none] S = .ok (.lst (z.map fun c => .bl (isAbc c))) S := by
    have w := mComp_pure (mu := false) (mi := mItT (mV 0)) (vs := [1]) (g := gN 1) (c := mYes) (e := mBin fIn (mV 1) (mC (.str [97, 98, 99, 100, 101, 102, 103, 104, 105, 106, 107, 108, 109, 110, 111, 112, 113, 114, 115, 116, 117, 118, 119, 120, 121, 122]))) (env := [some (.str z), none]) (S := S) (t := ⟨z.map fun c => .str [c], []⟩) (p := fun _ => true) (F := fun v => .bl (isAbc (codeOf v)))
      (by simp only [env0, sRet, sBind, sSeq, sIf, sSet, sSub, sNext, sRetN, sDrop, mLst, mTup, mCons, mB, mBin, mV, mC, mNil, mCall, asB, asT, bind_ok, List.map_cons, List.map_nil, List.length_cons, List.length_nil, List.cons_append, List.nil_append, List.append_nil, List.getElem?_cons_zero, List.getElem?_cons_succ, List.set_cons_zero, List.set_cons_succ, List.replicate_zero, List.replicate_succ, List.replicate_one, if_true, if_false, Bool.false_eq_true, Nat.reduceSub, Nat.reduceAdd, Nat.sub_self, mItT]) (fun acc => chk_nil rfl _) (by
        intro v hv
        obtain ⟨c, _, rfl⟩ := List.mem_map.mp hv
        refine ⟨_, rfl, fun acc => ⟨rfl, fun _ => ?_⟩⟩
        have := abc_iff c
        simp (decide := true) only [env0, sRet, sBind, sSeq, sIf, sSet, sSub, sNext, sRetN, sDrop, mLst, mTup, mCons, mB, mBin, mV, mC, mNil, mCall, asB, asT, bind_ok, List.map_cons, List.map_nil, List.length_cons, List.length_nil, List.cons_append, List.nil_append, List.append_nil, List.getElem?_cons_zero, List.getElem?_cons_succ, List.set_cons_zero, List.set_cons_succ, List.replicate_zero, List.replicate_succ, List.replicate_one, if_true, if_false, Bool.false_eq_true, Nat.reduceSub, Nat.reduceAdd, Nat.sub_self, wipeE, fIn, isIn, codeOf, this]) (by simpa using hz2) (by
        rw [List.filter_eq_self.mpr (by simp), List.map_map]
        exact clL_bools _ _ z)
    unfold b_is_name_c1
    rw [w]
    simp only [Bool.false_eq_true, if_false]
    rw [List.filter_eq_self.mpr (by simp), List.map_map]
    rfl
  unfold m_is_name mDef b_is_name
  by_cases h : 1 ≤ z.length ∧ z.length ≤ 8
  · have h1 : (1 : Int) ≤ (z.length : Int) := by omega
    have h2 : (z.length : Int) ≤ 8 := by omega
    simp (decide := true) only [env0, sRet, sBind, sSeq, sIf, sSet, sSub, sNext, sRetN, sDrop, mLst, mTup, mCons, mB, mBin, mV, mC, mNil, mCall, asB, asT, bind_ok, List.map_cons, List.map_nil, List.length_cons, List.length_nil, List.cons_append, List.nil_append, List.append_nil, List.getElem?_cons_zero, List.getElem?_cons_succ, List.set_cons_zero, List.set_cons_succ, List.replicate_zero, List.replicate_succ, List.replicate_one, if_true, if_false, Bool.false_eq_true, Nat.reduceSub, Nat.reduceAdd, Nat.sub_self, mOrB, mNotB, fIsi, tyName, isiB, tru, mChain, fLe, fLen, lenM, if_pos hz2, h1, h2, decide_true, reduceIte, hc, fAll, asL, Option.bind_some, boolsOf_map, q, h, and_self, Bool.true_and, List.all_map, Function.comp_def, id]
  · by_cases h1 : 1 ≤ z.length
    · have h1' : (1 : Int) ≤ (z.length : Int) := by omega
      have h2 : ¬ (z.length : Int) ≤ 8 := by omega
      simp (decide := true) only [env0, sRet, sBind, sSeq, sIf, sSet, sSub, sNext, sRetN, sDrop, mLst, mTup, mCons, mB, mBin, mV, mC, mNil, mCall, asB, asT, bind_ok, List.map_cons, List.map_nil, List.length_cons, List.length_nil, List.cons_append, List.nil_append, List.append_nil, List.getElem?_cons_zero, List.getElem?_cons_succ, List.set_cons_zero, List.set_cons_succ, List.replicate_zero, List.replicate_succ, List.replicate_one, if_true, if_false, Bool.false_eq_true, Nat.reduceSub, Nat.reduceAdd, Nat.sub_self, mOrB, mNotB, fIsi, tyName, isiB, tru, mChain, fLe, fLen, lenM, if_pos hz2, h1', h2, decide_true, decide_false, reduceIte, q, h, Bool.false_and, Bool.not_true, Bool.not_false]
    · have h1' : ¬ (1 : Int) ≤ (z.length : Int) := by omega
      simp (decide := true) only [env0, sRet, sBind, sSeq, sIf, sSet, sSub, sNext, sRetN, sDrop, mLst, mTup, mCons, mB, mBin, mV, mC, mNil, mCall, asB, asT, bind_ok, List.map_cons, List.map_nil, List.length_cons, List.length_nil, List.cons_append, List.nil_append, List.append_nil, List.getElem?_cons_zero, List.getElem?_cons_succ, List.set_cons_zero, List.set_cons_succ, List.replicate_zero, List.replicate_succ, List.replicate_one, if_true, if_false, Bool.false_eq_true, Nat.reduceSub, Nat.reduceAdd, Nat.sub_self, mOrB, mNotB, fIsi, tyName, isiB, tru, mChain, fLe, fLen, lenM, if_pos hz2, h1', decide_true, decide_false, reduceIte, q, h, Bool.false_and, Bool.not_true, Bool.not_false]
theorem is_name_nm {z : List Nat} (h : Nm z) (S : Sto) : m_is_name [.str z] S = .ok (.bl true) S := by
  rw [is_name_str z S (Nat.le_trans h.le (by decide))]
  have e1 : decide (1 ≤ z.length ∧ z.length ≤ 8) = true := decide_eq_true ⟨h.pos, h.le⟩
  have e2 : z.all isAbc = true := List.all_eq_true.mpr fun c hc => decide_eq_true (h.abc c hc)
  rw [e1, e2]
  rfl
theorem boolsOf_true : ∀ n : Nat, boolsOf (List.replicate n (MV.bl true)) = some (List.replicate n true)
  | 0 => rfl
  | n + 1 => by simp only [List.replicate_succ, boolsOf, boolsOf_true n, Option.map_some]
theorem clL_true (m : Nat) : ∀ n : Nat, ClL m (List.replicate n (MV.bl true))
  | 0 => by simp only [List.replicate_zero, ClL]
  | n + 1 => by simp only [List.replicate_succ, ClL]; exact ⟨by simp only [Cl], clL_true m n⟩
theorem all_true (n : Nat) (S : Sto) : fAll [.lst (List.replicate n (MV.bl true))] S = .ok (.bl true) S := by
  simp only [fAll, asL, Option.bind_some, boolsOf_true]
  congr 2
  exact List.all_eq_true.mpr fun b hb => by rw [List.eq_of_mem_replicate hb]; rfl
theorem leave_bl (S : Sto) (b : Bool) : leaveV S S (.bl b) = .ok (.bl b) S := by
  rw [leaveV_cl (keeps_refl S) (by simp [Cl]), List.take_length]
theorem is_named_ok {zs : List (List Nat)} {least : Int} {S : Sto} (h1 : least ≤ zs.length) (h2 : zs.length ≤ 4) (hz : ∀ z ∈ zs, Nm z) : m_is_named [.lst (zs.map MV.str), .int least] S = .ok (.bl true) S := by
  have hc : b_is_named_c1 [some (.lst (zs.map MV.str)), some (.int least), none] S = .ok (.lst (List.replicate zs.length (MV.bl true))) S := by
    have w := mComp_pure (mu := false) (mi := mItS (mV 0)) (vs := [2]) (g := gN 2) (c := mYes) (e := mCall 1 m_is_name [] (mCons (mV 2) mNil)) (env := [some (.lst (zs.map MV.str)), some (.int least), none]) (S := S) (t := ⟨zs.map MV.str, []⟩) (p := fun _ => true) (F := fun _ => .bl true)
      (by simp only [mItS, mV, List.getElem?_cons_zero, bind_ok, itL, asU, asL, depsOf, Option.map_some]) (fun acc => chk_nil rfl _) (by
        intro v hv
        obtain ⟨z, hm, rfl⟩ := List.mem_map.mp hv
        refine ⟨_, rfl, fun acc => ⟨rfl, fun _ => ?_⟩⟩
        have q := is_name_nm (hz z hm) (S ++ [.lst acc])
        simp only [env0, sRet, sBind, sSeq, sIf, sSet, sSub, sNext, sRetN, sDrop, mLst, mTup, mCons, mB, mBin, mV, mC, mNil, mCall, asB, asT, bind_ok, List.map_cons, List.map_nil, List.length_cons, List.length_nil, List.cons_append, List.nil_append, List.append_nil, List.getElem?_cons_zero, List.getElem?_cons_succ, List.set_cons_zero, List.set_cons_succ, List.replicate_zero, List.replicate_succ, List.replicate_one, if_true, if_false, Bool.false_eq_true, Nat.reduceSub, Nat.reduceAdd, Nat.sub_self, wipeE, q, reduceIte]) (by simp; unfold sizeLine; omega) (by
        rw [List.filter_eq_self.mpr (by simp), List.map_const']
        exact clL_true _ _)
    unfold b_is_named_c1
    rw [w]
    simp only [Bool.false_eq_true, if_false]
    rw [List.filter_eq_self.mpr (by simp), List.map_const', List.length_map]
  have c2 : (zs.length : Int) ≤ 4 := by omega
  have al := all_true zs.length S
  have lv := leave_bl S true
  generalize List.replicate zs.length (MV.bl true) = TT at hc al
  unfold m_is_named mDef b_is_named
  simp (decide := true) only [env0, sRet, sBind, sSeq, sIf, sSet, sSub, sNext, sRetN, sDrop, mLst, mTup, mCons, mB, mBin, mV, mC, mNil, mCall, asB, asT, bind_ok, List.map_cons, List.map_nil, List.length_cons, List.length_nil, List.cons_append, List.nil_append, List.append_nil, List.getElem?_cons_zero, List.getElem?_cons_succ, List.set_cons_zero, List.set_cons_succ, List.replicate_zero, List.replicate_succ, List.replicate_one, if_true, if_false, Bool.false_eq_true, Nat.reduceSub, Nat.reduceAdd, Nat.sub_self, mOrB, mNotB, fIsi, tyName, isiB, tru, mChain, fLe, fLen, lenM, asSq, asU, asL, List.length_map, h1, c2, decide_true, reduceIte, hc, al, lv]
theorem is_number_ok {i a b : Int} {S : Sto} : m_is_number [.int i, .int a, .int b] S = .ok (.bl (decide (a ≤ i) && decide (i ≤ b))) S := by
  unfold m_is_number mDef b_is_number
  by_cases h : a ≤ i
  · simp (decide := true) only [env0, sRet, sBind, sSeq, sIf, sSet, sSub, sNext, sRetN, sDrop, mLst, mTup, mCons, mB, mBin, mV, mC, mNil, mCall, asB, asT, bind_ok, List.map_cons, List.map_nil, List.length_cons, List.length_nil, List.cons_append, List.nil_append, List.append_nil, List.getElem?_cons_zero, List.getElem?_cons_succ, List.set_cons_zero, List.set_cons_succ, List.replicate_zero, List.replicate_succ, List.replicate_one, if_true, if_false, Bool.false_eq_true, Nat.reduceSub, Nat.reduceAdd, Nat.sub_self, mAndT, mNotT, fIsi, tyName, isiB, tru, mChain, fLe, h, decide_true, reduceIte, Bool.true_and, leave_bl]
  · simp (decide := true) only [env0, sRet, sBind, sSeq, sIf, sSet, sSub, sNext, sRetN, sDrop, mLst, mTup, mCons, mB, mBin, mV, mC, mNil, mCall, asB, asT, bind_ok, List.map_cons, List.map_nil, List.length_cons, List.length_nil, List.cons_append, List.nil_append, List.append_nil, List.getElem?_cons_zero, List.getElem?_cons_succ, List.set_cons_zero, List.set_cons_succ, List.replicate_zero, List.replicate_succ, List.replicate_one, if_true, if_false, Bool.false_eq_true, Nat.reduceSub, Nat.reduceAdd, Nat.sub_self, mAndT, mNotT, fIsi, tyName, isiB, tru, mChain, fLe, h, decide_false, reduceIte, Bool.false_and, leave_bl]
abbrev kvOf (ps : List (List Nat × Int)) : List (MV × MV) := ps.map fun p => (.str p.1, .int p.2)
theorem is_counted_ok {ps : List (List Nat × Int)} {least : Int} {S : Sto} (h2 : ps.length ≤ 6) (hz : ∀ p ∈ ps, Nm p.1 ∧ least ≤ p.2 ∧ p.2 ≤ 2) : m_is_counted [.dic (kvOf ps), .int least] S = .ok (.bl true) S := by
  have hc : b_is_counted_c1 [some (.dic (kvOf ps)), some (.int least), none, none] S = .ok (.lst (List.replicate ps.length (MV.bl true))) S := by
    unfold b_is_counted_c1 mCompD
    have q := compL_pure (t := ⟨itemsM 0 (kvOf ps), []⟩) (g := gT 2 (gCs (gN 2) (gCs (gN 3) gNl))) (c := mYes) (e := mAndT (mCall 1 m_is_name [] (mCons (mV 2) mNil)) (mCall 3 m_is_number [] (mCons (mV 3) (mCons (mV 1) (mCons (mC (.int 2)) mNil))))) (env := wipeE [some (.dic (kvOf ps)), some (.int least), none, none] [2, 3]) (S0 := S) (p := fun _ => true) (F := fun _ => .bl true) (fun acc => chk_nil rfl _) (itemsM 0 (kvOf ps)) [] (by
      intro v hv
      simp only [itemsM, kvOf, List.map_map] at hv
      obtain ⟨p, hm, rfl⟩ := List.mem_map.mp hv
      obtain ⟨n1, n2, n3⟩ := hz p hm
      refine ⟨[some (.dic (kvOf ps)), some (.int least), some (.str p.1), some (.int p.2)], rfl, fun acc => ⟨rfl, fun _ => ?_⟩⟩
      have q1 := is_name_nm n1 (S ++ [.lst acc])
      have q2 := is_number_ok (i := p.2) (a := least) (b := 2) (S := S ++ [.lst acc])
      rw [decide_eq_true n2, decide_eq_true n3] at q2
      simp only [env0, sRet, sBind, sSeq, sIf, sSet, sSub, sNext, sRetN, sDrop, mLst, mTup, mCons, mB, mBin, mV, mC, mNil, mCall, asB, asT, bind_ok, List.map_cons, List.map_nil, List.length_cons, List.length_nil, List.cons_append, List.nil_append, List.append_nil, List.getElem?_cons_zero, List.getElem?_cons_succ, List.set_cons_zero, List.set_cons_succ, List.replicate_zero, List.replicate_succ, List.replicate_one, if_true, if_false, Bool.false_eq_true, Nat.reduceSub, Nat.reduceAdd, Nat.sub_self, mAndT, q1, tru, q2, reduceIte, Bool.and_true]) (by simp [itemsM]; unfold sizeLine; omega)
    simp only [List.nil_append] at q
    rw [List.filter_eq_self.mpr (by simp), List.map_const'] at q
    have ln : (itemsM 0 (kvOf ps)).length = ps.length := by simp [itemsM]
    rw [ln] at q
    have lv := leaveV_new (S := S) (S1 := S) (keeps_refl S) rfl (clL_true S.length ps.length)
    simp only [List.getElem?_cons_zero, q, bind_ok, compE, Bool.false_eq_true, if_false, lv, noX]
  have c2 : ¬ (ps.length : Int) > 6 := by omega
  have al := all_true ps.length S
  have lv := leave_bl S true
  generalize List.replicate ps.length (MV.bl true) = TT at hc al
  have e0 : env0 4 [.dic (kvOf ps), .int least] = [some (.dic (kvOf ps)), some (.int least), none, none] := rfl
  have f0 : fIsi [.dic (kvOf ps), .ty "dict"] S = .ok (.bl true) S := rfl
  have f1 : fLen [.dic (kvOf ps)] S = .ok (.int (ps.length : Int)) S := by simp [fLen, lenM, asSq, asU, asL, asD]
  refine mDef_rt (n := 4) (b := b_is_counted) (S1 := S) (v := .bl true) ?_ lv
  rw [e0]
  generalize kvOf ps = KV at hc f0 f1
  unfold b_is_counted
  simp (decide := true) only [env0, sRet, sBind, sSeq, sIf, sSet, sSub, sNext, sRetN, sDrop, mLst, mTup, mCons, mB, mBin, mV, mC, mNil, mCall, asB, asT, bind_ok, List.map_cons, List.map_nil, List.length_cons, List.length_nil, List.cons_append, List.nil_append, List.append_nil, List.getElem?_cons_zero, List.getElem?_cons_succ, List.set_cons_zero, List.set_cons_succ, List.replicate_zero, List.replicate_succ, List.replicate_one, if_true, if_false, Bool.false_eq_true, Nat.reduceSub, Nat.reduceAdd, Nat.sub_self, mOrB, mNotB, f0, f1, tru, fGt, gt_iff_lt, c2, decide_false, reduceIte, hc, al, Bool.not_true]
def gearFs (u b d t : MV) : List (Str × MV) := [("upper", u), ("lower", b), ("makers", d), ("tellers", t)]
theorem put_up (y : MV) : putM "upper" y [] = ([("upper", y)] : List (Str × MV)) := rfl
theorem put_lo (u y : MV) : putM "lower" y ([("upper", u)] : List (Str × MV)) = ([("upper", u), ("lower", y)] : List (Str × MV)) := by
  simp only [putM, if_neg (by decide +kernel : ¬ ("upper" : Str) = "lower")]
theorem put_ma (u b y : MV) : putM "makers" y ([("upper", u), ("lower", b)] : List (Str × MV)) = ([("upper", u), ("lower", b), ("makers", y)] : List (Str × MV)) := by
  simp only [putM, if_neg (by decide +kernel : ¬ ("upper" : Str) = "makers"), if_neg (by decide +kernel : ¬ ("lower" : Str) = "makers")]
theorem put_te (u b d y : MV) : putM "tellers" y ([("upper", u), ("lower", b), ("makers", d)] : List (Str × MV)) = gearFs u b d y := by
  simp only [putM, gearFs, if_neg (by decide +kernel : ¬ ("upper" : Str) = "tellers"), if_neg (by decide +kernel : ¬ ("lower" : Str) = "tellers"), if_neg (by decide +kernel : ¬ ("makers" : Str) = "tellers")]
theorem clf_gear {n : Nat} {u b d t : MV} (h1 : Cl n u) (h2 : Cl n b) (h3 : Cl n d) (h4 : Cl n t) : Clf n (gearFs u b d t) := by
  simp only [gearFs, Clf, Clg]; exact ⟨h1, h2, h3, h4, trivial⟩
theorem clk_kv (n : Nat) : ∀ ps : List (List Nat × Int), Clk n (kvOf ps)
  | [] => by simp only [kvOf, List.map_nil, Clk]
  | p :: r => by simp only [kvOf, List.map_cons, Clk, Clp]; exact ⟨by simp only [Cl], clk_kv n r⟩
theorem once_nodup : ∀ zs : List (List Nat), zs.Nodup → onceM zs = zs := by
  have key : ∀ (zs acc : List (List Nat)), (acc ++ zs).Nodup → zs.foldl (fun acc x => if x ∈ acc then acc else acc ++ [x]) acc = acc ++ zs := by
    intro zs
    induction zs with
    | nil => intro acc _; simp
    | cons z r ih =>
      intro acc h
      have hz : z ∉ acc := by
        rw [List.nodup_append] at h
        exact fun q => h.2.2 z q z (by simp) rfl
      rw [List.foldl_cons, if_neg hz, ih _ (by simpa using h)]
      simp
  intro zs h
  exact (key zs [] (by simpa using h)).trans (List.nil_append zs)
/-- a gear of good names -/
structure GearOk (U L : List (List Nat)) (D T : List (List Nat × Int)) : Prop where
  u1 : 1 ≤ U.length
  u4 : U.length ≤ 4
  l4 : L.length ≤ 4
  d6 : D.length ≤ 6
  t6 : T.length ≤ 6
  nU : ∀ z ∈ U, Nm z
  nL : ∀ z ∈ L, Nm z
  nD : ∀ p ∈ D, Nm p.1 ∧ 0 ≤ p.2 ∧ p.2 ≤ 2
  nT : ∀ p ∈ T, Nm p.1 ∧ 1 ≤ p.2 ∧ p.2 ≤ 2
  nd : (U ++ L ++ D.map (·.1) ++ T.map (·.1)).Nodup
theorem optL_clf {S : Sto} {n d : Nat} : ∀ {fs : List (Str × MV)}, Clf n fs → optL (fun p => (fz S n d p.2).map fun y => (p.1, y)) fs = some fs
  | [], _ => rfl
  | (k, v) :: r, h => by
    simp only [Clf, Clg] at h
    have h1 := optL_clf (S := S) (d := d) h.2
    simp only [optL, h1]
    rw [fz_cl h.1]
    rfl
theorem leaveV_newI {S S1 : Sto} {c : Nat} {fs : List (Str × MV)} (k : Keeps S S1) (hl : S1.length = S.length) (h : Clf S.length fs) : leaveV S (S1 ++ [.ins c fs]) (.ref S.length) = .ok (.ins c fs) S1 := by
  unfold leaveV
  rw [if_pos (keeps_app _ k)]
  have e : (S1 ++ [MO.ins c fs])[S.length]? = some (.ins c fs) := by rw [← hl]; simp
  have f : fz (S1 ++ [MO.ins c fs]) S.length 6 (.ref S.length) = some (.ins c fs) := by
    unfold fz
    rw [if_neg (by simp [Cl])]
    simp only [e, optL_clf h, Option.map_some]
  rw [f]
  simp only [← hl]
  rw [List.take_left]
/-- a gear as a value -/
abbrev gearM (U L : List (List Nat)) (D T : List (List Nat × Int)) : MV := .ins 0 (gearFs (.lst (U.map MV.str)) (.lst (L.map MV.str)) (.dic (kvOf D)) (.dic (kvOf T)))
theorem gear_cl (U L : List (List Nat)) (D T : List (List Nat × Int)) (n : Nat) : Clf n (gearFs (.lst (U.map MV.str)) (.lst (L.map MV.str)) (.dic (kvOf D)) (.dic (kvOf T))) :=
  clf_gear (by simp only [Cl]; exact clL_strs _ _) (by simp only [Cl]; exact clL_strs _ _) (by simp only [Cl]; exact clk_kv _ _) (by simp only [Cl]; exact clk_kv _ _)
theorem look_up (u b d t : MV) : (gearFs u b d t).lookup ("upper" : Str) = some u ∧ (gearFs u b d t).lookup ("lower" : Str) = some b ∧ (gearFs u b d t).lookup ("makers" : Str) = some d ∧ (gearFs u b d t).lookup ("tellers" : Str) = some t := by
  have e1 : (("lower" : Str) == "upper") = false := by decide +kernel
  have e2 : (("makers" : Str) == "upper") = false := by decide +kernel
  have e3 : (("makers" : Str) == "lower") = false := by decide +kernel
  have e4 : (("tellers" : Str) == "upper") = false := by decide +kernel
  have e5 : (("tellers" : Str) == "lower") = false := by decide +kernel
  have e6 : (("tellers" : Str) == "makers") = false := by decide +kernel
  simp only [gearFs, List.lookup_cons, beq_self_eq_true, e1, e2, e3, e4, e5, e6, and_self]
theorem gear_deeds_ok {U L : List (List Nat)} {D T : List (List Nat × Int)} {S : Sto} : m_Gear_deeds [gearM U L D T] S = .ok (.dic (kvOf D)) S := by
  have lv : leaveV S S (.dic (kvOf D)) = .ok (.dic (kvOf D)) S := by
    rw [leaveV_cl (keeps_refl S) (by simp only [Cl]; exact clk_kv _ _), List.take_length]
  have lk := (look_up (.lst (U.map MV.str)) (.lst (L.map MV.str)) (.dic (kvOf D)) (.dic (kvOf T))).2.2.1
  have fd : fDict false [.dic (kvOf D)] S = .ok (.dic (kvOf D)) S := rfl
  have m1 : mFld 0 "makers" (mV 0) [some (gearM U L D T)] S = .ok (.dic (kvOf D)) S := by
    simp only [mFld, mV, List.getElem?_cons_zero, bind_ok, insOf, if_true, lk]
  refine mDef_rt (n := 1) (b := b_Gear_deeds) (S1 := S) (v := .dic (kvOf D)) ?_ lv
  show b_Gear_deeds [some (gearM U L D T)] S = _
  unfold b_Gear_deeds
  simp only [sRet, mB, mCons, mNil, m1, bind_ok, fd, sBind]
end Sh
end Mi
namespace Mi
open PySem L2 Sh
def Wp {α : Type} (r : Res α) (Q : α → Sto → Prop) (E : MX → Sto → Prop) : Prop := match r with
  | .ok a S => Q a S
  | .ex x S => E x S
  | .bad => False
abbrev EE := MX → Env → Sto → Prop
def Get {α : Type} (o : Option α) (q : α → Prop) : Prop := match o with
  | some a => q a
  | none => False
def An (p q : Prop) : Prop := p ∧ q
theorem get {α : Type} {o : Option α} {q : α → Prop} {a : α} (h : o = some a) (k : q a) : Get o q := by subst h; exact k
theorem Get.ex {α : Type} {o : Option α} {q : α → Prop} (h : Get o q) : ∃ a, o = some a ∧ q a := by
  cases o with
  | none => exact h.elim
  | some a => exact ⟨a, rfl, h⟩
theorem an {p q : Prop} (h : p) (k : q) : An p q := ⟨h, k⟩
def intOf : MV → Option Int
  | .int i => some i
  | _ => none
def int1 : List MV → Option Int
  | [.int i] => some i
  | _ => none
def int2 : List MV → Option (Int × Int)
  | [.int i, .int j] => some (i, j)
  | _ => none
def strOf : MV → Option (List Nat)
  | .str z => some z
  | _ => none
def one1 : List MV → Option MV
  | [x] => some x
  | _ => none
def two2 : List MV → Option (MV × MV)
  | [x, y] => some (x, y)
  | _ => none
theorem int1_eq {xs : List MV} {i : Int} (h : int1 xs = some i) : xs = [.int i] := by
  unfold int1 at h; split at h
  · cases h; rfl
  · cases h
theorem int2_eq {xs : List MV} {p : Int × Int} (h : int2 xs = some p) : xs = [.int p.1, .int p.2] := by
  unfold int2 at h; split at h
  · cases h; rfl
  · cases h
def Ws (r : SRes) (N : Env → Sto → Prop) (R : MV → Sto → Prop) (B C : Env → Sto → Prop) (E : EE) : Prop := match r with
  | .nx e S => N e S
  | .rt v S => R v S
  | .bk e S => B e S
  | .ct e S => C e S
  | .ex x e S => E x e S
  | .bad => False
section
variable {α β : Type} {Q Q' : α → Sto → Prop} {E E' : MX → Sto → Prop} {N N' : Env → Sto → Prop} {R R' : MV → Sto → Prop} {B B' C C' : Env → Sto → Prop} {X X' : EE} {env : Env} {S S1 : Sto}
theorem wp_eq {r : Res α} {v : α} (h : r = .ok v S) (q : Q v S) : Wp r Q E := by rw [h]; exact q
theorem wp_mono {r : Res α} (h : Wp r Q E) (q : ∀ v S, Q v S → Q' v S) (e : ∀ x S, E x S → E' x S) : Wp r Q' E' := by
  cases r with
  | ok a S => exact q _ _ h
  | ex x S => exact e _ _ h
  | bad => exact h
theorem wp_ex {r : Res α} (h : Wp r Q (fun _ _ => False)) : ∃ v S, r = .ok v S ∧ Q v S := by
  cases r with
  | ok a S => exact ⟨a, S, rfl, h⟩
  | ex x S => exact h.elim
  | bad => exact h.elim
theorem wp_bind {r : Res α} {k : α → Sto → Res β} {Q : β → Sto → Prop} (h : Wp r (fun v S => Wp (k v S) Q E) E) : Wp (r.bind k) Q E := by
  cases r with
  | ok a S => exact h
  | ex x S => exact h
  | bad => exact h
theorem ws_bind {r : Res α} {k : α → Sto → SRes} (h : Wp r (fun v S => Ws (k v S) N R B C X) (fun x S => X x env S)) : Ws (sBind r env k) N R B C X := by
  cases r with
  | ok a S => exact h
  | ex x S => exact h
  | bad => exact h
theorem ws_mono {r : SRes} (h : Ws r N R B C X) (n : ∀ e S, N e S → N' e S) (q : ∀ v S, R v S → R' v S) (b : ∀ e S, B e S → B' e S) (c : ∀ e S, C e S → C' e S) (x : ∀ y e S, X y e S → X' y e S) : Ws r N' R' B' C' X' := by
  cases r with
  | nx e S => exact n _ _ h
  | rt e S => exact q _ _ h
  | bk e S => exact b _ _ h
  | ct e S => exact c _ _ h
  | ex y e S => exact x _ _ _ h
  | bad => exact h
theorem ws_seq {a b : MSt} (h : Ws (a env S) (fun e S1 => Ws (b e S1) N R B C X) R B C X) : Ws (sSeq a b env S) N R B C X := by
  unfold sSeq
  cases e : a env S <;> rw [e] at h <;> exact h
theorem ws_ret {m : ME} (h : Wp (m env S) R (fun x S => X x env S)) : Ws (sRet m env S) N R B C X := ws_bind h
theorem ws_set {i : Nat} {m : ME} (h : Wp (m env S) (fun v S1 => N (env.set i (some v)) S1) (fun x S => X x env S)) : Ws (sSet i m env S) N R B C X := ws_bind h
theorem ite_t {p q : Prop} (h : p) : if true = true then p else q := h
theorem ite_f {p q : Prop} (h : q) : if false = true then p else q := h
theorem ite_dt {p q d : Prop} [Decidable d] (c : d) (h : p) : if decide d = true then p else q := by rw [if_pos (decide_eq_true c)]; exact h
theorem ite_df {p q d : Prop} [Decidable d] (c : ¬ d) (h : q) : if decide d = true then p else q := by rw [if_neg (by simpa using c)]; exact h
theorem ite_nt {p q d : Prop} [Decidable d] (c : ¬ d) (h : p) : if (!decide d) = true then p else q := by rw [if_pos (by simpa using c)]; exact h
theorem ite_nf {p q d : Prop} [Decidable d] (c : d) (h : q) : if (!decide d) = true then p else q := by rw [if_neg (by simpa using c)]; exact h
theorem ite_rt {p q : Prop} {b : Bool} (e : b = true) (h : p) : if b = true then p else q := by rw [if_pos e]; exact h
theorem ite_rf {p q : Prop} {b : Bool} (e : b = false) (h : q) : if b = true then p else q := by rw [if_neg (by rw [e]; simp)]; exact h
theorem ite_by {p q d : Prop} [Decidable d] (h1 : d → p) (h2 : ¬ d → q) : if decide d = true then p else q := by
  by_cases c : d
  · exact ite_dt c (h1 c)
  · exact ite_df c (h2 c)
theorem wp_nil {Q : List MV → Sto → Prop} (q : Q [] S) : Wp (mNil env S) Q E := q
theorem wp_cons {a : ME} {r : MA} {Q : List MV → Sto → Prop} (h : Wp (a env S) (fun x S1 => Wp (r env S1) (fun xs S2 => Q (x :: xs) S2) E) E) : Wp (mCons a r env S) Q E :=
  wp_bind (wp_mono h (fun _ _ q => wp_bind (wp_mono q (fun _ _ z => z) fun _ _ z => z)) fun _ _ z => z)
theorem wp_b {f : List MV → Sto → Res MV} {as : MA} {Q : MV → Sto → Prop} (h : Wp (as env S) (fun xs S1 => Wp (f xs S1) Q E) E) : Wp (mB f as env S) Q E := wp_bind h
def WB (x : MV) (Q : Bool → Prop) : Prop := match x with
  | .bl b => Q b
  | _ => False
def WT (S : Sto) (x : MV) (Q : Bool → Prop) : Prop := match tru S x with
  | some b => Q b
  | none => False
theorem wt {x : MV} {b : Bool} {Q : Bool → Prop} (t : tru S x = some b) (h : Q b) : WT S x Q := by unfold WT; rw [t]; exact h
theorem wp_yes {Q : Bool → Sto → Prop} (q : Q true S) : Wp (mYes env S) Q E := q
theorem wp_lst {mu : Bool} {as : MA} {Q : MV → Sto → Prop} (h : Wp (as env S) (fun xs S1 => An (xs.length ≤ sizeLine) (Wp (mkL mu xs S1) Q E)) E) : Wp (mLst mu as env S) Q E := by
  refine wp_bind (wp_mono h (fun x S1 q => ?_) fun _ _ z => z)
  show Wp (if _ then _ else _) Q E
  rw [if_pos q.1]; exact q.2
theorem wp_mkLn {xs : List MV} {Q : MV → Sto → Prop} (q : Q (.ref S.length) (S ++ [.lst xs])) : Wp (mkL true xs S) Q E := q
def SubP (x j : MV) (S : Sto) (y : MV) (K : Sto → Prop) : Prop := match x, j with
  | .ref l, .int n => (match S[l]? with
    | some (.lst xs) => (match ixN xs.length n with
      | some q => K (S.set l (.lst (xs.set q y)))
      | none => False)
    | _ => False)
  | _, _ => False
def PutP (x j : MV) (S : Sto) (y : MV) (K : Sto → Prop) : Prop := match x with
  | .ref l => (match S[l]? with
    | some (.dic kvs) => (isKey j = true ∧ kvs.length < sizeLine) ∧ K (S.set l (.dic (putKM kvs j y)))
    | _ => False)
  | _ => False
theorem put_ref {l : Nat} {kvs : List (MV × MV)} {j y : MV} {K : Sto → Prop} (h : S[l]? = some (.dic kvs)) (hj : isKey j = true) (hs : kvs.length < sizeLine) (k : K (S.set l (.dic (putKM kvs j y)))) : PutP (.ref l) j S y K := by
  unfold PutP; simp only [h]; exact ⟨⟨hj, hs⟩, k⟩
def FldP (c : Nat) (f : Str) (x : MV) (S : Sto) (y : MV) (K : Sto → Prop) : Prop := match x with
  | .ref l => (match S[l]? with
    | some (.ins c' fs) => (c' = c ∧ fs.length < 1000) ∧ K (S.set l (.ins c (putM f y fs)))
    | _ => False)
  | _ => False
theorem fld_ref {c l : Nat} {f : Str} {fs : List (Str × MV)} {y : MV} {K : Sto → Prop} (h : S[l]? = some (.ins c fs)) (hs : fs.length < 1000) (k : K (S.set l (.ins c (putM f y fs)))) : FldP c f (.ref l) S y K := by
  unfold FldP; simp only [h]; exact ⟨⟨trivial, hs⟩, k⟩
def InsP (c : Nat) (x : MV) (S : Sto) (K : List (Str × MV) → Prop) : Prop := match insOf S x with
  | some (c', fs) => c' = c ∧ K fs
  | none => False
theorem ws_for {mi : Env → Sto → Res Itv} {g : MG} {mb : MSt} (h : Wp (mi env S) (fun t S1 => Ws (forL t g mb t.items env S1) N R B C X) (fun x S => X x env S)) : Ws (sFor mi g mb env S) N R B C X := ws_bind h
def R62 (j : Int) : Prop := -(2 ^ 62) ≤ j ∧ j < 2 ^ 62
theorem r62 {j : Int} (h0 : -16777216 ≤ j) (h1 : j ≤ 16777216) : R62 j := by
  unfold R62
  exact ⟨Int.le_trans (by decide) h0, Int.lt_of_le_of_lt h1 (by decide)⟩
theorem forL_wp {t : Itv} {g : MG} {mb : MSt} (I : List MV → Env → Sto → Prop) : ∀ (items : List MV) (env : Env) (S : Sto), I items env S →
    (∀ items env S, I items env S → t.chk S) →
    (∀ v rest env S, I (v :: rest) env S → ∃ e1, g v env = some e1 ∧ Ws (mb e1 S) (fun e S2 => I rest e S2) R N (fun e S2 => I rest e S2) X) →
    (∀ env S, I [] env S → N env S) → Ws (forL t g mb items env S) N R B C X
  | [], env, S, h, hc, st, fin => by
    unfold forL
    rw [if_pos (hc _ _ _ h)]
    exact fin _ _ h
  | v :: rest, env, S, h, hc, st, fin => by
    unfold forL
    rw [if_pos (hc _ _ _ h)]
    obtain ⟨e1, h1, h2⟩ := st v rest env S h
    rw [h1]
    show Ws (match mb e1 S with
      | .nx e2 S2 => forL t g mb rest e2 S2
      | .ct e2 S2 => forL t g mb rest e2 S2
      | .bk e2 S2 => .nx e2 S2
      | .rt v S2 => .rt v S2
      | .ex x e2 S2 => .ex x e2 S2
      | .bad => .bad) N R B C X
    cases e : mb e1 S with
    | nx e2 S2 => rw [e] at h2; exact forL_wp I rest e2 S2 h2 hc st fin
    | ct e2 S2 => rw [e] at h2; exact forL_wp I rest e2 S2 h2 hc st fin
    | bk e2 S2 => rw [e] at h2; exact h2
    | rt v S2 => rw [e] at h2; exact h2
    | ex x e2 S2 => rw [e] at h2; exact h2
    | bad => rw [e] at h2; exact h2
/-- a for over what no store holds -/
theorem for_wp {items : List MV} {g : MG} {mb : MSt} (I : List MV → Env → Sto → Prop) (h : I items env S)
    (st : ∀ v rest env S, I (v :: rest) env S → ∃ e1, g v env = some e1 ∧ Ws (mb e1 S) (fun e S2 => I rest e S2) R N (fun e S2 => I rest e S2) X)
    (fin : ∀ env S, I [] env S → N env S) : Ws (forL ⟨items, []⟩ g mb items env S) N R B C X :=
  forL_wp I items env S h (fun _ _ S _ => chk_nil rfl S) st fin
theorem wp_def {n : Nat} {b : MSt} {args : List MV} {Q : MV → Sto → Prop} (h : Ws (b (env0 n args) S) (fun _ S1 => Wp (leaveV S S1 .non) Q E) (fun v S1 => Wp (leaveV S S1 v) Q E) (fun _ _ => False) (fun _ _ => False) (fun x _ S1 => Wp (leaveX (α := MV) S S1 x) Q E)) : Wp (mDef n b args S) Q E := by
  unfold mDef
  cases e : b (env0 n args) S <;> rw [e] at h <;> first | exact h | exact h.elim
theorem wp_defR {n : Nat} {b : MSt} {args : List MV} {Q : MV → Sto → Prop} (h : Ws (b (env0 n args) S) (fun _ S1 => False) (fun v S1 => Wp (leaveR S S1 v) Q E) (fun _ _ => False) (fun _ _ => False) (fun x _ S1 => Wp (leaveX (α := MV) S S1 x) Q E)) : Wp (mDefR n b args S) Q E := by
  unfold mDefR
  cases e : b (env0 n args) S <;> rw [e] at h <;> first | exact h | exact h.elim
theorem wp_leave0 {v : MV} {Q : MV → Sto → Prop} (c : Cl S.length v) (q : Q v S) : Wp (leaveV S S v) Q E := by
  refine wp_eq ?_ q
  rw [leaveV_cl (keeps_refl S) c, List.take_length]
theorem wp_leave {S1 T : Sto} {v : MV} {Q : MV → Sto → Prop} (k : Keeps S S1) (hl : S1.length = S.length) (c : Cl S.length v) (q : Q v S1) : Wp (leaveV S (S1 ++ T) v) Q E := by
  refine wp_eq ?_ q
  rw [leaveV_cl (keeps_app _ k) c, ← hl, List.take_left]
theorem wp_leave1 {S1 : Sto} {v : MV} {Q : MV → Sto → Prop} (k : Keeps S S1) (hl : S1.length = S.length) (c : Cl S.length v) (q : Q v S1) : Wp (leaveV S S1 v) Q E := by
  refine wp_eq ?_ q
  rw [leaveV_cl k c, ← hl, List.take_length]
section
variable {Q : MV → Sto → Prop} {mu : Bool}
theorem wp_inQ {x y : MV} {b : Bool} (h : isIn S x y = some b) (q : Q (.bl b) S) : Wp (fIn x y S) Q E := by
  unfold fIn; rw [h]; exact q
theorem wp_ninQ {x y : MV} {b : Bool} (h : isIn S x y = some b) (q : Q (.bl (!b)) S) : Wp (fNotIn x y S) Q E := by
  unfold fNotIn; rw [h]; exact q
theorem wp_len {x : MV} {n : Nat} (h : lenM S x = some n) (q : Q (.int (n : Int)) S) : Wp (fLen [x] S) Q E := by
  unfold fLen; simp only []; rw [h]; exact q
theorem wp_lenS {z : List Nat} (q : Q (.int (z.length : Int)) S) (h : z.length ≤ sizeLine) : Wp (fLen [.str z] S) Q E := wp_len (by unfold lenM; simp only []; rw [if_pos h]) q
theorem wp_ixT {xs : List MV} {i : Int} {v : MV} (h : atI xs i = some v) (q : Q v S) : Wp (fIx (.tup xs) (.int i) S) Q E := by
  have e : fIx (.tup xs) (.int i) S = .ok v S := by simp only [fIx, asSq, asU, h]
  exact wp_eq e q
theorem wp_ixL {xs : List MV} {i : Int} {v : MV} (h : atI xs i = some v) (q : Q v S) : Wp (fIx (.lst xs) (.int i) S) Q E := by
  have e : fIx (.lst xs) (.int i) S = .ok v S := by simp only [fIx, asSq, asU, asL, h]
  exact wp_eq e q
theorem wp_isiT {x : MV} {b : String} (h : fIsi [x, .ty b] S = .ok (.bl true) S) (q : Q (.bl true) S) : Wp (fIsi [x, .ty b] S) Q E := wp_eq h q
theorem wp_isiF {x : MV} {b : String} (h : fIsi [x, .ty b] S = .ok (.bl false) S) (q : Q (.bl false) S) : Wp (fIsi [x, .ty b] S) Q E := wp_eq h q
theorem wp_extend {l : Nat} {xs zs : List MV} {y : MV} (h : S[l]? = some (.lst xs)) (hy : asH S y = some zs) (q : Q .non (S.set l (.lst (xs ++ zs)))) (c : xs.length + zs.length ≤ sizeLine) : Wp (fExtend (.ref l) [y] S) Q E := by
  have e : fExtend (.ref l) [y] S = .ok .non (S.set l (.lst (xs ++ zs))) := by simp only [fExtend, onL, h, hy, if_pos c]
  exact wp_eq e q
theorem wp_append {l : Nat} {xs : List MV} {y : MV} (h : S[l]? = some (.lst xs)) (q : Q .non (S.set l (.lst (xs ++ [y])))) (c : xs.length < sizeLine) : Wp (fAppend (.ref l) [y] S) Q E := by
  have e : fAppend (.ref l) [y] S = .ok .non (S.set l (.lst (xs ++ [y]))) := by simp only [fAppend, onL, h, if_pos c]
  exact wp_eq e q
end
theorem cutL_le {α : Type} (xs : List α) (lo hi : Option Int) : (cutL xs lo hi).length ≤ xs.length := by
  unfold cutL; rw [List.length_take, List.length_drop]; omega
section
variable {l n : Nat} {Q : MV → Sto → Prop} {T : Sto}
theorem next_wp {sz : Int} (h : HasDr l n S) (hn : n < 2 ^ 20) (h0 : 0 < sz) (h1 : Bd sz 60) (q : ∀ r S', Draws l 1 S S' → 0 ≤ r → r < sz → Q (.int r) S') : Wp (m_law_next [.ref l, .int sz] S) Q E := by
  obtain ⟨r, S', e, d, r0, r1⟩ := next_ok h hn h0 h1
  exact wp_eq e (q r S' d r0 r1)
theorem next_wpT {sz : Int} (h : HasDr l n S) (hn : n < 2 ^ 20) (h0 : 0 < sz) (h1 : Bd sz 60) (q : ∀ r S', Draws l 1 S S' → 0 ≤ r → r < sz → Q (.int r) (S' ++ T)) : Wp (m_law_next [.ref l, .int sz] (S ++ T)) Q E := by
  refine next_wp (h.app T) hn h0 h1 fun r S1 d r0 r1 => ?_
  obtain ⟨S2, rfl, d2⟩ := d.app h.lt
  exact q r S2 d2 r0 r1
theorem names_wpI {F : List (List Nat)} {k : Int} (h : HasDr l n S) (k0 : 0 ≤ k) (k1 : k ≤ 25) (hn : n + 400 ≤ 2 ^ 20) (hF : (F.length : Int) + k ≤ 25) (q : ∀ (zs : List (List Nat)) S', Draws l (12 * k.toNat) S S' → (zs.length : Int) = k → (∀ z ∈ zs, Nm z ∧ z ∉ F) → zs.Nodup → Q (.lst (zs.map MV.str)) S') : Wp (m_law_names [.ref l, .int k, .lst (F.map MV.str)] S) Q E := by
  obtain ⟨m, rfl⟩ := Int.eq_ofNat_of_zero_le k0
  have m1 : m ≤ 25 := by omega
  have q2 : ∀ (zs : List (List Nat)) S', Draws l (12 * m) S S' → zs.length = m → (∀ z ∈ zs, Nm z ∧ z ∉ F) → zs.Nodup → Q (.lst (zs.map MV.str)) S' := fun zs S' d h1 => q zs S' (by rw [Int.toNat_natCast]; exact d) (by omega)
  have b1 : n + 12 * m + 12 ≤ 2 ^ 20 := by omega
  have b2 : F.length + m ≤ 25 := by omega
  clear q hn hF k0 k1
  have w := @names_ok l n S F m h b1 b2
  clear b1 b2 h
  generalize m_law_names [.ref l, .int m, .lst (F.map MV.str)] S = r at w ⊢
  obtain ⟨zs, S', e, d, h1, h2, h3⟩ := w
  exact wp_eq e (q2 zs S' d h1 h2 h3)
theorem begun_wp {c k : Int} (hk : Bd k 60) (q : ∀ o : MO, HasDr S.length 0 (S ++ [o]) → Q (.ref S.length) (S ++ [o])) : Wp (m_law_begun [.int c, .int k] S) Q E :=
  wp_eq (begun_ok c k S hk) (q _ ⟨_, _, _, List.getElem?_concat_length .., by omega, by omega⟩)
end
theorem compL_wp {t : Itv} {g : MG} {c : MB} {e : ME} {m : Nat} {env : Env} (ht : t.deps = []) (I : List MV → List MV → Sto → Prop)
    (step : ∀ v rest acc S, I (v :: rest) acc S → S.length = m → ∃ e1, g v env = some e1 ∧ Wp (c e1 (S ++ [.lst acc])) (fun b S2 => if b = true then Wp (e e1 S2) (fun y S3 => ∃ S4, S3 = S4 ++ [.lst acc] ∧ S4.length = m ∧ I rest (acc ++ [y]) S4) (fun _ _ => False) else ∃ S4, S2 = S4 ++ [.lst acc] ∧ S4.length = m ∧ I rest acc S4) (fun _ _ => False)) :
    ∀ (items acc : List MV) (S : Sto), I items acc S → S.length = m → acc.length + items.length ≤ sizeLine →
      Wp (compL t g c e m items env (S ++ [.lst acc])) (fun _ S2 => ∃ acc S4, S2 = S4 ++ [.lst acc] ∧ S4.length = m ∧ I [] acc S4) (fun _ _ => False)
  | [], acc, S, h, hm, hs => by
    unfold compL
    rw [if_pos (chk_nil ht _)]
    exact ⟨acc, S, rfl, hm, h⟩
  | v :: rest, acc, S, h, hm, hs => by
    unfold compL
    rw [if_pos (chk_nil ht _)]
    obtain ⟨e1, h1, h2⟩ := step v rest acc S h hm
    rw [h1]
    simp only []
    rw [List.length_cons] at hs
    obtain ⟨b, S2, e2, h3⟩ := wp_ex h2
    rw [e2]
    cases b with
    | false =>
      obtain ⟨S4, rfl, hm4, h4⟩ := h3
      exact compL_wp ht I step rest acc S4 h4 hm4 (by omega)
    | true =>
      have h3 : Wp (e e1 S2) (fun y S3 => ∃ S4, S3 = S4 ++ [.lst acc] ∧ S4.length = m ∧ I rest (acc ++ [y]) S4) (fun _ _ => False) := h3
      obtain ⟨y, S3, e3, S4, rfl, hm4, h4⟩ := wp_ex h3
      simp only [e3]
      have g1 : (S4 ++ [MO.lst acc])[m]? = some (.lst acc) := by rw [← hm4]; simp
      have g2 : (S4 ++ [MO.lst acc]).set m (.lst (acc ++ [y])) = S4 ++ [.lst (acc ++ [y])] := by rw [← hm4]; simp
      rw [g1]
      simp only [g2]
      rw [if_pos (by omega)]
      exact compL_wp ht I step rest (acc ++ [y]) S4 h4 hm4 (by rw [List.length_append, List.length_cons, List.length_nil]; omega)
theorem wp_comp {mu : Bool} {mi : Env → Sto → Res Itv} {vs : List Nat} {g : MG} {c : MB} {e : ME} {env : Env} {S S1 : Sto} {t : Itv} {Q : MV → Sto → Prop} {E : MX → Sto → Prop} (hi : mi env S = .ok t S1) (ht : t.deps = []) (I : List MV → List MV → Sto → Prop) (h0 : I t.items [] S1) (hs : t.items.length ≤ sizeLine)
    (step : ∀ v rest acc S, I (v :: rest) acc S → S.length = S1.length → ∃ e1, g v (wipeE env vs) = some e1 ∧ Wp (c e1 (S ++ [.lst acc])) (fun b S2 => if b = true then Wp (e e1 S2) (fun y S3 => ∃ S4, S3 = S4 ++ [.lst acc] ∧ S4.length = S1.length ∧ I rest (acc ++ [y]) S4) (fun _ _ => False) else ∃ S4, S2 = S4 ++ [.lst acc] ∧ S4.length = S1.length ∧ I rest acc S4) (fun _ _ => False))
    (fin : ∀ acc S2, I [] acc S2 → S2.length = S1.length → if mu = true then Q (.ref S1.length) (S2 ++ [.lst acc]) else ClL S1.length acc ∧ Keeps S1 S2 ∧ Q (.lst acc) S2) : Wp (mComp mu mi vs g c e env S) Q E := by
  have w := compL_wp (t := t) (g := g) (c := c) (e := e) (m := S1.length) (env := wipeE env vs) ht I step t.items [] S1 h0 rfl (by simpa using hs)
  obtain ⟨u, S2, e2, acc, S4, rfl, hm, h4⟩ := wp_ex w
  unfold mComp
  rw [hi]
  simp only [bind_ok, e2, compE]
  have f := fin acc S4 h4 hm
  cases mu with
  | true => exact f
  | false =>
    obtain ⟨f1, f2, f3⟩ := f
    exact wp_eq (leaveV_new f2 hm f1) f3
theorem clL_all {n : Nat} : ∀ {ys : List MV}, (∀ y ∈ ys, Cl n y) → ClL n ys
  | [], _ => by simp only [ClL]
  | y :: r, h => by simp only [ClL]; exact ⟨h y (by simp), clL_all fun z hz => h z (List.mem_cons_of_mem _ hz)⟩
theorem law_top {m : List MV → Sto → Res MV} {ns : List Int} (h : Wp (m [.rol (ns.map MV.int)] []) (fun v _ => v = .bl true) (fun _ _ => False)) : ∃ S, m [.rol (ns.map MV.int)] [] = .ok (.bl true) S := by
  obtain ⟨v, S, e, rfl⟩ := wp_ex h
  exact ⟨S, e⟩
theorem wp_leaveTop {S : Sto} {b : Bool} {Q : MV → Sto → Prop} {E : MX → Sto → Prop} (q : Q (.bl b) []) : Wp (leaveV [] S (.bl b)) Q E := wp_eq (leave_top b) q
end
end Mi
namespace Mi
open PySem L2 Sh
def Cnd (b : Bool) (p q : Prop) : Prop := if b = true then p else q
def WV : List (Option MV) → Nat → (MV → Prop) → Prop
  | some v :: _, 0, q => q v
  | _ :: r, i + 1, q => WV r i q
  | _, _, _ => False
section
variable {α β : Type} {r r' : Res α} {s s' : SRes} {Q Q' : α → Sto → Prop} {E E' : MX → Sto → Prop} {N : Env → Sto → Prop} {R : MV → Sto → Prop} {B C : Env → Sto → Prop} {X : EE} {env : Env} {S S1 : Sto}
theorem qb {k : α → Sto → Res β} {Q : β → Sto → Prop} : Wp (r.bind k) Q E = Wp r (fun v S => Wp (k v S) Q E) E := by cases r <;> rfl
theorem qs {k : α → Sto → SRes} : Ws (sBind r env k) N R B C X = Wp r (fun v S => Ws (k v S) N R B C X) (fun x S => X x env S) := by cases r <;> rfl
theorem qc (h : ∀ v S, Q v S = Q' v S) : Wp r Q E = Wp r Q' E := by rw [show Q = Q' from funext fun v => funext fun S => h v S]
theorem qan {p : Prop} [Decidable p] : Wp (if p then r else .bad) Q E = An p (Wp r Q E) := by
  by_cases h : p
  · rw [if_pos h]; exact propext ⟨fun q => ⟨h, q⟩, fun q => q.2⟩
  · rw [if_neg h]; exact propext ⟨fun q => q.elim, fun q => h q.1⟩
theorem qanS {p : Prop} [Decidable p] : Ws (if p then s else .bad) N R B C X = An p (Ws s N R B C X) := by
  by_cases h : p
  · rw [if_pos h]; exact propext ⟨fun q => ⟨h, q⟩, fun q => q.2⟩
  · rw [if_neg h]; exact propext ⟨fun q => q.elim, fun q => h q.1⟩
theorem q_seq {a b : MSt} : Ws (sSeq a b env S) N R B C X = Ws (a env S) (fun e S1 => Ws (b e S1) N R B C X) R B C X := by
  unfold sSeq; cases a env S <;> rfl
theorem q_next : Ws (sNext env S) N R B C X = N env S := rfl
theorem q_break : Ws (sBreak env S) N R B C X = B env S := rfl
theorem q_cont : Ws (sCont env S) N R B C X = C env S := rfl
theorem q_retN : Ws (sRetN env S) N R B C X = R .non S := rfl
theorem q_ret {m : ME} : Ws (sRet m env S) N R B C X = Wp (m env S) R (fun x S => X x env S) := qs
theorem q_drop {m : ME} : Ws (sDrop m env S) N R B C X = Wp (m env S) (fun _ S1 => N env S1) (fun x S => X x env S) := qs
theorem q_set {i : Nat} {m : ME} : Ws (sSet i m env S) N R B C X = Wp (m env S) (fun v S1 => N (env.set i (some v)) S1) (fun x S => X x env S) := qs
theorem q_asg {g : MG} {m : ME} : Ws (sAsg g m env S) N R B C X = Wp (m env S) (fun v S1 => Get (g v env) fun e => N e S1) (fun x S => X x env S) :=
  qs.trans (qc fun v S1 => by (try dsimp only); cases g v env <;> rfl)
theorem q_if {c : MB} {a b : MSt} : Ws (sIf c a b env S) N R B C X = Wp (c env S) (fun x S1 => Cnd x (Ws (a env S1) N R B C X) (Ws (b env S1) N R B C X)) (fun x S => X x env S) :=
  qs.trans (qc fun v S1 => by cases v <;> rfl)
theorem q_par {i j : Nat} {a b : ME} : Ws (sPar i j a b env S) N R B C X = Wp (a env S) (fun x S1 => Wp (b env S1) (fun y S2 => N ((env.set i (some x)).set j (some y)) S2) (fun x S => X x env S)) (fun x S => X x env S) :=
  qs.trans (qc fun v S1 => qs)
theorem q_par3 {i j l : Nat} {a b c : ME} : Ws (sPar3 i j l a b c env S) N R B C X = Wp (a env S) (fun x S1 => Wp (b env S1) (fun y S2 => Wp (c env S2) (fun z S3 => N (((env.set i (some x)).set j (some y)).set l (some z)) S3) (fun x S => X x env S)) (fun x S => X x env S)) (fun x S => X x env S) :=
  qs.trans (qc fun v S1 => qs.trans (qc fun v S1 => qs))
theorem q_sub {o i m : ME} : Ws (sSub o i m env S) N R B C X = Wp (m env S) (fun y S1 => Wp (o env S1) (fun x S2 => Wp (i env S2) (fun j S3 => SubP x j S3 y fun S4 => N env S4) (fun x S => X x env S)) (fun x S => X x env S)) (fun x S => X x env S) := by
  refine qs.trans (qc fun y S1 => qs.trans (qc fun x S2 => qs.trans (qc fun j S3 => ?_)))
  unfold SubP
  cases x <;> first | rfl | skip
  cases j <;> first | rfl | skip
  rename_i l n
  (try dsimp only)
  cases S3[l]? with
  | none => rfl
  | some o =>
    cases o with
    | td kvs => rfl
    | tb t => rfl
    | dic kvs => rfl
    | ins c fs => rfl
    | lst xs =>
      (try dsimp only)
      cases ixN xs.length n <;> rfl
theorem q_dput {o i m : ME} : Ws (sDPutM o i m env S) N R B C X = Wp (m env S) (fun y S1 => Wp (o env S1) (fun x S2 => Wp (i env S2) (fun j S3 => PutP x j S3 y fun S4 => N env S4) (fun x S => X x env S)) (fun x S => X x env S)) (fun x S => X x env S) := by
  refine qs.trans (qc fun y S1 => qs.trans (qc fun x S2 => qs.trans (qc fun j S3 => ?_)))
  unfold PutP
  cases x <;> first | rfl | skip
  rename_i l
  (try dsimp only)
  cases S3[l]? with
  | none => rfl
  | some o =>
    cases o with
    | td kvs => rfl
    | tb t => rfl
    | dic kvs => exact qanS
    | lst xs => rfl
    | ins c fs => rfl
theorem q_fld {c : Nat} {f : Str} {o m : ME} : Ws (sFldM c f o m env S) N R B C X = Wp (m env S) (fun y S1 => Wp (o env S1) (fun x S2 => FldP c f x S2 y fun S4 => N env S4) (fun x S => X x env S)) (fun x S => X x env S) := by
  refine qs.trans (qc fun y S1 => qs.trans (qc fun x S2 => ?_))
  unfold FldP
  cases x <;> first | rfl | skip
  rename_i l
  (try dsimp only)
  cases S2[l]? with
  | none => rfl
  | some o =>
    cases o with
    | td kvs => rfl
    | tb t => rfl
    | dic kvs => rfl
    | lst xs => rfl
    | ins c fs => exact qanS
theorem q_for {mi : Env → Sto → Res Itv} {g : MG} {mb : MSt} : Ws (sFor mi g mb env S) N R B C X = Wp (mi env S) (fun t S1 => Ws (forL t g mb t.items env S1) N R B C X) (fun x S => X x env S) := qs
theorem q_v {Q : MV → Sto → Prop} : ∀ {i : Nat} {env : Env}, Wp (mV i env S) Q E = WV env i fun v => Q v S
  | i, [] => by
    unfold mV WV; rfl
  | 0, some v :: r => rfl
  | 0, none :: r => rfl
  | i + 1, x :: r => by
    have h : Wp (mV i r S) Q E = WV r i fun v => Q v S := q_v
    have e : mV (i + 1) (x :: r) S = mV i r S := by unfold mV; rw [List.getElem?_cons_succ]
    rw [e, h]
    cases x <;> rfl
theorem wv {v : MV} {q : MV → Prop} : ∀ {env : Env} {i : Nat}, env[i]? = some (some v) → q v → WV env i q
  | [], i, h, k => by simp at h
  | x :: r, 0, h, k => by
    have : x = some v := by simpa using h
    subst this; exact k
  | x :: r, i + 1, h, k => by
    have := wv (env := r) (i := i) (by simpa using h) k
    cases x <;> exact this
theorem q_vS {i : Nat} {x : Option MV} {r : Env} {q : MV → Prop} : WV (x :: r) (i + 1) q = WV r i q := by cases x <;> rfl
theorem q_v0 {v : MV} {r : Env} {q : MV → Prop} : WV (some v :: r) 0 q = q v := rfl
theorem q_e0 {n : Nat} {a : MV} {r : List MV} : env0 (n + 1) (a :: r) = some a :: env0 n r := by
  unfold env0
  simp only [List.map_cons, List.length_cons, Nat.add_sub_add_right, List.cons_append]
theorem q_e1 {n : Nat} : env0 (n + 1) [] = none :: env0 n [] := by
  unfold env0
  simp only [List.map_nil, List.length_nil, Nat.sub_zero, List.nil_append, List.replicate_succ]
theorem q_e2 : env0 0 [] = [] := rfl
theorem q_c {v : MV} {Q : MV → Sto → Prop} : Wp (mC v env S) Q E = Q v S := rfl
theorem q_bin {f : MV → MV → Sto → Res MV} {a b : ME} {Q : MV → Sto → Prop} : Wp (mBin f a b env S) Q E = Wp (a env S) (fun x S1 => Wp (b env S1) (fun y S2 => Wp (f x y S2) Q E) E) E := qb.trans (qc fun _ _ => qb)
theorem q_nil {Q : List MV → Sto → Prop} : Wp (mNil env S) Q E = Q [] S := rfl
theorem q_cons {a : ME} {r : MA} {Q : List MV → Sto → Prop} : Wp (mCons a r env S) Q E = Wp (a env S) (fun x S1 => Wp (r env S1) (fun xs S2 => Q (x :: xs) S2) E) E := qb.trans (qc fun _ _ => qb)
theorem q_b {f : List MV → Sto → Res MV} {as : MA} {Q : MV → Sto → Prop} : Wp (mB f as env S) Q E = Wp (as env S) (fun xs S1 => Wp (f xs S1) Q E) E := qb
theorem q_bm {T : String} {f : MV → List MV → Sto → Res MV} {o : ME} {as : MA} {Q : MV → Sto → Prop} : Wp (mBM T f o as env S) Q E = Wp (o env S) (fun x S1 => An (tyM T S1 x = true) (Wp (as env S1) (fun xs S2 => Wp (f x xs S2) Q E) E)) E :=
  qb.trans (qc fun _ _ => qan.trans (by rw [qb]))
theorem q_call {n : Nat} {g : List MV → Sto → Res MV} {as : MA} {Q : MV → Sto → Prop} : Wp (mCall n g [] as env S) Q E = Wp (as env S) (fun vs S1 => An (vs.length = n) (Wp (g vs S1) Q E)) E :=
  qb.trans (qc fun _ _ => by rw [List.append_nil]; exact qan)
theorem q_calld {n : Nat} {g : List MV → Sto → Res MV} {as : MA} {m : MV} {ms : List MV} {Q : MV → Sto → Prop} : Wp (mCall n g (m :: ms) as env S) Q E = Wp (as env S) (fun vs S1 => An ((vs ++ m :: ms).length = n) (Wp (g (vs ++ m :: ms) S1) Q E)) E :=
  qb.trans (qc fun _ _ => qan)
theorem q_wb {b : Bool} {q : Bool → Prop} : WB (.bl b) q = q b := rfl
theorem q_asB {m : ME} {Q : Bool → Sto → Prop} : Wp (asB m env S) Q E = Wp (m env S) (fun x S1 => WB x fun b => Q b S1) E := qb.trans (qc fun x S1 => by cases x <;> rfl)
theorem q_asT {m : ME} {Q : Bool → Sto → Prop} : Wp (asT m env S) Q E = Wp (m env S) (fun x S1 => WT S1 x fun b => Q b S1) E := qb.trans (qc fun x S1 => by unfold WT; (try dsimp only); cases tru S1 x <;> rfl)
theorem q_wtB {b : Bool} {q : Bool → Prop} : WT S (.bl b) q = q b := rfl
theorem q_wtN {q : Bool → Prop} : WT S .non q = q false := rfl
theorem q_wtI {i : Int} {q : Bool → Prop} : WT S (.int i) q = q (i != 0) := rfl
theorem q_wtT0 {q : Bool → Prop} : WT S (.tup []) q = q false := rfl
theorem q_wtT1 {x : MV} {xs : List MV} {q : Bool → Prop} : WT S (.tup (x :: xs)) q = q true := rfl
theorem q_wtL0 {q : Bool → Prop} : WT S (.lst []) q = q false := rfl
theorem q_wtL1 {x : MV} {xs : List MV} {q : Bool → Prop} : WT S (.lst (x :: xs)) q = q true := rfl
theorem q_notB {m : MB} {Q : Bool → Sto → Prop} : Wp (mNotB m env S) Q E = Wp (m env S) (fun b S1 => Q (!b) S1) E := qb
theorem q_andB {a b : MB} {Q : Bool → Sto → Prop} : Wp (mAndB a b env S) Q E = Wp (a env S) (fun x S1 => Cnd x (Wp (b env S1) Q E) (Q false S1)) E := qb.trans (qc fun x _ => by cases x <;> rfl)
theorem q_orB {a b : MB} {Q : Bool → Sto → Prop} : Wp (mOrB a b env S) Q E = Wp (a env S) (fun x S1 => Cnd x (Q true S1) (Wp (b env S1) Q E)) E := qb.trans (qc fun x _ => by cases x <;> rfl)
theorem q_notT {m : ME} {Q : MV → Sto → Prop} : Wp (mNotT m env S) Q E = Wp (m env S) (fun x S1 => WT S1 x fun b => Q (.bl (!b)) S1) E := qb.trans (qc fun x S1 => by unfold WT; (try dsimp only); cases tru S1 x <;> rfl)
theorem q_andT {a b : ME} {Q : MV → Sto → Prop} : Wp (mAndT a b env S) Q E = Wp (a env S) (fun x S1 => WT S1 x fun k => Cnd k (Wp (b env S1) Q E) (Q x S1)) E := qb.trans (qc fun x S1 => by
  unfold WT; (try dsimp only)
  cases tru S1 x with
  | none => rfl
  | some k => cases k <;> rfl)
theorem q_orT {a b : ME} {Q : MV → Sto → Prop} : Wp (mOrT a b env S) Q E = Wp (a env S) (fun x S1 => WT S1 x fun k => Cnd k (Q x S1) (Wp (b env S1) Q E)) E := qb.trans (qc fun x S1 => by
  unfold WT; (try dsimp only)
  cases tru S1 x with
  | none => rfl
  | some k => cases k <;> rfl)
theorem q_ifE {c : MB} {a b : Env → Sto → Res α} : Wp (mIf c a b env S) Q E = Wp (c env S) (fun x S1 => Cnd x (Wp (a env S1) Q E) (Wp (b env S1) Q E)) E := qb.trans (qc fun x _ => by cases x <;> rfl)
theorem q_isn {m : ME} {Q : MV → Sto → Prop} : Wp (mIsN m env S) Q E = Wp (m env S) (fun x S1 => Q (.bl (isN x)) S1) E := qb
theorem q_notn {m : ME} {Q : MV → Sto → Prop} : Wp (mNotN m env S) Q E = Wp (m env S) (fun x S1 => Q (.bl (!isN x)) S1) E := qb
theorem q_neg {m : ME} {Q : MV → Sto → Prop} : Wp (mNeg m env S) Q E = Wp (m env S) (fun x S1 => Get (intOf x) fun i => Q (.int (-i)) S1) E := qb.trans (qc fun x _ => by cases x <;> rfl)
theorem q_chain {f g : MV → MV → Sto → Res MV} {a b c : ME} {Q : MV → Sto → Prop} : Wp (mChain f g a b c env S) Q E = Wp (a env S) (fun x S1 => Wp (b env S1) (fun y S2 => Wp (f x y S2) (fun z S3 => WB z fun k => Cnd k (Wp (c env S3) (fun w S4 => Wp (g y w S4) Q E) E) (Q (.bl false) S3)) E) E) E :=
  qb.trans (qc fun x S1 => qb.trans (qc fun y S2 => qb.trans (qc fun z S3 => by
    cases z with
    | bl k => cases k with
      | true => exact qb
      | false => rfl
    | _ => rfl)))
theorem q_yes {Q : Bool → Sto → Prop} : Wp (mYes env S) Q E = Q true S := rfl
theorem q_nopart {Q : Option Int → Sto → Prop} : Wp (mNoPart env S) Q E = Q none S := rfl
theorem q_part {m : ME} {Q : Option Int → Sto → Prop} : Wp (mPart m env S) Q E = Wp (m env S) (fun x S1 => Get (intOf x) fun i => Q (some i) S1) E := qb.trans (qc fun x _ => by cases x <;> rfl)
theorem q_sl {mu : Bool} {a : ME} {lo hi : MO'} {Q : MV → Sto → Prop} : Wp (mSl mu a lo hi env S) Q E = Wp (a env S) (fun x S1 => Wp (lo env S1) (fun l S2 => Wp (hi env S2) (fun h S3 => Wp (fSl mu x l h S3) Q E) E) E) E := qb.trans (qc fun _ _ => qb.trans (qc fun _ _ => qb))
theorem q_tup {as : MA} {Q : MV → Sto → Prop} : Wp (mTup as env S) Q E = Wp (as env S) (fun xs S1 => An (xs.length ≤ sizeLine) (Q (.tup xs) S1)) E := qb.trans (qc fun _ _ => qan)
theorem q_lst {mu : Bool} {as : MA} {Q : MV → Sto → Prop} : Wp (mLst mu as env S) Q E = Wp (as env S) (fun xs S1 => An (xs.length ≤ sizeLine) (Wp (mkL mu xs S1) Q E)) E := qb.trans (qc fun _ _ => qan)
theorem q_mkL {xs : List MV} {Q : MV → Sto → Prop} : Wp (mkL false xs S) Q E = Q (.lst xs) S := rfl
theorem q_mkLn {xs : List MV} {Q : MV → Sto → Prop} : Wp (mkL true xs S) Q E = Q (.ref S.length) (S ++ [.lst xs]) := rfl
theorem q_dic0 {mu : Bool} {Q : MV → Sto → Prop} : Wp (mDic0 mu env S) Q E = Wp (mkD mu [] S) Q E := rfl
theorem q_mkD {xs : List (MV × MV)} {Q : MV → Sto → Prop} : Wp (mkD false xs S) Q E = Q (.dic xs) S := rfl
theorem q_mkDn {xs : List (MV × MV)} {Q : MV → Sto → Prop} : Wp (mkD true xs S) Q E = Q (.ref S.length) (S ++ [.dic xs]) := rfl
theorem q_revL {mu : Bool} {a : ME} {Q : MV → Sto → Prop} : Wp (mRevL mu a env S) Q E = Wp (a env S) (fun x S1 => Get (asL S1 x) fun xs => Wp (mkL mu xs.reverse S1) Q E) E := qb.trans (qc fun x S1 => by (try dsimp only); cases asL S1 x <;> rfl)
theorem q_fldE {c : Nat} {f : Str} {o : ME} {Q : MV → Sto → Prop} : Wp (mFld c f o env S) Q E = Wp (o env S) (fun x S1 => InsP c x S1 fun fs => Get (fs.lookup f) fun v => Q v S1) E := qb.trans (qc fun x S1 => by
  unfold InsP; (try dsimp only)
  cases insOf S1 x with
  | none => rfl
  | some p =>
    obtain ⟨c', fs⟩ := p
    refine qan.trans (congrArg (An (c' = c)) ?_)
    cases fs.lookup f <;> rfl)
theorem q_meth {c n : Nat} {m : Str} {g : List MV → Sto → Res MV} {ms : List MV} {o : ME} {as : MA} {Q : MV → Sto → Prop} : Wp (mMeth c n m g ms o as env S) Q E = Wp (o env S) (fun x S1 => InsP c x S1 fun fs => An (fs.lookup m = none) (Wp (as env S1) (fun vs S2 => An ((x :: (vs ++ ms)).length = n) (Wp (g (x :: (vs ++ ms)) S2) Q E)) E)) E := qb.trans (qc fun x S1 => by
  unfold InsP; (try dsimp only)
  cases insOf S1 x with
  | none => rfl
  | some p =>
    obtain ⟨c', fs⟩ := p
    refine qan.trans (Eq.trans ?_ (propext and_assoc))
    refine congrArg (And (c' = c ∧ fs.lookup m = none)) ?_
    exact qb.trans (qc fun _ _ => qan))
theorem q_meth0 {c n : Nat} {m : Str} {g : List MV → Sto → Res MV} {o : ME} {as : MA} {Q : MV → Sto → Prop} : Wp (mMeth c n m g [] o as env S) Q E = Wp (o env S) (fun x S1 => InsP c x S1 fun fs => An (fs.lookup m = none) (Wp (as env S1) (fun vs S2 => An ((x :: vs).length = n) (Wp (g (x :: vs) S2) Q E)) E)) E := by
  rw [q_meth]; simp only [List.append_nil]
theorem q_insV {c : Nat} {fs : List (Str × MV)} {K : List (Str × MV) → Prop} : InsP c (.ins c fs) S K = K fs := propext ⟨fun q => q.2, fun q => ⟨rfl, q⟩⟩
theorem q_get2 {o i d : ME} {Q : MV → Sto → Prop} : Wp (mGet2 o i d env S) Q E = Wp (o env S) (fun x S1 => An ((asD S1 x).isSome = true) (Wp (i env S1) (fun y S2 => Wp (d env S2) (fun z S3 => Get (asD S3 x) fun kvs => An (isKey y = true) (Q ((kLook kvs y).getD z) S3)) E) E)) E := by
  refine qb.trans (qc fun x S1 => qan.trans ?_)
  rw [qb]
  congr 1
  refine qc fun y S2 => qb.trans (qc fun z S3 => ?_)
  (try dsimp only)
  cases asD S3 x with
  | none => rfl
  | some kvs => exact qan
theorem q_itS {m : ME} {Q : Itv → Sto → Prop} : Wp (mItS m env S) Q E = Wp (m env S) (fun x S1 => Get (itL S1 x) fun t => Q t S1) E := qb.trans (qc fun x S1 => by (try dsimp only); cases itL S1 x <;> rfl)
theorem q_itR1 {as : MA} {Q : Itv → Sto → Prop} : Wp (mItR1 as env S) Q E = Wp (as env S) (fun xs S1 => Get (int1 xs) fun j => An (R62 j) (Q ⟨rngL 0 j.toNat, []⟩ S1)) E := qb.trans (qc fun xs S1 => by
  cases e : int1 xs with
  | some p =>
    have := int1_eq e
    subst this
    exact qan
  | none =>
    unfold int1 at e
    split at e
    · cases e
    · rename_i h
      (try dsimp only)
      first
        | rfl
        | (split
           · exact absurd rfl (h _)
           · rfl))
theorem q_itR2 {as : MA} {Q : Itv → Sto → Prop} : Wp (mItR2 as env S) Q E = Wp (as env S) (fun xs S1 => Get (int2 xs) fun p => An (R62 p.1 ∧ R62 p.2) (Q ⟨rngL p.1 (p.2 - p.1).toNat, []⟩ S1)) E := qb.trans (qc fun xs S1 => by
  cases e : int2 xs with
  | some p =>
    have := int2_eq e
    subst this
    refine qan.trans (congrArg (fun p => An p _) ?_)
    unfold R62
    exact propext ⟨fun h => ⟨⟨h.1, h.2.1⟩, h.2.2.1, h.2.2.2⟩, fun h => ⟨h.1.1, h.1.2, h.2.1, h.2.2⟩⟩
  | none =>
    unfold int2 at e
    split at e
    · cases e
    · rename_i h
      (try dsimp only)
      first
        | rfl
        | (split
           · exact absurd rfl (h _ _)
           · rfl))
theorem q_itT {m : ME} {Q : Itv → Sto → Prop} : Wp (mItT m env S) Q E = Wp (m env S) (fun x S1 => Get (strOf x) fun z => Q ⟨z.map fun c => .str [c], []⟩ S1) E := qb.trans (qc fun x S1 => by cases x <;> rfl)
theorem q_itE {as : MA} {Q : Itv → Sto → Prop} : Wp (mItE as env S) Q E = Wp (as env S) (fun xs S1 => Get (one1 xs) fun x => Get (asL S1 x) fun ys => Q ⟨enuL ys, depsOf x ys⟩ S1) E := qb.trans (qc fun xs S1 => by
  match xs with
  | [] => rfl
  | [x] =>
    show Wp (match asL S1 x with | some t => _ | none => _) Q E = Get (asL S1 x) _
    cases asL S1 x <;> rfl
  | _ :: _ :: _ => rfl)
theorem q_itZ {as : MA} {Q : Itv → Sto → Prop} : Wp (mItZ as env S) Q E = Wp (as env S) (fun xs S1 => Get (two2 xs) fun p => Get (asL S1 p.1) fun a => Get (asL S1 p.2) fun b => Q ⟨zipL a b, depsOf p.1 a ++ depsOf p.2 b⟩ S1) E := qb.trans (qc fun xs S1 => by
  match xs with
  | [] => rfl
  | [_] => rfl
  | [x, y] =>
    show Wp (match asL S1 x, asL S1 y with | some a, some b => _ | _, _ => _) Q E = Get (asL S1 x) _
    cases asL S1 x <;> cases asL S1 y <;> rfl
  | _ :: _ :: _ :: _ => rfl)
end
section
variable {α : Type} {q : α → Prop} {a : α} {S : Sto} {xs : List MV} {env : Env} {v : MV}
theorem q_get : Get (some a) q = q a := rfl
theorem q_int {i : Int} {q : Int → Prop} : Get (intOf (.int i)) q = q i := rfl
theorem q_int1 {i : Int} {q : Int → Prop} : Get (int1 [.int i]) q = q i := rfl
theorem q_int2 {i j : Int} {q : Int × Int → Prop} : Get (int2 [.int i, .int j]) q = q (i, j) := rfl
theorem q_one1 {q : MV → Prop} : Get (one1 [v]) q = q v := rfl
theorem q_two2 {w : MV} {q : MV × MV → Prop} : Get (two2 [v, w]) q = q (v, w) := rfl
theorem q_str {z : List Nat} {q : List Nat → Prop} : Get (strOf (.str z)) q = q z := rfl
theorem q_asLl {q : List MV → Prop} : Get (asL S (.lst xs)) q = q xs := rfl
theorem q_asLr {q : List MV → Prop} : Get (asL S (.rol xs)) q = q xs := rfl
theorem q_itLl {q : Itv → Prop} : Get (itL S (.lst xs)) q = q ⟨xs, []⟩ := rfl
theorem q_itLt {q : Itv → Prop} : Get (itL S (.tup xs)) q = q ⟨xs, []⟩ := rfl
theorem q_gN {i : Nat} {q : Env → Prop} : Get (gN i v env) q = q (env.set i (some v)) := rfl
theorem q_gNl {q : Env → Prop} : Get (gNl [] env) q = q env := rfl
theorem q_gCs {g : MG} {r : MGs} {x : MV} {q : Env → Prop} : Get (gCs g r (x :: xs) env) q = Get (g x env) fun e => Get (r xs e) q := by
  unfold gCs; (try dsimp only); cases g x env <;> rfl
theorem q_gTt {n : Nat} {g : MGs} {q : Env → Prop} : Get (gT n g (.tup xs) env) q = An (xs.length = n) (Get (g xs env) q) := by
  unfold gT; (try dsimp only)
  by_cases h : xs.length = n
  · rw [if_pos h]; exact propext ⟨fun k => ⟨h, k⟩, fun k => k.2⟩
  · rw [if_neg h]; exact propext ⟨fun k => k.elim, fun k => h k.1⟩
theorem q_gTl {n : Nat} {g : MGs} {q : Env → Prop} : Get (gT n g (.lst xs) env) q = An (xs.length = n) (Get (g xs env) q) := by
  unfold gT; (try dsimp only)
  by_cases h : xs.length = n
  · rw [if_pos h]; exact propext ⟨fun k => ⟨h, k⟩, fun k => k.2⟩
  · rw [if_neg h]; exact propext ⟨fun k => k.elim, fun k => h k.1⟩
theorem q_an {p q : Prop} (h : p) : An p q = q := propext ⟨fun k => k.2, fun k => ⟨h, k⟩⟩
theorem q_ct {p q : Prop} : Cnd true p q = p := rfl
theorem q_cf {p q : Prop} : Cnd false p q = q := rfl
theorem q_ty1 {z : List Nat} : (tyM "str" S (.str z) = true) = True := eq_true rfl
theorem q_ty2 {i : Int} : (tyM "int" S (.int i) = true) = True := eq_true rfl
theorem q_ty3 : (tyM "list" S (.lst xs) = true) = True := eq_true rfl
theorem q_ty4 : (tyM "list" S (.rol xs) = true) = True := eq_true rfl
theorem q_anT {p : Prop} : An True p = p := propext ⟨fun k => k.2, fun k => ⟨trivial, k⟩⟩
end
section
variable {E : MX → Sto → Prop} {S : Sto} {Q : MV → Sto → Prop} {mu : Bool}
theorem q_addI {a b : Int} : Wp (fAdd mu (.int a) (.int b) S) Q E = Q (.int (a + b)) S := rfl
theorem q_addS {a b : List Nat} (h : a.length + b.length ≤ sizeLine) : Wp (fAdd mu (.str a) (.str b) S) Q E = Q (.str (a ++ b)) S := by
  unfold fAdd; simp only []; rw [if_pos h]; rfl
theorem q_addT {a b : List MV} (h : a.length + b.length ≤ sizeLine) : Wp (fAdd mu (.tup a) (.tup b) S) Q E = Q (.tup (a ++ b)) S := by
  unfold fAdd; simp only []; rw [if_pos h]; rfl
theorem q_addLL {a b : List MV} (h : a.length + b.length ≤ sizeLine) : Wp (fAdd mu (.lst a) (.lst b) S) Q E = Wp (mkL mu (a ++ b) S) Q E := by
  have e : fAdd mu (.lst a) (.lst b) S = mkL mu (a ++ b) S := by unfold fAdd; simp only [asH]; rw [if_pos h]
  rw [e]
theorem q_subI {a b : Int} : Wp (fSub (.int a) (.int b) S) Q E = Q (.int (a - b)) S := rfl
theorem q_mod {a b : Int} (h : 0 < b) : Wp (fMod (.int a) (.int b) S) Q E = Q (.int (a % b)) S := by
  unfold fMod; simp only []; rw [if_pos h]; rfl
theorem q_lt {a b : Int} : Wp (fLt (.int a) (.int b) S) Q E = Q (.bl (decide (a < b))) S := rfl
theorem q_le {a b : Int} : Wp (fLe (.int a) (.int b) S) Q E = Q (.bl (decide (a ≤ b))) S := rfl
theorem q_gt {a b : Int} : Wp (fGt (.int a) (.int b) S) Q E = Q (.bl (decide (b < a))) S := rfl
theorem q_ge {a b : Int} : Wp (fGe (.int a) (.int b) S) Q E = Q (.bl (decide (b ≤ a))) S := rfl
theorem q_eqI {a b : Int} : Wp (fEq (.int a) (.int b) S) Q E = Q (.bl (decide (a = b))) S := by rw [fEq_int]; rfl
theorem q_neI {a b : Int} : Wp (fNe (.int a) (.int b) S) Q E = Q (.bl (!decide (a = b))) S := by rw [fNe_int]; rfl
theorem q_eqS {a b : List Nat} : Wp (fEq (.str a) (.str b) S) Q E = Q (.bl (decide (a = b))) S := by rw [fEq_str]; rfl
theorem q_neS {a b : List Nat} : Wp (fNe (.str a) (.str b) S) Q E = Q (.bl (!decide (a = b))) S := by rw [fNe_str]; rfl
theorem q_eqB {a b : Bool} : Wp (fEq (.bl a) (.bl b) S) Q E = Q (.bl (decide (a = b))) S := by rw [fEq_bl]; rfl
theorem q_neB {a b : Bool} : Wp (fNe (.bl a) (.bl b) S) Q E = Q (.bl (!decide (a = b))) S := by rw [fNe_bl]; rfl
theorem q_inL {z : List Nat} {F : List (List Nat)} : Wp (fIn (.str z) (.lst (F.map MV.str)) S) Q E = Q (.bl (decide (z ∈ F))) S := by
  unfold fIn; rw [in_strs rfl fun _ => by simp]; rfl
theorem q_ninL {z : List Nat} {F : List (List Nat)} : Wp (fNotIn (.str z) (.lst (F.map MV.str)) S) Q E = Q (.bl (!decide (z ∈ F))) S := by
  unfold fNotIn; rw [in_strs rfl fun _ => by simp]; rfl
theorem q_lenL {xs : List MV} : Wp (fLen [.lst xs] S) Q E = Q (.int (xs.length : Int)) S := rfl
theorem q_lenT {xs : List MV} : Wp (fLen [.tup xs] S) Q E = Q (.int (xs.length : Int)) S := rfl
theorem q_lenD {xs : List (MV × MV)} : Wp (fLen [.dic xs] S) Q E = Q (.int (xs.length : Int)) S := rfl
theorem q_lenS {z : List Nat} (h : z.length ≤ sizeLine) : Wp (fLen [.str z] S) Q E = Q (.int (z.length : Int)) S := propext ⟨fun q => by
  unfold fLen lenM at q; simp only [] at q; rw [if_pos h] at q; exact q, fun q => wp_lenS q h⟩
theorem q_slS {z : List Nat} {lo hi : Option Int} (h : z.length ≤ sizeLine) : Wp (fSl mu (.str z) lo hi S) Q E = Q (.str (cutL z lo hi)) S := by
  unfold fSl; simp only []; rw [if_pos h]; rfl
theorem q_slT {z : List MV} {lo hi : Option Int} : Wp (fSl mu (.tup z) lo hi S) Q E = Q (.tup (cutL z lo hi)) S := rfl
theorem q_slL {z : List MV} {lo hi : Option Int} : Wp (fSl mu (.lst z) lo hi S) Q E = Wp (mkL mu (cutL z lo hi) S) Q E := rfl
theorem q_listL {z : List MV} : Wp (fListA mu [.lst z] S) Q E = Wp (mkL mu z S) Q E := rfl
theorem q_listT {z : List MV} : Wp (fListA mu [.tup z] S) Q E = Wp (mkL mu z S) Q E := rfl
theorem q_listD {z : List (MV × MV)} : Wp (fListA mu [.dic z] S) Q E = Wp (mkL mu (z.map fun p => p.1) S) Q E := rfl
theorem q_tupL {z : List MV} : Wp (fTuple [.lst z] S) Q E = Q (.tup z) S := rfl
theorem q_tupT {z : List MV} : Wp (fTuple [.tup z] S) Q E = Q (.tup z) S := rfl
theorem q_max {a b : Int} : Wp (fMax2 [.int a, .int b] S) Q E = Q (.int (if b > a then b else a)) S := rfl
theorem q_min {a b : Int} : Wp (fMin2 [.int a, .int b] S) Q E = Q (.int (if b < a then b else a)) S := rfl
theorem q_dictD {kvs : List (MV × MV)} : Wp (fDict mu [.dic kvs] S) Q E = Wp (mkD mu kvs S) Q E := rfl
theorem q_int1B {b : Bool} : Wp (fInt1 [.bl b] S) Q E = Q (.int (if b then 1 else 0)) S := rfl
theorem q_int1I {b : Int} : Wp (fInt1 [.int b] S) Q E = Q (.int b) S := rfl
end
structure Tg {α : Type} (a : α) : Type where
def Wz {α : Type} (r : Res α) (Q : α → Sto → Prop) (E : MX → Sto → Prop) (_ : Tg (Q, E) := ⟨⟩) : Prop := Wp r Q E
def Wzs (s : SRes) (N : Env → Sto → Prop) (R : MV → Sto → Prop) (B C : Env → Sto → Prop) (X : EE) (_ : Tg (N, R, B, C, X) := ⟨⟩) : Prop := Ws s N R B C X
def Gz {α : Type} (o : Option α) (q : α → Prop) (_ : Tg q := ⟨⟩) : Prop := Get o q
def Az (p q : Prop) (_ : Tg q := ⟨⟩) : Prop := An p q
def Cz (b : Bool) (p q : Prop) (_ : Tg (p, q) := ⟨⟩) : Prop := Cnd b p q
def Bz (x : MV) (q : Bool → Prop) (_ : Tg q := ⟨⟩) : Prop := WB x q
def Tz (S : Sto) (x : MV) (q : Bool → Prop) (_ : Tg q := ⟨⟩) : Prop := WT S x q
def Vz (e : Env) (i : Nat) (q : MV → Prop) (_ : Tg q := ⟨⟩) : Prop := WV e i q
def Sz (x j : MV) (S : Sto) (y : MV) (K : Sto → Prop) (_ : Tg K := ⟨⟩) : Prop := SubP x j S y K
def Pz (x j : MV) (S : Sto) (y : MV) (K : Sto → Prop) (_ : Tg K := ⟨⟩) : Prop := PutP x j S y K
def Fz (c : Nat) (f : Str) (x : MV) (S : Sto) (y : MV) (K : Sto → Prop) (_ : Tg K := ⟨⟩) : Prop := FldP c f x S y K
def Iz (c : Nat) (x : MV) (S : Sto) (K : List (Str × MV) → Prop) (_ : Tg K := ⟨⟩) : Prop := InsP c x S K
section
variable {α : Type} {r : Res α} {s : SRes} {Q : α → Sto → Prop} {E : MX → Sto → Prop} {N : Env → Sto → Prop} {R : MV → Sto → Prop} {B C : Env → Sto → Prop} {X : EE} {S : Sto}
theorem i_wp (h : Wz r Q E) : Wp r Q E := h
theorem i_ws (h : Wzs s N R B C X) : Ws s N R B C X := h
theorem i_get {o : Option α} {q : α → Prop} (h : Gz o q) : Get o q := h
theorem i_an {p q : Prop} (h : Az p q) : An p q := h
theorem i_if {b : Bool} {p q : Prop} (h : Cz b p q) : if b = true then p else q := h
theorem i_wb {x : MV} {q : Bool → Prop} (h : Bz x q) : WB x q := h
theorem i_wt {x : MV} {q : Bool → Prop} (h : Tz S x q) : WT S x q := h
theorem i_sub {x j y : MV} {K : Sto → Prop} (h : Sz x j S y K) : SubP x j S y K := h
theorem i_put {x j y : MV} {K : Sto → Prop} (h : Pz x j S y K) : PutP x j S y K := h
theorem i_fld {c : Nat} {f : Str} {x y : MV} {K : Sto → Prop} (h : Fz c f x S y K) : FldP c f x S y K := h
theorem i_ins {c : Nat} {x : MV} {K : List (Str × MV) → Prop} (h : Iz c x S K) : InsP c x S K := h
theorem o_wp {t : Tg (Q, E)} (h : Wp r Q E) : Wz r Q E t := h
theorem o_ws {t : Tg (N, R, B, C, X)} (h : Ws s N R B C X) : Wzs s N R B C X t := h
theorem o_get {o : Option α} {q : α → Prop} {t : Tg q} (h : Get o q) : Gz o q t := h
theorem o_an {p q : Prop} {t : Tg q} (h : An p q) : Az p q t := h
theorem o_if {b : Bool} {p q : Prop} {t : Tg (p, q)} (h : if b = true then p else q) : Cz b p q t := h
theorem o_wb {x : MV} {q : Bool → Prop} {t : Tg q} (h : WB x q) : Bz x q t := h
theorem o_wt {x : MV} {q : Bool → Prop} {t : Tg q} (h : WT S x q) : Tz S x q t := h
theorem o_v {e : Env} {i : Nat} {q : MV → Prop} {t : Tg q} (h : WV e i q) : Vz e i q t := h
theorem o_sub {x j y : MV} {K : Sto → Prop} {t : Tg K} (h : SubP x j S y K) : Sz x j S y K t := h
theorem o_put {x j y : MV} {K : Sto → Prop} {t : Tg K} (h : PutP x j S y K) : Pz x j S y K t := h
theorem o_fld {c : Nat} {f : Str} {x y : MV} {K : Sto → Prop} {t : Tg K} (h : FldP c f x S y K) : Fz c f x S y K t := h
theorem o_ins {c : Nat} {x : MV} {K : List (Str × MV) → Prop} {t : Tg K} (h : InsP c x S K) : Iz c x S K t := h
end
section
variable {α β : Type} {r r' : Res α} {s s' : SRes} {Q Q' : α → Sto → Prop} {E E' : MX → Sto → Prop} {N : Env → Sto → Prop} {R : MV → Sto → Prop} {B C : Env → Sto → Prop} {X : EE} {env : Env} {S S1 : Sto}
theorem z_seq {a b : MSt} : Wzs (sSeq a b env S) N R B C X = Wzs (a env S) (fun e S1 => Wzs (b e S1) N R B C X) R B C X := q_seq
theorem z_next : Wzs (sNext env S) N R B C X = N env S := q_next
theorem z_break : Wzs (sBreak env S) N R B C X = B env S := q_break
theorem z_cont : Wzs (sCont env S) N R B C X = C env S := q_cont
theorem z_retN : Wzs (sRetN env S) N R B C X = R .non S := q_retN
theorem z_ret {m : ME} : Wzs (sRet m env S) N R B C X = Wz (m env S) R (fun x S => X x env S) := q_ret
theorem z_drop {m : ME} : Wzs (sDrop m env S) N R B C X = Wz (m env S) (fun _ S1 => N env S1) (fun x S => X x env S) := q_drop
theorem z_set {i : Nat} {m : ME} : Wzs (sSet i m env S) N R B C X = Wz (m env S) (fun v S1 => N (env.set i (some v)) S1) (fun x S => X x env S) := q_set
theorem z_asg {g : MG} {m : ME} : Wzs (sAsg g m env S) N R B C X = Wz (m env S) (fun v S1 => Gz (g v env) fun e => N e S1) (fun x S => X x env S) := q_asg
theorem z_if {c : MB} {a b : MSt} : Wzs (sIf c a b env S) N R B C X = Wz (c env S) (fun x S1 => Cz x (Wzs (a env S1) N R B C X) (Wzs (b env S1) N R B C X)) (fun x S => X x env S) := q_if
theorem z_par {i j : Nat} {a b : ME} : Wzs (sPar i j a b env S) N R B C X = Wz (a env S) (fun x S1 => Wz (b env S1) (fun y S2 => N ((env.set i (some x)).set j (some y)) S2) (fun x S => X x env S)) (fun x S => X x env S) := q_par
theorem z_par3 {i j l : Nat} {a b c : ME} : Wzs (sPar3 i j l a b c env S) N R B C X = Wz (a env S) (fun x S1 => Wz (b env S1) (fun y S2 => Wz (c env S2) (fun z S3 => N (((env.set i (some x)).set j (some y)).set l (some z)) S3) (fun x S => X x env S)) (fun x S => X x env S)) (fun x S => X x env S) := q_par3
theorem z_sub {o i m : ME} : Wzs (sSub o i m env S) N R B C X = Wz (m env S) (fun y S1 => Wz (o env S1) (fun x S2 => Wz (i env S2) (fun j S3 => Sz x j S3 y fun S4 => N env S4) (fun x S => X x env S)) (fun x S => X x env S)) (fun x S => X x env S) := q_sub
theorem z_dput {o i m : ME} : Wzs (sDPutM o i m env S) N R B C X = Wz (m env S) (fun y S1 => Wz (o env S1) (fun x S2 => Wz (i env S2) (fun j S3 => Pz x j S3 y fun S4 => N env S4) (fun x S => X x env S)) (fun x S => X x env S)) (fun x S => X x env S) := q_dput
theorem z_fld {c : Nat} {f : Str} {o m : ME} : Wzs (sFldM c f o m env S) N R B C X = Wz (m env S) (fun y S1 => Wz (o env S1) (fun x S2 => Fz c f x S2 y fun S4 => N env S4) (fun x S => X x env S)) (fun x S => X x env S) := q_fld
theorem z_for {mi : Env → Sto → Res Itv} {g : MG} {mb : MSt} : Wzs (sFor mi g mb env S) N R B C X = Wz (mi env S) (fun t S1 => Wzs (forL t g mb t.items env S1) N R B C X) (fun x S => X x env S) := q_for
theorem z_v {E : MX → Sto → Prop} {S : Sto} {i : Nat} {env : Env} {Q : MV → Sto → Prop} : Wz (mV i env S) Q E = Vz env i fun v => Q v S := q_v
theorem z_vS {i : Nat} {x : Option MV} {r : Env} {q : MV → Prop} : Vz (x :: r) (i + 1) q = Vz r i q := q_vS
theorem z_v0 {v : MV} {r : Env} {q : MV → Prop} : Vz (some v :: r) 0 q = q v := q_v0
theorem z_e0 {n : Nat} {a : MV} {r : List MV} : env0 (n + 1) (a :: r) = some a :: env0 n r := q_e0
theorem z_e1 {n : Nat} : env0 (n + 1) [] = none :: env0 n [] := q_e1
theorem z_e2 : env0 0 [] = [] := q_e2
theorem z_c {v : MV} {Q : MV → Sto → Prop} : Wz (mC v env S) Q E = Q v S := q_c
theorem z_bin {f : MV → MV → Sto → Res MV} {a b : ME} {Q : MV → Sto → Prop} : Wz (mBin f a b env S) Q E = Wz (a env S) (fun x S1 => Wz (b env S1) (fun y S2 => Wz (f x y S2) Q E) E) E := q_bin
theorem z_nil {Q : List MV → Sto → Prop} : Wz (mNil env S) Q E = Q [] S := q_nil
theorem z_cons {a : ME} {r : MA} {Q : List MV → Sto → Prop} : Wz (mCons a r env S) Q E = Wz (a env S) (fun x S1 => Wz (r env S1) (fun xs S2 => Q (x :: xs) S2) E) E := q_cons
theorem z_b {f : List MV → Sto → Res MV} {as : MA} {Q : MV → Sto → Prop} : Wz (mB f as env S) Q E = Wz (as env S) (fun xs S1 => Wz (f xs S1) Q E) E := q_b
theorem z_bm {T : String} {f : MV → List MV → Sto → Res MV} {o : ME} {as : MA} {Q : MV → Sto → Prop} : Wz (mBM T f o as env S) Q E = Wz (o env S) (fun x S1 => Az (tyM T S1 x = true) (Wz (as env S1) (fun xs S2 => Wz (f x xs S2) Q E) E)) E := q_bm
theorem z_call {n : Nat} {g : List MV → Sto → Res MV} {as : MA} {Q : MV → Sto → Prop} : Wz (mCall n g [] as env S) Q E = Wz (as env S) (fun vs S1 => Az (vs.length = n) (Wz (g vs S1) Q E)) E := q_call
theorem z_calld {n : Nat} {g : List MV → Sto → Res MV} {as : MA} {m : MV} {ms : List MV} {Q : MV → Sto → Prop} : Wz (mCall n g (m :: ms) as env S) Q E = Wz (as env S) (fun vs S1 => Az ((vs ++ m :: ms).length = n) (Wz (g (vs ++ m :: ms) S1) Q E)) E := q_calld
theorem z_wb {b : Bool} {q : Bool → Prop} : Bz (.bl b) q = q b := q_wb
theorem z_asB {m : ME} {Q : Bool → Sto → Prop} : Wz (asB m env S) Q E = Wz (m env S) (fun x S1 => Bz x fun b => Q b S1) E := q_asB
theorem z_asT {m : ME} {Q : Bool → Sto → Prop} : Wz (asT m env S) Q E = Wz (m env S) (fun x S1 => Tz S1 x fun b => Q b S1) E := q_asT
theorem z_wtB {b : Bool} {q : Bool → Prop} : Tz S (.bl b) q = q b := q_wtB
theorem z_wtN {q : Bool → Prop} : Tz S .non q = q false := q_wtN
theorem z_wtI {i : Int} {q : Bool → Prop} : Tz S (.int i) q = q (i != 0) := q_wtI
theorem z_wtT0 {q : Bool → Prop} : Tz S (.tup []) q = q false := q_wtT0
theorem z_wtT1 {x : MV} {xs : List MV} {q : Bool → Prop} : Tz S (.tup (x :: xs)) q = q true := q_wtT1
theorem z_wtL0 {q : Bool → Prop} : Tz S (.lst []) q = q false := q_wtL0
theorem z_wtL1 {x : MV} {xs : List MV} {q : Bool → Prop} : Tz S (.lst (x :: xs)) q = q true := q_wtL1
theorem z_notB {m : MB} {Q : Bool → Sto → Prop} : Wz (mNotB m env S) Q E = Wz (m env S) (fun b S1 => Q (!b) S1) E := q_notB
theorem z_andB {a b : MB} {Q : Bool → Sto → Prop} : Wz (mAndB a b env S) Q E = Wz (a env S) (fun x S1 => Cz x (Wz (b env S1) Q E) (Q false S1)) E := q_andB
theorem z_orB {a b : MB} {Q : Bool → Sto → Prop} : Wz (mOrB a b env S) Q E = Wz (a env S) (fun x S1 => Cz x (Q true S1) (Wz (b env S1) Q E)) E := q_orB
theorem z_notT {m : ME} {Q : MV → Sto → Prop} : Wz (mNotT m env S) Q E = Wz (m env S) (fun x S1 => Tz S1 x fun b => Q (.bl (!b)) S1) E := q_notT
theorem z_andT {a b : ME} {Q : MV → Sto → Prop} : Wz (mAndT a b env S) Q E = Wz (a env S) (fun x S1 => Tz S1 x fun k => Cz k (Wz (b env S1) Q E) (Q x S1)) E := q_andT
theorem z_orT {a b : ME} {Q : MV → Sto → Prop} : Wz (mOrT a b env S) Q E = Wz (a env S) (fun x S1 => Tz S1 x fun k => Cz k (Q x S1) (Wz (b env S1) Q E)) E := q_orT
theorem z_ifE {c : MB} {a b : Env → Sto → Res α} : Wz (mIf c a b env S) Q E = Wz (c env S) (fun x S1 => Cz x (Wz (a env S1) Q E) (Wz (b env S1) Q E)) E := q_ifE
theorem z_isn {m : ME} {Q : MV → Sto → Prop} : Wz (mIsN m env S) Q E = Wz (m env S) (fun x S1 => Q (.bl (isN x)) S1) E := q_isn
theorem z_notn {m : ME} {Q : MV → Sto → Prop} : Wz (mNotN m env S) Q E = Wz (m env S) (fun x S1 => Q (.bl (!isN x)) S1) E := q_notn
theorem z_neg {m : ME} {Q : MV → Sto → Prop} : Wz (mNeg m env S) Q E = Wz (m env S) (fun x S1 => Gz (intOf x) fun i => Q (.int (-i)) S1) E := q_neg
theorem z_chain {f g : MV → MV → Sto → Res MV} {a b c : ME} {Q : MV → Sto → Prop} : Wz (mChain f g a b c env S) Q E = Wz (a env S) (fun x S1 => Wz (b env S1) (fun y S2 => Wz (f x y S2) (fun z S3 => Bz z fun k => Cz k (Wz (c env S3) (fun w S4 => Wz (g y w S4) Q E) E) (Q (.bl false) S3)) E) E) E := q_chain
theorem z_yes {Q : Bool → Sto → Prop} : Wz (mYes env S) Q E = Q true S := q_yes
theorem z_nopart {Q : Option Int → Sto → Prop} : Wz (mNoPart env S) Q E = Q none S := q_nopart
theorem z_part {m : ME} {Q : Option Int → Sto → Prop} : Wz (mPart m env S) Q E = Wz (m env S) (fun x S1 => Gz (intOf x) fun i => Q (some i) S1) E := q_part
theorem z_sl {mu : Bool} {a : ME} {lo hi : MO'} {Q : MV → Sto → Prop} : Wz (mSl mu a lo hi env S) Q E = Wz (a env S) (fun x S1 => Wz (lo env S1) (fun l S2 => Wz (hi env S2) (fun h S3 => Wz (fSl mu x l h S3) Q E) E) E) E := q_sl
theorem z_tup {as : MA} {Q : MV → Sto → Prop} : Wz (mTup as env S) Q E = Wz (as env S) (fun xs S1 => Az (xs.length ≤ sizeLine) (Q (.tup xs) S1)) E := q_tup
theorem z_lst {mu : Bool} {as : MA} {Q : MV → Sto → Prop} : Wz (mLst mu as env S) Q E = Wz (as env S) (fun xs S1 => Az (xs.length ≤ sizeLine) (Wz (mkL mu xs S1) Q E)) E := q_lst
theorem z_mkL {xs : List MV} {Q : MV → Sto → Prop} : Wz (mkL false xs S) Q E = Q (.lst xs) S := q_mkL
theorem z_mkLn {xs : List MV} {Q : MV → Sto → Prop} : Wz (mkL true xs S) Q E = Q (.ref S.length) (S ++ [.lst xs]) := q_mkLn
theorem z_dic0 {mu : Bool} {Q : MV → Sto → Prop} : Wz (mDic0 mu env S) Q E = Wz (mkD mu [] S) Q E := q_dic0
theorem z_mkD {xs : List (MV × MV)} {Q : MV → Sto → Prop} : Wz (mkD false xs S) Q E = Q (.dic xs) S := q_mkD
theorem z_mkDn {xs : List (MV × MV)} {Q : MV → Sto → Prop} : Wz (mkD true xs S) Q E = Q (.ref S.length) (S ++ [.dic xs]) := q_mkDn
theorem z_revL {mu : Bool} {a : ME} {Q : MV → Sto → Prop} : Wz (mRevL mu a env S) Q E = Wz (a env S) (fun x S1 => Gz (asL S1 x) fun xs => Wz (mkL mu xs.reverse S1) Q E) E := q_revL
theorem z_fldE {c : Nat} {f : Str} {o : ME} {Q : MV → Sto → Prop} : Wz (mFld c f o env S) Q E = Wz (o env S) (fun x S1 => Iz c x S1 fun fs => Gz (fs.lookup f) fun v => Q v S1) E := q_fldE
theorem z_meth0 {c n : Nat} {m : Str} {g : List MV → Sto → Res MV} {o : ME} {as : MA} {Q : MV → Sto → Prop} : Wz (mMeth c n m g [] o as env S) Q E = Wz (o env S) (fun x S1 => Iz c x S1 fun fs => Az (fs.lookup m = none) (Wz (as env S1) (fun vs S2 => Az ((x :: vs).length = n) (Wz (g (x :: vs) S2) Q E)) E)) E := q_meth0
theorem z_methd {c n : Nat} {m : Str} {g : List MV → Sto → Res MV} {m0 : MV} {ms : List MV} {o : ME} {as : MA} {Q : MV → Sto → Prop} : Wz (mMeth c n m g (m0 :: ms) o as env S) Q E = Wz (o env S) (fun x S1 => Iz c x S1 fun fs => Az (fs.lookup m = none) (Wz (as env S1) (fun vs S2 => Az ((x :: (vs ++ m0 :: ms)).length = n) (Wz (g (x :: (vs ++ m0 :: ms)) S2) Q E)) E)) E := q_meth
theorem z_insV {c : Nat} {fs : List (Str × MV)} {K : List (Str × MV) → Prop} : Iz c (.ins c fs) S K = K fs := q_insV
theorem z_get2 {o i d : ME} {Q : MV → Sto → Prop} : Wz (mGet2 o i d env S) Q E = Wz (o env S) (fun x S1 => Az ((asD S1 x).isSome = true) (Wz (i env S1) (fun y S2 => Wz (d env S2) (fun z S3 => Gz (asD S3 x) fun kvs => Az (isKey y = true) (Q ((kLook kvs y).getD z) S3)) E) E)) E := q_get2
theorem z_itS {m : ME} {Q : Itv → Sto → Prop} : Wz (mItS m env S) Q E = Wz (m env S) (fun x S1 => Gz (itL S1 x) fun t => Q t S1) E := q_itS
theorem z_itR1 {as : MA} {Q : Itv → Sto → Prop} : Wz (mItR1 as env S) Q E = Wz (as env S) (fun xs S1 => Gz (int1 xs) fun j => Az (R62 j) (Q ⟨rngL 0 j.toNat, []⟩ S1)) E := q_itR1
theorem z_itR2 {as : MA} {Q : Itv → Sto → Prop} : Wz (mItR2 as env S) Q E = Wz (as env S) (fun xs S1 => Gz (int2 xs) fun p => Az (R62 p.1 ∧ R62 p.2) (Q ⟨rngL p.1 (p.2 - p.1).toNat, []⟩ S1)) E := q_itR2
theorem z_itT {m : ME} {Q : Itv → Sto → Prop} : Wz (mItT m env S) Q E = Wz (m env S) (fun x S1 => Gz (strOf x) fun z => Q ⟨z.map fun c => .str [c], []⟩ S1) E := q_itT
theorem z_itE {as : MA} {Q : Itv → Sto → Prop} : Wz (mItE as env S) Q E = Wz (as env S) (fun xs S1 => Gz (one1 xs) fun x => Gz (asL S1 x) fun ys => Q ⟨enuL ys, depsOf x ys⟩ S1) E := q_itE
theorem z_itZ {as : MA} {Q : Itv → Sto → Prop} : Wz (mItZ as env S) Q E = Wz (as env S) (fun xs S1 => Gz (two2 xs) fun p => Gz (asL S1 p.1) fun a => Gz (asL S1 p.2) fun b => Q ⟨zipL a b, depsOf p.1 a ++ depsOf p.2 b⟩ S1) E := q_itZ
end
section
variable {α : Type} {q : α → Prop} {a : α} {S : Sto} {xs : List MV} {env : Env} {v : MV}
theorem z_get : Gz (some a) q = q a := q_get
theorem z_int {i : Int} {q : Int → Prop} : Gz (intOf (.int i)) q = q i := q_int
theorem z_int1 {i : Int} {q : Int → Prop} : Gz (int1 [.int i]) q = q i := q_int1
theorem z_int2 {i j : Int} {q : Int × Int → Prop} : Gz (int2 [.int i, .int j]) q = q (i, j) := q_int2
theorem z_one1 {q : MV → Prop} : Gz (one1 [v]) q = q v := q_one1
theorem z_two2 {w : MV} {q : MV × MV → Prop} : Gz (two2 [v, w]) q = q (v, w) := q_two2
theorem z_str {z : List Nat} {q : List Nat → Prop} : Gz (strOf (.str z)) q = q z := q_str
theorem z_asLl {q : List MV → Prop} : Gz (asL S (.lst xs)) q = q xs := q_asLl
theorem z_asLr {q : List MV → Prop} : Gz (asL S (.rol xs)) q = q xs := q_asLr
theorem z_itLl {q : Itv → Prop} : Gz (itL S (.lst xs)) q = q ⟨xs, []⟩ := q_itLl
theorem z_itLt {q : Itv → Prop} : Gz (itL S (.tup xs)) q = q ⟨xs, []⟩ := q_itLt
theorem z_gN {i : Nat} {q : Env → Prop} : Gz (gN i v env) q = q (env.set i (some v)) := q_gN
theorem z_gNl {q : Env → Prop} : Gz (gNl [] env) q = q env := q_gNl
theorem z_gCs {g : MG} {r : MGs} {x : MV} {q : Env → Prop} : Gz (gCs g r (x :: xs) env) q = Gz (g x env) fun e => Gz (r xs e) q := q_gCs
theorem z_gTt {n : Nat} {g : MGs} {q : Env → Prop} : Gz (gT n g (.tup xs) env) q = Az (xs.length = n) (Gz (g xs env) q) := q_gTt
theorem z_gTl {n : Nat} {g : MGs} {q : Env → Prop} : Gz (gT n g (.lst xs) env) q = Az (xs.length = n) (Gz (g xs env) q) := q_gTl
theorem z_an {p q : Prop} (h : p) : Az p q = q := q_an h
theorem z_ct {p q : Prop} : Cz true p q = p := q_ct
theorem z_cf {p q : Prop} : Cz false p q = q := q_cf
theorem z_ty1 {z : List Nat} : (tyM "str" S (.str z) = true) = True := q_ty1
theorem z_ty2 {i : Int} : (tyM "int" S (.int i) = true) = True := q_ty2
theorem z_ty3 : (tyM "list" S (.lst xs) = true) = True := q_ty3
theorem z_ty4 : (tyM "list" S (.rol xs) = true) = True := q_ty4
theorem z_anT {p : Prop} : Az True p = p := q_anT
end
section
variable {E : MX → Sto → Prop} {S : Sto} {Q : MV → Sto → Prop} {mu : Bool}
theorem z_addI {a b : Int} : Wz (fAdd mu (.int a) (.int b) S) Q E = Q (.int (a + b)) S := q_addI
theorem z_addS {a b : List Nat} (h : a.length + b.length ≤ sizeLine) : Wz (fAdd mu (.str a) (.str b) S) Q E = Q (.str (a ++ b)) S := q_addS h
theorem z_addT {a b : List MV} (h : a.length + b.length ≤ sizeLine) : Wz (fAdd mu (.tup a) (.tup b) S) Q E = Q (.tup (a ++ b)) S := q_addT h
theorem z_addLL {a b : List MV} (h : a.length + b.length ≤ sizeLine) : Wz (fAdd mu (.lst a) (.lst b) S) Q E = Wz (mkL mu (a ++ b) S) Q E := q_addLL h
theorem z_subI {a b : Int} : Wz (fSub (.int a) (.int b) S) Q E = Q (.int (a - b)) S := q_subI
theorem z_mod {a b : Int} (h : 0 < b) : Wz (fMod (.int a) (.int b) S) Q E = Q (.int (a % b)) S := q_mod h
theorem z_lt {a b : Int} : Wz (fLt (.int a) (.int b) S) Q E = Q (.bl (decide (a < b))) S := q_lt
theorem z_le {a b : Int} : Wz (fLe (.int a) (.int b) S) Q E = Q (.bl (decide (a ≤ b))) S := q_le
theorem z_gt {a b : Int} : Wz (fGt (.int a) (.int b) S) Q E = Q (.bl (decide (b < a))) S := q_gt
theorem z_ge {a b : Int} : Wz (fGe (.int a) (.int b) S) Q E = Q (.bl (decide (b ≤ a))) S := q_ge
theorem z_eqI {a b : Int} : Wz (fEq (.int a) (.int b) S) Q E = Q (.bl (decide (a = b))) S := q_eqI
theorem z_neI {a b : Int} : Wz (fNe (.int a) (.int b) S) Q E = Q (.bl (!decide (a = b))) S := q_neI
theorem z_eqS {a b : List Nat} : Wz (fEq (.str a) (.str b) S) Q E = Q (.bl (decide (a = b))) S := q_eqS
theorem z_neS {a b : List Nat} : Wz (fNe (.str a) (.str b) S) Q E = Q (.bl (!decide (a = b))) S := q_neS
theorem z_eqB {a b : Bool} : Wz (fEq (.bl a) (.bl b) S) Q E = Q (.bl (decide (a = b))) S := q_eqB
theorem z_neB {a b : Bool} : Wz (fNe (.bl a) (.bl b) S) Q E = Q (.bl (!decide (a = b))) S := q_neB
theorem z_inL {z : List Nat} {F : List (List Nat)} : Wz (fIn (.str z) (.lst (F.map MV.str)) S) Q E = Q (.bl (decide (z ∈ F))) S := q_inL
theorem z_ninL {z : List Nat} {F : List (List Nat)} : Wz (fNotIn (.str z) (.lst (F.map MV.str)) S) Q E = Q (.bl (!decide (z ∈ F))) S := q_ninL
theorem z_lenL {xs : List MV} : Wz (fLen [.lst xs] S) Q E = Q (.int (xs.length : Int)) S := q_lenL
theorem z_lenT {xs : List MV} : Wz (fLen [.tup xs] S) Q E = Q (.int (xs.length : Int)) S := q_lenT
theorem z_lenD {xs : List (MV × MV)} : Wz (fLen [.dic xs] S) Q E = Q (.int (xs.length : Int)) S := q_lenD
theorem z_lenS {z : List Nat} (h : z.length ≤ sizeLine) : Wz (fLen [.str z] S) Q E = Q (.int (z.length : Int)) S := q_lenS h
theorem z_slS {z : List Nat} {lo hi : Option Int} (h : z.length ≤ sizeLine) : Wz (fSl mu (.str z) lo hi S) Q E = Q (.str (cutL z lo hi)) S := q_slS h
theorem z_slT {z : List MV} {lo hi : Option Int} : Wz (fSl mu (.tup z) lo hi S) Q E = Q (.tup (cutL z lo hi)) S := q_slT
theorem z_slL {z : List MV} {lo hi : Option Int} : Wz (fSl mu (.lst z) lo hi S) Q E = Wz (mkL mu (cutL z lo hi) S) Q E := q_slL
theorem z_listL {z : List MV} : Wz (fListA mu [.lst z] S) Q E = Wz (mkL mu z S) Q E := q_listL
theorem z_listT {z : List MV} : Wz (fListA mu [.tup z] S) Q E = Wz (mkL mu z S) Q E := q_listT
theorem z_listD {z : List (MV × MV)} : Wz (fListA mu [.dic z] S) Q E = Wz (mkL mu (z.map fun p => p.1) S) Q E := q_listD
theorem z_tupL {z : List MV} : Wz (fTuple [.lst z] S) Q E = Q (.tup z) S := q_tupL
theorem z_tupT {z : List MV} : Wz (fTuple [.tup z] S) Q E = Q (.tup z) S := q_tupT
theorem z_max {a b : Int} : Wz (fMax2 [.int a, .int b] S) Q E = Q (.int (if b > a then b else a)) S := q_max
theorem z_min {a b : Int} : Wz (fMin2 [.int a, .int b] S) Q E = Q (.int (if b < a then b else a)) S := q_min
theorem z_dictD {kvs : List (MV × MV)} : Wz (fDict mu [.dic kvs] S) Q E = Wz (mkD mu kvs S) Q E := q_dictD
theorem z_int1B {b : Bool} : Wz (fInt1 [.bl b] S) Q E = Q (.int (if b then 1 else 0)) S := q_int1B
theorem z_int1I {b : Int} : Wz (fInt1 [.int b] S) Q E = Q (.int b) S := q_int1I
end
end Mi
namespace Mi
namespace Sh
open PySem L2 TL
local macro_rules | `(tactic| walk_at "r62") => `(tactic| first | exact r62 (by omega) (by omega) | exact ⟨r62 (by omega) (by omega), r62 (by omega) (by omega)⟩)
local macro_rules | `(tactic| walk_at "sz") => `(tactic| first | omega | (simp only [List.length_cons, List.length_nil, List.length_append, List.length_map, List.length_replicate, List.length_take, List.length_drop, sizeLine] <;> omega) | (unfold sizeLine; omega) | decide)
local macro_rules | `(tactic| walk_at "dq") => `(tactic| first | with_unfolding_all rfl | walk_at "r62" | walk_at "sz")
local macro_rules | `(tactic| walk_at "zs") => `(tactic| ((try (first | with_reducible refine i_wp ?_ | with_reducible refine i_ws ?_ | with_reducible refine i_get ?_ | with_reducible refine i_an ?_ | with_reducible refine i_if ?_ | with_reducible refine i_wb ?_ | with_reducible refine i_wt ?_ | with_reducible refine i_sub ?_ | with_reducible refine i_put ?_ | with_reducible refine i_fld ?_ | with_reducible refine i_ins ?_)); (try simp (disch := walk_at "dq") only [↓z_seq, ↓z_next, ↓z_break, ↓z_cont, ↓z_retN, ↓z_ret, ↓z_drop, ↓z_set, ↓z_asg, ↓z_if, ↓z_par, ↓z_par3, ↓z_sub, ↓z_dput, ↓z_fld, ↓z_for, ↓z_v, ↓z_vS, ↓z_v0, ↓z_e0, ↓z_e1, ↓z_e2, ↓z_c, ↓z_bin, ↓z_nil, ↓z_cons, ↓z_b, ↓z_bm, ↓z_call, ↓z_calld, ↓z_wb, ↓z_asB, ↓z_asT, ↓z_wtB, ↓z_wtN, ↓z_wtI, ↓z_wtT0, ↓z_wtT1, ↓z_wtL0, ↓z_wtL1, ↓z_notB, ↓z_andB, ↓z_orB, ↓z_notT, ↓z_andT, ↓z_orT, ↓z_ifE, ↓z_isn, ↓z_notn, ↓z_neg, ↓z_chain, ↓z_yes, ↓z_nopart, ↓z_part, ↓z_sl, ↓z_tup, ↓z_lst, ↓z_mkL, ↓z_mkLn, ↓z_dic0, ↓z_mkD, ↓z_mkDn, ↓z_revL, ↓z_fldE, ↓z_insV, ↓z_get2, ↓z_itS, ↓z_itR1, ↓z_itR2, ↓z_itT, ↓z_itE, ↓z_itZ, ↓z_get, ↓z_int, ↓z_int1, ↓z_int2, ↓z_one1, ↓z_two2, ↓z_str, ↓z_asLl, ↓z_asLr, ↓z_itLl, ↓z_itLt, ↓z_gN, ↓z_gNl, ↓z_gCs, ↓z_gTt, ↓z_gTl, ↓z_an, ↓z_ct, ↓z_cf, ↓z_ty1, ↓z_ty2, ↓z_ty3, ↓z_ty4, ↓z_anT, ↓z_addI, ↓z_addS, ↓z_addT, ↓z_addLL, ↓z_subI, ↓z_mod, ↓z_lt, ↓z_le, ↓z_gt, ↓z_ge, ↓z_eqI, ↓z_neI, ↓z_eqS, ↓z_neS, ↓z_eqB, ↓z_neB, ↓z_inL, ↓z_ninL, ↓z_lenL, ↓z_lenT, ↓z_lenD, ↓z_lenS, ↓z_slS, ↓z_slT, ↓z_slL, ↓z_listL, ↓z_listT, ↓z_listD, ↓z_tupL, ↓z_tupT, ↓z_max, ↓z_min, ↓z_dictD, ↓z_int1B, ↓z_int1I, ↓z_meth0, ↓z_methd, List.set_cons_zero, List.set_cons_succ, q_e0, q_e1, q_e2, -eq_self, -iff_self]); (try (first | with_reducible refine o_wp ?_ | with_reducible refine o_ws ?_ | with_reducible refine o_get ?_ | with_reducible refine o_an ?_ | with_reducible refine o_if ?_ | with_reducible refine o_wb ?_ | with_reducible refine o_wt ?_ | with_reducible refine o_v ?_ | with_reducible refine o_sub ?_ | with_reducible refine o_put ?_ | with_reducible refine o_fld ?_ | with_reducible refine o_ins ?_))))
local macro_rules | `(tactic| walk_at "w") => `(tactic| (walk_at "zs"; (repeat ((first | with_reducible refine wp_ixT (by with_unfolding_all rfl) ?_ | with_reducible refine wp_ixL (by with_unfolding_all rfl) ?_ | with_reducible refine wv (by with_unfolding_all rfl) ?_ | with_reducible refine get (by with_unfolding_all rfl) ?_ | with_reducible refine an (by walk_at "dq") ?_ | with_reducible refine wt (by with_unfolding_all rfl) ?_ | with_reducible refine ite_t ?_ | with_reducible refine ite_f ?_ | with_reducible refine ite_rt (by with_unfolding_all rfl) ?_ | with_reducible refine ite_rf (by with_unfolding_all rfl) ?_ | with_reducible refine wp_isiT (by with_unfolding_all rfl) ?_ | with_reducible refine wp_isiF (by with_unfolding_all rfl) ?_); walk_at "zs"))))
noncomputable def b_law_gear_c1 : ME :=
  (mComp false (mItS (mV 3)) [6] (gN 6) mYes (mTup (mCons (mV 6) (mCons (mCall 2 m_law_next [] (mCons (mV 0) (mCons (mC (.int 3)) mNil))) mNil))))
noncomputable def b_law_gear_c2 : ME :=
  (mComp false (mItS (mV 4)) [6] (gN 6) mYes (mTup (mCons (mV 6) (mCons (mBin (fAdd false) (mC (.int 1)) (mCall 2 m_law_next [] (mCons (mV 0) (mCons (mC (.int 2)) mNil)))) mNil))))
noncomputable def b_law_gear : MSt :=
  (sSeq (sSet 1 (mCall 3 m_law_names [] (mCons (mV 0) (mCons (mBin (fAdd false) (mC (.int 1)) (mCall 2 m_law_next [] (mCons (mV 0) (mCons (mC (.int 4)) mNil)))) (mCons (mLst false mNil) mNil)))))
  (sSeq (sSet 2 (mCall 3 m_law_names [] (mCons (mV 0) (mCons (mCall 2 m_law_next [] (mCons (mV 0) (mCons (mC (.int 5)) mNil))) (mCons (mV 1) mNil)))))
  (sSeq (sSet 3 (mCall 3 m_law_names [] (mCons (mV 0) (mCons (mCall 2 m_law_next [] (mCons (mV 0) (mCons (mC (.int 7)) mNil))) (mCons (mBin (fAdd false) (mV 1) (mV 2)) mNil)))))
  (sSeq (sSet 4 (mCall 3 m_law_names [] (mCons (mV 0) (mCons (mBin (fAdd false) (mC (.int 1)) (mCall 2 m_law_next [] (mCons (mV 0) (mCons (mC (.int 6)) mNil)))) (mCons (mBin (fAdd false) (mBin (fAdd false) (mV 1) (mV 2)) (mV 3)) mNil)))))
  (sSeq (sSet 5 b_law_gear_c1)
  (sRet (mLst false (mCons (mV 1) (mCons (mV 2) (mCons (mV 5) (mCons b_law_gear_c2 mNil)))))))))))
noncomputable def m_law_gear : List MV → Sto → Res MV := mDef 7 b_law_gear
noncomputable def b_law_moves_c1 : ME :=
  (mComp false (mItR1 (mCons (mV 11) mNil)) [12] (gN 12) mYes (mCall 2 m_law_pick [] (mCons (mV 0) (mCons (mV 1) mNil))))
noncomputable def b_law_moves_c2 : ME :=
  (mComp false (mItR1 (mCons (mV 11) mNil)) [12] (gN 12) mYes (mCall 2 m_law_pick [] (mCons (mV 0) (mCons (mV 1) mNil))))
noncomputable def b_law_moves_l1 : MSt :=
  (sSeq (sSet 8 (mCall 2 m_law_next [] (mCons (mV 0) (mCons (mC (.int 12)) mNil))))
    (sIf (mAndB (asB (mBin fLt (mV 8) (mC (.int 4)))) (mAndB (asB (mBin fNe (mV 2) (mLst false mNil))) (asB (mBin fGt (mBin fIx (mV 7) (mC (.int 0))) (mC (.int 0)))))) (sSeq (sSub (mV 7) (mC (.int 0)) (mBin fSub (mBin fIx (mV 7) (mC (.int 0))) (mC (.int 1))))
      (sSeq (sAsg (gT 2 (gCs (gN 10) (gCs (gN 11) gNl))) (mCall 2 m_law_pick [] (mCons (mV 0) (mCons (mV 2) mNil))))
      (sSeq (sSet 9 (mB fTuple (mCons b_law_moves_c1 mNil)))
      (sDrop (mBM "list" fAppend (mV 6) (mCons (mTup (mCons (mC (.str [100, 101, 101, 100])) (mCons (mCall 2 m_law_pick [] (mCons (mV 0) (mCons (mV 1) mNil))) (mCons (mV 10) (mCons (mV 9) mNil))))) mNil)))))) (sIf (mAndB (asB (mBin fLt (mV 8) (mC (.int 6)))) (mAndB (asB (mBin fNe (mV 3) (mLst false mNil))) (asB (mBin fGt (mBin fIx (mV 7) (mC (.int 1))) (mC (.int 0)))))) (sSeq (sSub (mV 7) (mC (.int 1)) (mBin fSub (mBin fIx (mV 7) (mC (.int 1))) (mC (.int 1))))
        (sSeq (sAsg (gT 2 (gCs (gN 10) (gCs (gN 11) gNl))) (mCall 2 m_law_pick [] (mCons (mV 0) (mCons (mV 3) mNil))))
        (sSeq (sSet 9 (mB fTuple (mCons b_law_moves_c2 mNil)))
        (sDrop (mBM "list" fAppend (mV 6) (mCons (mTup (mCons (mC (.str [97, 115, 107])) (mCons (mV 10) (mCons (mV 9) (mCons (mBin (fAdd false) (mBin (fAdd false) (mV 5) (mC (.int 1))) (mCall 2 m_law_next [] (mCons (mV 0) (mCons (mBin fSub (mBin fSub (mV 4) (mC (.int 1))) (mV 5)) mNil)))) mNil))))) mNil)))))) (sIf (asB (mBin fEq (mV 8) (mC (.int 6)))) (sDrop (mBM "list" fAppend (mV 6) (mCons (mTup (mCons (mC (.str [106, 117, 109, 112])) (mCons (mBin (fAdd false) (mBin (fAdd false) (mV 5) (mC (.int 1))) (mCall 2 m_law_next [] (mCons (mV 0) (mCons (mBin fSub (mBin fSub (mV 4) (mC (.int 1))) (mV 5)) mNil)))) mNil))) mNil))) (sIf (mAndB (asB (mBin fEq (mV 8) (mC (.int 7)))) (asB (mBin fEq (mCall 2 m_law_next [] (mCons (mV 0) (mCons (mC (.int 3)) mNil))) (mC (.int 0))))) (sDrop (mBM "list" fAppend (mV 6) (mCons (mTup (mCons (mCall 2 m_law_pick [] (mCons (mV 0) (mCons (mLst false (mCons (mC (.str [111, 110])) (mCons (mC (.str [116, 111])) (mCons (mC (.str [115, 116, 111, 112])) mNil)))) mNil))) mNil)) mNil))) (sDrop (mBM "list" fAppend (mV 6) (mCons (mTup (mCons (mC (.str [109, 111, 118, 101])) (mCons (mCall 2 m_law_pick [] (mCons (mV 0) (mCons (mV 1) mNil))) (mCons (mCall 2 m_law_pick [] (mCons (mV 0) (mCons (mV 1) mNil))) mNil)))) mNil))))))))
noncomputable def b_law_moves : MSt :=
  (sSeq (sPar 6 7 (mLst true mNil) (mLst true (mCons (mC (.int 4)) (mCons (mC (.int 3)) mNil))))
  (sSeq (sFor (mItR1 (mCons (mBin fSub (mV 4) (mC (.int 1))) mNil)) (gN 5) b_law_moves_l1)
  (sRet (mBin (fAdd false) (mV 6) (mLst false (mCons (mTup (mCons (mCall 2 m_law_pick [] (mCons (mV 0) (mCons (mLst false (mCons (mC (.str [111, 110])) (mCons (mC (.str [116, 111])) (mCons (mC (.str [115, 116, 111, 112])) mNil)))) mNil))) mNil)) mNil))))))
noncomputable def m_law_moves : List MV → Sto → Res MV := mDef 13 b_law_moves
noncomputable def b_Gear_seen : MSt :=
  (sRet (mB (fListA false) (mCons (mFld 0 "upper" (mV 0)) mNil)))
noncomputable def m_Gear_seen : List MV → Sto → Res MV := mDef 1 b_Gear_seen
noncomputable def b_run_end_l1 : MSt :=
  (sSet 1 (mBin (fAdd false) (mV 1) (mC (.int 1))))
noncomputable def b_run_end : MSt :=
  (sSeq (sWhile (mAndB (asB (mBin fLt (mV 1) (mB fLen (mCons (mV 0) mNil)))) (asB (mBin fIn (mBin fIx (mV 0) (mV 1)) (mC (.str [97, 98, 99, 100, 101, 102, 103, 104, 105, 106, 107, 108, 109, 110, 111, 112, 113, 114, 115, 116, 117, 118, 119, 120, 121, 122]))))) b_run_end_l1)
  (sRet (mV 1)))
noncomputable def m_run_end : List MV → Sto → Res MV := mDef 2 b_run_end
noncomputable def b_next_form_l1 : MSt :=
  (sSeq (sDPutM (mV 2) (mNeg (mC (.int 1))) (mBin fSub (mBin fIx (mV 2) (mNeg (mC (.int 1)))) (mC (.int 1))))
    (sSeq (sIf (asB (mBin fGt (mBin fIx (mV 2) (mNeg (mC (.int 1)))) (mC (.int 0)))) (sRet (mIf (asB (mBin fEq (mSl false (mV 0) (mPart (mV 1)) (mPart (mBin (fAdd false) (mV 1) (mC (.int 1))))) (mC (.str [44])))) (mBin (fAdd false) (mV 1) (mC (.int 1))) (mNeg (mC (.int 2))))) sNext)
    (sSeq (sIf (asB (mBin fNe (mSl false (mV 0) (mPart (mV 1)) (mPart (mBin (fAdd false) (mV 1) (mC (.int 1))))) (mC (.str [41])))) (sRet (mNeg (mC (.int 2)))) sNext)
    (sSeq (sDrop (mBM "list" fPop (mV 2) mNil))
    (sSet 1 (mBin (fAdd false) (mV 1) (mC (.int 1))))))))
noncomputable def b_next_form : MSt :=
  (sSeq (sWhile (asB (mBin fNe (mV 2) (mLst false mNil))) b_next_form_l1)
  (sRet (mIf (asB (mBin fEq (mV 1) (mB fLen (mCons (mV 0) mNil)))) (mNeg (mC (.int 1))) (mNeg (mC (.int 2))))))
noncomputable def m_next_form : List MV → Sto → Res MV := mDef 3 b_next_form
noncomputable def b_is_form_l1 : MSt :=
  (sSeq (sSet 6 (mCall 2 m_run_end [] (mCons (mV 1) (mCons (mV 5) mNil))))
    (sSeq (sSet 7 (mSl false (mV 1) (mPart (mV 5)) (mPart (mV 6))))
    (sIf (asB (mBin fEq (mSl false (mV 1) (mPart (mV 6)) (mPart (mBin (fAdd false) (mV 6) (mC (.int 1))))) (mC (.str [40])))) (sSeq (sIf (asB (mBin fNotIn (mV 7) (mV 3))) (sRet (mC (.bl false))) sNext)
      (sSeq (sDrop (mBM "list" fAppend (mV 4) (mCons (mB fMax2 (mCons (mC (.int 1)) (mCons (mBin fIx (mV 3) (mV 7)) mNil))) mNil)))
      (sSeq (sSet 5 (mBin (fAdd false) (mV 6) (mC (.int 1))))
      (sIf (asB (mBin fEq (mBin fIx (mV 3) (mV 7)) (mC (.int 0)))) (sSet 5 (mCall 3 m_next_form [] (mCons (mV 1) (mCons (mV 5) (mCons (mV 4) mNil))))) sNext)))) (sIf (asB (mBin fIn (mV 7) (mV 2))) (sSet 5 (mCall 3 m_next_form [] (mCons (mV 1) (mCons (mV 6) (mCons (mV 4) mNil))))) (sRet (mC (.bl false)))))))
noncomputable def b_is_form : MSt :=
  (sSeq (sIf (mOrB (mNotB (asT (mB fIsi (mCons (mV 1) (mCons (mC (.ty "str")) mNil))))) (asB (mBin fGt (mB fLen (mCons (mV 1) mNil)) (mC (.int 60))))) (sRet (mC (.bl false))) sNext)
  (sSeq (sPar3 3 4 5 (mMeth 0 1 "deeds" m_Gear_deeds [] (mV 0) mNil) (mLst true mNil) (mC (.int 0)))
  (sSeq (sWhile (asB (mBin fGe (mV 5) (mC (.int 0)))) b_is_form_l1)
  (sRet (mBin fEq (mV 5) (mNeg (mC (.int 1))))))))
noncomputable def m_is_form : List MV → Sto → Res MV := mDef 8 b_is_form
noncomputable def b_is_puts_l1 : MSt :=
  (sSeq (sIf (mOrB (mNotB (asT (mB fIsi (mCons (mV 4) (mCons (mC (.ty "tuple")) mNil))))) (asB (mBin fNe (mB fLen (mCons (mV 4) mNil)) (mC (.int 2))))) (sRet (mC (.bl false))) sNext)
    (sSeq (sAsg (gT 2 (gCs (gN 5) (gCs (gN 6) gNl))) (mV 4))
    (sSeq (sIf (mOrB (mNotB (asT (mB fIsi (mCons (mV 5) (mCons (mC (.ty "str")) mNil))))) (mOrB (asB (mBin fNotIn (mV 5) (mV 1))) (asB (mBin fIn (mV 5) (mV 3))))) (sRet (mC (.bl false))) sNext)
    (sSeq (sIf (mNotB (asT (mCall 3 m_is_form [] (mCons (mV 0) (mCons (mV 6) (mCons (mV 1) mNil)))))) (sRet (mC (.bl false))) sNext)
    (sDrop (mBM "list" fAppend (mV 3) (mCons (mV 5) mNil)))))))
noncomputable def b_is_puts : MSt :=
  (sSeq (sIf (mNotB (asT (mB fIsi (mCons (mV 2) (mCons (mC (.ty "tuple")) mNil))))) (sRet (mC (.bl false))) sNext)
  (sSeq (sSet 3 (mLst true mNil))
  (sSeq (sFor (mItS (mV 2)) (gN 4) b_is_puts_l1)
  (sRet (mC (.bl true))))))
noncomputable def m_is_puts : List MV → Sto → Res MV := mDef 7 b_is_puts
noncomputable def b_Gear_asks : MSt :=
  (sRet (mB (fDict false) (mCons (mFld 0 "tellers" (mV 0)) mNil)))
noncomputable def m_Gear_asks : List MV → Sto → Res MV := mDef 1 b_Gear_asks
noncomputable def b_is_asked_c1 : ME :=
  (mComp false (mItS (mV 3)) [4] (gN 4) mYes (mCall 3 m_is_form [] (mCons (mV 0) (mCons (mV 4) (mCons (mV 1) mNil)))))
noncomputable def b_is_asked : MSt :=
  (sSeq (sIf (mOrB (mNotB (asT (mB fIsi (mCons (mV 2) (mCons (mC (.ty "str")) mNil))))) (mOrB (asB (mBin fNotIn (mV 2) (mMeth 0 1 "asks" m_Gear_asks [] (mV 0) mNil))) (mNotB (asT (mB fIsi (mCons (mV 3) (mCons (mC (.ty "tuple")) mNil))))))) (sRet (mC (.bl false))) sNext)
  (sSeq (sIf (asB (mBin fNe (mB fLen (mCons (mV 3) mNil)) (mBin fIx (mMeth 0 1 "asks" m_Gear_asks [] (mV 0) mNil) (mV 2)))) (sRet (mC (.bl false))) sNext)
  (sRet (mB fAll (mCons b_is_asked_c1 mNil)))))
noncomputable def m_is_asked : List MV → Sto → Res MV := mDef 5 b_is_asked
noncomputable def b_is_meaning_l1 : MSt :=
  (sSeq (sSet 6 (mBM "list" fPop (mV 4) mNil))
    (sSeq (sIf (mOrB (mNotB (asT (mB fIsi (mCons (mV 6) (mCons (mC (.ty "tuple")) mNil))))) (mOrB (asB (mBin fNotIn (mB fLen (mCons (mV 6) mNil)) (mTup (mCons (mC (.int 3)) (mCons (mC (.int 5)) mNil))))) (mNotB (asT (mB fIsi (mCons (mBin fIx (mV 6) (mC (.int 0))) (mCons (mC (.ty "str")) mNil))))))) (sRet (mC (.bl false))) sNext)
    (sIf (mAndB (asB (mBin fEq (mBin fIx (mV 6) (mC (.int 0))) (mC (.str [112, 117, 116])))) (asB (mBin fEq (mB fLen (mCons (mV 6) mNil)) (mC (.int 3))))) (sIf (mOrB (mNotB (asT (mCall 3 m_is_puts [] (mCons (mV 0) (mCons (mV 3) (mCons (mBin fIx (mV 6) (mC (.int 1))) mNil)))))) (mOrB (mNotB (asT (mB fIsi (mCons (mBin fIx (mV 6) (mC (.int 2))) (mCons (mC (.ty "str")) mNil))))) (asB (mBin fNotIn (mBin fIx (mV 6) (mC (.int 2))) (mC (.tup [.str [111, 110], .str [116, 111], .str [115, 116, 111, 112]])))))) (sRet (mC (.bl false))) sNext) (sIf (mAndB (asB (mBin fEq (mBin fIx (mV 6) (mC (.int 0))) (mC (.str [97, 115, 107])))) (asB (mBin fEq (mB fLen (mCons (mV 6) mNil)) (mC (.int 5))))) (sSeq (sSet 5 (mBin (fAdd false) (mV 5) (mC (.int 1))))
        (sSeq (sIf (mOrB (asB (mBin fGt (mV 5) (mC (.int 6)))) (mNotB (asT (mCall 4 m_is_asked [] (mCons (mV 0) (mCons (mV 3) (mCons (mBin fIx (mV 6) (mC (.int 1))) (mCons (mBin fIx (mV 6) (mC (.int 2))) mNil)))))))) (sRet (mC (.bl false))) sNext)
        (sDrop (mBM "list" fExtend (mV 4) (mCons (mLst false (mCons (mBin fIx (mV 6) (mC (.int 4))) (mCons (mBin fIx (mV 6) (mC (.int 3))) mNil))) mNil))))) (sRet (mC (.bl false)))))))
noncomputable def b_is_meaning : MSt :=
  (sSeq (sSet 3 (mBin (fAdd false) (mMeth 0 1 "seen" m_Gear_seen [] (mV 0) mNil) (mSl false (mLst false (mCons (mC (.str [112])) (mCons (mC (.str [113])) mNil))) mNoPart (mPart (mV 1)))))
  (sSeq (sPar 4 5 (mLst true (mCons (mV 2) mNil)) (mC (.int 0)))
  (sSeq (sWhile (asB (mBin fNe (mV 4) (mLst false mNil))) b_is_meaning_l1)
  (sRet (mC (.bl true))))))
noncomputable def m_is_meaning : List MV → Sto → Res MV := mDef 7 b_is_meaning
noncomputable def b_is_word : MSt :=
  (sRet (mAndT (mB fIsi (mCons (mV 1) (mCons (mC (.ty "str")) mNil))) (mBin fIn (mV 1) (mV 0))))
noncomputable def m_is_word : List MV → Sto → Res MV := mDef 2 b_is_word
noncomputable def b_is_froms_c1 : ME :=
  (mComp false (mItS (mV 1)) [3] (gN 3) mYes (mCall 2 m_is_word [] (mCons (mV 0) (mCons (mV 3) mNil))))
noncomputable def b_is_froms : MSt :=
  (sSeq (sIf (mOrB (mNotB (asT (mB fIsi (mCons (mV 1) (mCons (mC (.ty "tuple")) mNil))))) (asB (mBin fNe (mB fLen (mCons (mV 1) mNil)) (mV 2)))) (sRet (mC (.bl false))) sNext)
  (sRet (mB fAll (mCons b_is_froms_c1 mNil))))
noncomputable def m_is_froms : List MV → Sto → Res MV := mDef 4 b_is_froms
noncomputable def b_is_move : MSt :=
  (sSeq (sSet 4 (mBin fIx (mV 2) (mV 3)))
  (sSeq (sIf (mOrB (mNotB (asT (mB fIsi (mCons (mV 4) (mCons (mC (.ty "tuple")) mNil))))) (mOrB (asB (mBin fEq (mV 4) (mTup mNil))) (mNotB (asT (mB fIsi (mCons (mBin fIx (mV 4) (mC (.int 0))) (mCons (mC (.ty "str")) mNil))))))) (sRet (mC (.bl false))) sNext)
  (sSeq (sPar 5 6 (mBin fIx (mV 4) (mC (.int 0))) (mB fLen (mCons (mV 4) mNil)))
  (sSeq (sIf (mAndB (asB (mBin fEq (mV 5) (mC (.str [109, 111, 118, 101])))) (asB (mBin fEq (mV 6) (mC (.int 3))))) (sRet (mAndT (mCall 2 m_is_word [] (mCons (mV 1) (mCons (mBin fIx (mV 4) (mC (.int 1))) mNil))) (mCall 2 m_is_word [] (mCons (mV 1) (mCons (mBin fIx (mV 4) (mC (.int 2))) mNil))))) sNext)
  (sSeq (sIf (mAndB (asB (mBin fEq (mV 5) (mC (.str [100, 101, 101, 100])))) (asB (mBin fEq (mV 6) (mC (.int 4))))) (sSeq (sIf (mOrB (mNotB (asT (mCall 2 m_is_word [] (mCons (mV 1) (mCons (mBin fIx (mV 4) (mC (.int 1))) mNil))))) (mNotB (asT (mCall 2 m_is_word [] (mCons (mB (fListA false) (mCons (mMeth 0 1 "deeds" m_Gear_deeds [] (mV 0) mNil) mNil)) (mCons (mBin fIx (mV 4) (mC (.int 2))) mNil)))))) (sRet (mC (.bl false))) sNext)
    (sRet (mCall 3 m_is_froms [] (mCons (mV 1) (mCons (mBin fIx (mV 4) (mC (.int 3))) (mCons (mBin fIx (mMeth 0 1 "deeds" m_Gear_deeds [] (mV 0) mNil) (mBin fIx (mV 4) (mC (.int 2)))) mNil)))))) sNext)
  (sSeq (sIf (mAndB (asB (mBin fEq (mV 5) (mC (.str [97, 115, 107])))) (asB (mBin fEq (mV 6) (mC (.int 4))))) (sSeq (sIf (mOrB (mNotB (asT (mCall 2 m_is_word [] (mCons (mB (fListA false) (mCons (mMeth 0 1 "asks" m_Gear_asks [] (mV 0) mNil) mNil)) (mCons (mBin fIx (mV 4) (mC (.int 1))) mNil))))) (mNotB (asT (mCall 3 m_is_number [] (mCons (mBin fIx (mV 4) (mC (.int 3))) (mCons (mBin (fAdd false) (mV 3) (mC (.int 1))) (mCons (mBin fSub (mB fLen (mCons (mV 2) mNil)) (mC (.int 1))) mNil))))))) (sRet (mC (.bl false))) sNext)
    (sRet (mCall 3 m_is_froms [] (mCons (mV 1) (mCons (mBin fIx (mV 4) (mC (.int 2))) (mCons (mBin fIx (mMeth 0 1 "asks" m_Gear_asks [] (mV 0) mNil) (mBin fIx (mV 4) (mC (.int 1)))) mNil)))))) sNext)
  (sSeq (sIf (mAndB (asB (mBin fEq (mV 5) (mC (.str [106, 117, 109, 112])))) (asB (mBin fEq (mV 6) (mC (.int 2))))) (sRet (mCall 3 m_is_number [] (mCons (mBin fIx (mV 4) (mC (.int 1))) (mCons (mBin (fAdd false) (mV 3) (mC (.int 1))) (mCons (mBin fSub (mB fLen (mCons (mV 2) mNil)) (mC (.int 1))) mNil))))) sNext)
  (sRet (mAndT (mBin fIn (mV 5) (mC (.tup [.str [111, 110], .str [116, 111], .str [115, 116, 111, 112]]))) (mBin fEq (mV 6) (mC (.int 1))))))))))))
noncomputable def m_is_move : List MV → Sto → Res MV := mDef 7 b_is_move
noncomputable def b_wrong_move_l1 : MSt :=
  (sIf (mNotB (asT (mCall 4 m_is_move [] (mCons (mV 0) (mCons (mV 1) (mCons (mV 2) (mCons (mV 3) mNil))))))) (sRet (mV 3)) sNext)
noncomputable def b_wrong_move_l2 : MSt :=
  (sSeq (sIf (asB (mBin fEq (mGet2 (mV 4) (mBin fIx (mV 5) (mC (.int 0))) (mC (.int 1))) (mC (.int 0)))) (sRet (mV 3)) sNext)
    (sIf (asB (mBin fIn (mBin fIx (mV 5) (mC (.int 0))) (mV 4))) (sDPutM (mV 4) (mBin fIx (mV 5) (mC (.int 0))) (mBin fSub (mBin fIx (mV 4) (mBin fIx (mV 5) (mC (.int 0)))) (mC (.int 1)))) sNext))
noncomputable def b_wrong_move : MSt :=
  (sSeq (sIf (mOrB (mNotB (asT (mB fIsi (mCons (mV 2) (mCons (mC (.ty "list")) mNil))))) (asB (mBin fEq (mV 2) (mLst false mNil)))) (sRet (mC (.int 0))) sNext)
  (sSeq (sIf (asB (mBin fGt (mB fLen (mCons (mV 2) mNil)) (mC (.int 16)))) (sRet (mC (.int 16))) sNext)
  (sSeq (sFor (mItR1 (mCons (mB fLen (mCons (mV 2) mNil)) mNil)) (gN 3) b_wrong_move_l1)
  (sSeq (sIf (asB (mBin fNotIn (mBin fIx (mBin fIx (mV 2) (mNeg (mC (.int 1)))) (mC (.int 0))) (mC (.tup [.str [111, 110], .str [116, 111], .str [115, 116, 111, 112]])))) (sRet (mBin fSub (mB fLen (mCons (mV 2) mNil)) (mC (.int 1)))) sNext)
  (sSeq (sSet 4 (mDic true [((mC (.str [100, 101, 101, 100])), (mC (.int 4))), ((mC (.str [97, 115, 107])), (mC (.int 3)))]))
  (sSeq (sFor (mItE (mCons (mV 2) mNil)) (gT 2 (gCs (gN 3) (gCs (gN 5) gNl))) b_wrong_move_l2)
  (sRet (mC .non))))))))
noncomputable def m_wrong_move : List MV → Sto → Res MV := mDef 6 b_wrong_move
noncomputable def b_Gear_hidden : MSt :=
  (sRet (mB (fListA false) (mCons (mFld 0 "lower" (mV 0)) mNil)))
noncomputable def m_Gear_hidden : List MV → Sto → Res MV := mDef 1 b_Gear_hidden
noncomputable def b_Op_init : MSt :=
  (sSeq (sIf (mNotB (asT (mCall 3 m_is_number [] (mCons (mV 2) (mCons (mC (.int 0)) (mCons (mC (.int 2)) mNil)))))) sBad sNext)
  (sSeq (sIf (mNotB (asT (mCall 3 m_is_meaning [] (mCons (mV 1) (mCons (mV 2) (mCons (mV 3) mNil)))))) sBad sNext)
  (sSeq (sSet 5 (mCall 3 m_wrong_move [] (mCons (mV 1) (mCons (mBin (fAdd false) (mBin (fAdd false) (mMeth 0 1 "seen" m_Gear_seen [] (mV 1) mNil) (mMeth 0 1 "hidden" m_Gear_hidden [] (mV 1) mNil)) (mSl false (mLst false (mCons (mC (.str [112])) (mCons (mC (.str [113])) mNil))) mNoPart (mPart (mV 2)))) (mCons (mV 4) mNil)))))
  (sSeq (sIf (asB (mNotN (mV 5))) sBad sNext)
  (sSeq (sFldM 1 "base" (mV 0) (mV 1))
  (sSeq (sFldM 1 "many" (mV 0) (mV 2))
  (sSeq (sFldM 1 "tree" (mV 0) (mV 3))
  (sFldM 1 "steps" (mV 0) (mB (fListA false) (mCons (mV 4) mNil))))))))))
noncomputable def m_Op_init : List MV → Sto → Res MV := mDef 6 b_Op_init
abbrev prM (Ps : List (List Nat × Int)) : List MV := Ps.map fun p => .tup [.str p.1, .int p.2]
theorem prM_cl (n : Nat) (Ps : List (List Nat × Int)) : ClL n (prM Ps) := clL_all fun y hy => by
  obtain ⟨p, _, rfl⟩ := List.mem_map.mp hy
  simp only [Cl, ClL, and_self]
theorem pairs_of : ∀ D : List (List Nat × Int), pairsOf (prM D) = some (kvOf D)
  | [] => rfl
  | p :: r => by
    have := pairs_of r
    simp only [prM, kvOf] at this
    simp only [prM, kvOf, List.map_cons, pairsOf, isKey, if_true, this, Option.map_some]
theorem merge_kv : ∀ (D A : List (List Nat × Int)), ((A ++ D).map (·.1)).Nodup → mergeKM (kvOf A) (kvOf D) = kvOf (A ++ D)
  | [], A, _ => by simp [mergeKM, kvOf]
  | p :: r, A, h => by
    have hp : (kvOf A).any (fun q => keyB q.1 (.str p.1)) = false := by
      rw [List.any_eq_false]
      intro q hq e
      obtain ⟨x, hx, rfl⟩ := List.mem_map.mp hq
      simp only [keyB, beq_iff_eq] at e
      rw [List.map_append, List.nodup_append] at h
      exact h.2.2 x.1 (List.mem_map_of_mem hx) p.1 (by simp) e
    have e := merge_kv r (A ++ [p]) (by simpa using h)
    unfold mergeKM at e ⊢
    simp only [kvOf, List.map_cons, List.foldl_cons]
    have e2 : putKM (kvOf A) (.str p.1) (.int p.2) = kvOf (A ++ [p]) := by
      unfold putKM
      rw [hp]
      simp [kvOf]
    simp only [kvOf] at e2 e
    rw [e2, e]
    simp
theorem merge_kv0 {D : List (List Nat × Int)} (h : (D.map (·.1)).Nodup) : mergeKM [] (kvOf D) = kvOf D := by
  simpa using merge_kv D [] (by simpa using h)
theorem dict_prM {D : List (List Nat × Int)} (h : (D.map (·.1)).Nodup) (S : Sto) : fDict false [.lst (prM D)] S = .ok (.dic (kvOf D)) S := by
  simp only [fDict, asD, asL, Option.bind_some, pairs_of, merge_kv0 h, mkD, Bool.false_eq_true, if_false]
/-- names, each with a drawn number -/
theorem pairs_draw {l n i j : Nat} {S : Sto} {zs : List (List Nat)} {env : Env} {e : ME} {lo hi : Int} {Q : MV → Sto → Prop} {E : MX → Sto → Prop} (hj : env[i]? = some (some (.lst (zs.map MV.str)))) (hd : HasDr l n S) (hn : n + 100 ≤ 2 ^ 20) (hz : zs.length ≤ 20)
    (he : ∀ (w : List Nat) (n : Nat) (S T : Sto) (Q : MV → Sto → Prop), n + 1 ≤ 2 ^ 20 → HasDr l n S → (∀ r S', Draws l 1 S S' → lo ≤ r → r ≤ hi → Q (.tup [.str w, .int r]) (S' ++ T)) → Wp (e ((wipeE env [j]).set j (some (.str w))) (S ++ T)) Q (fun _ _ => False))
    (q : ∀ (D : List (List Nat × Int)) (S' : Sto), Draws l zs.length S S' → D.map (·.1) = zs → (∀ p ∈ D, lo ≤ p.2 ∧ p.2 ≤ hi) → Q (.lst (prM D)) S') : Wp (mComp false (mItS (mV i)) [j] (gN j) mYes e env S) Q E := by
  refine wp_comp (t := ⟨zs.map MV.str, []⟩) (S1 := S) (by simp only [mItS, mV, hj, bind_ok]; rfl) rfl (fun rest acc S' => ∃ (D : List (List Nat × Int)) (ws : List (List Nat)), acc = prM D ∧ rest = ws.map MV.str ∧ D.map (·.1) ++ ws = zs ∧ Draws l D.length S S' ∧ ∀ p ∈ D, lo ≤ p.2 ∧ p.2 ≤ hi) ⟨[], zs, rfl, rfl, rfl, Draws.zero hd, by simp⟩ (by simp [sizeLine]; omega) ?_ ?_
  · rintro v rest acc S' ⟨D, ws, rfl, hr, hzs, d, hp⟩ hl
    obtain ⟨w, ws, rfl⟩ : ∃ a b, ws = a :: b := by cases ws with
      | nil => simp at hr
      | cons a b => exact ⟨a, b, rfl⟩
    simp only [List.map_cons, List.cons.injEq] at hr
    obtain ⟨rfl, rfl⟩ := hr
    have hd := hd.draws d
    have hlen : D.length + 1 ≤ zs.length := by rw [← hzs]; simp
    refine ⟨_, rfl, wp_yes (ite_t ?_)⟩
    refine he w _ S' [.lst (prM D)] _ (by omega) hd fun r S2 d2 r0 r1 => ?_
    refine ⟨S2, rfl, by rw [d2.len, hl], D ++ [(w, r)], ws, by simp [prM], rfl, by rw [← hzs]; simp, by rw [List.length_append]; exact d.trans d2, ?_⟩
    intro p hp2
    rcases List.mem_append.mp hp2 with hp2 | hp2
    · exact hp p hp2
    · rw [List.mem_singleton.mp hp2]; exact ⟨r0, r1⟩
  · rintro acc S' ⟨D, ws, rfl, hr, hzs, d, hp⟩ hl
    have : ws = [] := by simpa using hr.symm
    subst this
    rw [List.append_nil] at hzs
    have hd : D.length = zs.length := by rw [← hzs]; simp
    rw [hd] at d
    refine ⟨prM_cl _ _, d.keeps, q D S' d hzs hp⟩
abbrev Tx := List Nat
inductive Mv where
  | move (a b : Tx) | deed (a n : Tx) (fs : List Tx) | ask (n : Tx) (fs : List Tx) (to : Nat) | jump (to : Nat) | fin (g : Tx)
abbrev cDeed : Tx := [100, 101, 101, 100]
abbrev cMove : Tx := [109, 111, 118, 101]
abbrev cOn : Tx := [111, 110]
abbrev cTo : Tx := [116, 111]
abbrev cStop : Tx := [115, 116, 111, 112]
def goes : List Tx := [cOn, cTo, cStop]
theorem env13 {e : Env} (h : e.length = 13) : ∃ x0 x1 x2 x3 x4 x5 x6 x7 x8 x9 x10 x11 x12, e = [x0, x1, x2, x3, x4, x5, x6, x7, x8, x9, x10, x11, x12] := by
  match e, h with
  | [x0, x1, x2, x3, x4, x5, x6, x7, x8, x9, x10, x11, x12], _ => exact ⟨x0, x1, x2, x3, x4, x5, x6, x7, x8, x9, x10, x11, x12, rfl⟩
end Sh
end Mi
namespace Mi
namespace Sh
open PySem L2 TL
local macro_rules | `(tactic| walk_at "r62") => `(tactic| first | exact r62 (by omega) (by omega) | exact ⟨r62 (by omega) (by omega), r62 (by omega) (by omega)⟩)
local macro_rules | `(tactic| walk_at "sz") => `(tactic| first | omega | (simp only [List.length_cons, List.length_nil, List.length_append, List.length_map, List.length_replicate, List.length_take, List.length_drop, sizeLine] <;> omega) | (unfold sizeLine; omega) | decide)
local macro_rules | `(tactic| walk_at "dq") => `(tactic| first | with_unfolding_all rfl | walk_at "r62" | walk_at "sz")
local macro_rules | `(tactic| walk_at "zs") => `(tactic| ((try (first | with_reducible refine i_wp ?_ | with_reducible refine i_ws ?_ | with_reducible refine i_get ?_ | with_reducible refine i_an ?_ | with_reducible refine i_if ?_ | with_reducible refine i_wb ?_ | with_reducible refine i_wt ?_ | with_reducible refine i_sub ?_ | with_reducible refine i_put ?_ | with_reducible refine i_fld ?_ | with_reducible refine i_ins ?_)); (try simp (disch := walk_at "dq") only [↓z_seq, ↓z_next, ↓z_break, ↓z_cont, ↓z_retN, ↓z_ret, ↓z_drop, ↓z_set, ↓z_asg, ↓z_if, ↓z_par, ↓z_par3, ↓z_sub, ↓z_dput, ↓z_fld, ↓z_for, ↓z_v, ↓z_vS, ↓z_v0, ↓z_e0, ↓z_e1, ↓z_e2, ↓z_c, ↓z_bin, ↓z_nil, ↓z_cons, ↓z_b, ↓z_bm, ↓z_call, ↓z_calld, ↓z_wb, ↓z_asB, ↓z_asT, ↓z_wtB, ↓z_wtN, ↓z_wtI, ↓z_wtT0, ↓z_wtT1, ↓z_wtL0, ↓z_wtL1, ↓z_notB, ↓z_andB, ↓z_orB, ↓z_notT, ↓z_andT, ↓z_orT, ↓z_ifE, ↓z_isn, ↓z_notn, ↓z_neg, ↓z_chain, ↓z_yes, ↓z_nopart, ↓z_part, ↓z_sl, ↓z_tup, ↓z_lst, ↓z_mkL, ↓z_mkLn, ↓z_dic0, ↓z_mkD, ↓z_mkDn, ↓z_revL, ↓z_fldE, ↓z_insV, ↓z_get2, ↓z_itS, ↓z_itR1, ↓z_itR2, ↓z_itT, ↓z_itE, ↓z_itZ, ↓z_get, ↓z_int, ↓z_int1, ↓z_int2, ↓z_one1, ↓z_two2, ↓z_str, ↓z_asLl, ↓z_asLr, ↓z_itLl, ↓z_itLt, ↓z_gN, ↓z_gNl, ↓z_gCs, ↓z_gTt, ↓z_gTl, ↓z_an, ↓z_ct, ↓z_cf, ↓z_ty1, ↓z_ty2, ↓z_ty3, ↓z_ty4, ↓z_anT, ↓z_addI, ↓z_addS, ↓z_addT, ↓z_addLL, ↓z_subI, ↓z_mod, ↓z_lt, ↓z_le, ↓z_gt, ↓z_ge, ↓z_eqI, ↓z_neI, ↓z_eqS, ↓z_neS, ↓z_eqB, ↓z_neB, ↓z_inL, ↓z_ninL, ↓z_lenL, ↓z_lenT, ↓z_lenD, ↓z_lenS, ↓z_slS, ↓z_slT, ↓z_slL, ↓z_listL, ↓z_listT, ↓z_listD, ↓z_tupL, ↓z_tupT, ↓z_max, ↓z_min, ↓z_dictD, ↓z_int1B, ↓z_int1I, ↓z_meth0, ↓z_methd, List.set_cons_zero, List.set_cons_succ, q_e0, q_e1, q_e2, -eq_self, -iff_self]); (try (first | with_reducible refine o_wp ?_ | with_reducible refine o_ws ?_ | with_reducible refine o_get ?_ | with_reducible refine o_an ?_ | with_reducible refine o_if ?_ | with_reducible refine o_wb ?_ | with_reducible refine o_wt ?_ | with_reducible refine o_v ?_ | with_reducible refine o_sub ?_ | with_reducible refine o_put ?_ | with_reducible refine o_fld ?_ | with_reducible refine o_ins ?_))))
local macro_rules | `(tactic| walk_at "w") => `(tactic| (walk_at "zs"; (repeat ((first | with_reducible refine wp_ixT (by with_unfolding_all rfl) ?_ | with_reducible refine wp_ixL (by with_unfolding_all rfl) ?_ | with_reducible refine wv (by with_unfolding_all rfl) ?_ | with_reducible refine get (by with_unfolding_all rfl) ?_ | with_reducible refine an (by walk_at "dq") ?_ | with_reducible refine wt (by with_unfolding_all rfl) ?_ | with_reducible refine ite_t ?_ | with_reducible refine ite_f ?_ | with_reducible refine ite_rt (by with_unfolding_all rfl) ?_ | with_reducible refine ite_rf (by with_unfolding_all rfl) ?_ | with_reducible refine wp_isiT (by with_unfolding_all rfl) ?_ | with_reducible refine wp_isiF (by with_unfolding_all rfl) ?_); walk_at "zs"))))
theorem at1 {B : Sto} {p : Nat} {x y : MO} (h : B.length = p) : (B ++ [x, y])[p + 1]? = some y := by rw [← h]; simp
end Sh
end Mi
namespace Mi
namespace Sh
open PySem L2 TL
local macro_rules | `(tactic| walk_at "r62") => `(tactic| first | exact r62 (by omega) (by omega) | exact ⟨r62 (by omega) (by omega), r62 (by omega) (by omega)⟩)
local macro_rules | `(tactic| walk_at "sz") => `(tactic| first | omega | (simp only [List.length_cons, List.length_nil, List.length_append, List.length_map, List.length_replicate, List.length_take, List.length_drop, sizeLine] <;> omega) | (unfold sizeLine; omega) | decide)
local macro_rules | `(tactic| walk_at "dq") => `(tactic| first | with_unfolding_all rfl | walk_at "r62" | walk_at "sz")
local macro_rules | `(tactic| walk_at "zs") => `(tactic| ((try (first | with_reducible refine i_wp ?_ | with_reducible refine i_ws ?_ | with_reducible refine i_get ?_ | with_reducible refine i_an ?_ | with_reducible refine i_if ?_ | with_reducible refine i_wb ?_ | with_reducible refine i_wt ?_ | with_reducible refine i_sub ?_ | with_reducible refine i_put ?_ | with_reducible refine i_fld ?_ | with_reducible refine i_ins ?_)); (try simp (disch := walk_at "dq") only [↓z_seq, ↓z_next, ↓z_break, ↓z_cont, ↓z_retN, ↓z_ret, ↓z_drop, ↓z_set, ↓z_asg, ↓z_if, ↓z_par, ↓z_par3, ↓z_sub, ↓z_dput, ↓z_fld, ↓z_for, ↓z_v, ↓z_vS, ↓z_v0, ↓z_e0, ↓z_e1, ↓z_e2, ↓z_c, ↓z_bin, ↓z_nil, ↓z_cons, ↓z_b, ↓z_bm, ↓z_call, ↓z_calld, ↓z_wb, ↓z_asB, ↓z_asT, ↓z_wtB, ↓z_wtN, ↓z_wtI, ↓z_wtT0, ↓z_wtT1, ↓z_wtL0, ↓z_wtL1, ↓z_notB, ↓z_andB, ↓z_orB, ↓z_notT, ↓z_andT, ↓z_orT, ↓z_ifE, ↓z_isn, ↓z_notn, ↓z_neg, ↓z_chain, ↓z_yes, ↓z_nopart, ↓z_part, ↓z_sl, ↓z_tup, ↓z_lst, ↓z_mkL, ↓z_mkLn, ↓z_dic0, ↓z_mkD, ↓z_mkDn, ↓z_revL, ↓z_fldE, ↓z_insV, ↓z_get2, ↓z_itS, ↓z_itR1, ↓z_itR2, ↓z_itT, ↓z_itE, ↓z_itZ, ↓z_get, ↓z_int, ↓z_int1, ↓z_int2, ↓z_one1, ↓z_two2, ↓z_str, ↓z_asLl, ↓z_asLr, ↓z_itLl, ↓z_itLt, ↓z_gN, ↓z_gNl, ↓z_gCs, ↓z_gTt, ↓z_gTl, ↓z_an, ↓z_ct, ↓z_cf, ↓z_ty1, ↓z_ty2, ↓z_ty3, ↓z_ty4, ↓z_anT, ↓z_addI, ↓z_addS, ↓z_addT, ↓z_addLL, ↓z_subI, ↓z_mod, ↓z_lt, ↓z_le, ↓z_gt, ↓z_ge, ↓z_eqI, ↓z_neI, ↓z_eqS, ↓z_neS, ↓z_eqB, ↓z_neB, ↓z_inL, ↓z_ninL, ↓z_lenL, ↓z_lenT, ↓z_lenD, ↓z_lenS, ↓z_slS, ↓z_slT, ↓z_slL, ↓z_listL, ↓z_listT, ↓z_listD, ↓z_tupL, ↓z_tupT, ↓z_max, ↓z_min, ↓z_dictD, ↓z_int1B, ↓z_int1I, ↓z_meth0, ↓z_methd, List.set_cons_zero, List.set_cons_succ, q_e0, q_e1, q_e2, -eq_self, -iff_self]); (try (first | with_reducible refine o_wp ?_ | with_reducible refine o_ws ?_ | with_reducible refine o_get ?_ | with_reducible refine o_an ?_ | with_reducible refine o_if ?_ | with_reducible refine o_wb ?_ | with_reducible refine o_wt ?_ | with_reducible refine o_v ?_ | with_reducible refine o_sub ?_ | with_reducible refine o_put ?_ | with_reducible refine o_fld ?_ | with_reducible refine o_ins ?_))))
local macro_rules | `(tactic| walk_at "w") => `(tactic| (walk_at "zs"; (repeat ((first | with_reducible refine wp_ixT (by with_unfolding_all rfl) ?_ | with_reducible refine wp_ixL (by with_unfolding_all rfl) ?_ | with_reducible refine wv (by with_unfolding_all rfl) ?_ | with_reducible refine get (by with_unfolding_all rfl) ?_ | with_reducible refine an (by walk_at "dq") ?_ | with_reducible refine wt (by with_unfolding_all rfl) ?_ | with_reducible refine ite_t ?_ | with_reducible refine ite_f ?_ | with_reducible refine ite_rt (by with_unfolding_all rfl) ?_ | with_reducible refine ite_rf (by with_unfolding_all rfl) ?_ | with_reducible refine wp_isiT (by with_unfolding_all rfl) ?_ | with_reducible refine wp_isiF (by with_unfolding_all rfl) ?_); walk_at "zs"))))
end Sh
end Mi
namespace Mi
namespace Sh
open PySem L2 TL
local macro_rules | `(tactic| walk_at "r62") => `(tactic| first | exact r62 (by omega) (by omega) | exact ⟨r62 (by omega) (by omega), r62 (by omega) (by omega)⟩)
local macro_rules | `(tactic| walk_at "sz") => `(tactic| first | omega | (simp only [List.length_cons, List.length_nil, List.length_append, List.length_map, List.length_replicate, List.length_take, List.length_drop, sizeLine] <;> omega) | (unfold sizeLine; omega) | decide)
local macro_rules | `(tactic| walk_at "dq") => `(tactic| first | with_unfolding_all rfl | walk_at "r62" | walk_at "sz")
local macro_rules | `(tactic| walk_at "zs") => `(tactic| ((try (first | with_reducible refine i_wp ?_ | with_reducible refine i_ws ?_ | with_reducible refine i_get ?_ | with_reducible refine i_an ?_ | with_reducible refine i_if ?_ | with_reducible refine i_wb ?_ | with_reducible refine i_wt ?_ | with_reducible refine i_sub ?_ | with_reducible refine i_put ?_ | with_reducible refine i_fld ?_ | with_reducible refine i_ins ?_)); (try simp (disch := walk_at "dq") only [↓z_seq, ↓z_next, ↓z_break, ↓z_cont, ↓z_retN, ↓z_ret, ↓z_drop, ↓z_set, ↓z_asg, ↓z_if, ↓z_par, ↓z_par3, ↓z_sub, ↓z_dput, ↓z_fld, ↓z_for, ↓z_v, ↓z_vS, ↓z_v0, ↓z_e0, ↓z_e1, ↓z_e2, ↓z_c, ↓z_bin, ↓z_nil, ↓z_cons, ↓z_b, ↓z_bm, ↓z_call, ↓z_calld, ↓z_wb, ↓z_asB, ↓z_asT, ↓z_wtB, ↓z_wtN, ↓z_wtI, ↓z_wtT0, ↓z_wtT1, ↓z_wtL0, ↓z_wtL1, ↓z_notB, ↓z_andB, ↓z_orB, ↓z_notT, ↓z_andT, ↓z_orT, ↓z_ifE, ↓z_isn, ↓z_notn, ↓z_neg, ↓z_chain, ↓z_yes, ↓z_nopart, ↓z_part, ↓z_sl, ↓z_tup, ↓z_lst, ↓z_mkL, ↓z_mkLn, ↓z_dic0, ↓z_mkD, ↓z_mkDn, ↓z_revL, ↓z_fldE, ↓z_insV, ↓z_get2, ↓z_itS, ↓z_itR1, ↓z_itR2, ↓z_itT, ↓z_itE, ↓z_itZ, ↓z_get, ↓z_int, ↓z_int1, ↓z_int2, ↓z_one1, ↓z_two2, ↓z_str, ↓z_asLl, ↓z_asLr, ↓z_itLl, ↓z_itLt, ↓z_gN, ↓z_gNl, ↓z_gCs, ↓z_gTt, ↓z_gTl, ↓z_an, ↓z_ct, ↓z_cf, ↓z_ty1, ↓z_ty2, ↓z_ty3, ↓z_ty4, ↓z_anT, ↓z_addI, ↓z_addS, ↓z_addT, ↓z_addLL, ↓z_subI, ↓z_mod, ↓z_lt, ↓z_le, ↓z_gt, ↓z_ge, ↓z_eqI, ↓z_neI, ↓z_eqS, ↓z_neS, ↓z_eqB, ↓z_neB, ↓z_inL, ↓z_ninL, ↓z_lenL, ↓z_lenT, ↓z_lenD, ↓z_lenS, ↓z_slS, ↓z_slT, ↓z_slL, ↓z_listL, ↓z_listT, ↓z_listD, ↓z_tupL, ↓z_tupT, ↓z_max, ↓z_min, ↓z_dictD, ↓z_int1B, ↓z_int1I, ↓z_meth0, ↓z_methd, List.set_cons_zero, List.set_cons_succ, q_e0, q_e1, q_e2, -eq_self, -iff_self]); (try (first | with_reducible refine o_wp ?_ | with_reducible refine o_ws ?_ | with_reducible refine o_get ?_ | with_reducible refine o_an ?_ | with_reducible refine o_if ?_ | with_reducible refine o_wb ?_ | with_reducible refine o_wt ?_ | with_reducible refine o_v ?_ | with_reducible refine o_sub ?_ | with_reducible refine o_put ?_ | with_reducible refine o_fld ?_ | with_reducible refine o_ins ?_))))
local macro_rules | `(tactic| walk_at "w") => `(tactic| (walk_at "zs"; (repeat ((first | with_reducible refine wp_ixT (by with_unfolding_all rfl) ?_ | with_reducible refine wp_ixL (by with_unfolding_all rfl) ?_ | with_reducible refine wv (by with_unfolding_all rfl) ?_ | with_reducible refine get (by with_unfolding_all rfl) ?_ | with_reducible refine an (by walk_at "dq") ?_ | with_reducible refine wt (by with_unfolding_all rfl) ?_ | with_reducible refine ite_t ?_ | with_reducible refine ite_f ?_ | with_reducible refine ite_rt (by with_unfolding_all rfl) ?_ | with_reducible refine ite_rf (by with_unfolding_all rfl) ?_ | with_reducible refine wp_isiT (by with_unfolding_all rfl) ?_ | with_reducible refine wp_isiF (by with_unfolding_all rfl) ?_); walk_at "zs"))))
section
variable {U L : List Tx} {D A : List (Tx × Int)} {S : Sto} {Q : MV → Sto → Prop} {E : MX → Sto → Prop} {env : Env} {i : Nat}
theorem gear_seen_ok : m_Gear_seen [gearM U L D A] S = .ok (.lst (U.map MV.str)) S := by
  have w : Wp (m_Gear_seen [gearM U L D A] S) (fun v S' => v = .lst (U.map MV.str) ∧ S' = S) (fun _ _ => False) := by
    unfold m_Gear_seen
    refine wp_def ?_
    unfold b_Gear_seen
    walk_at "w"
    exact wp_leave0 (by simp only [Cl]; exact clL_strs _ _) ⟨rfl, rfl⟩
  obtain ⟨v, S', e, rfl, rfl⟩ := wp_ex w
  exact e
theorem gear_hidden_ok : m_Gear_hidden [gearM U L D A] S = .ok (.lst (L.map MV.str)) S := by
  have w : Wp (m_Gear_hidden [gearM U L D A] S) (fun v S' => v = .lst (L.map MV.str) ∧ S' = S) (fun _ _ => False) := by
    unfold m_Gear_hidden
    refine wp_def ?_
    unfold b_Gear_hidden
    walk_at "w"
    exact wp_leave0 (by simp only [Cl]; exact clL_strs _ _) ⟨rfl, rfl⟩
  obtain ⟨v, S', e, rfl, rfl⟩ := wp_ex w
  exact e
theorem gear_asks_ok : m_Gear_asks [gearM U L D A] S = .ok (.dic (kvOf A)) S := by
  have w : Wp (m_Gear_asks [gearM U L D A] S) (fun v S' => v = .dic (kvOf A) ∧ S' = S) (fun _ _ => False) := by
    unfold m_Gear_asks
    refine wp_def ?_
    unfold b_Gear_asks
    walk_at "w"
    exact wp_leave0 (by simp only [Cl]; exact clk_kv _ _) ⟨rfl, rfl⟩
  obtain ⟨v, S', e, rfl, rfl⟩ := wp_ex w
  exact e
theorem z_seen : Wz (m_Gear_seen [gearM U L D A] S) Q E = Q (.lst (U.map MV.str)) S := by show Wp _ _ _ = _; rw [gear_seen_ok]; rfl
theorem z_hidden : Wz (m_Gear_hidden [gearM U L D A] S) Q E = Q (.lst (L.map MV.str)) S := by show Wp _ _ _ = _; rw [gear_hidden_ok]; rfl
theorem z_deeds : Wz (m_Gear_deeds [gearM U L D A] S) Q E = Q (.dic (kvOf D)) S := by show Wp _ _ _ = _; rw [gear_deeds_ok]; rfl
theorem z_asks : Wz (m_Gear_asks [gearM U L D A] S) Q E = Q (.dic (kvOf A)) S := by show Wp _ _ _ = _; rw [gear_asks_ok]; rfl
end
theorem wp_eqTn {x : MV} {xs : List MV} {S : Sto} {Q : MV → Sto → Prop} {E : MX → Sto → Prop} (q : Q (.bl false) S) : Wp (fEq (.tup (x :: xs)) (.tup []) S) Q E := wp_eq rfl q
theorem wp_inTS {z : Tx} {F : List Tx} {S : Sto} {ys : List MV} {Q : MV → Sto → Prop} {E : MX → Sto → Prop} (h : ys = F.map MV.str) (q : Q (.bl (decide (z ∈ F))) S) : Wp (fIn (.str z) (.tup ys) S) Q E := by
  subst h; exact wp_inQ (in_strs rfl fun _ => by simp) q
theorem wp_ninTS {z : Tx} {F : List Tx} {S : Sto} {ys : List MV} {Q : MV → Sto → Prop} {E : MX → Sto → Prop} (h : ys = F.map MV.str) (q : Q (.bl (!decide (z ∈ F))) S) : Wp (fNotIn (.str z) (.tup ys) S) Q E := by
  subst h; exact wp_ninQ (in_strs rfl fun _ => by simp) q
local macro_rules | `(tactic| walk_at "r62") => `(tactic| first | exact r62 (by omega) (by omega) | exact ⟨r62 (by omega) (by omega), r62 (by omega) (by omega)⟩)
local macro_rules | `(tactic| walk_at "sz") => `(tactic| first | omega | (simp only [List.length_cons, List.length_nil, List.length_append, List.length_map, List.length_replicate, List.length_take, List.length_drop, sizeLine] <;> omega) | (unfold sizeLine; omega) | decide)
local macro_rules | `(tactic| walk_at "dq") => `(tactic| first | with_unfolding_all rfl | walk_at "r62" | walk_at "sz")
local macro_rules | `(tactic| walk_at "zs") => `(tactic| ((try (first | with_reducible refine i_wp ?_ | with_reducible refine i_ws ?_ | with_reducible refine i_get ?_ | with_reducible refine i_an ?_ | with_reducible refine i_if ?_ | with_reducible refine i_wb ?_ | with_reducible refine i_wt ?_ | with_reducible refine i_sub ?_ | with_reducible refine i_put ?_ | with_reducible refine i_fld ?_ | with_reducible refine i_ins ?_)); (try simp (disch := walk_at "dq") only [↓z_seq, ↓z_next, ↓z_break, ↓z_cont, ↓z_retN, ↓z_ret, ↓z_drop, ↓z_set, ↓z_asg, ↓z_if, ↓z_par, ↓z_par3, ↓z_sub, ↓z_dput, ↓z_fld, ↓z_for, ↓z_v, ↓z_vS, ↓z_v0, ↓z_e0, ↓z_e1, ↓z_e2, ↓z_c, ↓z_bin, ↓z_nil, ↓z_cons, ↓z_b, ↓z_bm, ↓z_call, ↓z_calld, ↓z_wb, ↓z_asB, ↓z_asT, ↓z_wtB, ↓z_wtN, ↓z_wtI, ↓z_wtT0, ↓z_wtT1, ↓z_wtL0, ↓z_wtL1, ↓z_notB, ↓z_andB, ↓z_orB, ↓z_notT, ↓z_andT, ↓z_orT, ↓z_ifE, ↓z_isn, ↓z_notn, ↓z_neg, ↓z_chain, ↓z_yes, ↓z_nopart, ↓z_part, ↓z_sl, ↓z_tup, ↓z_lst, ↓z_mkL, ↓z_mkLn, ↓z_dic0, ↓z_mkD, ↓z_mkDn, ↓z_revL, ↓z_fldE, ↓z_insV, ↓z_get2, ↓z_itS, ↓z_itR1, ↓z_itR2, ↓z_itT, ↓z_itE, ↓z_itZ, ↓z_get, ↓z_int, ↓z_int1, ↓z_int2, ↓z_one1, ↓z_two2, ↓z_str, ↓z_asLl, ↓z_asLr, ↓z_itLl, ↓z_itLt, ↓z_gN, ↓z_gNl, ↓z_gCs, ↓z_gTt, ↓z_gTl, ↓z_an, ↓z_ct, ↓z_cf, ↓z_ty1, ↓z_ty2, ↓z_ty3, ↓z_ty4, ↓z_anT, ↓z_addI, ↓z_addS, ↓z_addT, ↓z_addLL, ↓z_subI, ↓z_mod, ↓z_lt, ↓z_le, ↓z_gt, ↓z_ge, ↓z_eqI, ↓z_neI, ↓z_eqS, ↓z_neS, ↓z_eqB, ↓z_neB, ↓z_inL, ↓z_ninL, ↓z_lenL, ↓z_lenT, ↓z_lenD, ↓z_lenS, ↓z_slS, ↓z_slT, ↓z_slL, ↓z_listL, ↓z_listT, ↓z_listD, ↓z_tupL, ↓z_tupT, ↓z_max, ↓z_min, ↓z_dictD, ↓z_int1B, ↓z_int1I, ↓z_meth0, ↓z_methd, List.set_cons_zero, List.set_cons_succ, q_e0, q_e1, q_e2, ↓z_seen, ↓z_hidden, ↓z_deeds, ↓z_asks, -eq_self, -iff_self]); (try (first | with_reducible refine o_wp ?_ | with_reducible refine o_ws ?_ | with_reducible refine o_get ?_ | with_reducible refine o_an ?_ | with_reducible refine o_if ?_ | with_reducible refine o_wb ?_ | with_reducible refine o_wt ?_ | with_reducible refine o_v ?_ | with_reducible refine o_sub ?_ | with_reducible refine o_put ?_ | with_reducible refine o_fld ?_ | with_reducible refine o_ins ?_))))
local macro_rules | `(tactic| walk_at "w") => `(tactic| (walk_at "zs"; (repeat ((first | with_reducible refine wp_eqTn ?_ | with_reducible refine wp_ixT (by with_unfolding_all rfl) ?_ | with_reducible refine wp_ixL (by with_unfolding_all rfl) ?_ | with_reducible refine wv (by with_unfolding_all rfl) ?_ | with_reducible refine get (by with_unfolding_all rfl) ?_ | with_reducible refine an (by walk_at "dq") ?_ | with_reducible refine wt (by with_unfolding_all rfl) ?_ | with_reducible refine ite_t ?_ | with_reducible refine ite_f ?_ | with_reducible refine ite_rt (by with_unfolding_all rfl) ?_ | with_reducible refine ite_rf (by with_unfolding_all rfl) ?_ | with_reducible refine wp_isiT (by with_unfolding_all rfl) ?_ | with_reducible refine wp_isiF (by with_unfolding_all rfl) ?_); walk_at "zs"))))
end Sh
end Mi
namespace Mi
namespace Sh
open PySem L2 TL
local macro_rules | `(tactic| walk_at "r62") => `(tactic| first | exact r62 (by omega) (by omega) | exact ⟨r62 (by omega) (by omega), r62 (by omega) (by omega)⟩)
local macro_rules | `(tactic| walk_at "sz") => `(tactic| first | omega | (simp only [List.length_cons, List.length_nil, List.length_append, List.length_map, List.length_replicate, List.length_take, List.length_drop, sizeLine] <;> omega) | (unfold sizeLine; omega) | decide)
local macro_rules | `(tactic| walk_at "dq") => `(tactic| first | with_unfolding_all rfl | walk_at "r62" | walk_at "sz")
local macro_rules | `(tactic| walk_at "zs") => `(tactic| ((try (first | with_reducible refine i_wp ?_ | with_reducible refine i_ws ?_ | with_reducible refine i_get ?_ | with_reducible refine i_an ?_ | with_reducible refine i_if ?_ | with_reducible refine i_wb ?_ | with_reducible refine i_wt ?_ | with_reducible refine i_sub ?_ | with_reducible refine i_put ?_ | with_reducible refine i_fld ?_ | with_reducible refine i_ins ?_)); (try simp (disch := walk_at "dq") only [↓z_seq, ↓z_next, ↓z_break, ↓z_cont, ↓z_retN, ↓z_ret, ↓z_drop, ↓z_set, ↓z_asg, ↓z_if, ↓z_par, ↓z_par3, ↓z_sub, ↓z_dput, ↓z_fld, ↓z_for, ↓z_v, ↓z_vS, ↓z_v0, ↓z_e0, ↓z_e1, ↓z_e2, ↓z_c, ↓z_bin, ↓z_nil, ↓z_cons, ↓z_b, ↓z_bm, ↓z_call, ↓z_calld, ↓z_wb, ↓z_asB, ↓z_asT, ↓z_wtB, ↓z_wtN, ↓z_wtI, ↓z_wtT0, ↓z_wtT1, ↓z_wtL0, ↓z_wtL1, ↓z_notB, ↓z_andB, ↓z_orB, ↓z_notT, ↓z_andT, ↓z_orT, ↓z_ifE, ↓z_isn, ↓z_notn, ↓z_neg, ↓z_chain, ↓z_yes, ↓z_nopart, ↓z_part, ↓z_sl, ↓z_tup, ↓z_lst, ↓z_mkL, ↓z_mkLn, ↓z_dic0, ↓z_mkD, ↓z_mkDn, ↓z_revL, ↓z_fldE, ↓z_insV, ↓z_get2, ↓z_itS, ↓z_itR1, ↓z_itR2, ↓z_itT, ↓z_itE, ↓z_itZ, ↓z_get, ↓z_int, ↓z_int1, ↓z_int2, ↓z_one1, ↓z_two2, ↓z_str, ↓z_asLl, ↓z_asLr, ↓z_itLl, ↓z_itLt, ↓z_gN, ↓z_gNl, ↓z_gCs, ↓z_gTt, ↓z_gTl, ↓z_an, ↓z_ct, ↓z_cf, ↓z_ty1, ↓z_ty2, ↓z_ty3, ↓z_ty4, ↓z_anT, ↓z_addI, ↓z_addS, ↓z_addT, ↓z_addLL, ↓z_subI, ↓z_mod, ↓z_lt, ↓z_le, ↓z_gt, ↓z_ge, ↓z_eqI, ↓z_neI, ↓z_eqS, ↓z_neS, ↓z_eqB, ↓z_neB, ↓z_inL, ↓z_ninL, ↓z_lenL, ↓z_lenT, ↓z_lenD, ↓z_lenS, ↓z_slS, ↓z_slT, ↓z_slL, ↓z_listL, ↓z_listT, ↓z_listD, ↓z_tupL, ↓z_tupT, ↓z_max, ↓z_min, ↓z_dictD, ↓z_int1B, ↓z_int1I, ↓z_meth0, ↓z_methd, List.set_cons_zero, List.set_cons_succ, q_e0, q_e1, q_e2, ↓z_seen, ↓z_hidden, ↓z_deeds, ↓z_asks, -eq_self, -iff_self]); (try (first | with_reducible refine o_wp ?_ | with_reducible refine o_ws ?_ | with_reducible refine o_get ?_ | with_reducible refine o_an ?_ | with_reducible refine o_if ?_ | with_reducible refine o_wb ?_ | with_reducible refine o_wt ?_ | with_reducible refine o_v ?_ | with_reducible refine o_sub ?_ | with_reducible refine o_put ?_ | with_reducible refine o_fld ?_ | with_reducible refine o_ins ?_))))
local macro_rules | `(tactic| walk_at "w") => `(tactic| (walk_at "zs"; (repeat ((first | with_reducible refine wp_eqTn ?_ | with_reducible refine wp_ixT (by with_unfolding_all rfl) ?_ | with_reducible refine wp_ixL (by with_unfolding_all rfl) ?_ | with_reducible refine wv (by with_unfolding_all rfl) ?_ | with_reducible refine get (by with_unfolding_all rfl) ?_ | with_reducible refine an (by walk_at "dq") ?_ | with_reducible refine wt (by with_unfolding_all rfl) ?_ | with_reducible refine ite_t ?_ | with_reducible refine ite_f ?_ | with_reducible refine ite_rt (by with_unfolding_all rfl) ?_ | with_reducible refine ite_rf (by with_unfolding_all rfl) ?_ | with_reducible refine wp_isiT (by with_unfolding_all rfl) ?_ | with_reducible refine wp_isiF (by with_unfolding_all rfl) ?_); walk_at "zs"))))
end Sh
end Mi
namespace Mi
namespace Sh
open PySem L2 TL
local macro_rules | `(tactic| walk_at "r62") => `(tactic| first | exact r62 (by omega) (by omega) | exact ⟨r62 (by omega) (by omega), r62 (by omega) (by omega)⟩)
local macro_rules | `(tactic| walk_at "sz") => `(tactic| first | omega | (simp only [List.length_cons, List.length_nil, List.length_append, List.length_map, List.length_replicate, List.length_take, List.length_drop, sizeLine] <;> omega) | (unfold sizeLine; omega) | decide)
local macro_rules | `(tactic| walk_at "dq") => `(tactic| first | with_unfolding_all rfl | walk_at "r62" | walk_at "sz")
local macro_rules | `(tactic| walk_at "zs") => `(tactic| ((try (first | with_reducible refine i_wp ?_ | with_reducible refine i_ws ?_ | with_reducible refine i_get ?_ | with_reducible refine i_an ?_ | with_reducible refine i_if ?_ | with_reducible refine i_wb ?_ | with_reducible refine i_wt ?_ | with_reducible refine i_sub ?_ | with_reducible refine i_put ?_ | with_reducible refine i_fld ?_ | with_reducible refine i_ins ?_)); (try simp (disch := walk_at "dq") only [↓z_seq, ↓z_next, ↓z_break, ↓z_cont, ↓z_retN, ↓z_ret, ↓z_drop, ↓z_set, ↓z_asg, ↓z_if, ↓z_par, ↓z_par3, ↓z_sub, ↓z_dput, ↓z_fld, ↓z_for, ↓z_v, ↓z_vS, ↓z_v0, ↓z_e0, ↓z_e1, ↓z_e2, ↓z_c, ↓z_bin, ↓z_nil, ↓z_cons, ↓z_b, ↓z_bm, ↓z_call, ↓z_calld, ↓z_wb, ↓z_asB, ↓z_asT, ↓z_wtB, ↓z_wtN, ↓z_wtI, ↓z_wtT0, ↓z_wtT1, ↓z_wtL0, ↓z_wtL1, ↓z_notB, ↓z_andB, ↓z_orB, ↓z_notT, ↓z_andT, ↓z_orT, ↓z_ifE, ↓z_isn, ↓z_notn, ↓z_neg, ↓z_chain, ↓z_yes, ↓z_nopart, ↓z_part, ↓z_sl, ↓z_tup, ↓z_lst, ↓z_mkL, ↓z_mkLn, ↓z_dic0, ↓z_mkD, ↓z_mkDn, ↓z_revL, ↓z_fldE, ↓z_insV, ↓z_get2, ↓z_itS, ↓z_itR1, ↓z_itR2, ↓z_itT, ↓z_itE, ↓z_itZ, ↓z_get, ↓z_int, ↓z_int1, ↓z_int2, ↓z_one1, ↓z_two2, ↓z_str, ↓z_asLl, ↓z_asLr, ↓z_itLl, ↓z_itLt, ↓z_gN, ↓z_gNl, ↓z_gCs, ↓z_gTt, ↓z_gTl, ↓z_an, ↓z_ct, ↓z_cf, ↓z_ty1, ↓z_ty2, ↓z_ty3, ↓z_ty4, ↓z_anT, ↓z_addI, ↓z_addS, ↓z_addT, ↓z_addLL, ↓z_subI, ↓z_mod, ↓z_lt, ↓z_le, ↓z_gt, ↓z_ge, ↓z_eqI, ↓z_neI, ↓z_eqS, ↓z_neS, ↓z_eqB, ↓z_neB, ↓z_inL, ↓z_ninL, ↓z_lenL, ↓z_lenT, ↓z_lenD, ↓z_lenS, ↓z_slS, ↓z_slT, ↓z_slL, ↓z_listL, ↓z_listT, ↓z_listD, ↓z_tupL, ↓z_tupT, ↓z_max, ↓z_min, ↓z_dictD, ↓z_int1B, ↓z_int1I, ↓z_meth0, ↓z_methd, List.set_cons_zero, List.set_cons_succ, q_e0, q_e1, q_e2, ↓z_seen, ↓z_hidden, ↓z_deeds, ↓z_asks, -eq_self, -iff_self]); (try (first | with_reducible refine o_wp ?_ | with_reducible refine o_ws ?_ | with_reducible refine o_get ?_ | with_reducible refine o_an ?_ | with_reducible refine o_if ?_ | with_reducible refine o_wb ?_ | with_reducible refine o_wt ?_ | with_reducible refine o_v ?_ | with_reducible refine o_sub ?_ | with_reducible refine o_put ?_ | with_reducible refine o_fld ?_ | with_reducible refine o_ins ?_))))
local macro_rules | `(tactic| walk_at "w") => `(tactic| (walk_at "zs"; (repeat ((first | with_reducible refine wp_eqTn ?_ | with_reducible refine wp_ixT (by with_unfolding_all rfl) ?_ | with_reducible refine wp_ixL (by with_unfolding_all rfl) ?_ | with_reducible refine wv (by with_unfolding_all rfl) ?_ | with_reducible refine get (by with_unfolding_all rfl) ?_ | with_reducible refine an (by walk_at "dq") ?_ | with_reducible refine wt (by with_unfolding_all rfl) ?_ | with_reducible refine ite_t ?_ | with_reducible refine ite_f ?_ | with_reducible refine ite_rt (by with_unfolding_all rfl) ?_ | with_reducible refine ite_rf (by with_unfolding_all rfl) ?_ | with_reducible refine wp_isiT (by with_unfolding_all rfl) ?_ | with_reducible refine wp_isiF (by with_unfolding_all rfl) ?_); walk_at "zs"))))
end Sh
end Mi
namespace Mi
namespace Sh
open PySem L2 TL
local macro_rules | `(tactic| walk_at "r62") => `(tactic| first | exact r62 (by omega) (by omega) | exact ⟨r62 (by omega) (by omega), r62 (by omega) (by omega)⟩)
local macro_rules | `(tactic| walk_at "sz") => `(tactic| first | omega | (simp only [List.length_cons, List.length_nil, List.length_append, List.length_map, List.length_replicate, List.length_take, List.length_drop, sizeLine] <;> omega) | (unfold sizeLine; omega) | decide)
local macro_rules | `(tactic| walk_at "dq") => `(tactic| first | with_unfolding_all rfl | walk_at "r62" | walk_at "sz")
local macro_rules | `(tactic| walk_at "zs") => `(tactic| ((try (first | with_reducible refine i_wp ?_ | with_reducible refine i_ws ?_ | with_reducible refine i_get ?_ | with_reducible refine i_an ?_ | with_reducible refine i_if ?_ | with_reducible refine i_wb ?_ | with_reducible refine i_wt ?_ | with_reducible refine i_sub ?_ | with_reducible refine i_put ?_ | with_reducible refine i_fld ?_ | with_reducible refine i_ins ?_)); (try simp (disch := walk_at "dq") only [↓z_seq, ↓z_next, ↓z_break, ↓z_cont, ↓z_retN, ↓z_ret, ↓z_drop, ↓z_set, ↓z_asg, ↓z_if, ↓z_par, ↓z_par3, ↓z_sub, ↓z_dput, ↓z_fld, ↓z_for, ↓z_v, ↓z_vS, ↓z_v0, ↓z_e0, ↓z_e1, ↓z_e2, ↓z_c, ↓z_bin, ↓z_nil, ↓z_cons, ↓z_b, ↓z_bm, ↓z_call, ↓z_calld, ↓z_wb, ↓z_asB, ↓z_asT, ↓z_wtB, ↓z_wtN, ↓z_wtI, ↓z_wtT0, ↓z_wtT1, ↓z_wtL0, ↓z_wtL1, ↓z_notB, ↓z_andB, ↓z_orB, ↓z_notT, ↓z_andT, ↓z_orT, ↓z_ifE, ↓z_isn, ↓z_notn, ↓z_neg, ↓z_chain, ↓z_yes, ↓z_nopart, ↓z_part, ↓z_sl, ↓z_tup, ↓z_lst, ↓z_mkL, ↓z_mkLn, ↓z_dic0, ↓z_mkD, ↓z_mkDn, ↓z_revL, ↓z_fldE, ↓z_insV, ↓z_get2, ↓z_itS, ↓z_itR1, ↓z_itR2, ↓z_itT, ↓z_itE, ↓z_itZ, ↓z_get, ↓z_int, ↓z_int1, ↓z_int2, ↓z_one1, ↓z_two2, ↓z_str, ↓z_asLl, ↓z_asLr, ↓z_itLl, ↓z_itLt, ↓z_gN, ↓z_gNl, ↓z_gCs, ↓z_gTt, ↓z_gTl, ↓z_an, ↓z_ct, ↓z_cf, ↓z_ty1, ↓z_ty2, ↓z_ty3, ↓z_ty4, ↓z_anT, ↓z_addI, ↓z_addS, ↓z_addT, ↓z_addLL, ↓z_subI, ↓z_mod, ↓z_lt, ↓z_le, ↓z_gt, ↓z_ge, ↓z_eqI, ↓z_neI, ↓z_eqS, ↓z_neS, ↓z_eqB, ↓z_neB, ↓z_inL, ↓z_ninL, ↓z_lenL, ↓z_lenT, ↓z_lenD, ↓z_lenS, ↓z_slS, ↓z_slT, ↓z_slL, ↓z_listL, ↓z_listT, ↓z_listD, ↓z_tupL, ↓z_tupT, ↓z_max, ↓z_min, ↓z_dictD, ↓z_int1B, ↓z_int1I, ↓z_meth0, ↓z_methd, List.set_cons_zero, List.set_cons_succ, q_e0, q_e1, q_e2, ↓z_seen, ↓z_hidden, ↓z_deeds, ↓z_asks, -eq_self, -iff_self]); (try (first | with_reducible refine o_wp ?_ | with_reducible refine o_ws ?_ | with_reducible refine o_get ?_ | with_reducible refine o_an ?_ | with_reducible refine o_if ?_ | with_reducible refine o_wb ?_ | with_reducible refine o_wt ?_ | with_reducible refine o_v ?_ | with_reducible refine o_sub ?_ | with_reducible refine o_put ?_ | with_reducible refine o_fld ?_ | with_reducible refine o_ins ?_))))
local macro_rules | `(tactic| walk_at "w") => `(tactic| (walk_at "zs"; (repeat ((first | with_reducible refine wp_eqTn ?_ | with_reducible refine wp_ixT (by with_unfolding_all rfl) ?_ | with_reducible refine wp_ixL (by with_unfolding_all rfl) ?_ | with_reducible refine wv (by with_unfolding_all rfl) ?_ | with_reducible refine get (by with_unfolding_all rfl) ?_ | with_reducible refine an (by walk_at "dq") ?_ | with_reducible refine wt (by with_unfolding_all rfl) ?_ | with_reducible refine ite_t ?_ | with_reducible refine ite_f ?_ | with_reducible refine ite_rt (by with_unfolding_all rfl) ?_ | with_reducible refine ite_rf (by with_unfolding_all rfl) ?_ | with_reducible refine wp_isiT (by with_unfolding_all rfl) ?_ | with_reducible refine wp_isiF (by with_unfolding_all rfl) ?_); walk_at "zs"))))
abbrev pq : List Tx := [[112], [113]]
section
variable {z : Tx} {S : Sto} {Q : MV → Sto → Prop} {E : MX → Sto → Prop}
theorem wp_inPQ (q : Q (.bl (decide (z ∈ pq))) S) : Wp (fIn (.str z) (.tup [.str [112], .str [113]]) S) Q E := wp_inTS (F := pq) rfl q
theorem wp_inMD (q : Q (.bl (decide (z ∈ [cMove, cDeed]))) S) : Wp (fIn (.str z) (.tup [.str [109, 111, 118, 101], .str [100, 101, 101, 100]]) S) Q E := wp_inTS (F := [cMove, cDeed]) rfl q
theorem wp_ninMD (q : Q (.bl (!decide (z ∈ [cMove, cDeed]))) S) : Wp (fNotIn (.str z) (.tup [.str [109, 111, 118, 101], .str [100, 101, 101, 100]]) S) Q E := wp_ninTS (F := [cMove, cDeed]) rfl q
theorem wp_inDM (q : Q (.bl (decide (z ∈ [cDeed, cMove]))) S) : Wp (fIn (.str z) (.tup [.str [100, 101, 101, 100], .str [109, 111, 118, 101]]) S) Q E := wp_inTS (F := [cDeed, cMove]) rfl q
theorem wp_ninDM (q : Q (.bl (!decide (z ∈ [cDeed, cMove]))) S) : Wp (fNotIn (.str z) (.tup [.str [100, 101, 101, 100], .str [109, 111, 118, 101]]) S) Q E := wp_ninTS (F := [cDeed, cMove]) rfl q
theorem wp_inGo (q : Q (.bl (decide (z ∈ goes))) S) : Wp (fIn (.str z) (.tup [.str [111, 110], .str [116, 111], .str [115, 116, 111, 112]]) S) Q E := wp_inTS (F := goes) rfl q
theorem wp_ninGo (q : Q (.bl (!decide (z ∈ goes))) S) : Wp (fNotIn (.str z) (.tup [.str [111, 110], .str [116, 111], .str [115, 116, 111, 112]]) S) Q E := wp_ninTS (F := goes) rfl q
end
local macro_rules | `(tactic| walk_at "dq") => `(tactic| first | with_unfolding_all rfl | walk_at "r62" | walk_at "sz")
local macro_rules | `(tactic| walk_at "zs") => `(tactic| ((try (first | with_reducible refine i_wp ?_ | with_reducible refine i_ws ?_ | with_reducible refine i_get ?_ | with_reducible refine i_an ?_ | with_reducible refine i_if ?_ | with_reducible refine i_wb ?_ | with_reducible refine i_wt ?_ | with_reducible refine i_sub ?_ | with_reducible refine i_put ?_ | with_reducible refine i_fld ?_ | with_reducible refine i_ins ?_)); (try simp (disch := walk_at "dq") only [↓z_seq, ↓z_next, ↓z_break, ↓z_cont, ↓z_retN, ↓z_ret, ↓z_drop, ↓z_set, ↓z_asg, ↓z_if, ↓z_par, ↓z_par3, ↓z_sub, ↓z_dput, ↓z_fld, ↓z_for, ↓z_v, ↓z_vS, ↓z_v0, ↓z_e0, ↓z_e1, ↓z_e2, ↓z_c, ↓z_bin, ↓z_nil, ↓z_cons, ↓z_b, ↓z_bm, ↓z_call, ↓z_calld, ↓z_wb, ↓z_asB, ↓z_asT, ↓z_wtB, ↓z_wtN, ↓z_wtI, ↓z_wtT0, ↓z_wtT1, ↓z_wtL0, ↓z_wtL1, ↓z_notB, ↓z_andB, ↓z_orB, ↓z_notT, ↓z_andT, ↓z_orT, ↓z_ifE, ↓z_isn, ↓z_notn, ↓z_neg, ↓z_chain, ↓z_yes, ↓z_nopart, ↓z_part, ↓z_sl, ↓z_tup, ↓z_lst, ↓z_mkL, ↓z_mkLn, ↓z_dic0, ↓z_mkD, ↓z_mkDn, ↓z_revL, ↓z_fldE, ↓z_insV, ↓z_get2, ↓z_itS, ↓z_itR1, ↓z_itR2, ↓z_itT, ↓z_itE, ↓z_itZ, ↓z_get, ↓z_int, ↓z_int1, ↓z_int2, ↓z_one1, ↓z_two2, ↓z_str, ↓z_asLl, ↓z_asLr, ↓z_itLl, ↓z_itLt, ↓z_gN, ↓z_gNl, ↓z_gCs, ↓z_gTt, ↓z_gTl, ↓z_an, ↓z_ct, ↓z_cf, ↓z_ty1, ↓z_ty2, ↓z_ty3, ↓z_ty4, ↓z_anT, ↓z_addI, ↓z_addS, ↓z_addT, ↓z_addLL, ↓z_subI, ↓z_mod, ↓z_lt, ↓z_le, ↓z_gt, ↓z_ge, ↓z_eqI, ↓z_neI, ↓z_eqS, ↓z_neS, ↓z_eqB, ↓z_neB, ↓z_inL, ↓z_ninL, ↓z_lenL, ↓z_lenT, ↓z_lenD, ↓z_lenS, ↓z_slS, ↓z_slT, ↓z_slL, ↓z_listL, ↓z_listT, ↓z_listD, ↓z_tupL, ↓z_tupT, ↓z_max, ↓z_min, ↓z_dictD, ↓z_int1B, ↓z_int1I, ↓z_meth0, ↓z_methd, List.set_cons_zero, List.set_cons_succ, q_e0, q_e1, q_e2, ↓z_seen, ↓z_hidden, ↓z_deeds, ↓z_asks, -eq_self, -iff_self]); (try (first | with_reducible refine o_wp ?_ | with_reducible refine o_ws ?_ | with_reducible refine o_get ?_ | with_reducible refine o_an ?_ | with_reducible refine o_if ?_ | with_reducible refine o_wb ?_ | with_reducible refine o_wt ?_ | with_reducible refine o_v ?_ | with_reducible refine o_sub ?_ | with_reducible refine o_put ?_ | with_reducible refine o_fld ?_ | with_reducible refine o_ins ?_))))
local macro_rules | `(tactic| walk_at "w") => `(tactic| (walk_at "zs"; (repeat ((first | with_reducible refine wp_inPQ ?_ | with_reducible refine wp_inMD ?_ | with_reducible refine wp_ninMD ?_ | with_reducible refine wp_inGo ?_ | with_reducible refine wp_ninGo ?_ | with_reducible refine wp_inDM ?_ | with_reducible refine wp_ninDM ?_ | with_reducible refine ite_dt (by assumption) ?_ | with_reducible refine ite_df (by assumption) ?_ | with_reducible refine ite_nt (by assumption) ?_ | with_reducible refine ite_nf (by assumption) ?_ | with_reducible refine ite_rt (by assumption) ?_ | with_reducible refine ite_rf (by assumption) ?_ | with_reducible refine wp_eqTn ?_ | with_reducible refine wp_ixT (by with_unfolding_all rfl) ?_ | with_reducible refine wp_ixL (by with_unfolding_all rfl) ?_ | with_reducible refine wv (by with_unfolding_all rfl) ?_ | with_reducible refine get (by with_unfolding_all rfl) ?_ | with_reducible refine an (by walk_at "dq") ?_ | with_reducible refine wt (by with_unfolding_all rfl) ?_ | with_reducible refine ite_t ?_ | with_reducible refine ite_f ?_ | with_reducible refine ite_rt (by with_unfolding_all rfl) ?_ | with_reducible refine ite_rf (by with_unfolding_all rfl) ?_ | with_reducible refine wp_isiT (by with_unfolding_all rfl) ?_ | with_reducible refine wp_isiF (by with_unfolding_all rfl) ?_); walk_at "zs"))))
def Mv.rd : Mv → List Tx
  | .move _ b => [b]
  | .deed _ _ fs => fs
  | .ask _ fs _ => fs
  | _ => []
def optM : Option Nat → MV
  | some k => .int (k : Int)
  | none => .non
end Sh
end Mi
namespace Mi
namespace Sh
open PySem L2 TL
local macro_rules | `(tactic| walk_at "r62") => `(tactic| first | exact r62 (by omega) (by omega) | exact ⟨r62 (by omega) (by omega), r62 (by omega) (by omega)⟩)
local macro_rules | `(tactic| walk_at "sz") => `(tactic| first | omega | (simp only [List.length_cons, List.length_nil, List.length_append, List.length_map, List.length_replicate, List.length_take, List.length_drop, sizeLine] <;> omega) | (unfold sizeLine; omega) | decide)
local macro_rules | `(tactic| walk_at "dq") => `(tactic| first | with_unfolding_all rfl | walk_at "r62" | walk_at "sz")
local macro_rules | `(tactic| walk_at "zs") => `(tactic| ((try (first | with_reducible refine i_wp ?_ | with_reducible refine i_ws ?_ | with_reducible refine i_get ?_ | with_reducible refine i_an ?_ | with_reducible refine i_if ?_ | with_reducible refine i_wb ?_ | with_reducible refine i_wt ?_ | with_reducible refine i_sub ?_ | with_reducible refine i_put ?_ | with_reducible refine i_fld ?_ | with_reducible refine i_ins ?_)); (try simp (disch := walk_at "dq") only [↓z_seq, ↓z_next, ↓z_break, ↓z_cont, ↓z_retN, ↓z_ret, ↓z_drop, ↓z_set, ↓z_asg, ↓z_if, ↓z_par, ↓z_par3, ↓z_sub, ↓z_dput, ↓z_fld, ↓z_for, ↓z_v, ↓z_vS, ↓z_v0, ↓z_e0, ↓z_e1, ↓z_e2, ↓z_c, ↓z_bin, ↓z_nil, ↓z_cons, ↓z_b, ↓z_bm, ↓z_call, ↓z_calld, ↓z_wb, ↓z_asB, ↓z_asT, ↓z_wtB, ↓z_wtN, ↓z_wtI, ↓z_wtT0, ↓z_wtT1, ↓z_wtL0, ↓z_wtL1, ↓z_notB, ↓z_andB, ↓z_orB, ↓z_notT, ↓z_andT, ↓z_orT, ↓z_ifE, ↓z_isn, ↓z_notn, ↓z_neg, ↓z_chain, ↓z_yes, ↓z_nopart, ↓z_part, ↓z_sl, ↓z_tup, ↓z_lst, ↓z_mkL, ↓z_mkLn, ↓z_dic0, ↓z_mkD, ↓z_mkDn, ↓z_revL, ↓z_fldE, ↓z_insV, ↓z_get2, ↓z_itS, ↓z_itR1, ↓z_itR2, ↓z_itT, ↓z_itE, ↓z_itZ, ↓z_get, ↓z_int, ↓z_int1, ↓z_int2, ↓z_one1, ↓z_two2, ↓z_str, ↓z_asLl, ↓z_asLr, ↓z_itLl, ↓z_itLt, ↓z_gN, ↓z_gNl, ↓z_gCs, ↓z_gTt, ↓z_gTl, ↓z_an, ↓z_ct, ↓z_cf, ↓z_ty1, ↓z_ty2, ↓z_ty3, ↓z_ty4, ↓z_anT, ↓z_addI, ↓z_addS, ↓z_addT, ↓z_addLL, ↓z_subI, ↓z_mod, ↓z_lt, ↓z_le, ↓z_gt, ↓z_ge, ↓z_eqI, ↓z_neI, ↓z_eqS, ↓z_neS, ↓z_eqB, ↓z_neB, ↓z_inL, ↓z_ninL, ↓z_lenL, ↓z_lenT, ↓z_lenD, ↓z_lenS, ↓z_slS, ↓z_slT, ↓z_slL, ↓z_listL, ↓z_listT, ↓z_listD, ↓z_tupL, ↓z_tupT, ↓z_max, ↓z_min, ↓z_dictD, ↓z_int1B, ↓z_int1I, ↓z_meth0, ↓z_methd, List.set_cons_zero, List.set_cons_succ, q_e0, q_e1, q_e2, -eq_self, -iff_self]); (try (first | with_reducible refine o_wp ?_ | with_reducible refine o_ws ?_ | with_reducible refine o_get ?_ | with_reducible refine o_an ?_ | with_reducible refine o_if ?_ | with_reducible refine o_wb ?_ | with_reducible refine o_wt ?_ | with_reducible refine o_v ?_ | with_reducible refine o_sub ?_ | with_reducible refine o_put ?_ | with_reducible refine o_fld ?_ | with_reducible refine o_ins ?_))))
local macro_rules | `(tactic| walk_at "w") => `(tactic| (walk_at "zs"; (repeat ((first | with_reducible refine wp_ixT (by with_unfolding_all rfl) ?_ | with_reducible refine wp_ixL (by with_unfolding_all rfl) ?_ | with_reducible refine wv (by with_unfolding_all rfl) ?_ | with_reducible refine get (by with_unfolding_all rfl) ?_ | with_reducible refine an (by walk_at "dq") ?_ | with_reducible refine wt (by with_unfolding_all rfl) ?_ | with_reducible refine ite_t ?_ | with_reducible refine ite_f ?_ | with_reducible refine ite_rt (by with_unfolding_all rfl) ?_ | with_reducible refine ite_rf (by with_unfolding_all rfl) ?_ | with_reducible refine wp_isiT (by with_unfolding_all rfl) ?_ | with_reducible refine wp_isiF (by with_unfolding_all rfl) ?_); walk_at "zs"))))
local macro_rules | `(tactic| walk_at "dq") => `(tactic| first | with_unfolding_all rfl | walk_at "r62" | walk_at "sz")
local macro_rules | `(tactic| walk_at "zs") => `(tactic| ((try (first | with_reducible refine i_wp ?_ | with_reducible refine i_ws ?_ | with_reducible refine i_get ?_ | with_reducible refine i_an ?_ | with_reducible refine i_if ?_ | with_reducible refine i_wb ?_ | with_reducible refine i_wt ?_ | with_reducible refine i_sub ?_ | with_reducible refine i_put ?_ | with_reducible refine i_fld ?_ | with_reducible refine i_ins ?_)); (try simp (disch := walk_at "dq") only [↓z_seq, ↓z_next, ↓z_break, ↓z_cont, ↓z_retN, ↓z_ret, ↓z_drop, ↓z_set, ↓z_asg, ↓z_if, ↓z_par, ↓z_par3, ↓z_sub, ↓z_dput, ↓z_fld, ↓z_for, ↓z_v, ↓z_vS, ↓z_v0, ↓z_e0, ↓z_e1, ↓z_e2, ↓z_c, ↓z_bin, ↓z_nil, ↓z_cons, ↓z_b, ↓z_bm, ↓z_call, ↓z_calld, ↓z_wb, ↓z_asB, ↓z_asT, ↓z_wtB, ↓z_wtN, ↓z_wtI, ↓z_wtT0, ↓z_wtT1, ↓z_wtL0, ↓z_wtL1, ↓z_notB, ↓z_andB, ↓z_orB, ↓z_notT, ↓z_andT, ↓z_orT, ↓z_ifE, ↓z_isn, ↓z_notn, ↓z_neg, ↓z_chain, ↓z_yes, ↓z_nopart, ↓z_part, ↓z_sl, ↓z_tup, ↓z_lst, ↓z_mkL, ↓z_mkLn, ↓z_dic0, ↓z_mkD, ↓z_mkDn, ↓z_revL, ↓z_fldE, ↓z_insV, ↓z_get2, ↓z_itS, ↓z_itR1, ↓z_itR2, ↓z_itT, ↓z_itE, ↓z_itZ, ↓z_get, ↓z_int, ↓z_int1, ↓z_int2, ↓z_one1, ↓z_two2, ↓z_str, ↓z_asLl, ↓z_asLr, ↓z_itLl, ↓z_itLt, ↓z_gN, ↓z_gNl, ↓z_gCs, ↓z_gTt, ↓z_gTl, ↓z_an, ↓z_ct, ↓z_cf, ↓z_ty1, ↓z_ty2, ↓z_ty3, ↓z_ty4, ↓z_anT, ↓z_addI, ↓z_addS, ↓z_addT, ↓z_addLL, ↓z_subI, ↓z_mod, ↓z_lt, ↓z_le, ↓z_gt, ↓z_ge, ↓z_eqI, ↓z_neI, ↓z_eqS, ↓z_neS, ↓z_eqB, ↓z_neB, ↓z_inL, ↓z_ninL, ↓z_lenL, ↓z_lenT, ↓z_lenD, ↓z_lenS, ↓z_slS, ↓z_slT, ↓z_slL, ↓z_listL, ↓z_listT, ↓z_listD, ↓z_tupL, ↓z_tupT, ↓z_max, ↓z_min, ↓z_dictD, ↓z_int1B, ↓z_int1I, ↓z_meth0, ↓z_methd, List.set_cons_zero, List.set_cons_succ, q_e0, q_e1, q_e2, ↓z_seen, ↓z_hidden, ↓z_deeds, ↓z_asks, -eq_self, -iff_self]); (try (first | with_reducible refine o_wp ?_ | with_reducible refine o_ws ?_ | with_reducible refine o_get ?_ | with_reducible refine o_an ?_ | with_reducible refine o_if ?_ | with_reducible refine o_wb ?_ | with_reducible refine o_wt ?_ | with_reducible refine o_v ?_ | with_reducible refine o_sub ?_ | with_reducible refine o_put ?_ | with_reducible refine o_fld ?_ | with_reducible refine o_ins ?_))))
local macro_rules | `(tactic| walk_at "w") => `(tactic| (walk_at "zs"; (repeat ((first | with_reducible refine wp_inPQ ?_ | with_reducible refine wp_inMD ?_ | with_reducible refine wp_ninMD ?_ | with_reducible refine wp_inGo ?_ | with_reducible refine wp_ninGo ?_ | with_reducible refine wp_inDM ?_ | with_reducible refine wp_ninDM ?_ | with_reducible refine ite_dt (by assumption) ?_ | with_reducible refine ite_df (by assumption) ?_ | with_reducible refine ite_nt (by assumption) ?_ | with_reducible refine ite_nf (by assumption) ?_ | with_reducible refine ite_rt (by assumption) ?_ | with_reducible refine ite_rf (by assumption) ?_ | with_reducible refine wp_eqTn ?_ | with_reducible refine wp_ixT (by with_unfolding_all rfl) ?_ | with_reducible refine wp_ixL (by with_unfolding_all rfl) ?_ | with_reducible refine wv (by with_unfolding_all rfl) ?_ | with_reducible refine get (by with_unfolding_all rfl) ?_ | with_reducible refine an (by walk_at "dq") ?_ | with_reducible refine wt (by with_unfolding_all rfl) ?_ | with_reducible refine ite_t ?_ | with_reducible refine ite_f ?_ | with_reducible refine ite_rt (by with_unfolding_all rfl) ?_ | with_reducible refine ite_rf (by with_unfolding_all rfl) ?_ | with_reducible refine wp_isiT (by with_unfolding_all rfl) ?_ | with_reducible refine wp_isiF (by with_unfolding_all rfl) ?_); walk_at "zs"))))
abbrev natsM (xs : List Nat) : List MV := xs.map fun (k : Nat) => MV.int (k : Int)
structure StI (S : Sto) (kvs : List (MV × MV)) (L : List (List Nat)) (S' : Sto) : Prop where
  len : S'.length = S.length + 2 + L.length
  d : S'[S.length]? = some (.dic kvs)
  f : S'[S.length + 1]? = some (.lst ((List.range' (S.length + 2) L.length).map MV.ref))
  at' : ∀ i (h : i < L.length), S'[S.length + 2 + i]? = some (.lst (natsM L[i]))
  old : ∀ j, j < S.length → S'[j]? = S[j]?
theorem StI.new {S S' : Sto} {kvs : List (MV × MV)} {L : List (List Nat)} (h : StI S kvs L S') : StI S kvs (L ++ [[]]) ((S' ++ [MO.lst []]).set (S.length + 1) (.lst ((List.range' (S.length + 2) L.length).map MV.ref ++ [MV.ref (S.length + 2 + L.length)]))) := by
  have hl := h.len
  refine ⟨by simp; omega, ?_, ?_, ?_, ?_⟩
  · rw [List.getElem?_set_ne (by omega), List.getElem?_append_left (by omega)]; exact h.d
  · rw [List.getElem?_set_self (by simp; omega)]
    simp [List.range'_concat]
  · intro i hi
    rw [List.getElem?_set_ne (by omega)]
    by_cases hi2 : i < L.length
    · rw [List.getElem?_append_left (by omega), h.at' i hi2, List.getElem_append_left hi2]
    · have : i = L.length := by simp at hi; omega
      subst this
      rw [List.getElem?_append_right (by omega)]
      have : S.length + 2 + L.length - S'.length = 0 := by omega
      rw [this]; simp
  · intro j hj
    rw [List.getElem?_set_ne (by omega), List.getElem?_append_left (by omega)]
    exact h.old j hj
theorem StI.add {S S' : Sto} {kvs : List (MV × MV)} {L : List (List Nat)} {x : List Nat} (h : StI S kvs (L ++ [x]) S') (k : Nat) : StI S kvs (L ++ [x ++ [k]]) (S'.set (S.length + 2 + L.length) (.lst (natsM x ++ [.int (k : Int)]))) := by
  have hl := h.len
  rw [List.length_append, List.length_cons, List.length_nil] at hl
  refine ⟨by rw [List.length_set, hl, List.length_append]; simp, ?_, ?_, ?_, ?_⟩
  · rw [List.getElem?_set_ne (by omega)]; exact h.d
  · rw [List.getElem?_set_ne (by omega)]
    have := h.f
    simpa using this
  · intro i hi
    by_cases hi2 : i < L.length
    · rw [List.getElem?_set_ne (by omega)]
      have := h.at' i (by simp; omega)
      rw [this, List.getElem_append_left hi2, List.getElem_append_left hi2]
    · have : i = L.length := by simp at hi; omega
      subst this
      rw [List.getElem?_set_self (by omega)]
      simp [natsM]
  · intro j hj
    rw [List.getElem?_set_ne (by omega)]
    exact h.old j hj
end Sh
end Mi
namespace Mi
namespace Sh
open PySem L2 TL
local macro_rules | `(tactic| walk_at "r62") => `(tactic| first | exact r62 (by omega) (by omega) | exact ⟨r62 (by omega) (by omega), r62 (by omega) (by omega)⟩)
local macro_rules | `(tactic| walk_at "sz") => `(tactic| first | omega | (simp only [List.length_cons, List.length_nil, List.length_append, List.length_map, List.length_replicate, List.length_take, List.length_drop, sizeLine] <;> omega) | (unfold sizeLine; omega) | decide)
local macro_rules | `(tactic| walk_at "dq") => `(tactic| first | with_unfolding_all rfl | walk_at "r62" | walk_at "sz")
local macro_rules | `(tactic| walk_at "zs") => `(tactic| ((try (first | with_reducible refine i_wp ?_ | with_reducible refine i_ws ?_ | with_reducible refine i_get ?_ | with_reducible refine i_an ?_ | with_reducible refine i_if ?_ | with_reducible refine i_wb ?_ | with_reducible refine i_wt ?_ | with_reducible refine i_sub ?_ | with_reducible refine i_put ?_ | with_reducible refine i_fld ?_ | with_reducible refine i_ins ?_)); (try simp (disch := walk_at "dq") only [↓z_seq, ↓z_next, ↓z_break, ↓z_cont, ↓z_retN, ↓z_ret, ↓z_drop, ↓z_set, ↓z_asg, ↓z_if, ↓z_par, ↓z_par3, ↓z_sub, ↓z_dput, ↓z_fld, ↓z_for, ↓z_v, ↓z_vS, ↓z_v0, ↓z_e0, ↓z_e1, ↓z_e2, ↓z_c, ↓z_bin, ↓z_nil, ↓z_cons, ↓z_b, ↓z_bm, ↓z_call, ↓z_calld, ↓z_wb, ↓z_asB, ↓z_asT, ↓z_wtB, ↓z_wtN, ↓z_wtI, ↓z_wtT0, ↓z_wtT1, ↓z_wtL0, ↓z_wtL1, ↓z_notB, ↓z_andB, ↓z_orB, ↓z_notT, ↓z_andT, ↓z_orT, ↓z_ifE, ↓z_isn, ↓z_notn, ↓z_neg, ↓z_chain, ↓z_yes, ↓z_nopart, ↓z_part, ↓z_sl, ↓z_tup, ↓z_lst, ↓z_mkL, ↓z_mkLn, ↓z_dic0, ↓z_mkD, ↓z_mkDn, ↓z_revL, ↓z_fldE, ↓z_insV, ↓z_get2, ↓z_itS, ↓z_itR1, ↓z_itR2, ↓z_itT, ↓z_itE, ↓z_itZ, ↓z_get, ↓z_int, ↓z_int1, ↓z_int2, ↓z_one1, ↓z_two2, ↓z_str, ↓z_asLl, ↓z_asLr, ↓z_itLl, ↓z_itLt, ↓z_gN, ↓z_gNl, ↓z_gCs, ↓z_gTt, ↓z_gTl, ↓z_an, ↓z_ct, ↓z_cf, ↓z_ty1, ↓z_ty2, ↓z_ty3, ↓z_ty4, ↓z_anT, ↓z_addI, ↓z_addS, ↓z_addT, ↓z_addLL, ↓z_subI, ↓z_mod, ↓z_lt, ↓z_le, ↓z_gt, ↓z_ge, ↓z_eqI, ↓z_neI, ↓z_eqS, ↓z_neS, ↓z_eqB, ↓z_neB, ↓z_inL, ↓z_ninL, ↓z_lenL, ↓z_lenT, ↓z_lenD, ↓z_lenS, ↓z_slS, ↓z_slT, ↓z_slL, ↓z_listL, ↓z_listT, ↓z_listD, ↓z_tupL, ↓z_tupT, ↓z_max, ↓z_min, ↓z_dictD, ↓z_int1B, ↓z_int1I, ↓z_meth0, ↓z_methd, List.set_cons_zero, List.set_cons_succ, q_e0, q_e1, q_e2, -eq_self, -iff_self]); (try (first | with_reducible refine o_wp ?_ | with_reducible refine o_ws ?_ | with_reducible refine o_get ?_ | with_reducible refine o_an ?_ | with_reducible refine o_if ?_ | with_reducible refine o_wb ?_ | with_reducible refine o_wt ?_ | with_reducible refine o_v ?_ | with_reducible refine o_sub ?_ | with_reducible refine o_put ?_ | with_reducible refine o_fld ?_ | with_reducible refine o_ins ?_))))
local macro_rules | `(tactic| walk_at "w") => `(tactic| (walk_at "zs"; (repeat ((first | with_reducible refine wp_ixT (by with_unfolding_all rfl) ?_ | with_reducible refine wp_ixL (by with_unfolding_all rfl) ?_ | with_reducible refine wv (by with_unfolding_all rfl) ?_ | with_reducible refine get (by with_unfolding_all rfl) ?_ | with_reducible refine an (by walk_at "dq") ?_ | with_reducible refine wt (by with_unfolding_all rfl) ?_ | with_reducible refine ite_t ?_ | with_reducible refine ite_f ?_ | with_reducible refine ite_rt (by with_unfolding_all rfl) ?_ | with_reducible refine ite_rf (by with_unfolding_all rfl) ?_ | with_reducible refine wp_isiT (by with_unfolding_all rfl) ?_ | with_reducible refine wp_isiF (by with_unfolding_all rfl) ?_); walk_at "zs"))))
local macro_rules | `(tactic| walk_at "dq") => `(tactic| first | with_unfolding_all rfl | walk_at "r62" | walk_at "sz")
local macro_rules | `(tactic| walk_at "zs") => `(tactic| ((try (first | with_reducible refine i_wp ?_ | with_reducible refine i_ws ?_ | with_reducible refine i_get ?_ | with_reducible refine i_an ?_ | with_reducible refine i_if ?_ | with_reducible refine i_wb ?_ | with_reducible refine i_wt ?_ | with_reducible refine i_sub ?_ | with_reducible refine i_put ?_ | with_reducible refine i_fld ?_ | with_reducible refine i_ins ?_)); (try simp (disch := walk_at "dq") only [↓z_seq, ↓z_next, ↓z_break, ↓z_cont, ↓z_retN, ↓z_ret, ↓z_drop, ↓z_set, ↓z_asg, ↓z_if, ↓z_par, ↓z_par3, ↓z_sub, ↓z_dput, ↓z_fld, ↓z_for, ↓z_v, ↓z_vS, ↓z_v0, ↓z_e0, ↓z_e1, ↓z_e2, ↓z_c, ↓z_bin, ↓z_nil, ↓z_cons, ↓z_b, ↓z_bm, ↓z_call, ↓z_calld, ↓z_wb, ↓z_asB, ↓z_asT, ↓z_wtB, ↓z_wtN, ↓z_wtI, ↓z_wtT0, ↓z_wtT1, ↓z_wtL0, ↓z_wtL1, ↓z_notB, ↓z_andB, ↓z_orB, ↓z_notT, ↓z_andT, ↓z_orT, ↓z_ifE, ↓z_isn, ↓z_notn, ↓z_neg, ↓z_chain, ↓z_yes, ↓z_nopart, ↓z_part, ↓z_sl, ↓z_tup, ↓z_lst, ↓z_mkL, ↓z_mkLn, ↓z_dic0, ↓z_mkD, ↓z_mkDn, ↓z_revL, ↓z_fldE, ↓z_insV, ↓z_get2, ↓z_itS, ↓z_itR1, ↓z_itR2, ↓z_itT, ↓z_itE, ↓z_itZ, ↓z_get, ↓z_int, ↓z_int1, ↓z_int2, ↓z_one1, ↓z_two2, ↓z_str, ↓z_asLl, ↓z_asLr, ↓z_itLl, ↓z_itLt, ↓z_gN, ↓z_gNl, ↓z_gCs, ↓z_gTt, ↓z_gTl, ↓z_an, ↓z_ct, ↓z_cf, ↓z_ty1, ↓z_ty2, ↓z_ty3, ↓z_ty4, ↓z_anT, ↓z_addI, ↓z_addS, ↓z_addT, ↓z_addLL, ↓z_subI, ↓z_mod, ↓z_lt, ↓z_le, ↓z_gt, ↓z_ge, ↓z_eqI, ↓z_neI, ↓z_eqS, ↓z_neS, ↓z_eqB, ↓z_neB, ↓z_inL, ↓z_ninL, ↓z_lenL, ↓z_lenT, ↓z_lenD, ↓z_lenS, ↓z_slS, ↓z_slT, ↓z_slL, ↓z_listL, ↓z_listT, ↓z_listD, ↓z_tupL, ↓z_tupT, ↓z_max, ↓z_min, ↓z_dictD, ↓z_int1B, ↓z_int1I, ↓z_meth0, ↓z_methd, List.set_cons_zero, List.set_cons_succ, q_e0, q_e1, q_e2, ↓z_seen, ↓z_hidden, ↓z_deeds, ↓z_asks, -eq_self, -iff_self]); (try (first | with_reducible refine o_wp ?_ | with_reducible refine o_ws ?_ | with_reducible refine o_get ?_ | with_reducible refine o_an ?_ | with_reducible refine o_if ?_ | with_reducible refine o_wb ?_ | with_reducible refine o_wt ?_ | with_reducible refine o_v ?_ | with_reducible refine o_sub ?_ | with_reducible refine o_put ?_ | with_reducible refine o_fld ?_ | with_reducible refine o_ins ?_))))
local macro_rules | `(tactic| walk_at "w") => `(tactic| (walk_at "zs"; (repeat ((first | with_reducible refine wp_inPQ ?_ | with_reducible refine wp_inMD ?_ | with_reducible refine wp_ninMD ?_ | with_reducible refine wp_inGo ?_ | with_reducible refine wp_ninGo ?_ | with_reducible refine wp_inDM ?_ | with_reducible refine wp_ninDM ?_ | with_reducible refine ite_dt (by assumption) ?_ | with_reducible refine ite_df (by assumption) ?_ | with_reducible refine ite_nt (by assumption) ?_ | with_reducible refine ite_nf (by assumption) ?_ | with_reducible refine ite_rt (by assumption) ?_ | with_reducible refine ite_rf (by assumption) ?_ | with_reducible refine wp_eqTn ?_ | with_reducible refine wp_ixT (by with_unfolding_all rfl) ?_ | with_reducible refine wp_ixL (by with_unfolding_all rfl) ?_ | with_reducible refine wv (by with_unfolding_all rfl) ?_ | with_reducible refine get (by with_unfolding_all rfl) ?_ | with_reducible refine an (by walk_at "dq") ?_ | with_reducible refine wt (by with_unfolding_all rfl) ?_ | with_reducible refine ite_t ?_ | with_reducible refine ite_f ?_ | with_reducible refine ite_rt (by with_unfolding_all rfl) ?_ | with_reducible refine ite_rf (by with_unfolding_all rfl) ?_ | with_reducible refine wp_isiT (by with_unfolding_all rfl) ?_ | with_reducible refine wp_isiF (by with_unfolding_all rfl) ?_); walk_at "zs"))))
end Sh
end Mi
namespace Mi
namespace Sh
open PySem L2 TL
local macro_rules | `(tactic| walk_at "r62") => `(tactic| first | exact r62 (by omega) (by omega) | exact ⟨r62 (by omega) (by omega), r62 (by omega) (by omega)⟩)
local macro_rules | `(tactic| walk_at "sz") => `(tactic| first | omega | (simp only [List.length_cons, List.length_nil, List.length_append, List.length_map, List.length_replicate, List.length_take, List.length_drop, sizeLine] <;> omega) | (unfold sizeLine; omega) | decide)
local macro_rules | `(tactic| walk_at "dq") => `(tactic| first | with_unfolding_all rfl | walk_at "r62" | walk_at "sz")
local macro_rules | `(tactic| walk_at "zs") => `(tactic| ((try (first | with_reducible refine i_wp ?_ | with_reducible refine i_ws ?_ | with_reducible refine i_get ?_ | with_reducible refine i_an ?_ | with_reducible refine i_if ?_ | with_reducible refine i_wb ?_ | with_reducible refine i_wt ?_ | with_reducible refine i_sub ?_ | with_reducible refine i_put ?_ | with_reducible refine i_fld ?_ | with_reducible refine i_ins ?_)); (try simp (disch := walk_at "dq") only [↓z_seq, ↓z_next, ↓z_break, ↓z_cont, ↓z_retN, ↓z_ret, ↓z_drop, ↓z_set, ↓z_asg, ↓z_if, ↓z_par, ↓z_par3, ↓z_sub, ↓z_dput, ↓z_fld, ↓z_for, ↓z_v, ↓z_vS, ↓z_v0, ↓z_e0, ↓z_e1, ↓z_e2, ↓z_c, ↓z_bin, ↓z_nil, ↓z_cons, ↓z_b, ↓z_bm, ↓z_call, ↓z_calld, ↓z_wb, ↓z_asB, ↓z_asT, ↓z_wtB, ↓z_wtN, ↓z_wtI, ↓z_wtT0, ↓z_wtT1, ↓z_wtL0, ↓z_wtL1, ↓z_notB, ↓z_andB, ↓z_orB, ↓z_notT, ↓z_andT, ↓z_orT, ↓z_ifE, ↓z_isn, ↓z_notn, ↓z_neg, ↓z_chain, ↓z_yes, ↓z_nopart, ↓z_part, ↓z_sl, ↓z_tup, ↓z_lst, ↓z_mkL, ↓z_mkLn, ↓z_dic0, ↓z_mkD, ↓z_mkDn, ↓z_revL, ↓z_fldE, ↓z_insV, ↓z_get2, ↓z_itS, ↓z_itR1, ↓z_itR2, ↓z_itT, ↓z_itE, ↓z_itZ, ↓z_get, ↓z_int, ↓z_int1, ↓z_int2, ↓z_one1, ↓z_two2, ↓z_str, ↓z_asLl, ↓z_asLr, ↓z_itLl, ↓z_itLt, ↓z_gN, ↓z_gNl, ↓z_gCs, ↓z_gTt, ↓z_gTl, ↓z_an, ↓z_ct, ↓z_cf, ↓z_ty1, ↓z_ty2, ↓z_ty3, ↓z_ty4, ↓z_anT, ↓z_addI, ↓z_addS, ↓z_addT, ↓z_addLL, ↓z_subI, ↓z_mod, ↓z_lt, ↓z_le, ↓z_gt, ↓z_ge, ↓z_eqI, ↓z_neI, ↓z_eqS, ↓z_neS, ↓z_eqB, ↓z_neB, ↓z_inL, ↓z_ninL, ↓z_lenL, ↓z_lenT, ↓z_lenD, ↓z_lenS, ↓z_slS, ↓z_slT, ↓z_slL, ↓z_listL, ↓z_listT, ↓z_listD, ↓z_tupL, ↓z_tupT, ↓z_max, ↓z_min, ↓z_dictD, ↓z_int1B, ↓z_int1I, ↓z_meth0, ↓z_methd, List.set_cons_zero, List.set_cons_succ, q_e0, q_e1, q_e2, -eq_self, -iff_self]); (try (first | with_reducible refine o_wp ?_ | with_reducible refine o_ws ?_ | with_reducible refine o_get ?_ | with_reducible refine o_an ?_ | with_reducible refine o_if ?_ | with_reducible refine o_wb ?_ | with_reducible refine o_wt ?_ | with_reducible refine o_v ?_ | with_reducible refine o_sub ?_ | with_reducible refine o_put ?_ | with_reducible refine o_fld ?_ | with_reducible refine o_ins ?_))))
local macro_rules | `(tactic| walk_at "w") => `(tactic| (walk_at "zs"; (repeat ((first | with_reducible refine wp_ixT (by with_unfolding_all rfl) ?_ | with_reducible refine wp_ixL (by with_unfolding_all rfl) ?_ | with_reducible refine wv (by with_unfolding_all rfl) ?_ | with_reducible refine get (by with_unfolding_all rfl) ?_ | with_reducible refine an (by walk_at "dq") ?_ | with_reducible refine wt (by with_unfolding_all rfl) ?_ | with_reducible refine ite_t ?_ | with_reducible refine ite_f ?_ | with_reducible refine ite_rt (by with_unfolding_all rfl) ?_ | with_reducible refine ite_rf (by with_unfolding_all rfl) ?_ | with_reducible refine wp_isiT (by with_unfolding_all rfl) ?_ | with_reducible refine wp_isiF (by with_unfolding_all rfl) ?_); walk_at "zs"))))
local macro_rules | `(tactic| walk_at "dq") => `(tactic| first | with_unfolding_all rfl | walk_at "r62" | walk_at "sz")
local macro_rules | `(tactic| walk_at "zs") => `(tactic| ((try (first | with_reducible refine i_wp ?_ | with_reducible refine i_ws ?_ | with_reducible refine i_get ?_ | with_reducible refine i_an ?_ | with_reducible refine i_if ?_ | with_reducible refine i_wb ?_ | with_reducible refine i_wt ?_ | with_reducible refine i_sub ?_ | with_reducible refine i_put ?_ | with_reducible refine i_fld ?_ | with_reducible refine i_ins ?_)); (try simp (disch := walk_at "dq") only [↓z_seq, ↓z_next, ↓z_break, ↓z_cont, ↓z_retN, ↓z_ret, ↓z_drop, ↓z_set, ↓z_asg, ↓z_if, ↓z_par, ↓z_par3, ↓z_sub, ↓z_dput, ↓z_fld, ↓z_for, ↓z_v, ↓z_vS, ↓z_v0, ↓z_e0, ↓z_e1, ↓z_e2, ↓z_c, ↓z_bin, ↓z_nil, ↓z_cons, ↓z_b, ↓z_bm, ↓z_call, ↓z_calld, ↓z_wb, ↓z_asB, ↓z_asT, ↓z_wtB, ↓z_wtN, ↓z_wtI, ↓z_wtT0, ↓z_wtT1, ↓z_wtL0, ↓z_wtL1, ↓z_notB, ↓z_andB, ↓z_orB, ↓z_notT, ↓z_andT, ↓z_orT, ↓z_ifE, ↓z_isn, ↓z_notn, ↓z_neg, ↓z_chain, ↓z_yes, ↓z_nopart, ↓z_part, ↓z_sl, ↓z_tup, ↓z_lst, ↓z_mkL, ↓z_mkLn, ↓z_dic0, ↓z_mkD, ↓z_mkDn, ↓z_revL, ↓z_fldE, ↓z_insV, ↓z_get2, ↓z_itS, ↓z_itR1, ↓z_itR2, ↓z_itT, ↓z_itE, ↓z_itZ, ↓z_get, ↓z_int, ↓z_int1, ↓z_int2, ↓z_one1, ↓z_two2, ↓z_str, ↓z_asLl, ↓z_asLr, ↓z_itLl, ↓z_itLt, ↓z_gN, ↓z_gNl, ↓z_gCs, ↓z_gTt, ↓z_gTl, ↓z_an, ↓z_ct, ↓z_cf, ↓z_ty1, ↓z_ty2, ↓z_ty3, ↓z_ty4, ↓z_anT, ↓z_addI, ↓z_addS, ↓z_addT, ↓z_addLL, ↓z_subI, ↓z_mod, ↓z_lt, ↓z_le, ↓z_gt, ↓z_ge, ↓z_eqI, ↓z_neI, ↓z_eqS, ↓z_neS, ↓z_eqB, ↓z_neB, ↓z_inL, ↓z_ninL, ↓z_lenL, ↓z_lenT, ↓z_lenD, ↓z_lenS, ↓z_slS, ↓z_slT, ↓z_slL, ↓z_listL, ↓z_listT, ↓z_listD, ↓z_tupL, ↓z_tupT, ↓z_max, ↓z_min, ↓z_dictD, ↓z_int1B, ↓z_int1I, ↓z_meth0, ↓z_methd, List.set_cons_zero, List.set_cons_succ, q_e0, q_e1, q_e2, ↓z_seen, ↓z_hidden, ↓z_deeds, ↓z_asks, -eq_self, -iff_self]); (try (first | with_reducible refine o_wp ?_ | with_reducible refine o_ws ?_ | with_reducible refine o_get ?_ | with_reducible refine o_an ?_ | with_reducible refine o_if ?_ | with_reducible refine o_wb ?_ | with_reducible refine o_wt ?_ | with_reducible refine o_v ?_ | with_reducible refine o_sub ?_ | with_reducible refine o_put ?_ | with_reducible refine o_fld ?_ | with_reducible refine o_ins ?_))))
local macro_rules | `(tactic| walk_at "w") => `(tactic| (walk_at "zs"; (repeat ((first | with_reducible refine wp_inPQ ?_ | with_reducible refine wp_inMD ?_ | with_reducible refine wp_ninMD ?_ | with_reducible refine wp_inGo ?_ | with_reducible refine wp_ninGo ?_ | with_reducible refine wp_inDM ?_ | with_reducible refine wp_ninDM ?_ | with_reducible refine ite_dt (by assumption) ?_ | with_reducible refine ite_df (by assumption) ?_ | with_reducible refine ite_nt (by assumption) ?_ | with_reducible refine ite_nf (by assumption) ?_ | with_reducible refine ite_rt (by assumption) ?_ | with_reducible refine ite_rf (by assumption) ?_ | with_reducible refine wp_eqTn ?_ | with_reducible refine wp_ixT (by with_unfolding_all rfl) ?_ | with_reducible refine wp_ixL (by with_unfolding_all rfl) ?_ | with_reducible refine wv (by with_unfolding_all rfl) ?_ | with_reducible refine get (by with_unfolding_all rfl) ?_ | with_reducible refine an (by walk_at "dq") ?_ | with_reducible refine wt (by with_unfolding_all rfl) ?_ | with_reducible refine ite_t ?_ | with_reducible refine ite_f ?_ | with_reducible refine ite_rt (by with_unfolding_all rfl) ?_ | with_reducible refine ite_rf (by with_unfolding_all rfl) ?_ | with_reducible refine wp_isiT (by with_unfolding_all rfl) ?_ | with_reducible refine wp_isiF (by with_unfolding_all rfl) ?_); walk_at "zs"))))
/-- what stands in the rows behind j moves -/
def cont (st : List Nat) (f : List (Nat × Option Nat)) (j r : Nat) : List Nat := (((st.zip f).take j).filter fun p => decide (p.2.1 = r)).map (·.1)
end Sh
end Mi
namespace Mi
namespace Sh
open PySem L2 TL
local macro_rules | `(tactic| walk_at "r62") => `(tactic| first | exact r62 (by omega) (by omega) | exact ⟨r62 (by omega) (by omega), r62 (by omega) (by omega)⟩)
local macro_rules | `(tactic| walk_at "sz") => `(tactic| first | omega | (simp only [List.length_cons, List.length_nil, List.length_append, List.length_map, List.length_replicate, List.length_take, List.length_drop, sizeLine] <;> omega) | (unfold sizeLine; omega) | decide)
local macro_rules | `(tactic| walk_at "dq") => `(tactic| first | with_unfolding_all rfl | walk_at "r62" | walk_at "sz")
local macro_rules | `(tactic| walk_at "zs") => `(tactic| ((try (first | with_reducible refine i_wp ?_ | with_reducible refine i_ws ?_ | with_reducible refine i_get ?_ | with_reducible refine i_an ?_ | with_reducible refine i_if ?_ | with_reducible refine i_wb ?_ | with_reducible refine i_wt ?_ | with_reducible refine i_sub ?_ | with_reducible refine i_put ?_ | with_reducible refine i_fld ?_ | with_reducible refine i_ins ?_)); (try simp (disch := walk_at "dq") only [↓z_seq, ↓z_next, ↓z_break, ↓z_cont, ↓z_retN, ↓z_ret, ↓z_drop, ↓z_set, ↓z_asg, ↓z_if, ↓z_par, ↓z_par3, ↓z_sub, ↓z_dput, ↓z_fld, ↓z_for, ↓z_v, ↓z_vS, ↓z_v0, ↓z_e0, ↓z_e1, ↓z_e2, ↓z_c, ↓z_bin, ↓z_nil, ↓z_cons, ↓z_b, ↓z_bm, ↓z_call, ↓z_calld, ↓z_wb, ↓z_asB, ↓z_asT, ↓z_wtB, ↓z_wtN, ↓z_wtI, ↓z_wtT0, ↓z_wtT1, ↓z_wtL0, ↓z_wtL1, ↓z_notB, ↓z_andB, ↓z_orB, ↓z_notT, ↓z_andT, ↓z_orT, ↓z_ifE, ↓z_isn, ↓z_notn, ↓z_neg, ↓z_chain, ↓z_yes, ↓z_nopart, ↓z_part, ↓z_sl, ↓z_tup, ↓z_lst, ↓z_mkL, ↓z_mkLn, ↓z_dic0, ↓z_mkD, ↓z_mkDn, ↓z_revL, ↓z_fldE, ↓z_insV, ↓z_get2, ↓z_itS, ↓z_itR1, ↓z_itR2, ↓z_itT, ↓z_itE, ↓z_itZ, ↓z_get, ↓z_int, ↓z_int1, ↓z_int2, ↓z_one1, ↓z_two2, ↓z_str, ↓z_asLl, ↓z_asLr, ↓z_itLl, ↓z_itLt, ↓z_gN, ↓z_gNl, ↓z_gCs, ↓z_gTt, ↓z_gTl, ↓z_an, ↓z_ct, ↓z_cf, ↓z_ty1, ↓z_ty2, ↓z_ty3, ↓z_ty4, ↓z_anT, ↓z_addI, ↓z_addS, ↓z_addT, ↓z_addLL, ↓z_subI, ↓z_mod, ↓z_lt, ↓z_le, ↓z_gt, ↓z_ge, ↓z_eqI, ↓z_neI, ↓z_eqS, ↓z_neS, ↓z_eqB, ↓z_neB, ↓z_inL, ↓z_ninL, ↓z_lenL, ↓z_lenT, ↓z_lenD, ↓z_lenS, ↓z_slS, ↓z_slT, ↓z_slL, ↓z_listL, ↓z_listT, ↓z_listD, ↓z_tupL, ↓z_tupT, ↓z_max, ↓z_min, ↓z_dictD, ↓z_int1B, ↓z_int1I, ↓z_meth0, ↓z_methd, List.set_cons_zero, List.set_cons_succ, q_e0, q_e1, q_e2, -eq_self, -iff_self]); (try (first | with_reducible refine o_wp ?_ | with_reducible refine o_ws ?_ | with_reducible refine o_get ?_ | with_reducible refine o_an ?_ | with_reducible refine o_if ?_ | with_reducible refine o_wb ?_ | with_reducible refine o_wt ?_ | with_reducible refine o_v ?_ | with_reducible refine o_sub ?_ | with_reducible refine o_put ?_ | with_reducible refine o_fld ?_ | with_reducible refine o_ins ?_))))
local macro_rules | `(tactic| walk_at "w") => `(tactic| (walk_at "zs"; (repeat ((first | with_reducible refine wp_ixT (by with_unfolding_all rfl) ?_ | with_reducible refine wp_ixL (by with_unfolding_all rfl) ?_ | with_reducible refine wv (by with_unfolding_all rfl) ?_ | with_reducible refine get (by with_unfolding_all rfl) ?_ | with_reducible refine an (by walk_at "dq") ?_ | with_reducible refine wt (by with_unfolding_all rfl) ?_ | with_reducible refine ite_t ?_ | with_reducible refine ite_f ?_ | with_reducible refine ite_rt (by with_unfolding_all rfl) ?_ | with_reducible refine ite_rf (by with_unfolding_all rfl) ?_ | with_reducible refine wp_isiT (by with_unfolding_all rfl) ?_ | with_reducible refine wp_isiF (by with_unfolding_all rfl) ?_); walk_at "zs"))))
local macro_rules | `(tactic| walk_at "dq") => `(tactic| first | with_unfolding_all rfl | walk_at "r62" | walk_at "sz")
local macro_rules | `(tactic| walk_at "zs") => `(tactic| ((try (first | with_reducible refine i_wp ?_ | with_reducible refine i_ws ?_ | with_reducible refine i_get ?_ | with_reducible refine i_an ?_ | with_reducible refine i_if ?_ | with_reducible refine i_wb ?_ | with_reducible refine i_wt ?_ | with_reducible refine i_sub ?_ | with_reducible refine i_put ?_ | with_reducible refine i_fld ?_ | with_reducible refine i_ins ?_)); (try simp (disch := walk_at "dq") only [↓z_seq, ↓z_next, ↓z_break, ↓z_cont, ↓z_retN, ↓z_ret, ↓z_drop, ↓z_set, ↓z_asg, ↓z_if, ↓z_par, ↓z_par3, ↓z_sub, ↓z_dput, ↓z_fld, ↓z_for, ↓z_v, ↓z_vS, ↓z_v0, ↓z_e0, ↓z_e1, ↓z_e2, ↓z_c, ↓z_bin, ↓z_nil, ↓z_cons, ↓z_b, ↓z_bm, ↓z_call, ↓z_calld, ↓z_wb, ↓z_asB, ↓z_asT, ↓z_wtB, ↓z_wtN, ↓z_wtI, ↓z_wtT0, ↓z_wtT1, ↓z_wtL0, ↓z_wtL1, ↓z_notB, ↓z_andB, ↓z_orB, ↓z_notT, ↓z_andT, ↓z_orT, ↓z_ifE, ↓z_isn, ↓z_notn, ↓z_neg, ↓z_chain, ↓z_yes, ↓z_nopart, ↓z_part, ↓z_sl, ↓z_tup, ↓z_lst, ↓z_mkL, ↓z_mkLn, ↓z_dic0, ↓z_mkD, ↓z_mkDn, ↓z_revL, ↓z_fldE, ↓z_insV, ↓z_get2, ↓z_itS, ↓z_itR1, ↓z_itR2, ↓z_itT, ↓z_itE, ↓z_itZ, ↓z_get, ↓z_int, ↓z_int1, ↓z_int2, ↓z_one1, ↓z_two2, ↓z_str, ↓z_asLl, ↓z_asLr, ↓z_itLl, ↓z_itLt, ↓z_gN, ↓z_gNl, ↓z_gCs, ↓z_gTt, ↓z_gTl, ↓z_an, ↓z_ct, ↓z_cf, ↓z_ty1, ↓z_ty2, ↓z_ty3, ↓z_ty4, ↓z_anT, ↓z_addI, ↓z_addS, ↓z_addT, ↓z_addLL, ↓z_subI, ↓z_mod, ↓z_lt, ↓z_le, ↓z_gt, ↓z_ge, ↓z_eqI, ↓z_neI, ↓z_eqS, ↓z_neS, ↓z_eqB, ↓z_neB, ↓z_inL, ↓z_ninL, ↓z_lenL, ↓z_lenT, ↓z_lenD, ↓z_lenS, ↓z_slS, ↓z_slT, ↓z_slL, ↓z_listL, ↓z_listT, ↓z_listD, ↓z_tupL, ↓z_tupT, ↓z_max, ↓z_min, ↓z_dictD, ↓z_int1B, ↓z_int1I, ↓z_meth0, ↓z_methd, List.set_cons_zero, List.set_cons_succ, q_e0, q_e1, q_e2, ↓z_seen, ↓z_hidden, ↓z_deeds, ↓z_asks, -eq_self, -iff_self]); (try (first | with_reducible refine o_wp ?_ | with_reducible refine o_ws ?_ | with_reducible refine o_get ?_ | with_reducible refine o_an ?_ | with_reducible refine o_if ?_ | with_reducible refine o_wb ?_ | with_reducible refine o_wt ?_ | with_reducible refine o_v ?_ | with_reducible refine o_sub ?_ | with_reducible refine o_put ?_ | with_reducible refine o_fld ?_ | with_reducible refine o_ins ?_))))
local macro_rules | `(tactic| walk_at "w") => `(tactic| (walk_at "zs"; (repeat ((first | with_reducible refine wp_inPQ ?_ | with_reducible refine wp_inMD ?_ | with_reducible refine wp_ninMD ?_ | with_reducible refine wp_inGo ?_ | with_reducible refine wp_ninGo ?_ | with_reducible refine wp_inDM ?_ | with_reducible refine wp_ninDM ?_ | with_reducible refine ite_dt (by assumption) ?_ | with_reducible refine ite_df (by assumption) ?_ | with_reducible refine ite_nt (by assumption) ?_ | with_reducible refine ite_nf (by assumption) ?_ | with_reducible refine ite_rt (by assumption) ?_ | with_reducible refine ite_rf (by assumption) ?_ | with_reducible refine wp_eqTn ?_ | with_reducible refine wp_ixT (by with_unfolding_all rfl) ?_ | with_reducible refine wp_ixL (by with_unfolding_all rfl) ?_ | with_reducible refine wv (by with_unfolding_all rfl) ?_ | with_reducible refine get (by with_unfolding_all rfl) ?_ | with_reducible refine an (by walk_at "dq") ?_ | with_reducible refine wt (by with_unfolding_all rfl) ?_ | with_reducible refine ite_t ?_ | with_reducible refine ite_f ?_ | with_reducible refine ite_rt (by with_unfolding_all rfl) ?_ | with_reducible refine ite_rf (by with_unfolding_all rfl) ?_ | with_reducible refine wp_isiT (by with_unfolding_all rfl) ?_ | with_reducible refine wp_isiF (by with_unfolding_all rfl) ?_); walk_at "zs"))))
end Sh
end Mi
namespace Mi
namespace Sh
open PySem L2 TL
local macro_rules | `(tactic| walk_at "r62") => `(tactic| first | exact r62 (by omega) (by omega) | exact ⟨r62 (by omega) (by omega), r62 (by omega) (by omega)⟩)
local macro_rules | `(tactic| walk_at "sz") => `(tactic| first | omega | (simp only [List.length_cons, List.length_nil, List.length_append, List.length_map, List.length_replicate, List.length_take, List.length_drop, sizeLine] <;> omega) | (unfold sizeLine; omega) | decide)
local macro_rules | `(tactic| walk_at "dq") => `(tactic| first | with_unfolding_all rfl | walk_at "r62" | walk_at "sz")
local macro_rules | `(tactic| walk_at "zs") => `(tactic| ((try (first | with_reducible refine i_wp ?_ | with_reducible refine i_ws ?_ | with_reducible refine i_get ?_ | with_reducible refine i_an ?_ | with_reducible refine i_if ?_ | with_reducible refine i_wb ?_ | with_reducible refine i_wt ?_ | with_reducible refine i_sub ?_ | with_reducible refine i_put ?_ | with_reducible refine i_fld ?_ | with_reducible refine i_ins ?_)); (try simp (disch := walk_at "dq") only [↓z_seq, ↓z_next, ↓z_break, ↓z_cont, ↓z_retN, ↓z_ret, ↓z_drop, ↓z_set, ↓z_asg, ↓z_if, ↓z_par, ↓z_par3, ↓z_sub, ↓z_dput, ↓z_fld, ↓z_for, ↓z_v, ↓z_vS, ↓z_v0, ↓z_e0, ↓z_e1, ↓z_e2, ↓z_c, ↓z_bin, ↓z_nil, ↓z_cons, ↓z_b, ↓z_bm, ↓z_call, ↓z_calld, ↓z_wb, ↓z_asB, ↓z_asT, ↓z_wtB, ↓z_wtN, ↓z_wtI, ↓z_wtT0, ↓z_wtT1, ↓z_wtL0, ↓z_wtL1, ↓z_notB, ↓z_andB, ↓z_orB, ↓z_notT, ↓z_andT, ↓z_orT, ↓z_ifE, ↓z_isn, ↓z_notn, ↓z_neg, ↓z_chain, ↓z_yes, ↓z_nopart, ↓z_part, ↓z_sl, ↓z_tup, ↓z_lst, ↓z_mkL, ↓z_mkLn, ↓z_dic0, ↓z_mkD, ↓z_mkDn, ↓z_revL, ↓z_fldE, ↓z_insV, ↓z_get2, ↓z_itS, ↓z_itR1, ↓z_itR2, ↓z_itT, ↓z_itE, ↓z_itZ, ↓z_get, ↓z_int, ↓z_int1, ↓z_int2, ↓z_one1, ↓z_two2, ↓z_str, ↓z_asLl, ↓z_asLr, ↓z_itLl, ↓z_itLt, ↓z_gN, ↓z_gNl, ↓z_gCs, ↓z_gTt, ↓z_gTl, ↓z_an, ↓z_ct, ↓z_cf, ↓z_ty1, ↓z_ty2, ↓z_ty3, ↓z_ty4, ↓z_anT, ↓z_addI, ↓z_addS, ↓z_addT, ↓z_addLL, ↓z_subI, ↓z_mod, ↓z_lt, ↓z_le, ↓z_gt, ↓z_ge, ↓z_eqI, ↓z_neI, ↓z_eqS, ↓z_neS, ↓z_eqB, ↓z_neB, ↓z_inL, ↓z_ninL, ↓z_lenL, ↓z_lenT, ↓z_lenD, ↓z_lenS, ↓z_slS, ↓z_slT, ↓z_slL, ↓z_listL, ↓z_listT, ↓z_listD, ↓z_tupL, ↓z_tupT, ↓z_max, ↓z_min, ↓z_dictD, ↓z_int1B, ↓z_int1I, ↓z_meth0, ↓z_methd, List.set_cons_zero, List.set_cons_succ, q_e0, q_e1, q_e2, -eq_self, -iff_self]); (try (first | with_reducible refine o_wp ?_ | with_reducible refine o_ws ?_ | with_reducible refine o_get ?_ | with_reducible refine o_an ?_ | with_reducible refine o_if ?_ | with_reducible refine o_wb ?_ | with_reducible refine o_wt ?_ | with_reducible refine o_v ?_ | with_reducible refine o_sub ?_ | with_reducible refine o_put ?_ | with_reducible refine o_fld ?_ | with_reducible refine o_ins ?_))))
local macro_rules | `(tactic| walk_at "w") => `(tactic| (walk_at "zs"; (repeat ((first | with_reducible refine wp_ixT (by with_unfolding_all rfl) ?_ | with_reducible refine wp_ixL (by with_unfolding_all rfl) ?_ | with_reducible refine wv (by with_unfolding_all rfl) ?_ | with_reducible refine get (by with_unfolding_all rfl) ?_ | with_reducible refine an (by walk_at "dq") ?_ | with_reducible refine wt (by with_unfolding_all rfl) ?_ | with_reducible refine ite_t ?_ | with_reducible refine ite_f ?_ | with_reducible refine ite_rt (by with_unfolding_all rfl) ?_ | with_reducible refine ite_rf (by with_unfolding_all rfl) ?_ | with_reducible refine wp_isiT (by with_unfolding_all rfl) ?_ | with_reducible refine wp_isiF (by with_unfolding_all rfl) ?_); walk_at "zs"))))
local macro_rules | `(tactic| walk_at "dq") => `(tactic| first | with_unfolding_all rfl | walk_at "r62" | walk_at "sz")
local macro_rules | `(tactic| walk_at "zs") => `(tactic| ((try (first | with_reducible refine i_wp ?_ | with_reducible refine i_ws ?_ | with_reducible refine i_get ?_ | with_reducible refine i_an ?_ | with_reducible refine i_if ?_ | with_reducible refine i_wb ?_ | with_reducible refine i_wt ?_ | with_reducible refine i_sub ?_ | with_reducible refine i_put ?_ | with_reducible refine i_fld ?_ | with_reducible refine i_ins ?_)); (try simp (disch := walk_at "dq") only [↓z_seq, ↓z_next, ↓z_break, ↓z_cont, ↓z_retN, ↓z_ret, ↓z_drop, ↓z_set, ↓z_asg, ↓z_if, ↓z_par, ↓z_par3, ↓z_sub, ↓z_dput, ↓z_fld, ↓z_for, ↓z_v, ↓z_vS, ↓z_v0, ↓z_e0, ↓z_e1, ↓z_e2, ↓z_c, ↓z_bin, ↓z_nil, ↓z_cons, ↓z_b, ↓z_bm, ↓z_call, ↓z_calld, ↓z_wb, ↓z_asB, ↓z_asT, ↓z_wtB, ↓z_wtN, ↓z_wtI, ↓z_wtT0, ↓z_wtT1, ↓z_wtL0, ↓z_wtL1, ↓z_notB, ↓z_andB, ↓z_orB, ↓z_notT, ↓z_andT, ↓z_orT, ↓z_ifE, ↓z_isn, ↓z_notn, ↓z_neg, ↓z_chain, ↓z_yes, ↓z_nopart, ↓z_part, ↓z_sl, ↓z_tup, ↓z_lst, ↓z_mkL, ↓z_mkLn, ↓z_dic0, ↓z_mkD, ↓z_mkDn, ↓z_revL, ↓z_fldE, ↓z_insV, ↓z_get2, ↓z_itS, ↓z_itR1, ↓z_itR2, ↓z_itT, ↓z_itE, ↓z_itZ, ↓z_get, ↓z_int, ↓z_int1, ↓z_int2, ↓z_one1, ↓z_two2, ↓z_str, ↓z_asLl, ↓z_asLr, ↓z_itLl, ↓z_itLt, ↓z_gN, ↓z_gNl, ↓z_gCs, ↓z_gTt, ↓z_gTl, ↓z_an, ↓z_ct, ↓z_cf, ↓z_ty1, ↓z_ty2, ↓z_ty3, ↓z_ty4, ↓z_anT, ↓z_addI, ↓z_addS, ↓z_addT, ↓z_addLL, ↓z_subI, ↓z_mod, ↓z_lt, ↓z_le, ↓z_gt, ↓z_ge, ↓z_eqI, ↓z_neI, ↓z_eqS, ↓z_neS, ↓z_eqB, ↓z_neB, ↓z_inL, ↓z_ninL, ↓z_lenL, ↓z_lenT, ↓z_lenD, ↓z_lenS, ↓z_slS, ↓z_slT, ↓z_slL, ↓z_listL, ↓z_listT, ↓z_listD, ↓z_tupL, ↓z_tupT, ↓z_max, ↓z_min, ↓z_dictD, ↓z_int1B, ↓z_int1I, ↓z_meth0, ↓z_methd, List.set_cons_zero, List.set_cons_succ, q_e0, q_e1, q_e2, ↓z_seen, ↓z_hidden, ↓z_deeds, ↓z_asks, -eq_self, -iff_self]); (try (first | with_reducible refine o_wp ?_ | with_reducible refine o_ws ?_ | with_reducible refine o_get ?_ | with_reducible refine o_an ?_ | with_reducible refine o_if ?_ | with_reducible refine o_wb ?_ | with_reducible refine o_wt ?_ | with_reducible refine o_v ?_ | with_reducible refine o_sub ?_ | with_reducible refine o_put ?_ | with_reducible refine o_fld ?_ | with_reducible refine o_ins ?_))))
local macro_rules | `(tactic| walk_at "w") => `(tactic| (walk_at "zs"; (repeat ((first | with_reducible refine wp_inPQ ?_ | with_reducible refine wp_inMD ?_ | with_reducible refine wp_ninMD ?_ | with_reducible refine wp_inGo ?_ | with_reducible refine wp_ninGo ?_ | with_reducible refine wp_inDM ?_ | with_reducible refine wp_ninDM ?_ | with_reducible refine ite_dt (by assumption) ?_ | with_reducible refine ite_df (by assumption) ?_ | with_reducible refine ite_nt (by assumption) ?_ | with_reducible refine ite_nf (by assumption) ?_ | with_reducible refine ite_rt (by assumption) ?_ | with_reducible refine ite_rf (by assumption) ?_ | with_reducible refine wp_eqTn ?_ | with_reducible refine wp_ixT (by with_unfolding_all rfl) ?_ | with_reducible refine wp_ixL (by with_unfolding_all rfl) ?_ | with_reducible refine wv (by with_unfolding_all rfl) ?_ | with_reducible refine get (by with_unfolding_all rfl) ?_ | with_reducible refine an (by walk_at "dq") ?_ | with_reducible refine wt (by with_unfolding_all rfl) ?_ | with_reducible refine ite_t ?_ | with_reducible refine ite_f ?_ | with_reducible refine ite_rt (by with_unfolding_all rfl) ?_ | with_reducible refine ite_rf (by with_unfolding_all rfl) ?_ | with_reducible refine wp_isiT (by with_unfolding_all rfl) ?_ | with_reducible refine wp_isiF (by with_unfolding_all rfl) ?_); walk_at "zs"))))
end Sh
end Mi
namespace Mi
namespace Sh
open PySem L2 TL
local macro_rules | `(tactic| walk_at "r62") => `(tactic| first | exact r62 (by omega) (by omega) | exact ⟨r62 (by omega) (by omega), r62 (by omega) (by omega)⟩)
local macro_rules | `(tactic| walk_at "sz") => `(tactic| first | omega | (simp only [List.length_cons, List.length_nil, List.length_append, List.length_map, List.length_replicate, List.length_take, List.length_drop, sizeLine] <;> omega) | (unfold sizeLine; omega) | decide)
local macro_rules | `(tactic| walk_at "dq") => `(tactic| first | with_unfolding_all rfl | walk_at "r62" | walk_at "sz")
local macro_rules | `(tactic| walk_at "zs") => `(tactic| ((try (first | with_reducible refine i_wp ?_ | with_reducible refine i_ws ?_ | with_reducible refine i_get ?_ | with_reducible refine i_an ?_ | with_reducible refine i_if ?_ | with_reducible refine i_wb ?_ | with_reducible refine i_wt ?_ | with_reducible refine i_sub ?_ | with_reducible refine i_put ?_ | with_reducible refine i_fld ?_ | with_reducible refine i_ins ?_)); (try simp (disch := walk_at "dq") only [↓z_seq, ↓z_next, ↓z_break, ↓z_cont, ↓z_retN, ↓z_ret, ↓z_drop, ↓z_set, ↓z_asg, ↓z_if, ↓z_par, ↓z_par3, ↓z_sub, ↓z_dput, ↓z_fld, ↓z_for, ↓z_v, ↓z_vS, ↓z_v0, ↓z_e0, ↓z_e1, ↓z_e2, ↓z_c, ↓z_bin, ↓z_nil, ↓z_cons, ↓z_b, ↓z_bm, ↓z_call, ↓z_calld, ↓z_wb, ↓z_asB, ↓z_asT, ↓z_wtB, ↓z_wtN, ↓z_wtI, ↓z_wtT0, ↓z_wtT1, ↓z_wtL0, ↓z_wtL1, ↓z_notB, ↓z_andB, ↓z_orB, ↓z_notT, ↓z_andT, ↓z_orT, ↓z_ifE, ↓z_isn, ↓z_notn, ↓z_neg, ↓z_chain, ↓z_yes, ↓z_nopart, ↓z_part, ↓z_sl, ↓z_tup, ↓z_lst, ↓z_mkL, ↓z_mkLn, ↓z_dic0, ↓z_mkD, ↓z_mkDn, ↓z_revL, ↓z_fldE, ↓z_insV, ↓z_get2, ↓z_itS, ↓z_itR1, ↓z_itR2, ↓z_itT, ↓z_itE, ↓z_itZ, ↓z_get, ↓z_int, ↓z_int1, ↓z_int2, ↓z_one1, ↓z_two2, ↓z_str, ↓z_asLl, ↓z_asLr, ↓z_itLl, ↓z_itLt, ↓z_gN, ↓z_gNl, ↓z_gCs, ↓z_gTt, ↓z_gTl, ↓z_an, ↓z_ct, ↓z_cf, ↓z_ty1, ↓z_ty2, ↓z_ty3, ↓z_ty4, ↓z_anT, ↓z_addI, ↓z_addS, ↓z_addT, ↓z_addLL, ↓z_subI, ↓z_mod, ↓z_lt, ↓z_le, ↓z_gt, ↓z_ge, ↓z_eqI, ↓z_neI, ↓z_eqS, ↓z_neS, ↓z_eqB, ↓z_neB, ↓z_inL, ↓z_ninL, ↓z_lenL, ↓z_lenT, ↓z_lenD, ↓z_lenS, ↓z_slS, ↓z_slT, ↓z_slL, ↓z_listL, ↓z_listT, ↓z_listD, ↓z_tupL, ↓z_tupT, ↓z_max, ↓z_min, ↓z_dictD, ↓z_int1B, ↓z_int1I, ↓z_meth0, ↓z_methd, List.set_cons_zero, List.set_cons_succ, q_e0, q_e1, q_e2, -eq_self, -iff_self]); (try (first | with_reducible refine o_wp ?_ | with_reducible refine o_ws ?_ | with_reducible refine o_get ?_ | with_reducible refine o_an ?_ | with_reducible refine o_if ?_ | with_reducible refine o_wb ?_ | with_reducible refine o_wt ?_ | with_reducible refine o_v ?_ | with_reducible refine o_sub ?_ | with_reducible refine o_put ?_ | with_reducible refine o_fld ?_ | with_reducible refine o_ins ?_))))
local macro_rules | `(tactic| walk_at "w") => `(tactic| (walk_at "zs"; (repeat ((first | with_reducible refine wp_ixT (by with_unfolding_all rfl) ?_ | with_reducible refine wp_ixL (by with_unfolding_all rfl) ?_ | with_reducible refine wv (by with_unfolding_all rfl) ?_ | with_reducible refine get (by with_unfolding_all rfl) ?_ | with_reducible refine an (by walk_at "dq") ?_ | with_reducible refine wt (by with_unfolding_all rfl) ?_ | with_reducible refine ite_t ?_ | with_reducible refine ite_f ?_ | with_reducible refine ite_rt (by with_unfolding_all rfl) ?_ | with_reducible refine ite_rf (by with_unfolding_all rfl) ?_ | with_reducible refine wp_isiT (by with_unfolding_all rfl) ?_ | with_reducible refine wp_isiF (by with_unfolding_all rfl) ?_); walk_at "zs"))))
local macro_rules | `(tactic| walk_at "dq") => `(tactic| first | with_unfolding_all rfl | walk_at "r62" | walk_at "sz")
local macro_rules | `(tactic| walk_at "zs") => `(tactic| ((try (first | with_reducible refine i_wp ?_ | with_reducible refine i_ws ?_ | with_reducible refine i_get ?_ | with_reducible refine i_an ?_ | with_reducible refine i_if ?_ | with_reducible refine i_wb ?_ | with_reducible refine i_wt ?_ | with_reducible refine i_sub ?_ | with_reducible refine i_put ?_ | with_reducible refine i_fld ?_ | with_reducible refine i_ins ?_)); (try simp (disch := walk_at "dq") only [↓z_seq, ↓z_next, ↓z_break, ↓z_cont, ↓z_retN, ↓z_ret, ↓z_drop, ↓z_set, ↓z_asg, ↓z_if, ↓z_par, ↓z_par3, ↓z_sub, ↓z_dput, ↓z_fld, ↓z_for, ↓z_v, ↓z_vS, ↓z_v0, ↓z_e0, ↓z_e1, ↓z_e2, ↓z_c, ↓z_bin, ↓z_nil, ↓z_cons, ↓z_b, ↓z_bm, ↓z_call, ↓z_calld, ↓z_wb, ↓z_asB, ↓z_asT, ↓z_wtB, ↓z_wtN, ↓z_wtI, ↓z_wtT0, ↓z_wtT1, ↓z_wtL0, ↓z_wtL1, ↓z_notB, ↓z_andB, ↓z_orB, ↓z_notT, ↓z_andT, ↓z_orT, ↓z_ifE, ↓z_isn, ↓z_notn, ↓z_neg, ↓z_chain, ↓z_yes, ↓z_nopart, ↓z_part, ↓z_sl, ↓z_tup, ↓z_lst, ↓z_mkL, ↓z_mkLn, ↓z_dic0, ↓z_mkD, ↓z_mkDn, ↓z_revL, ↓z_fldE, ↓z_insV, ↓z_get2, ↓z_itS, ↓z_itR1, ↓z_itR2, ↓z_itT, ↓z_itE, ↓z_itZ, ↓z_get, ↓z_int, ↓z_int1, ↓z_int2, ↓z_one1, ↓z_two2, ↓z_str, ↓z_asLl, ↓z_asLr, ↓z_itLl, ↓z_itLt, ↓z_gN, ↓z_gNl, ↓z_gCs, ↓z_gTt, ↓z_gTl, ↓z_an, ↓z_ct, ↓z_cf, ↓z_ty1, ↓z_ty2, ↓z_ty3, ↓z_ty4, ↓z_anT, ↓z_addI, ↓z_addS, ↓z_addT, ↓z_addLL, ↓z_subI, ↓z_mod, ↓z_lt, ↓z_le, ↓z_gt, ↓z_ge, ↓z_eqI, ↓z_neI, ↓z_eqS, ↓z_neS, ↓z_eqB, ↓z_neB, ↓z_inL, ↓z_ninL, ↓z_lenL, ↓z_lenT, ↓z_lenD, ↓z_lenS, ↓z_slS, ↓z_slT, ↓z_slL, ↓z_listL, ↓z_listT, ↓z_listD, ↓z_tupL, ↓z_tupT, ↓z_max, ↓z_min, ↓z_dictD, ↓z_int1B, ↓z_int1I, ↓z_meth0, ↓z_methd, List.set_cons_zero, List.set_cons_succ, q_e0, q_e1, q_e2, ↓z_seen, ↓z_hidden, ↓z_deeds, ↓z_asks, -eq_self, -iff_self]); (try (first | with_reducible refine o_wp ?_ | with_reducible refine o_ws ?_ | with_reducible refine o_get ?_ | with_reducible refine o_an ?_ | with_reducible refine o_if ?_ | with_reducible refine o_wb ?_ | with_reducible refine o_wt ?_ | with_reducible refine o_v ?_ | with_reducible refine o_sub ?_ | with_reducible refine o_put ?_ | with_reducible refine o_fld ?_ | with_reducible refine o_ins ?_))))
local macro_rules | `(tactic| walk_at "w") => `(tactic| (walk_at "zs"; (repeat ((first | with_reducible refine wp_inPQ ?_ | with_reducible refine wp_inMD ?_ | with_reducible refine wp_ninMD ?_ | with_reducible refine wp_inGo ?_ | with_reducible refine wp_ninGo ?_ | with_reducible refine wp_inDM ?_ | with_reducible refine wp_ninDM ?_ | with_reducible refine ite_dt (by assumption) ?_ | with_reducible refine ite_df (by assumption) ?_ | with_reducible refine ite_nt (by assumption) ?_ | with_reducible refine ite_nf (by assumption) ?_ | with_reducible refine ite_rt (by assumption) ?_ | with_reducible refine ite_rf (by assumption) ?_ | with_reducible refine wp_eqTn ?_ | with_reducible refine wp_ixT (by with_unfolding_all rfl) ?_ | with_reducible refine wp_ixL (by with_unfolding_all rfl) ?_ | with_reducible refine wv (by with_unfolding_all rfl) ?_ | with_reducible refine get (by with_unfolding_all rfl) ?_ | with_reducible refine an (by walk_at "dq") ?_ | with_reducible refine wt (by with_unfolding_all rfl) ?_ | with_reducible refine ite_t ?_ | with_reducible refine ite_f ?_ | with_reducible refine ite_rt (by with_unfolding_all rfl) ?_ | with_reducible refine ite_rf (by with_unfolding_all rfl) ?_ | with_reducible refine wp_isiT (by with_unfolding_all rfl) ?_ | with_reducible refine wp_isiF (by with_unfolding_all rfl) ?_); walk_at "zs"))))
end Sh
end Mi
namespace Mi
open PySem L2
mutual
def Nf : MV → Prop
  | .fn g => g ≠ 99
  | .tup xs => Nfs xs
  | .lst xs => Nfs xs
  | .rol xs => Nfs xs
  | .dic kvs => Nfk kvs
  | .ins _ fs => Nff fs
  | .clo _ cs => Nfs cs
  | _ => True
def Nfs : List MV → Prop
  | [] => True
  | x :: r => Nf x ∧ Nfs r
def Nfk : List (MV × MV) → Prop
  | [] => True
  | p :: r => Nfp p ∧ Nfk r
def Nfp : MV × MV → Prop
  | (_, x) => Nf x
def Nff : List (Str × MV) → Prop
  | [] => True
  | p :: r => Nfg p ∧ Nff r
def Nfg : Str × MV → Prop
  | (_, x) => Nf x
end
def NfO : MO → Prop
  | .lst xs => Nfs xs
  | .dic kvs => Nfk kvs
  | .ins _ fs => Nff fs
  | .td kvs => Nfk kvs
  | .tb _ => True
theorem nkat_nf {x : MV} {k : Key} (h : nkat x = some k) : Nf x := by
  cases x <;> first | (simp only [Nf]; done) | cases h
theorem nkats_nf : ∀ {xs : List MV} {ks : List Key}, optM nkat xs = some ks → Nfs xs
  | [], _, _ => by simp only [Nfs]
  | x :: r, ks, h => by
    simp only [optM] at h
    split at h
    · rename_i y ys e1 e2
      simp only [Nfs]
      exact ⟨nkat_nf e1, nkats_nf e2⟩
    · cases h
theorem nkit_nf {x : MV} {k : KI} (h : nkit x = some k) : Nf x := by
  cases x with
  | int i => simp only [Nf]
  | str s => simp only [Nf]
  | tup xs =>
    simp only [nkit, Option.map_eq_some_iff] at h
    obtain ⟨ks, e, _⟩ := h
    simp only [Nf]; exact nkats_nf e
  | _ => cases h
theorem nkits_nf : ∀ {xs : List MV} {ks : NK}, optM nkit xs = some ks → Nfs xs
  | [], _, _ => by simp only [Nfs]
  | x :: r, ks, h => by
    simp only [optM] at h
    split at h
    · rename_i y ys e1 e2
      simp only [Nfs]
      exact ⟨nkit_nf e1, nkits_nf e2⟩
    · cases h
theorem nkey_nf {x : MV} {k : NK} (h : nkey x = some k) : Nf x := by
  cases x with
  | tup xs => simp only [nkey] at h; simp only [Nf]; exact nkits_nf h
  | _ => cases h
section
variable {C C2 : Ct} {ι : Io} {H : Hp}
mutual
theorem VR.nf (h0 : C.fA 99 = none) : ∀ (x : MV) (v : V), VR C ι H x v → Nf x
  | .non, v, h => by simp only [Nf]
  | .bl _, v, h => by simp only [Nf]
  | .int _, v, h => by simp only [Nf]
  | .str _, v, h => by simp only [Nf]
  | .ty _, v, h => by simp only [Nf]
  | .ref _, v, h => by simp only [Nf]
  | .clo g cs, v, h => by
    simp only [VR] at h; simp only [Nf]
    obtain ⟨f, c, cl, vs, h1, h2, h3, h4, h5, h6, h7⟩ := h
    exact VRs.nf h0 cs vs h7
  | .fn g, v, h => by
    simp only [VR] at h; simp only [Nf]
    obtain ⟨a, e, _⟩ := h
    intro z; rw [z, h0] at e; cases e
  | .tup xs, v, h => by
    simp only [VR] at h; simp only [Nf]
    obtain ⟨a, vs, h1, h2, h3⟩ := h
    exact VRs.nf h0 xs vs h3
  | .lst xs, v, h => by
    simp only [VR] at h; simp only [Nf]
    obtain ⟨a, vs, h1, h2, h3, h4⟩ := h
    exact VRs.nf h0 xs vs h4
  | .rol xs, v, h => by
    simp only [VR] at h; simp only [Nf]
    obtain ⟨a, vs, h1, h2, h3⟩ := h
    exact VRs.nf h0 xs vs h3
  | .dic kvs, v, h => by
    simp only [VR] at h; simp only [Nf]
    obtain ⟨a, vs, h1, h2, h3, h4⟩ := h
    exact KRs.nf h0 kvs vs h4
  | .ins c fs, v, h => by
    simp only [VR] at h; simp only [Nf]
    obtain ⟨a, dx, fx, h1, h2, h3, h4⟩ := h
    exact FRs.nf h0 fs fx h4
theorem VRs.nf (h0 : C.fA 99 = none) : ∀ (x : List MV) (v : List V), VRs C ι H x v → Nfs x
  | [], v, h => by simp only [Nfs]
  | x :: r, v, h => by
    simp only [VRs] at h; simp only [Nfs]
    obtain ⟨u, w, h1, h2, h3⟩ := h
    exact ⟨VR.nf h0 x u h2, VRs.nf h0 r w h3⟩
theorem KRs.nf (h0 : C.fA 99 = none) : ∀ (x : List (MV × MV)) (v : List (Key × V)), KRs C ι H x v → Nfk x
  | [], v, h => by simp only [Nfk]
  | x :: r, v, h => by
    simp only [KRs] at h; simp only [Nfk]
    obtain ⟨u, w, h1, h2, h3⟩ := h
    exact ⟨KR.nf h0 x u h2, KRs.nf h0 r w h3⟩
theorem KR.nf (h0 : C.fA 99 = none) : ∀ (x : MV × MV) (v : Key × V), KR C ι H x v → Nfp x
  | (k, x), v, h => by
    simp only [KR] at h; simp only [Nfp]
    exact VR.nf h0 x v.2 h.2
theorem FRs.nf (h0 : C.fA 99 = none) : ∀ (x : List (Str × MV)) (v : List (Str × V)), FRs C ι H x v → Nff x
  | [], v, h => by simp only [Nff]
  | x :: r, v, h => by
    simp only [FRs] at h; simp only [Nff]
    obtain ⟨u, w, h1, h2, h3⟩ := h
    exact ⟨FR.nf h0 x u h2, FRs.nf h0 r w h3⟩
theorem FR.nf (h0 : C.fA 99 = none) : ∀ (x : Str × MV) (v : Str × V), FR C ι H x v → Nfg x
  | (k, x), v, h => by
    simp only [FR] at h; simp only [Nfg]
    exact VR.nf h0 x v.2 h.2
end
theorem TRs.nf (h0 : C.fA 99 = none) : ∀ (x : List (MV × MV)) (v : List (NK × Addr × V)), TRs C ι H x v → Nfk x
  | [], v, h => by simp only [Nfk]
  | x :: r, v, h => by
    obtain ⟨u, w, h1, h2, h3⟩ := h
    obtain ⟨k, x⟩ := x
    simp only [Nfk, Nfp]
    exact ⟨VR.nf h0 x _ h2.2.2, TRs.nf h0 r w h3⟩
theorem OR.nf (h0 : C.fA 99 = none) {a : Addr} {o : MO} (h : OR C ι H a o) : NfO o := by
  cases o with
  | lst xs => obtain ⟨vs, _, q⟩ := h; exact VRs.nf h0 _ _ q
  | dic xs => obtain ⟨vs, _, q⟩ := h; exact KRs.nf h0 _ _ q
  | ins c xs => obtain ⟨dx, vs, _, q⟩ := h; exact FRs.nf h0 _ _ q
  | td xs => obtain ⟨vs, _, q⟩ := h; exact TRs.nf h0 _ _ q
  | tb t => exact True.intro
/-- two contexts that part at the mark alone -/
structure Tw (C C2 : Ct) : Prop where
  hK : C.K = C2.K
  hA : C.cA = C2.cA
  hf : ∀ g a, g ≠ 99 → C.fA g = some a → C2.fA g = some a
  hw : C.w = C2.w
  hn : C.nd = C2.nd
  ht : C.tn = C2.tn
theorem FT.chg (t : Tw C C2) {a : Addr} {vs : List V} (h : FT C ι H a vs) : FT C2 ι H a vs := by
  rcases h with h | h
  · exact .inl h
  · exact .inr (by rw [← t.hK]; exact h)
theorem FL.chg (t : Tw C C2) {a : Addr} {vs : List V} (h : FL C ι H a vs) : FL C2 ι H a vs := by
  rcases h with h | h
  · exact .inl h
  · exact .inr (by rw [← t.hK]; exact h)
mutual
theorem VR.chg (t : Tw C C2) : ∀ (x : MV) (v : V), Nf x → VR C ι H x v → VR C2 ι H x v
  | .non, v, n, h => by simpa only [VR] using h
  | .bl _, v, n, h => by simpa only [VR] using h
  | .int _, v, n, h => by simpa only [VR] using h
  | .str _, v, n, h => by simpa only [VR] using h
  | .ty _, v, n, h => by simpa only [VR] using h
  | .ref _, v, n, h => by simpa only [VR] using h
  | .clo g cs, v, n, h => by
    simp only [VR] at h ⊢
    simp only [Nf] at n
    obtain ⟨f, c, cl, vs, h1, h2, h3, h4, h5, h6, h7⟩ := h
    rw [← t.hn]
    exact ⟨f, c, cl, vs, h1, h2, h3, h4, h5, h6, VRs.chg t cs vs n h7⟩
  | .fn g, v, n, h => by
    simp only [VR] at h ⊢; simp only [Nf] at n
    obtain ⟨a, e, q⟩ := h
    exact ⟨a, t.hf g a n e, q⟩
  | .tup xs, v, n, h => by
    simp only [VR] at h ⊢; simp only [Nf] at n
    obtain ⟨a, vs, h1, h2, h3⟩ := h
    exact ⟨a, vs, h1, FT.chg t h2, VRs.chg t xs vs n h3⟩
  | .lst xs, v, n, h => by
    simp only [VR] at h ⊢; simp only [Nf] at n
    obtain ⟨a, vs, h1, h2, h3, h4⟩ := h
    exact ⟨a, vs, h1, h2, h3, VRs.chg t xs vs n h4⟩
  | .rol xs, v, n, h => by
    simp only [VR] at h ⊢; simp only [Nf] at n
    obtain ⟨a, vs, h1, h2, h3⟩ := h
    exact ⟨a, vs, h1, FL.chg t h2, VRs.chg t xs vs n h3⟩
  | .dic kvs, v, n, h => by
    simp only [VR] at h ⊢; simp only [Nf] at n
    obtain ⟨a, vs, h1, h2, h3, h4⟩ := h
    exact ⟨a, vs, h1, h2, h3, KRs.chg t kvs vs n h4⟩
  | .ins c fs, v, n, h => by
    simp only [VR] at h ⊢; simp only [Nf] at n
    obtain ⟨a, dx, fx, h1, h2, h3, h4⟩ := h
    exact ⟨a, dx, fx, h1, h2, by rw [← t.hA]; exact h3, FRs.chg t fs fx n h4⟩
theorem VRs.chg (t : Tw C C2) : ∀ (x : List MV) (v : List V), Nfs x → VRs C ι H x v → VRs C2 ι H x v
  | [], v, n, h => by simpa only [VRs] using h
  | x :: r, v, n, h => by
    simp only [VRs] at h ⊢; simp only [Nfs] at n
    obtain ⟨u, w, h1, h2, h3⟩ := h
    exact ⟨u, w, h1, VR.chg t x u n.1 h2, VRs.chg t r w n.2 h3⟩
theorem KRs.chg (t : Tw C C2) : ∀ (x : List (MV × MV)) (v : List (Key × V)), Nfk x → KRs C ι H x v → KRs C2 ι H x v
  | [], v, n, h => by simpa only [KRs] using h
  | x :: r, v, n, h => by
    simp only [KRs] at h ⊢; simp only [Nfk] at n
    obtain ⟨u, w, h1, h2, h3⟩ := h
    exact ⟨u, w, h1, KR.chg t x u n.1 h2, KRs.chg t r w n.2 h3⟩
theorem KR.chg (t : Tw C C2) : ∀ (x : MV × MV) (v : Key × V), Nfp x → KR C ι H x v → KR C2 ι H x v
  | (k, x), v, n, h => by
    simp only [KR] at h ⊢; simp only [Nfp] at n
    exact ⟨h.1, VR.chg t x v.2 n h.2⟩
theorem FRs.chg (t : Tw C C2) : ∀ (x : List (Str × MV)) (v : List (Str × V)), Nff x → FRs C ι H x v → FRs C2 ι H x v
  | [], v, n, h => by simpa only [FRs] using h
  | x :: r, v, n, h => by
    simp only [FRs] at h ⊢; simp only [Nff] at n
    obtain ⟨u, w, h1, h2, h3⟩ := h
    exact ⟨u, w, h1, FR.chg t x u n.1 h2, FRs.chg t r w n.2 h3⟩
theorem FR.chg (t : Tw C C2) : ∀ (x : Str × MV) (v : Str × V), Nfg x → FR C ι H x v → FR C2 ι H x v
  | (k, x), v, n, h => by
    simp only [FR] at h ⊢; simp only [Nfg] at n
    exact ⟨h.1, VR.chg t x v.2 n h.2⟩
end
theorem TRs.chg (t : Tw C C2) : ∀ (x : List (MV × MV)) (v : List (NK × Addr × V)), Nfk x → TRs C ι H x v → TRs C2 ι H x v
  | [], v, _, h => h
  | x :: r, v, n, h => by
    obtain ⟨u, w, h1, h2, h3⟩ := h
    obtain ⟨k, x⟩ := x
    simp only [Nfk, Nfp] at n
    exact ⟨u, w, h1, ⟨h2.1, VR.chg t _ _ (nkey_nf h2.1) h2.2.1, VR.chg t _ _ n.1 h2.2.2⟩, TRs.chg t r w n.2 h3⟩
theorem OR.chg (t : Tw C C2) {a : Addr} {o : MO} (n : NfO o) (h : OR C ι H a o) : OR C2 ι H a o := by
  cases o with
  | lst xs => obtain ⟨vs, e, q⟩ := h; exact ⟨vs, e, VRs.chg t _ _ n q⟩
  | dic xs => obtain ⟨vs, e, q⟩ := h; exact ⟨vs, e, KRs.chg t _ _ n q⟩
  | ins c xs => obtain ⟨dx, vs, e, q⟩ := h; exact ⟨dx, vs, by rw [← t.hA]; exact e, FRs.chg t _ _ n q⟩
  | td xs => obtain ⟨vs, e, q⟩ := h; exact ⟨vs, by rw [← t.hw]; exact e, TRs.chg t _ _ n q⟩
  | tb k => exact ⟨by rw [← t.ht]; exact h.1, by rw [← t.ht]; exact h.2⟩
theorem StR.chg (t : Tw C C2) {S : Sto} (n : ∀ (l : Nat) (o : MO), S[l]? = some o → NfO o) (s : StR C ι S H) (x : ∀ d fs fx, C2.dx = some (d, fs, fx) → d ∉ ι ∧ H d = some (.xd fx) ∧ FRs C2 ι H fs fx) : StR C2 ι S H :=
  ⟨s.len, s.nd, fun l o a e1 e2 => OR.chg t (n l o e1) (s.ob l o a e1 e2), x⟩
theorem StR.nf (h0 : C.fA 99 = none) {S : Sto} (s : StR C ι S H) : ∀ (l : Nat) (o : MO), S[l]? = some o → NfO o := fun l o e => by
  have hl : l < ι.length := by rw [s.len]; exact (List.getElem?_eq_some_iff.mp e).1
  exact (s.ob l o ι[l] e (List.getElem?_eq_getElem hl)).nf h0
end
/-- while an exception is held: where it lies, its fields -/
def exC (C : Ct) (a : Addr) (x : MX) (d : Option Addr) (fx : List (Str × V)) : Ct := { C with fA := fun g => if g = 99 then some a else C.fA g, dx := d.map fun b => (b, x.fs, fx) }
theorem tw_in {C : Ct} {a : Addr} {x : MX} {d : Option Addr} {fx : List (Str × V)} : Tw C (exC C a x d fx) := ⟨rfl, rfl, fun g b h e => by show (if g = 99 then _ else _) = _; rw [if_neg h]; exact e, rfl, rfl, rfl⟩
theorem tw_out {C : Ct} {a : Addr} {x : MX} {d : Option Addr} {fx : List (Str × V)} : Tw (exC C a x d fx) C := ⟨rfl, rfl, fun g b h e => by
  have e : (if g = 99 then some a else C.fA g) = some b := e
  rwa [if_neg h] at e, rfl, rfl, rfl⟩
def EndOk (e e2 : Env) (i : Nat) : Prop := e2.length = e.length ∧ ∀ (j : Nat) (x : MV), e2[j]? = some (some x) → j = i ∨ e[j]? = some (some x) ∨ Nf x
noncomputable def iteC {α : Sort _} (p : Prop) (a b : α) : α := @ite _ p (Classical.propDecidable p) a b
theorem iteC_pos {α : Sort _} {p : Prop} {a b : α} (h : p) : iteC p a b = a := by unfold iteC; exact if_pos h
theorem iteC_neg {α : Sort _} {p : Prop} {a b : α} (h : ¬ p) : iteC p a b = b := by unfold iteC; exact if_neg h
end Mi
namespace Mi
open PySem L2
/-- what the context of an except suite is: for the rules below -/
structure BxS (C : Ct) (X : Cx) : Prop where
  hK : X.K = C.K
  u64 : X.A.units + 64 < cLine
  u1 : X.A.units + 1 < cLine
def Wf0 : WX := fun _ _ _ _ => False
theorem Bx.su {C : Ct} {W : WX} {k : Nat} {X : Cx} {a : Addr} {x : MX} {d : Option Addr} {fx : List (Str × V)} {pn : List (Addr × Obj)} (B : Bx C W k X) : BxS (exC C a x d fx) (X.suite a pn) :=
  ⟨B.hK, B.u64, B.u1⟩
end Mi
namespace Mi
namespace Sh
open PySem L2
local macro_rules | `(tactic| walk_at "r62") => `(tactic| first | exact r62 (by omega) (by omega) | exact ⟨r62 (by omega) (by omega), r62 (by omega) (by omega)⟩)
local macro_rules | `(tactic| walk_at "sz") => `(tactic| first | omega | (simp only [List.length_cons, List.length_nil, List.length_append, List.length_map, List.length_replicate, List.length_take, List.length_drop, sizeLine] <;> omega) | (unfold sizeLine; omega) | decide)
local macro_rules | `(tactic| walk_at "dq") => `(tactic| first | with_unfolding_all rfl | walk_at "r62" | walk_at "sz")
local macro_rules | `(tactic| walk_at "zs") => `(tactic| ((try (first | with_reducible refine i_wp ?_ | with_reducible refine i_ws ?_ | with_reducible refine i_get ?_ | with_reducible refine i_an ?_ | with_reducible refine i_if ?_ | with_reducible refine i_wb ?_ | with_reducible refine i_wt ?_ | with_reducible refine i_sub ?_ | with_reducible refine i_put ?_ | with_reducible refine i_fld ?_ | with_reducible refine i_ins ?_)); (try simp (disch := walk_at "dq") only [↓z_seq, ↓z_next, ↓z_break, ↓z_cont, ↓z_retN, ↓z_ret, ↓z_drop, ↓z_set, ↓z_asg, ↓z_if, ↓z_par, ↓z_par3, ↓z_sub, ↓z_dput, ↓z_fld, ↓z_for, ↓z_v, ↓z_vS, ↓z_v0, ↓z_e0, ↓z_e1, ↓z_e2, ↓z_c, ↓z_bin, ↓z_nil, ↓z_cons, ↓z_b, ↓z_bm, ↓z_call, ↓z_calld, ↓z_wb, ↓z_asB, ↓z_asT, ↓z_wtB, ↓z_wtN, ↓z_wtI, ↓z_wtT0, ↓z_wtT1, ↓z_wtL0, ↓z_wtL1, ↓z_notB, ↓z_andB, ↓z_orB, ↓z_notT, ↓z_andT, ↓z_orT, ↓z_ifE, ↓z_isn, ↓z_notn, ↓z_neg, ↓z_chain, ↓z_yes, ↓z_nopart, ↓z_part, ↓z_sl, ↓z_tup, ↓z_lst, ↓z_mkL, ↓z_mkLn, ↓z_dic0, ↓z_mkD, ↓z_mkDn, ↓z_revL, ↓z_fldE, ↓z_insV, ↓z_get2, ↓z_itS, ↓z_itR1, ↓z_itR2, ↓z_itT, ↓z_itE, ↓z_itZ, ↓z_get, ↓z_int, ↓z_int1, ↓z_int2, ↓z_one1, ↓z_two2, ↓z_str, ↓z_asLl, ↓z_asLr, ↓z_itLl, ↓z_itLt, ↓z_gN, ↓z_gNl, ↓z_gCs, ↓z_gTt, ↓z_gTl, ↓z_an, ↓z_ct, ↓z_cf, ↓z_ty1, ↓z_ty2, ↓z_ty3, ↓z_ty4, ↓z_anT, ↓z_addI, ↓z_addS, ↓z_addT, ↓z_addLL, ↓z_subI, ↓z_mod, ↓z_lt, ↓z_le, ↓z_gt, ↓z_ge, ↓z_eqI, ↓z_neI, ↓z_eqS, ↓z_neS, ↓z_eqB, ↓z_neB, ↓z_inL, ↓z_ninL, ↓z_lenL, ↓z_lenT, ↓z_lenD, ↓z_lenS, ↓z_slS, ↓z_slT, ↓z_slL, ↓z_listL, ↓z_listT, ↓z_listD, ↓z_tupL, ↓z_tupT, ↓z_max, ↓z_min, ↓z_dictD, ↓z_int1B, ↓z_int1I, ↓z_meth0, ↓z_methd, List.set_cons_zero, List.set_cons_succ, q_e0, q_e1, q_e2, -eq_self, -iff_self]); (try (first | with_reducible refine o_wp ?_ | with_reducible refine o_ws ?_ | with_reducible refine o_get ?_ | with_reducible refine o_an ?_ | with_reducible refine o_if ?_ | with_reducible refine o_wb ?_ | with_reducible refine o_wt ?_ | with_reducible refine o_v ?_ | with_reducible refine o_sub ?_ | with_reducible refine o_put ?_ | with_reducible refine o_fld ?_ | with_reducible refine o_ins ?_))))
local macro_rules | `(tactic| walk_at "w") => `(tactic| (walk_at "zs"; (repeat ((first | with_reducible refine wp_ixT (by with_unfolding_all rfl) ?_ | with_reducible refine wp_ixL (by with_unfolding_all rfl) ?_ | with_reducible refine wv (by with_unfolding_all rfl) ?_ | with_reducible refine get (by with_unfolding_all rfl) ?_ | with_reducible refine an (by walk_at "dq") ?_ | with_reducible refine wt (by with_unfolding_all rfl) ?_ | with_reducible refine ite_t ?_ | with_reducible refine ite_f ?_ | with_reducible refine ite_rt (by with_unfolding_all rfl) ?_ | with_reducible refine ite_rf (by with_unfolding_all rfl) ?_ | with_reducible refine wp_isiT (by with_unfolding_all rfl) ?_ | with_reducible refine wp_isiF (by with_unfolding_all rfl) ?_); walk_at "zs"))))
section
variable {N : Env → Sto → Prop} {R : MV → Sto → Prop} {B C : Env → Sto → Prop} {X : EE} {env : Env} {S S1 : Sto} {E : MX → Sto → Prop} {Q : MV → Sto → Prop}
theorem EndOk.set {e e2 : Env} {i j : Nat} {v : MV} (h : EndOk e e2 i) (n : Nf v) : EndOk e (e2.set j (some v)) i := ⟨by rw [List.length_set]; exact h.1, fun k x hk => by
  by_cases hj : j = k
  · subst hj
    by_cases hl : j < e2.length
    · rw [List.getElem?_set_self hl] at hk
      cases hk
      exact .inr (.inr n)
    · rw [List.getElem?_eq_none (by simpa using hl)] at hk; cases hk
  · rw [List.getElem?_set_ne hj] at hk
    exact h.2 k x hk⟩
end
end Sh
end Mi
namespace Mi
open PySem PySem.Spec PyProof.Rows L2
abbrev TSu := Addr → Value → Option Addr → TS
/-- the ends of a suite whose name is let go behind it -/
def endsAs (i : Nat) (D : Ends) : Ends := { nx := fun τ G => D.nx (τ.set i none) G, rt := D.rt, bk := fun τ G => D.bk (τ.set i none) G, ct := fun τ G => D.ct (τ.set i none) G }
def wCls (K : PySem.W.Frag) (Wo : WX) (D : Ends) : List (Value × Option Nat × TSu) → WX
  | [] => Wo
  | (c, some i, ts) :: r => fun cl d τ G => ∃ b, PySem.W.exmOne K cl c = some b ∧ (b = true → ∀ a, G a = none → ts a cl d (endsAs i D) (τ.set i (some (.ref a))) G) ∧ (b = false → wCls K Wo D r cl d τ G)
  | (c, none, ts) :: r => fun cl d τ G => ∃ b, PySem.W.exmOne K cl c = some b ∧ (b = true → ∀ a, G a = none → ts a cl d D τ G) ∧ (b = false → wCls K Wo D r cl d τ G)
def SuOk (X : Cx) (ss : List Stmt) (ts : TSu) : Prop := ∀ (a : Addr) (o : Obj) (cl : Value) (d : Option Addr) (pn : List (Addr × Obj)), Zc cl d o → (∃ vs, o.data = .fields vs) → PSs (X.suite a ((a, o) :: pn)) ss (ts a cl d)
inductive Cls (X : Cx) : List ExceptHandler → List (Value × Option Nat × TSu) → Prop
  | nil : Cls X [] []
  | bare {x : Str} {c : Value} {ts : TSu} {s₀ : Stmt} {ss : List Stmt} {q q' : Pos} {hs : List ExceptHandler} {l : List (Value × Option Nat × TSu)} (hc : Names X x c) (su : SuOk X (s₀ :: ss) ts) (r : Cls X hs l) :
      Cls X (.ExceptHandler (some (.Name x q)) none (s₀ :: ss) q' :: hs) ((c, none, ts) :: l)
  | named {x n : Str} {i : Nat} {c : Value} {ts : TSu} {s₀ : Stmt} {ss : List Stmt} {q q' : Pos} {hs : List ExceptHandler} {l : List (Value × Option Nat × TSu)} (hc : Names X x c) (hi : X.N[i]? = some n) (hn : X.env.kindOf n = some .local) (su : SuOk X (s₀ :: ss) ts) (r : Cls X hs l) :
      Cls X (.ExceptHandler (some (.Name x q)) (some n) (s₀ :: ss) q' :: hs) ((c, some i, ts) :: l)
end Mi
namespace Mi
open PySem L2
noncomputable def endSu (r : SRes) (e : Env) (S1 : Sto) (i : Nat) : SRes := match r with
  | .nx e2 S2 => iteC (S2 = S1 ∧ EndOk e e2 i) (.nx (e2.set i none) S1) .bad
  | .rt v S2 => iteC (S2 = S1 ∧ Nf v) (.rt v S1) .bad
  | _ => .bad
/-- a clause: the classes that it takes, those that it lets pass, the slot of its name (or one beyond all), its suite -/
structure Cla where
  ms : List Nat
  ns : List Nat
  i : Nat
  mu : MX → MSt
noncomputable def pickC : List Cla → MX → Env → Sto → SRes
  | [], x, e, S => .ex x e S
  | c :: r, x, e, S => if x.cls ∈ c.ms then endSu (c.mu x (e.set c.i (some (.fn 99))) S) e S c.i else if x.cls ∈ c.ns then pickC r x e S else .bad
def tSu (C : Ct) (c : Cla) : TSu := fun a cl d D σ H => ∃ (y : MX) (fx : List (Str × V)), cl = .ref (C.cA y.cls) ∧ y.cls ∈ c.ms ∧ (d = none → y.fs = []) ∧ tMS (exC C a y d fx) Wf0 (c.mu y) D σ H
theorem su_core {C : Ct} {W : WX} {c : Cla} {ι ι1 : Io} {H H1 : Hp} {σ1 : L2.St} {D D2 : Ends} {y : MX} {e1 : Env} {S1 : Sto} {d : Option Addr} {a : Addr} (hD : ∀ τ G, τ.length = e1.length → D.nx (τ.set c.i none) G → D2.nx τ G) (hR : ∀ v G, D.rt v G → D2.rt v G) (h0 : C.fA 99 = none) (h1 : C.dx = none) (hm : y.cls ∈ c.ms) (x1 : Ext ι H ι1 H1) (s1 : StR C ι1 S1 H1) (r1 : EnvR C ι1 H1 e1 σ1)
    (xr : XR C ι1 H1 y (.ref (C.cA y.cls)) d) (hp : SPost C W ι H (endSu (c.mu y (e1.set c.i (some (.fn 99))) S1) e1 S1 c.i) D) : tSu C c a (.ref (C.cA y.cls)) d D2 (σ1.set c.i (some (.ref a))) H1 := by
  obtain ⟨_, hxr⟩ := xr
  have nfS := s1.nf h0
  obtain ⟨fx, hfx⟩ : ∃ fx : List (Str × V), ∀ dd fs fx', (exC C a y d fx).dx = some (dd, fs, fx') → dd ∉ ι1 ∧ H1 dd = some (.xd fx') ∧ FRs (exC C a y d fx) ι1 H1 fs fx' := by
    cases d with
    | none => exact ⟨[], fun dd fs fx' z => by cases z⟩
    | some dd =>
      obtain ⟨q1, fx, q2, q3⟩ := hxr
      refine ⟨fx, fun d2 fs fx' z => ?_⟩
      cases z
      exact ⟨q1, q2, FRs.chg tw_in _ _ (FRs.nf h0 _ _ q3) q3⟩
  have r2 : EnvR (exC C a y d fx) ι1 H1 e1 σ1 := ⟨r1.1, fun j z hz => by
    obtain ⟨v, a1, a2⟩ := r1.2 j z hz
    exact ⟨v, a1, VR.chg tw_in _ _ (VR.nf h0 _ _ a2) a2⟩⟩
  have r3 : EnvR (exC C a y d fx) ι1 H1 (e1.set c.i (some (.fn 99))) (σ1.set c.i (some (.ref a))) := r2.set (by simp only [VR]; exact ⟨a, rfl, rfl⟩) c.i
  have hd0 : d = none → y.fs = [] := fun z => by subst z; exact hxr
  refine ⟨y, fx, rfl, hm, hd0, ι1, _, S1, r3, StR.chg tw_in nfS s1 hfx, ?_⟩
  have back : ∀ {ι2 : Io} {H2 : Hp}, StR (exC C a y d fx) ι2 S1 H2 → StR C ι2 S1 H2 := fun s2 => StR.chg tw_out nfS s2 fun dd fs fx' z => by rw [h1] at z; cases z
  unfold endSu at hp
  cases em : c.mu y (e1.set c.i (some (.fn 99))) S1 with
  | nx e2 S2 =>
    rw [em] at hp
    by_cases hok : S2 = S1 ∧ EndOk e1 e2 c.i
    · have hp : SPost C W ι H (iteC _ _ _) D := hp
      rw [iteC_pos hok] at hp
      obtain ⟨rfl, hl, hj⟩ := hok
      intro ι2 H2 σ2 x2 s2 q2
      refine hD _ _ (by rw [← q2.1, hl]) (hp ι2 H2 (σ2.set c.i none) (x1.trans x2) (back s2) ⟨by simp [q2.1], fun j z hz => ?_⟩)
      by_cases hji : c.i = j
      · subst hji
        rw [List.getElem?_set_self'] at hz
        cases he2 : e2[c.i]? <;> rw [he2] at hz <;> simp at hz
      · rw [List.getElem?_set_ne hji] at hz ⊢
        obtain ⟨v, a1, a2⟩ := q2.2 j z hz
        have nz : Nf z := by
          rcases hj j z hz with q | q | q
          · exact absurd q.symm hji
          · obtain ⟨v', _, a3⟩ := r1.2 j z q
            exact VR.nf h0 _ _ a3
          · exact q
        exact ⟨v, a1, VR.chg tw_out _ _ nz a2⟩
    · have hp : SPost C W ι H (iteC _ _ _) D := hp
      rw [iteC_neg hok] at hp
      exact hp.elim
  | rt v S2 =>
    rw [em] at hp
    by_cases hok : S2 = S1 ∧ Nf v
    · have hp : SPost C W ι H (iteC _ _ _) D := hp
      rw [iteC_pos hok] at hp
      obtain ⟨rfl, hv⟩ := hok
      intro ι2 H2 u x2 s2 q2
      exact hR _ _ (hp ι2 H2 u (x1.trans x2) (back s2) (VR.chg tw_out _ _ hv q2))
    · have hp : SPost C W ι H (iteC _ _ _) D := hp
      rw [iteC_neg hok] at hp
      exact hp.elim
  | bk e2 S2 => rw [em] at hp; exact hp.elim
  | ct e2 S2 => rw [em] at hp; exact hp.elim
  | ex y2 e2 S2 => rw [em] at hp; exact hp.elim
  | bad => rw [em] at hp; exact hp.elim
/-- a clause's suite, walked -/
def SuM (X : Cx) (C : Ct) (ss : List Stmt) (c : Cla) : Prop := ∀ (a : Addr) (oe : Obj) (d : Option Addr) (pn : List (Addr × Obj)) (y : MX) (fx : List (Str × V)), y.cls ∈ c.ms → (d = none → y.fs = []) → Zc (.ref (C.cA y.cls)) d oe → (∃ vs, oe.data = .fields vs) → BxS (exC C a y d fx) (X.suite a ((a, oe) :: pn)) → PSs (X.suite a ((a, oe) :: pn)) ss (tMS (exC C a y d fx) Wf0 (c.mu y))
inductive ClsM (X : Cx) (C : Ct) : List ExceptHandler → List Cla → Prop
  | nil : ClsM X C [] []
  | bare {x : Str} {cv : Value} {c : Cla} {s₀ : Stmt} {ss : List Stmt} {q q' : Pos} {hs : List ExceptHandler} {l : List Cla} (hc : Names X x cv) (hl : X.N.length ≤ c.i) (hm : ∀ k ∈ c.ms, PySem.W.exmOne C.K (.ref (C.cA k)) cv = some true) (hn : ∀ k ∈ c.ns, PySem.W.exmOne C.K (.ref (C.cA k)) cv = some false)
      (su : SuM X C (s₀ :: ss) c) (r : ClsM X C hs l) : ClsM X C (.ExceptHandler (some (.Name x q)) none (s₀ :: ss) q' :: hs) (c :: l)
  | named {x n : Str} {cv : Value} {c : Cla} {s₀ : Stmt} {ss : List Stmt} {q q' : Pos} {hs : List ExceptHandler} {l : List Cla} (hc : Names X x cv) (hi : X.N[c.i]? = some n) (hk : X.env.kindOf n = some .local) (hm : ∀ k ∈ c.ms, PySem.W.exmOne C.K (.ref (C.cA k)) cv = some true) (hn : ∀ k ∈ c.ns, PySem.W.exmOne C.K (.ref (C.cA k)) cv = some false)
      (su : SuM X C (s₀ :: ss) c) (r : ClsM X C hs l) : ClsM X C (.ExceptHandler (some (.Name x q)) (some n) (s₀ :: ss) q' :: hs) (c :: l)
theorem SuM.ok {X : Cx} {C : Ct} {W : WX} {k : Nat} {ss : List Stmt} {c : Cla} (B : Bx C W k X) (h : SuM X C ss c) : SuOk X ss (tSu C c) := fun a o cl d pn hz hv => by
  constructor
  intro pins s σ H D I w
  obtain ⟨y, fx, rfl, hm, hd0, w⟩ := w
  exact (h a o d pn y fx hm hd0 hz hv B.su).run pins s σ H D I w
theorem ClsM.cls {X : Cx} {C : Ct} {W : WX} {k : Nat} (B : Bx C W k X) (h0 : C.fA 99 = none) (h1 : C.dx = none) {hs : List ExceptHandler} {l : List Cla} (h : ClsM X C hs l) : ∃ l' : List (Value × Option Nat × TSu), Cls X hs l' ∧
    ∀ {ι ι1 : Io} {H H1 : Hp} {σ1 : L2.St} {D : Ends} {y : MX} {e1 : Env} {S1 : Sto} {d : Option Addr}, e1.length = X.N.length → Ext ι H ι1 H1 → StR C ι1 S1 H1 → EnvR C ι1 H1 e1 σ1 → XR C ι1 H1 y (.ref (C.cA y.cls)) d → SPost C W ι H (pickC l y e1 S1) D → wCls X.K W D l' (.ref (C.cA y.cls)) d σ1 H1 := by
  induction h with
  | nil => exact ⟨[], .nil, fun hl x1 s1 r1 xr hp => hp _ _ _ _ _ x1 s1 r1 xr⟩
  | @bare x cv c s₀ ss q q' hs l hc hl hm hn su r ih =>
    obtain ⟨l', cs, ih⟩ := ih
    refine ⟨(cv, none, tSu C c) :: l', .bare hc (su.ok B) cs, fun {ι ι1 H H1 σ1 D y e1 S1 d} el x1 s1 r1 xr hp => ?_⟩
    unfold pickC at hp
    by_cases h2 : y.cls ∈ c.ms
    · rw [if_pos h2] at hp
      refine ⟨true, by rw [B.hK]; exact hm _ h2, fun _ a ha => ?_, fun z => by cases z⟩
      have s0 : σ1.set c.i (some (.ref a)) = σ1 := List.set_eq_of_length_le (by rw [← r1.1, el]; exact hl)
      have w := su_core (a := a) (D2 := D) (fun τ G ht q => by rwa [List.set_eq_of_length_le (by rw [ht, el]; exact hl)] at q) (fun _ _ q => q) h0 h1 h2 x1 s1 r1 xr hp
      rwa [s0] at w
    · rw [if_neg h2] at hp
      by_cases h3 : y.cls ∈ c.ns
      · rw [if_pos h3] at hp
        exact ⟨false, by rw [B.hK]; exact hn _ h3, (fun z => by cases z), fun _ => ih el x1 s1 r1 xr hp⟩
      · rw [if_neg h3] at hp
        exact hp.elim
  | @named x n cv c s₀ ss q q' hs l hc hi hk hm hn su r ih =>
    obtain ⟨l', cs, ih⟩ := ih
    refine ⟨(cv, some c.i, tSu C c) :: l', .named hc hi hk (su.ok B) cs, fun {ι ι1 H H1 σ1 D y e1 S1 d} el x1 s1 r1 xr hp => ?_⟩
    unfold pickC at hp
    by_cases h2 : y.cls ∈ c.ms
    · rw [if_pos h2] at hp
      exact ⟨true, by rw [B.hK]; exact hm _ h2, fun _ a ha => su_core (a := a) (D2 := endsAs c.i D) (fun _ _ _ q => q) (fun _ _ q => q) h0 h1 h2 x1 s1 r1 xr hp, fun z => by cases z⟩
    · rw [if_neg h2] at hp
      by_cases h3 : y.cls ∈ c.ns
      · rw [if_pos h3] at hp
        exact ⟨false, by rw [B.hK]; exact hn _ h3, (fun z => by cases z), fun _ => ih el x1 s1 r1 xr hp⟩
      · rw [if_neg h3] at hp
        exact hp.elim
end Mi
namespace PySem.SeqAt
open AutoSeq1 (wpAny_loadPart')
open MeetsSeq MeetsSeq2 MeetsSeq3 SeqRoads2 PySem.Calls PyProof.Rows PyProof.V PySem.Spec PySem.W
end PySem.SeqAt
namespace Mi
open PySem L2
def kDrop (kvs : List (MV × MV)) (y : MV) : List (MV × MV) := kvs.filter fun p => !keyB p.1 y
theorem KRs.drop {C : Ct} {ι : Io} {H : Hp} {y : MV} (hy : isKey y = true) : ∀ {kvs : List (MV × MV)} {kx : List (Key × V)}, KRs C ι H kvs kx → KRs C ι H (kDrop kvs y) (dropK kx (keyOf y))
  | [], kx, h => by simp only [KRs] at h; subst h; simp only [kDrop, dropK, List.filter_nil, KRs]
  | (k, z) :: rr, kx, h => by
    simp only [KRs] at h
    obtain ⟨⟨key, v⟩, w, rfl, h1, h2⟩ := h
    simp only [KR] at h1
    obtain ⟨hk, e⟩ := keyR_eq h1.1
    have e : key = keyOf k := e
    subst e
    have ih := KRs.drop hy h2
    unfold kDrop dropK at ih ⊢
    rw [List.filter_cons, List.filter_cons, keyB_ok hk hy]
    by_cases q : keyOf k = keyOf y
    · simp only [q, decide_true, Bool.not_true, Bool.false_eq_true, if_false, ne_eq, not_true_eq_false, decide_false]
      simpa using ih
    · simp only [q, decide_false, Bool.not_false, if_true, ne_eq, not_false_eq_true, decide_true]
      simp only [KRs]
      exact ⟨_, _, rfl, by simp only [KR]; exact h1, ih⟩
/-- each entry of the first beside the other -/
def deqDs (kvs2 : List (MV × MV)) : List (MV × MV) → Option Bool
  | [] => some true
  | (k, x) :: r => if isKey k = true then (match kLook kvs2 k with
    | none => some false
    | some y => match deq 58 x y, deqDs kvs2 r with
      | some a, some b => some (a && b)
      | _, _ => none) else none
def deqD (k1 k2 : List (MV × MV)) : Option Bool := if k1.length = k2.length then deqDs k2 k1 else some false
def fEqD (x y : MV) (S : Sto) : Res MV := match asD S x, asD S y with
  | some a, some b => (match deqD a b with
    | some c => .ok (.bl c) S
    | none => .bad)
  | _, _ => .bad
def rEqD (C : Ct) (neg : Bool) : R2 := fun v u H Q => ∃ ι S k1 k2 c a b x1 x2, StR C ι S H ∧ v = .ref a ∧ u = .ref b ∧ Rd H a (.dK x1) ∧ Rd H b (.dK x2) ∧ KRs C ι H k1 x1 ∧ KRs C ι H k2 x2 ∧ deqD k1 k2 = some c ∧ Q (.bl (if neg then !c else c)) H
section
variable {X : Cx} {C : Ct}
theorem KRs.len' {ι : Io} {H : Hp} {k : List (MV × MV)} {x : List (Key × V)} (h : KRs C ι H k x) : k.length = x.length := by
  have := KRs.len h
  omega
theorem hits_of (hK : X.K = C.K) {ι : Io} {pins : List (Addr × Obj)} {σ : L2.St} {H : Hp} {s : Shared} (I : Inv X pins σ H s) {A : Around} (hA : A.units + 59 < cLine) {k2 : List (MV × MV)} {x2 : List (Key × V)} {v2 : List (Key × Value)} (h2 : KRs C ι H k2 x2) (r2 : KV x2 v2) :
    ∀ {k1 : List (MV × MV)} {x1 : List (Key × V)} {v1 : List (Key × Value)} {c : Bool}, KRs C ι H k1 x1 → KV x1 v1 → deqDs k2 k1 = some c → PySem.W.KeqHits A s v2 v1 c
  | [], x1, v1, c, h1, r1, h => by
    simp only [KRs] at h1
    subst h1
    cases r1
    simp only [deqDs, Option.some.injEq] at h
    subst h
    exact .nil
  | (k, x) :: r, x1, v1, c, h1, r1, h => by
    simp only [KRs] at h1
    obtain ⟨⟨key, u⟩, w, rfl, g1, g2⟩ := h1
    simp only [KR] at g1
    obtain ⟨hk, e⟩ := keyR_eq g1.1
    have e : key = keyOf k := e
    subst e
    cases r1 with
    | @cons _ q _ w' ra rb =>
      obtain ⟨q1, q2⟩ := q
      obtain ⟨ea, ra⟩ := ra
      have ea : q1 = keyOf k := ea.symm
      subst ea
      unfold deqDs at h
      rw [if_pos hk] at h
      obtain ⟨l1, l2⟩ := kLook_val hk h2
      have rv := r2.val (keyOf k)
      split at h
      · rename_i el
        simp only [Option.some.injEq] at h
        subst h
        have hn := l2 el
        refine .miss ?_
        rw [hn] at rv
        have := rv.isSome_eq
        cases hv : valueAt v2 (keyOf k) with
        | none => rfl
        | some z => rw [hv] at this; cases this
      · rename_i y el
        split at h
        · rename_i a b e1 e2
          simp only [Option.some.injEq] at h
          subst h
          obtain ⟨u2, e3, e4⟩ := l1 y el
          rw [e3] at rv
          cases hv : valueAt v2 (keyOf k) with
          | none => rw [hv] at rv; exact absurd rv.isSome_eq (by simp)
          | some z =>
            rw [hv] at rv
            have rz : RelV u2 z := rv
            exact .hit hv (deq_run hK I 58 A (by omega) _ _ _ _ _ _ _ (VR.vw g1.2) (VR.vw e4) ra rz e1) (hits_of hK I hA h2 r2 g2 rb e2)
        · cases h
theorem op_eqD (hK : X.K = C.K) (hu : X.A.units + 64 < cLine) : OpR X (compareOp .Eq) (rEqD C false) := by
  intro pins s σ H v u vv uu Q I rx ry h
  obtain ⟨ι, S, k1, k2, c, a, b, x1, x2, hs, rfl, rfl, h1, h2, h3, h4, h5, q⟩ := h
  cases rx; cases ry
  obtain ⟨_, hd1, v1, r1, d1⟩ := dk_rd I.hok h1
  obtain ⟨_, hd2, v2, r2, d2⟩ := dk_rd I.hok h2
  have l1 := r1.length
  have l2 := r2.length
  have l3 := h3.len'
  have l4 := h4.len'
  unfold deqD at h5
  split at h5
  · rename_i hl
    refine PySem.W.keq_eq hd1 hd2 d1 d2 (r := c) (by omega) (fun _ => hits_of hK I (by show X.A.units + 1 + 59 < cLine; omega) h4 r2 h3 r1 h5) ⟨.bl _, H, I, rfl, ?_⟩
    have : (v1.length == v2.length) = true := by simp; omega
    rw [this, Bool.true_and]
    exact q
  · rename_i hl
    simp only [Option.some.injEq] at h5
    subst h5
    refine PySem.W.keq_eq hd1 hd2 d1 d2 (r := true) (by omega) (fun z => absurd z (by omega)) ⟨.bl _, H, I, rfl, ?_⟩
    have : (v1.length == v2.length) = false := by simp; omega
    rw [this, Bool.false_and]
    exact q
theorem opm_eqD : OpM C fEqD (rEqD C false) := by
  intro W ι σ S H x y v u Q hs h1 h2 hp
  unfold fEqD at hp
  split at hp
  · rename_i k1 k2 e1 e2
    split at hp
    · rename_i c e3
      obtain ⟨a, x1, rfl, g1, g2⟩ := asD_ok hs h1 e1
      obtain ⟨b, x2, rfl, g3, g4⟩ := asD_ok hs h2 e2
      exact ⟨ι, S, k1, k2, c, a, b, x1, x2, hs, rfl, rfl, g1, g3, g2, g4, e3, hp ι H _ .refl hs (by simp only [VR]; rfl)⟩
    · exact hp.elim
  · exact hp.elim
end
end Mi
namespace Mi
namespace Sh
open PySem L2
local macro_rules | `(tactic| walk_at "r62") => `(tactic| first | exact r62 (by omega) (by omega) | exact ⟨r62 (by omega) (by omega), r62 (by omega) (by omega)⟩)
local macro_rules | `(tactic| walk_at "sz") => `(tactic| first | omega | (simp only [List.length_cons, List.length_nil, List.length_append, List.length_map, List.length_replicate, List.length_take, List.length_drop, sizeLine] <;> omega) | (unfold sizeLine; omega) | decide)
local macro_rules | `(tactic| walk_at "dq") => `(tactic| first | with_unfolding_all rfl | walk_at "r62" | walk_at "sz")
local macro_rules | `(tactic| walk_at "zs") => `(tactic| ((try (first | with_reducible refine i_wp ?_ | with_reducible refine i_ws ?_ | with_reducible refine i_get ?_ | with_reducible refine i_an ?_ | with_reducible refine i_if ?_ | with_reducible refine i_wb ?_ | with_reducible refine i_wt ?_ | with_reducible refine i_sub ?_ | with_reducible refine i_put ?_ | with_reducible refine i_fld ?_ | with_reducible refine i_ins ?_)); (try simp (disch := walk_at "dq") only [↓z_seq, ↓z_next, ↓z_break, ↓z_cont, ↓z_retN, ↓z_ret, ↓z_drop, ↓z_set, ↓z_asg, ↓z_if, ↓z_par, ↓z_par3, ↓z_sub, ↓z_dput, ↓z_fld, ↓z_for, ↓z_v, ↓z_vS, ↓z_v0, ↓z_e0, ↓z_e1, ↓z_e2, ↓z_c, ↓z_bin, ↓z_nil, ↓z_cons, ↓z_b, ↓z_bm, ↓z_call, ↓z_calld, ↓z_wb, ↓z_asB, ↓z_asT, ↓z_wtB, ↓z_wtN, ↓z_wtI, ↓z_wtT0, ↓z_wtT1, ↓z_wtL0, ↓z_wtL1, ↓z_notB, ↓z_andB, ↓z_orB, ↓z_notT, ↓z_andT, ↓z_orT, ↓z_ifE, ↓z_isn, ↓z_notn, ↓z_neg, ↓z_chain, ↓z_yes, ↓z_nopart, ↓z_part, ↓z_sl, ↓z_tup, ↓z_lst, ↓z_mkL, ↓z_mkLn, ↓z_dic0, ↓z_mkD, ↓z_mkDn, ↓z_revL, ↓z_fldE, ↓z_insV, ↓z_get2, ↓z_itS, ↓z_itR1, ↓z_itR2, ↓z_itT, ↓z_itE, ↓z_itZ, ↓z_get, ↓z_int, ↓z_int1, ↓z_int2, ↓z_one1, ↓z_two2, ↓z_str, ↓z_asLl, ↓z_asLr, ↓z_itLl, ↓z_itLt, ↓z_gN, ↓z_gNl, ↓z_gCs, ↓z_gTt, ↓z_gTl, ↓z_an, ↓z_ct, ↓z_cf, ↓z_ty1, ↓z_ty2, ↓z_ty3, ↓z_ty4, ↓z_anT, ↓z_addI, ↓z_addS, ↓z_addT, ↓z_addLL, ↓z_subI, ↓z_mod, ↓z_lt, ↓z_le, ↓z_gt, ↓z_ge, ↓z_eqI, ↓z_neI, ↓z_eqS, ↓z_neS, ↓z_eqB, ↓z_neB, ↓z_inL, ↓z_ninL, ↓z_lenL, ↓z_lenT, ↓z_lenD, ↓z_lenS, ↓z_slS, ↓z_slT, ↓z_slL, ↓z_listL, ↓z_listT, ↓z_listD, ↓z_tupL, ↓z_tupT, ↓z_max, ↓z_min, ↓z_dictD, ↓z_int1B, ↓z_int1I, ↓z_meth0, ↓z_methd, List.set_cons_zero, List.set_cons_succ, q_e0, q_e1, q_e2, -eq_self, -iff_self]); (try (first | with_reducible refine o_wp ?_ | with_reducible refine o_ws ?_ | with_reducible refine o_get ?_ | with_reducible refine o_an ?_ | with_reducible refine o_if ?_ | with_reducible refine o_wb ?_ | with_reducible refine o_wt ?_ | with_reducible refine o_v ?_ | with_reducible refine o_sub ?_ | with_reducible refine o_put ?_ | with_reducible refine o_fld ?_ | with_reducible refine o_ins ?_))))
local macro_rules | `(tactic| walk_at "w") => `(tactic| (walk_at "zs"; (repeat ((first | with_reducible refine wp_ixT (by with_unfolding_all rfl) ?_ | with_reducible refine wp_ixL (by with_unfolding_all rfl) ?_ | with_reducible refine wv (by with_unfolding_all rfl) ?_ | with_reducible refine get (by with_unfolding_all rfl) ?_ | with_reducible refine an (by walk_at "dq") ?_ | with_reducible refine wt (by with_unfolding_all rfl) ?_ | with_reducible refine ite_t ?_ | with_reducible refine ite_f ?_ | with_reducible refine ite_rt (by with_unfolding_all rfl) ?_ | with_reducible refine ite_rf (by with_unfolding_all rfl) ?_ | with_reducible refine wp_isiT (by with_unfolding_all rfl) ?_ | with_reducible refine wp_isiF (by with_unfolding_all rfl) ?_); walk_at "zs"))))
end Sh
end Mi
namespace Mi
namespace Sh
open PySem L2
def cmpB : Nat → MV → Bool
  | 0, x => flat x
  | d + 1, x => flat x || match x with
    | .tup xs => xs.all (cmpB d)
    | .lst xs => xs.all (cmpB d)
    | .dic [] => true
    | _ => false
theorem eqF_self : ∀ {x : MV}, flat x = true → eqF x x = true := by
  intro x h
  cases x <;> first | rfl | (simp [eqF]; done) | cases h
theorem deq_self : ∀ (d : Nat) (x : MV), cmpB d x = true → deq d x x = some true
  | 0, x, h => by
    have h : flat x = true := h
    rw [deq_flat h h, eqF_self h]
  | d + 1, x, h => by
    have ih := deq_self d
    have all : ∀ {xs : List MV}, xs.all (cmpB d) = true → all2 (deq d) xs xs = some true := by
      intro xs
      induction xs with
      | nil => intro _; rfl
      | cons y r ih2 =>
        intro h
        rw [List.all_cons, Bool.and_eq_true] at h
        simp only [all2, ih y h.1, ih2 h.2, Bool.and_self]
    by_cases hf : flat x = true
    · rw [deq_flat hf hf, eqF_self hf]
    · unfold cmpB at h
      rw [Bool.not_eq_true] at hf
      rw [hf, Bool.false_or] at h
      unfold deq
      rw [if_neg (by simp [hf])]
      split at h
      · rename_i xs
        simp only [all h, Option.map_some, beq_self_eq_true, Bool.and_self]
      · rename_i xs
        simp only [if_true, all h]
      · rfl
      · cases h
theorem cmp_strs (d : Nat) (A : List Tx) : (A.map MV.str).all (cmpB d) = true := by
  rw [List.all_eq_true]
  intro y hy
  obtain ⟨x, _, rfl⟩ := List.mem_map.mp hy
  cases d <;> rfl
end Sh
end Mi
namespace Mi
open PySem PySem.Spec PyProof.Rows L2 TL
def NKA (X : Cx) (H : Hp) (b : Addr) (k : NK) : Prop := ∀ (pins : List (Addr × Obj)) (σ : L2.St) (s : Shared), Inv X pins σ H s → IsNKey X.prog X.w s.heap k b
section
variable {X : Cx} {C : Ct} {ι : Io} {H : Hp}
theorem nk_byte {x : MV} {k : Key} {v : V} {u : Value} (h : nkat x = some k) (r : VR C ι H x v) (rv : RelV v u) : keyIs k u = true := by
  cases x with
  | int i =>
    simp only [nkat, Option.some.injEq] at h
    subst h
    simp only [VR] at r
    subst r
    obtain ⟨t, rfl⟩ := (show ∃ t, u = Value.int i t from rv)
    simp [keyIs, Value.isInt, Value.isStrOf]
  | str z =>
    simp only [nkat, Option.some.injEq] at h
    subst h
    simp only [VR] at r
    subst r
    obtain ⟨t, rfl⟩ := (show ∃ t, u = Value.str ⟨z.toArray⟩ t from rv)
    simp [keyIs, Value.isInt, Value.isStrOf]
  | _ => simp [nkat] at h
theorem nk_flat {P : Program} {w : World} : ∀ {xs : List MV} {ks : List Key} {vs : List V} {us : List Value}, optM nkat xs = some ks → VRs C ι H xs vs → Vals vs us → ItemsAre (mixKind P w) ks us
  | [], ks, vs, us, h, r, rv => by
    simp only [optM, Option.some.injEq] at h
    subst h
    simp only [VRs] at r
    subst r
    cases rv
    exact .nil
  | x :: xs, ks, vs, us, h, r, rv => by
    simp only [optM] at h
    split at h
    · rename_i y ys e1 e2
      simp only [Option.some.injEq] at h
      subst h
      simp only [VRs] at r
      obtain ⟨v, w', rfl, r1, r2⟩ := r
      cases rv with
      | cons a b => exact .cons (nk_byte e1 r1 a) (nk_flat e2 r2 b)
    · cases h
theorem nk_item (hK : X.K = C.K) {pins : List (Addr × Obj)} {σ : L2.St} {s : Shared} (I : Inv X pins σ H s) {x : MV} {k : KI} {v : V} {u : Value} (h : nkit x = some k) (r : VR C ι H x v) (rv : RelV v u) : NItem X.prog X.w s.heap k u := by
  cases x with
  | int i =>
    simp only [nkit, Option.some.injEq] at h
    subst h
    exact nk_byte (x := .int i) (k := .inl i) rfl r rv
  | str z =>
    simp only [nkit, Option.some.injEq] at h
    subst h
    exact nk_byte (x := .str z) (k := .inr ⟨z.toArray⟩) rfl r rv
  | tup ys =>
    simp only [nkit, Option.map_eq_some_iff] at h
    obtain ⟨ks, h, rfl⟩ := h
    simp only [VR] at r
    obtain ⟨a, vs, rfl, r1, r2⟩ := r
    obtain rfl : u = Value.ref a := rv
    have r1 := r1.sq
    rw [← hK] at r1
    obtain ⟨its, rv2, ⟨o, ho, hc, n, hd⟩, _⟩ := I.tuple r1
    exact ⟨a, rfl, o, its.toArray, n, ho, hc, hd, by simpa using nk_flat h r2 rv2⟩
  | _ => simp [nkit] at h
theorem nk_items (hK : X.K = C.K) {pins : List (Addr × Obj)} {σ : L2.St} {s : Shared} (I : Inv X pins σ H s) : ∀ {xs : List MV} {ks : NK} {vs : List V} {us : List Value}, optM nkit xs = some ks → VRs C ι H xs vs → Vals vs us → NItems X.prog X.w s.heap ks us
  | [], ks, vs, us, h, r, rv => by
    simp only [optM, Option.some.injEq] at h
    subst h
    simp only [VRs] at r
    subst r
    cases rv
    exact .nil
  | x :: xs, ks, vs, us, h, r, rv => by
    simp only [optM] at h
    split at h
    · rename_i y ys e1 e2
      simp only [Option.some.injEq] at h
      subst h
      simp only [VRs] at r
      obtain ⟨v, w', rfl, r1, r2⟩ := r
      cases rv with
      | cons a b => exact .cons (nk_item hK I e1 r1 a) (nk_items hK I e2 r2 b)
    · cases h
theorem nk_at (hK : X.K = C.K) {x : MV} {k : NK} {v : V} (h : nkey x = some k) (r : VR C ι H x v) : ∃ b, v = .ref b ∧ NKA X H b k := by
  cases x with
  | tup ys =>
    simp only [nkey] at h
    simp only [VR] at r
    obtain ⟨a, vs, rfl, r1, r2⟩ := r
    refine ⟨a, rfl, fun pins σ s I => ?_⟩
    have r1 := r1.sq
    rw [← hK] at r1
    obtain ⟨its, rv2, ⟨o, ho, hc, n, hd⟩, _⟩ := I.tuple r1
    exact ⟨o, its.toArray, n, ho, hc, hd, by simpa using nk_items hK I h r2 rv2⟩
  | _ => simp [nkey] at h
end
abbrev NP : List (NK × Addr × V) → List (NK × Addr × Value) → Prop := Paired (fun (p : NK × Addr × V) (q : NK × Addr × Value) => p.1 = q.1 ∧ p.2.1 = q.2.1 ∧ RelV p.2.2 q.2.2)
theorem NP.fst {kx : List (NK × Addr × V)} {xs : List (NK × Addr × Value)} (h : NP kx xs) : xs.map (·.1) = kx.map (·.1) := by
  induction h with
  | nil => rfl
  | cons hq t ih => simp only [List.map_cons, ih, hq.1]
section
variable {X : Cx} {C : Ct} {W : WX} {k : Nat} {pos : Pos}
theorem TRs.keys {ι : Io} {H : Hp} (hK : X.K = C.K) : ∀ {kvs : List (MV × MV)} {kx : List (NK × Addr × V)}, TRs C ι H kvs kx → ∀ e ∈ kx, NKA X H e.2.1 e.1
  | [], kx, h => by simp only [TRs] at h; subst h; intro e he; exact nomatch he
  | p :: r, kx, h => by
    simp only [TRs] at h
    obtain ⟨q, w, rfl, ⟨h1, h2, h3⟩, h4⟩ := h
    intro e he
    rcases List.mem_cons.mp he with z | he
    · subst z
      obtain ⟨b, e1, e2⟩ := nk_at hK h1 h2
      cases e1
      exact e2
    · exact TRs.keys hK h4 e he
theorem TRs.len {ι : Io} {H : Hp} : ∀ {kvs : List (MV × MV)} {kx : List (NK × Addr × V)}, TRs C ι H kvs kx → kx.length = kvs.length
  | [], kx, h => by simp only [TRs] at h; subst h; rfl
  | p :: r, kx, h => by
    simp only [TRs] at h
    obtain ⟨q, w, rfl, _, h4⟩ := h
    simp only [List.length_cons, TRs.len h4]
end
end Mi
namespace Mi
namespace Sh
open PySem L2
end Sh
end Mi
namespace Mi
open PySem PySem.Spec PyProof.Rows L2 TL LamX
/-- the cells of a closure -/
def adOf (fr : List Str) (cl : List (Str × Addr)) : List Addr := fr.filterMap fun y => cl.lookup y
def unt (H : Hp) (ad : List Addr) : Hp := fun b => if b ∈ ad then none else H b
def ret (H : Hp) (ad : List Addr) (H' : Hp) : Hp := fun b => if b ∈ ad then H b else H' b
theorem unt_in {H : Hp} {ad : List Addr} {b : Addr} (h : b ∈ ad) : unt H ad b = none := by unfold unt; rw [if_pos h]
theorem unt_out {H : Hp} {ad : List Addr} {b : Addr} (h : b ∉ ad) : unt H ad b = H b := by unfold unt; rw [if_neg h]
/-- what stands at the addresses ad: cells -/
def CellsH (H : Hp) (ad : List Addr) : Prop := ∀ b ∈ ad, ∃ v, H b = some (CellO b v)
section
variable {P : Program} {w : World} {H H' : Hp} {h h' : Heap} {ad : List Addr}
theorem cell_at (ok : HOk P w H h) {b : Addr} {v : V} (e : H b = some (CellO b v)) : ∃ u, RelV v u ∧ h.IsCell b (some u) := (ok b _ e).1
theorem CellsH.plain (c : CellsH H ad) {b : Addr} {o : HO} (e : H b = some o) (hn : ∀ φ, o ≠ .ext φ) : b ∉ ad := fun hm => by
  obtain ⟨v, e2⟩ := c b hm
  rw [e] at e2
  exact hn _ (Option.some.inj e2)
end
section
variable {C : Ct} {ι ι' : Io} {S S' : Sto} {H H' : Hp} {ad : List Addr}
theorem CellsH.old (c : CellsH H ad) {b : Addr} {o : HO} (e : H b = some o) (hn : ∀ φ, o ≠ .ext φ) : unt H ad b = some o := (unt_out (c.plain e hn)).trans e
theorem CellsH.rd (c : CellsH H ad) {b : Addr} {u : HO} (e : Rd H b u) (hn : ∀ φ, u ≠ .ext φ) : Rd (unt H ad) b u := by
  rcases e with e | ⟨o, e⟩
  · exact .inl (c.old e hn)
  · exact .inr ⟨o, c.old e fun φ z => by cases z⟩
end
end Mi
namespace Mi
open PySem PySem.Spec PyProof.Rows L2 TL LamX
section
variable {P : Program} {w : World} {C : Ct} {ι : Io} {H : Hp} {h : Heap} {fr : List Str} {cl : List (Str × Addr)} {cvs : List V}
theorem ad_mem {b : Addr} : b ∈ adOf fr cl ↔ ∃ y ∈ fr, cl.lookup y = some b := by
  unfold adOf
  rw [List.mem_filterMap]
theorem CelR.cells (r : CelR ι H fr cl cvs) : CellsH H (adOf fr cl) := fun b hb => by
  obtain ⟨y, hy, e⟩ := ad_mem.mp hb
  obtain ⟨i, hi⟩ := List.mem_iff_getElem?.mp hy
  obtain ⟨c, v, e1, _, e3⟩ := r.has i y hi
  rw [e] at e1; cases e1
  exact ⟨v, e3⟩
theorem CelR.at_ (r : CelR ι H fr cl cvs) (ok : HOk P w H h) : NdefX.CellsAt cl fr (cvs.map some) h (unt H (adOf fr cl)) := by
  refine ⟨by rw [List.length_map]; exact r.len, fun y c e => ?_, r.inj, fun i y e => ?_⟩
  · have hb : c ∈ adOf fr cl := ad_mem.mpr ⟨y, (r.dom y c e).1, e⟩
    obtain ⟨v, e2⟩ := r.cells c hb
    obtain ⟨u, _, hc⟩ := cell_at ok e2
    exact ⟨unt_in hb, some u, hc⟩
  · obtain ⟨c, v, e1, e2, e3⟩ := r.has i y e
    refine ⟨c, e1, fun v' ev => ?_⟩
    rw [List.getElem?_map, e2] at ev
    simp only [Option.map_some, Option.some.injEq] at ev
    subst ev
    obtain ⟨u, ru, hc⟩ := cell_at ok e3
    exact ⟨u, ru, hc⟩
end
end Mi
namespace Mi
open PySem PySem.Spec PyProof.Rows L2 TL LamX
/-- the code tables that the store has are those of ts -/
def TbOk (ts : List Nat) (S : Sto) : Prop := ∀ t, MO.tb t ∈ S ↔ t ∈ ts
end Mi
namespace Mi
open PySem PySem.Spec PyProof.Rows L2 TL LamX
def MadeR (C : Ct) (ι : Io) (H : Hp) (cells : List (Str × Addr)) (g : Nat) (v : V) : Prop := ∃ f c', v = .ref f ∧ f ∉ ι ∧ H f = some (NdefX.FnO f ((C.nd g).mk' (cloFrom cells (C8.fnScope (C.nd g).st).names []) c')) ∧ c' ∉ ι ∧ H c' = some (CodeO c' (C.nd g).ql)
section
variable {C : Ct} {ι : Io} {S : Sto} {H H1 : Hp} {X : Cx} {pins : List (Addr × Obj)} {σ : L2.St} {s : Shared} {cj js : List Nat} {g : Nat} {v : V} {cells : List (Str × Addr)} {fr : List Str}
theorem MadeR.mono (e : Ext ι H ι H1) (h : MadeR C ι H cells g v) : MadeR C ι H1 cells g v := by
  obtain ⟨f, c', rfl, n1, h1, n2, h2⟩ := h
  exact ⟨f, c', rfl, n1, e.old _ _ h1 n1, n2, e.old _ _ h2 n2⟩
end
end Mi
namespace Mi
open PySem L2 TL
namespace Sh
end Sh
end Mi
namespace Mi
open PySem L2 TL
namespace Sh
end Sh
end Mi
namespace Mi
open PySem L2 TL
namespace Sh
end Sh
end Mi
namespace Mi
open PySem PySem.Spec PyProof.Rows L2 TL
namespace Sh
end Sh
end Mi
namespace Mi
open PySem L2
open PySem.SeqAt (EqIn EqAt)
section
variable {prog : Program} {w : World}
/-- the road of the unlike question of two tuples, item by item, for one program and one world -/
theorem tup_neIn (l b : Addr) (xs ys : Array Value) (n n2 : Nat) (dd dd2 : Option Addr) (sl sl2 : Array (Option Value)) (e : Nat → Bool) :
    MeetsIn prog w (Builtin.«tuple.__ne__» ⟨[.ref l, .ref b], []⟩)
      (fun A R s => s.heap.get? l = some { cls := .type "tuple", dict := dd, data := .seq xs n, slots := sl } ∧ s.heap.get? b = some { cls := .type "tuple", dict := dd2, data := .seq ys n2, slots := sl2 } ∧
        (∀ j (h1 : j < xs.size) (h2 : j < ys.size), EqIn prog w A.in1 s xs[j] ys[j] (e j)) ∧
        R (.ok (.ret (.bool (!((List.range (min xs.size ys.size)).all e && xs.size == ys.size))))) s) :=
  .of_wp fun A R s h => by
    obtain ⟨hp, g, d, tk, os⟩ := s
    obtain ⟨hl, hb, he, h⟩ := h
    have f2 := AutoSeq1.sub_tuple_tuple
    have hZ : (xs.toList.zip ys.toList).length = min xs.size ys.size := by simp
    wp_walk using AutoSeq1.wpAny_loadPart' hl, AutoSeq1.wpAny_loadPart' hb, wpAny_forIn_list _ (fun rest b s' => b.1 = none ∧ s' = ⟨hp, g, d, tk, os⟩ ∧ ∃ i, rest = (xs.toList.zip ys.toList).drop i ∧
      R (.ok (.ret (.bool (!(((List.range (min xs.size ys.size)).drop i).all e && xs.size == ys.size))))) ⟨hp, g, d, tk, os⟩) _
    case turn =>
      rintro ⟨y, x⟩ rest b s' ⟨hb', rfl, i, hz, hR⟩
      have hlt : i < (xs.toList.zip ys.toList).length := by
        by_cases h' : i < (xs.toList.zip ys.toList).length
        · exact h'
        · rw [List.drop_of_length_le (by omega)] at hz; cases hz
      have hm : i < min xs.size ys.size := by omega
      have h1 : i < xs.size := by omega
      have h2 : i < ys.size := by omega
      rw [List.drop_eq_getElem_cons hlt] at hz
      injection hz with hyx hrest
      have hy : y = xs[i] := by have := congrArg Prod.fst hyx; simpa using this
      have hx : x = ys[i] := by have := congrArg Prod.snd hyx; simpa using this
      subst hy hx
      have hd : (List.range (min xs.size ys.size)).drop i = i :: (List.range (min xs.size ys.size)).drop (i + 1) := by simp [List.drop_eq_getElem_cons, hm]
      rw [hd, List.all_cons] at hR
      refine wpAny_bind (he i h1 h2 _ _ ?_)
      cases hy : e i with
      | true =>
        rw [hy] at hR
        wp_walk
        exact ⟨rfl, rfl, i + 1, hrest, by simpa using hR⟩
      | false =>
        rw [hy] at hR
        wp_walk
        exact ⟨_, rfl, by simpa using hR⟩
    case fin =>
      rintro ⟨b1, b2⟩ s' ⟨hb', rfl, i, hz, hR⟩
      simp only at hb'
      subst hb'
      have hge : min xs.size ys.size ≤ i := by
        by_cases h' : i < (xs.toList.zip ys.toList).length
        · rw [List.drop_eq_getElem_cons h'] at hz; cases hz
        · omega
      rw [List.drop_of_length_le (by simpa using hge)] at hR
      wp_walk
      exact ⟨_, rfl, by simpa [Builtin.Tuple.tupleCompareSizes, bne] using hR⟩
    case h =>
      exact ⟨rfl, rfl, 0, rfl, by simpa using h⟩
theorem rcIn_tupNe {A : Around} {s : Shared} {E : Value → Shared → Prop} {l b : Addr} {xs ys : Array Value} {e : Nat → Bool} {Q : Value → Shared → Prop} (hl : s.heap.IsTuple l xs) (hb : s.heap.IsTuple b ys) (hu : A.units < cLine)
    (he : ∀ j (h1 : j < xs.size) (h2 : j < ys.size), EqIn prog w A.in1 s xs[j] ys[j] (e j)) (h : Q (.bool (!((List.range (min xs.size ys.size)).all e && xs.size == ys.size))) s) :
    wpAny (model prog w) A (richCompare .NotEq (.ref l) (.ref b)) Q E s := by
  obtain ⟨⟨c, dd, data, sl⟩, ho, hc, n, hd⟩ := id hl
  obtain ⟨⟨c2, dd2, data2, sl2⟩, ho2, hc2, n2, hd2⟩ := id hb
  simp only at hc hd hc2 hd2
  subst hc hd hc2 hd2
  exact wpAny_richCompare_same_room (T := "tuple") (op := .NotEq) ⟨_, ho, rfl⟩ ⟨_, ho2, rfl⟩ PySem.F.slot_tuple_ne (call_meetsIn PySem.F.slot_tuple_ne ⟨_, ho, rfl⟩ PySem.F.entry_tuple_ne (PySem.F.args_tuple_ne_2 _ _) (tup_neIn l b xs ys n n2 dd dd2 sl sl2 e)
    ⟨ho, ho2, he, show Value.bool (!((List.range (min xs.size ys.size)).all e && xs.size == ys.size)) ≠ Value.notImplemented ∧ Q (.bool (!((List.range (min xs.size ys.size)).all e && xs.size == ys.size))) s from ⟨(fun x => nomatch x), h⟩⟩) hu
end
section
variable {X : Cx} {C : Ct} {ι : Io} {pins : List (Addr × Obj)} {σ : L2.St} {H : Hp} {s : Shared}
theorem valV_mem {x : List (Key × V)} (nd : (x.map (·.1)).Nodup) {k : Key} {u : V} (h : (k, u) ∈ x) : valV x k = some u := by
  induction x with
  | nil => cases h
  | cons p r ih =>
    rw [List.map_cons, List.nodup_cons] at nd
    unfold valV
    rw [List.find?_cons]
    by_cases e : p.1 = k
    · rcases List.mem_cons.mp h with h | h
      · subst h; simp
      · exact absurd (List.mem_map.mpr ⟨_, h, rfl⟩) (e ▸ nd.1)
    · rcases List.mem_cons.mp h with h | h
      · subst h; exact absurd rfl e
      · simp only [e, decide_false]
        exact ih nd.2 h
theorem KV.keys {x : List (Key × V)} {v : List (Key × Value)} (h : KV x v) : x.map (·.1) = v.map (·.1) := by
  unfold KV at h
  induction h with
  | nil => rfl
  | cons a _ ih => rw [List.map_cons, List.map_cons, ih, a.1]
theorem deqDs_same (hK : X.K = C.K) (I : Inv X pins σ H s) {x : List (Key × V)} (nd : (x.map (·.1)).Nodup) {k2 : List (MV × MV)} (h2 : KRs C ι H k2 x) :
    ∀ {k1 : List (MV × MV)} {r : List (Key × V)} {c : Bool}, KRs C ι H k1 r → (∀ p ∈ r, p ∈ x) → deqDs k2 k1 = some c → c = true
  | [], r, c, h1, hm, h => by
    simp only [deqDs, Option.some.injEq] at h
    exact h.symm
  | (k, u) :: t, r, c, h1, hm, h => by
    simp only [KRs] at h1
    obtain ⟨⟨key, z⟩, w, rfl, g1, g2⟩ := h1
    simp only [KR] at g1
    obtain ⟨hk, e⟩ := keyR_eq g1.1
    have e : key = keyOf k := e
    subst e
    unfold deqDs at h
    rw [if_pos hk] at h
    obtain ⟨l1, l2⟩ := kLook_val hk h2
    have hv := valV_mem nd (hm (keyOf k, z) (by simp))
    split at h
    · rename_i el
      have := l2 el
      rw [hv] at this
      cases this
    · rename_i y el
      split at h
      · rename_i a b e1 e2
        simp only [Option.some.injEq] at h
        obtain ⟨u2, e3, e4⟩ := l1 y el
        rw [hv] at e3
        simp only [Option.some.injEq] at e3
        subst e3
        have i1 := deq_same hK I 58 _ _ _ _ (VR.vw g1.2) (VR.vw e4) e1
        have i2 := deqDs_same hK I nd h2 g2 (fun p hp => hm p (List.mem_cons_of_mem _ hp)) e2
        rw [← h, i1, i2]
        rfl
      · cases h
/-- an item of a tuple: dicts by their entries, all else as ever -/
noncomputable def pEq (S : Sto) (x y : MV) : Option Bool := match asD S x, asD S y with
  | some a, some b => deqD a b
  | _, _ => deq 58 (view S x) (view S y)
theorem rd_one {H : Hp} {a : Addr} {u v : HO} (h1 : Rd H a u) (h2 : Rd H a v) (n1 : ∀ o t, u ≠ .frz o t) (n2 : ∀ o t, v ≠ .frz o t) : u = v := by
  rcases h1 with h1 | ⟨o, h1⟩ <;> rcases h2 with h2 | ⟨o2, h2⟩
  · rw [h1] at h2; exact Option.some.inj h2
  · rw [h1] at h2; exact absurd (Option.some.inj h2) (n1 _ _)
  · rw [h1] at h2; exact absurd (Option.some.inj h2).symm (n2 _ _)
  · rw [h1] at h2
    have := Option.some.inj h2
    injection this
theorem pEq_run (hK : X.K = C.K) (I : Inv X pins σ H s) {S : Sto} (hs : StR C ι S H) {A : Around} (hA : A.units + 61 < cLine) {x y : MV} {v u : V} {vv uu : Value} {b : Bool} (h1 : VR C ι H x v) (h2 : VR C ι H y u) (r1 : RelV v vv) (r2 : RelV u uu) (h : pEq S x y = some b) : EqIn X.prog X.w A s vv uu b := by
  unfold pEq at h
  split at h
  · rename_i k1 k2 e1 e2
    obtain ⟨a, x1, rfl, g1, g2⟩ := asD_ok hs h1 e1
    obtain ⟨a', x2, rfl, g3, g4⟩ := asD_ok hs h2 e2
    cases r1; cases r2
    obtain ⟨_, hd1, v1, q1, d1⟩ := dk_rd I.hok g1
    obtain ⟨_, hd2, v2, q2, d2⟩ := dk_rd I.hok g3
    have l1 := q1.length
    have l2 := q2.length
    have l3 := g2.len'
    have l4 := g4.len'
    by_cases ha : a = a'
    · subst ha
      have e := rd_one g1 g3 (fun _ _ z => by cases z) (fun _ _ z => by cases z)
      injection e with e
      subst e
      have nd : (x1.map (·.1)).Nodup := by
        rw [q1.keys]
        obtain ⟨_, _, _, _, _, _, _, _, hn⟩ := d1
        exact hn
      unfold deqD at h
      rw [if_pos (by omega)] at h
      have := deqDs_same hK I nd g4 g2 (fun p hp => hp) h
      subst this
      exact (PySem.SeqAt.EqAt.same _).inModel _ _
    · unfold deqD at h
      refine PySem.SeqAt.EqIn.of_refs ha fun E Q hq => ?_
      split at h
      · rename_i hl
        refine PySem.W.keq_eq hd1 hd2 d1 d2 (r := b) (by omega) (fun _ => hits_of hK I (by show A.units + 1 + 59 < cLine; omega) g4 q2 g2 q1 h) ?_
        have : (v1.length == v2.length) = true := by simp; omega
        rw [this, Bool.true_and]
        exact hq
      · rename_i hl
        simp only [Option.some.injEq] at h
        subst h
        refine PySem.W.keq_eq hd1 hd2 d1 d2 (r := true) (by omega) (fun z => absurd z (by omega)) ?_
        have : (v1.length == v2.length) = false := by simp; omega
        rw [this, Bool.false_and]
        exact hq
  · exact (deq_run hK I 58 A (by omega) _ _ _ _ _ _ _ (view_ok hs h1) (view_ok hs h2) r1 r2 h).inModel _ _
end
noncomputable def tEq (S : Sto) (x y : MV) : Option Bool := match x, y with
  | .tup xs, .tup ys => (all2 (pEq S) xs ys).map fun b => b && xs.length == ys.length
  | _, _ => none
noncomputable def fNeP (x y : MV) (S : Sto) : Res MV := match tEq S x y with
  | some b => .ok (.bl (!b)) S
  | none => .bad
def rTupP (C : Ct) (neg : Bool) : R2 := fun v u H Q => ∃ ι S x y b, StR C ι S H ∧ VR C ι H x v ∧ VR C ι H y u ∧ tEq S x y = some b ∧ Q (.bl (if neg then !b else b)) H
section
variable {X : Cx} {C : Ct}
theorem tup_items (hK : X.K = C.K) {ι : Io} {pins : List (Addr × Obj)} {σ : L2.St} {H : Hp} {s : Shared} (I : Inv X pins σ H s) {S : Sto} (hs : StR C ι S H) {A : Around} (hA : A.units + 61 < cLine) {x y : MV} {v u : V} {vv uu : Value} {b : Bool} (h1 : VR C ι H x v) (h2 : VR C ι H y u) (r1 : RelV v vv) (r2 : RelV u uu) (h : tEq S x y = some b) :
    ∃ (a a' : Addr) (xs ys : Array Value) (e : Nat → Bool), vv = .ref a ∧ uu = .ref a' ∧ s.heap.IsTuple a xs ∧ s.heap.IsTuple a' ys ∧ (∀ j (h1 : j < xs.size) (h2 : j < ys.size), EqIn X.prog X.w A s xs[j] ys[j] (e j)) ∧ ((List.range (min xs.size ys.size)).all e && xs.size == ys.size) = b := by
  unfold tEq at h
  split at h
  · rename_i xs ys
    obtain ⟨a, vs, rfl, p1, p2⟩ := VR.vw h1
    obtain ⟨a', ws, rfl, q1, q2⟩ := VR.vw h2
    cases r1; cases r2
    have tpl : ∀ {a : Addr} {vs : List V}, SqT C.K H a vs → ∃ its : List Value, Vals vs its ∧ s.heap.IsTuple a its.toArray := fun {a vs} p => by
      rw [← hK] at p
      obtain ⟨its, rv, pl, _⟩ := I.tuple p
      exact ⟨its, rv, pl⟩
    obtain ⟨its, rv, il⟩ := tpl p1
    obtain ⟨its2, rv2, il2⟩ := tpl q1
    cases e2 : all2 (pEq S) xs ys with
    | none => rw [e2] at h; cases h
    | some c =>
      rw [e2] at h
      simp only [Option.map_some, Option.some.injEq] at h
      obtain ⟨e, e3, e4⟩ := all2_at e2
      have l1 : its.toArray.size = xs.length := by rw [List.size_toArray, ← rv.length, p2.len]
      have l2 : its2.toArray.size = ys.length := by rw [List.size_toArray, ← rv2.length, q2.len]
      refine ⟨a, a', its.toArray, its2.toArray, e, rfl, rfl, il, il2, fun j j1 j2 => ?_, by rw [l1, l2, e4, h]⟩
      have j1' : j < its.length := by simpa using j1
      have j2' : j < its2.length := by simpa using j2
      have l1 := rv.length
      have l2 := rv2.length
      obtain ⟨x, ex, rx⟩ := p2.at' (i := j) (v := vs[j]'(by omega)) (by simp)
      obtain ⟨y, ey, ry⟩ := q2.at' (i := j) (v := ws[j]'(by omega)) (by simp)
      obtain ⟨p, ep, rp⟩ := rv.get (i := j) (x := vs[j]'(by omega)) (by simp)
      obtain ⟨q, eq, rq⟩ := rv2.get (i := j) (x := ws[j]'(by omega)) (by simp)
      have e1 : its.toArray[j] = p := by simp only [List.getElem_toArray]; rw [List.getElem?_eq_getElem j1'] at ep; exact Option.some.inj ep
      have e2 : its2.toArray[j] = q := by simp only [List.getElem_toArray]; rw [List.getElem?_eq_getElem j2'] at eq; exact Option.some.inj eq
      rw [e1, e2]
      exact pEq_run hK I hs hA rx ry rp rq (e3 j x y ex ey)
  · cases h
theorem op_neP (hK : X.K = C.K) (hu : X.A.units + 64 < cLine) : OpR X (compareOp .NotEq) (rTupP C true) := by
  intro pins s σ H v u vv uu Q I rx ry h
  obtain ⟨ι, S, x, y, b, hs, h1, h2, h3, q⟩ := h
  obtain ⟨a, a', xs, ys, e, rfl, rfl, i1, i2, he, hb⟩ := tup_items hK I hs (A := X.A.in1) (by show X.A.units + 1 + 61 < cLine; omega) h1 h2 rx ry h3
  exact rcIn_tupNe i1 i2 (by omega) he (by rw [hb]; exact ⟨.bl (!b), H, I, rfl, q⟩)
theorem opm_neP : OpM C fNeP (rTupP C true) := by
  intro W ι σ S H x y v u Q hs h1 h2 hp
  unfold fNeP at hp
  split at hp
  · rename_i b e
    exact ⟨ι, S, x, y, b, hs, h1, h2, e, hp ι H _ .refl hs (by simp only [VR]; rfl)⟩
  · exact hp.elim
end
end Mi
namespace ItI
section
open PySem PySem.Spec PyProof.Rows
variable {prog : Program} {w : World} {A : Around} {E : Value → Shared → Prop} {s : Shared} {K : Type} [DecidableEq K] {knd : KeyKind prog w K} {r d : Addr} {kvs : List (K × Value)} {ep : Nat}
theorem code_tuple_items {Q₁ : Value → Shared → Prop} (hh : A.handled = none) (hv : s.heap.IsItemsView r d) (hm : s.heap.DictAt knd d kvs ep) (hn : kvs.length ≤ sizeLine)
    (h : ∀ (h' : Heap) (tk : Nat) (as : List Addr), (∀ b o, s.heap.get? b = some o → h'.get? b = some o) → as.length = kvs.length → PySem.W.KdxG knd kvs s.heap.objs.size h' as →
      Q₁ (.ref h'.objs.size) { s with heap := h'.push { cls := .type "tuple", data := .seq (as.map Value.ref).toArray }, toks := tk }) :
    codeAny (model prog w) A (.call (.builtin "tuple.__new__") ⟨[.type "tuple", .ref r], []⟩) (wants Q₁ E) s := by
  refine codeAny_of_tree ?_
  show wpAny _ A.in1 (do checkBuiltinCall "tuple.__new__" ⟨[.type "tuple", .ref r], []⟩; again (.builtin "tuple.__new__" ⟨[.type "tuple", .ref r], []⟩)) _ _ s
  refine wpAny_bind (wpAny_of_eq (F.newCall_tuple_1 _) (wpAny_pure ⟨plainId_quiet F.plain_tuple_new _, codeAny_builtin F.entry_tuple_new ?_⟩))
  rw [Around.under_plainId F.plain_tuple_new _]
  have hsub := sub_tuple_self
  have hinit := init_tuple_lookup
  have hmh := madeHere_tuple
  have hTI : s.TypeIs (.ref r) "dict_items" := hv.typeIs
  have hh1 : A.in1.handled = none := hh
  wp_walk using wpAny_typeOf hTI, PySem.W.kdx_collect (A := A.in1) hh1 hv hm hn
  intro h' tk as hk hl hG
  show wpAny _ _ (Builtin.Tuple.tupleExact (as.map Value.ref).toArray >>= fun v => ret v) _ _ _
  unfold Builtin.Tuple.tupleExact
  refine wpAny_bind (wpAny_newObj_type ?_ (by show (as.map Value.ref).toArray.size ≤ sizeLine; simp only [List.size_toArray, List.length_map]; omega))
  exact wpAny_pure (h h' tk as hk hl hG)
theorem call_tuple_items {Q : Value → Shared → Prop} (hh : A.handled = none) (hv : s.heap.IsItemsView r d) (hm : s.heap.DictAt knd d kvs ep) (hn : kvs.length ≤ sizeLine)
    (hQ : ∀ (h' : Heap) (tk : Nat) (as : List Addr), (∀ b o, s.heap.get? b = some o → h'.get? b = some o) → as.length = kvs.length → PySem.W.KdxG knd kvs s.heap.objs.size h' as →
      Q (.ref h'.objs.size) { s with heap := h'.push { cls := .type "tuple", data := .seq (as.map Value.ref).toArray }, toks := tk }) :
    wpAny (model prog w) A (call (.type "tuple") [.ref r]) Q E s := by
  refine callType_codes (Q₁ := fun obj s₁ => s₁.TypeIs obj "tuple" ∧ Q obj s₁) F.called_tuple (F.typeCall_tuple_1 _) F.entry_object_init
    (code_tuple_items (A := A.in1) hh hv hm hn fun h' tk as hk hl hG => ⟨⟨_, Heap.get?_push_size _ rfl, rfl⟩, hQ h' tk as hk hl hG⟩) fun obj s₁ h₁ => ?_
  exact ⟨h₁.1, F.args_object_init_2 obj _, object_init_meets F.called_tuple.init.lookup F.called_tuple.made (by decide) prog w A.in1 _ s₁ ⟨h₁.1, rfl, h₁.2⟩⟩
end
section
open PySem PySem.Spec PyProof.Rows L2 LiI
variable {X : Cx}
theorem paired_imp {α β : Type} {F G : α → β → Prop} : ∀ {xs : List α} {ys : List β}, Paired F xs ys → (∀ x ∈ xs, ∀ y, F x y → G x y) → Paired G xs ys
  | _, _, .nil, _ => .nil
  | _, _, .cons h t, k => .cons (k _ List.mem_cons_self _ h) (paired_imp t fun x hx => k x (List.mem_cons_of_mem _ hx))
/-- a new list (or tuple) of the dict's pairs, each a new tuple -/
def rItemsR (tup : Bool) : V → Hp → VK → Prop := fun x H Q => ∃ (d : Addr) (kvs : List (Key × V)), x = .ref d ∧ Rd H d (.dK kvs) ∧
  ∀ (H' : Hp) (p : Addr) (ts : List Addr), (∀ b o, H b = some o → H' b = some o) → H p = none → (∀ t ∈ ts, H t = none) → p ∉ ts → H' p = some (if tup then .tup (ts.map V.ref) else .lst (ts.map V.ref)) → Paired (fun (t : Addr) (q : Key × V) => H' t = some (.tup [kV q.1, q.2])) ts kvs → Q (.ref p) H'
theorem tups_laid {pins : List (Addr × Obj)} {σ : L2.St} {H : Hp} {s : Shared} {h' : Heap} {tk : Nat} {kvs : List (Key × V)} {vs : List (Key × Value)} {as : List Addr} (I : Inv X pins σ H s) (kv : KV kvs vs)
    (hk : ∀ b o, s.heap.get? b = some o → h'.get? b = some o) (hl : as.length = vs.length) (hG : PySem.W.KdxG (mixKind X.prog X.w) vs s.heap.objs.size h' as) :
    ∃ H' : Hp, (∀ b o, H b = some o → H' b = some o) ∧ (∀ t ∈ as, H t = none) ∧ Paired (fun (t : Addr) (q : Key × V) => H' t = some (.tup [kV q.1, q.2])) as kvs ∧ Inv X pins σ H' { s with heap := h', toks := tk } := by
  have lk : kvs.length = vs.length := Paired.length kv
  have nd : as.Nodup := List.Pairwise.imp (fun {a b} (h : a < b) => Nat.ne_of_lt h) hG.rise
  have new : ∀ t ∈ as, H t = none := fun t ht => I.hok.fresh (Nat.le_of_lt (hG.above t ht))
  have atP := putT_at as kvs H (by omega) nd
  have off : ∀ b, b ∉ as → putT H as kvs b = H b := fun b h1 => putT_off as kvs _ h1
  have low : ∀ b o, s.heap.get? b = some o → b ∉ as := fun b o e z => absurd (Heap.lt_size e) (Nat.not_lt.mpr (Nat.le_of_lt (hG.above b z)))
  have kp : ∀ b u, H b = some u → (putT H as kvs) b = some u := fun b u e => by
    rw [off b (fun z => by rw [new b z] at e; cases e)]
    exact e
  refine ⟨putT H as kvs, kp, new, atP, ?_⟩
  refine I.call' (ch := []) rfl ⟨fun b o q _ _ _ => hk b o q, fun b o q _ _ _ => ⟨o.slots, hk b o q⟩, fun b o q n _ => ?_, fun b o q _ => ⟨o, hk b o q⟩, fun b xs q => kp b _ q, fun b o u q => kp b _ q, fun b ps q => ⟨#[], by rw [kp b _ q]; simp⟩⟩ (fun b u q => ?_) I.bare fun b z => by simp at z
  · rw [off b (low b o q)]
    exact n
  · by_cases hb : b ∈ as
    · obtain ⟨j, pk, e1, e2, e3⟩ := paired_ix atP hb
      rw [e3] at q
      cases q
      obtain ⟨key, k, x, f1, f2, f3⟩ := hG.pairs j b e1
      obtain ⟨qv, g1, g2, g3⟩ := LiI.paired_get kv e2
      rw [f1] at g1
      cases g1
      have rk : RelV (kV pk.1) key := by
        rw [g2]
        exact relV_key (show keyIs k key = true from f2)
      exact ⟨by show 2 ≤ sizeLine; decide, [key, x], .cons rk (.cons g3 .nil), ⟨_, f3, rfl, _, rfl⟩⟩
    · rw [off b hb] at q
      exact (I.hok b u q).stay (fun d v _ y => hk d v y) (fun d y => kp d _ y) fun d xs y => kp d _ y
theorem rd_dict {pins : List (Addr × Obj)} {σ : L2.St} {H : Hp} {s : Shared} {d : Addr} {kvs : List (Key × V)} (I : Inv X pins σ H s) (h : Rd H d (.dK kvs)) : ObjOk X.prog X.w H s.heap d (.dK kvs) := by
  rcases h with h | ⟨o, h⟩
  · exact I.hok d _ h
  · exact (I.hok d _ h).2
variable {e : Expr} {te : TE} {p apos cpos pos : Pos}
/-- list(e.items()) -/
theorem pe_listItemsR (hc : X.calm = true) (he : PE X e te) (hg : Gl X "list") (hm : X.mg "list" = none) (hbase : attributeBase e "items" X.env (eval e X.env) = eval e X.env := by rfl) (hline : (apos.endLine == cpos.line) = true := by rfl)
    (hs : starEach [.Call (.Attribute e "items" apos) [] [] cpos] X.env = (false, eval (.Call (.Attribute e "items" apos) [] [] cpos) X.env) :: starEach [] X.env := by rfl) :
    PE X (.Call (.Name "list" p) [.Call (.Attribute e "items" apos) [] [] cpos] [] pos) (fun σ H Q => te σ H fun x H1 => rItemsR false x H1 Q) := by
  refine ⟨fun pins s σ H Q I hq => ?_⟩
  refine wpAny_Call_Name_kw (ld_blt I hg hm boot_list ?_)
  refine PyProof.Rows.callWith_type1 ?_ hs rfl
  rw [hs]
  show wpAny _ _ (spliced ((false, eval (.Call (.Attribute e "items" apos) [] [] cpos) X.env) :: backTo pos (starEach [] X.env))) _ _ s
  refine Calls.spliced_cons ?_
  refine wpAny_Call_method (T := "dict") (id := "dict.items") hbase rfl hline F.plainAttrs_dict F.slot_dict_items F.type_dict_items (thn (he.run pins s σ H _ I hq) fun u s1 ⟨x, H1, I1, rx, d, kvs, ex, hd, q⟩ => ?_)
  subst ex
  obtain rfl : u = Value.ref d := rx
  obtain ⟨hz, hs0, vs, kv, hdo⟩ := rd_dict I1 hd
  obtain ⟨ep, hat⟩ := hdo.dictAt
  have lk : kvs.length = vs.length := Paired.length kv
  have I2 : Inv X pins σ H1 { s1 with heap := s1.heap.push { cls := .type "dict_items", data := .fields #[.ref d] } } := I1.kept (t' := s1.toks) fun b ob q => Heap.get?_push_of_some _ q
  refine ⟨hdo.typeIs, hdo.mapOf.noDict, ?_⟩
  show wpAny _ _ (callWith cpos (.builtin "dict.items") [.ref d] [] []) _ X.xe s1
  refine method_meetsIn F.slot_dict_items F.entry_dict_items rfl (PySem.evalArgs_none ⟨rfl, hdo.typeIs, F.args_dict_items_1 _, _, meets_dict_items (mixKind X.prog X.w) d hs0, ⟨vs, hdo⟩, ?_⟩)
  refine Calls.spliced_nil ?_
  refine PySem.W.kdx_call (knd := mixKind X.prog X.w) (kvs := vs) (ep := ep) (I1.ok.hd hc) ⟨_, Heap.get?_push_size _ rfl, rfl, rfl⟩ (hat.push _) (by omega) fun h' tk acc c as hk hS hl hG hacc => ?_
  obtain ⟨H', k1, k2, k3, k4, k5, k6, J⟩ := items_laid (tk := tk) I2 hz kv hk hS hl hG hacc
  exact ⟨.ref _, H', J, rfl, q H' _ as k1 k2 k3 k4 k5 k6⟩
/-- tuple(e.items()) -/
theorem pe_tupItemsR (hc : X.calm = true) (he : PE X e te) (hg : Gl X "tuple") (hm : X.mg "tuple" = none) (hbase : attributeBase e "items" X.env (eval e X.env) = eval e X.env := by rfl) (hline : (apos.endLine == cpos.line) = true := by rfl)
    (hs : starEach [.Call (.Attribute e "items" apos) [] [] cpos] X.env = (false, eval (.Call (.Attribute e "items" apos) [] [] cpos) X.env) :: starEach [] X.env := by rfl) :
    PE X (.Call (.Name "tuple" p) [.Call (.Attribute e "items" apos) [] [] cpos] [] pos) (fun σ H Q => te σ H fun x H1 => rItemsR true x H1 Q) := by
  refine ⟨fun pins s σ H Q I hq => ?_⟩
  refine wpAny_Call_Name_kw (ld_blt I hg hm boot_tuple ?_)
  refine PyProof.Rows.callWith_type1 ?_ hs rfl
  rw [hs]
  show wpAny _ _ (spliced ((false, eval (.Call (.Attribute e "items" apos) [] [] cpos) X.env) :: backTo pos (starEach [] X.env))) _ _ s
  refine Calls.spliced_cons ?_
  refine wpAny_Call_method (T := "dict") (id := "dict.items") hbase rfl hline F.plainAttrs_dict F.slot_dict_items F.type_dict_items (thn (he.run pins s σ H _ I hq) fun u s1 ⟨x, H1, I1, rx, d, kvs, ex, hd, q⟩ => ?_)
  subst ex
  obtain rfl : u = Value.ref d := rx
  obtain ⟨hz, hs0, vs, kv, hdo⟩ := rd_dict I1 hd
  obtain ⟨ep, hat⟩ := hdo.dictAt
  have lk : kvs.length = vs.length := Paired.length kv
  have I2 : Inv X pins σ H1 { s1 with heap := s1.heap.push { cls := .type "dict_items", data := .fields #[.ref d] } } := I1.kept (t' := s1.toks) fun b ob q => Heap.get?_push_of_some _ q
  refine ⟨hdo.typeIs, hdo.mapOf.noDict, ?_⟩
  show wpAny _ _ (callWith cpos (.builtin "dict.items") [.ref d] [] []) _ X.xe s1
  refine method_meetsIn F.slot_dict_items F.entry_dict_items rfl (PySem.evalArgs_none ⟨rfl, hdo.typeIs, F.args_dict_items_1 _, _, meets_dict_items (mixKind X.prog X.w) d hs0, ⟨vs, hdo⟩, ?_⟩)
  refine Calls.spliced_nil ?_
  refine call_tuple_items (knd := mixKind X.prog X.w) (kvs := vs) (ep := ep) (I1.ok.hd hc) ⟨_, Heap.get?_push_size _ rfl, rfl, rfl⟩ (hat.push _) (by omega) fun h' tk as hk hl hG => ?_
  obtain ⟨H', k1, k3, k6, J⟩ := tups_laid (tk := tk) I2 kv hk hl hG
  have pn : H' h'.objs.size = none := J.hok.fresh (Nat.le_refl _)
  have J2 : Inv X pins σ (upd H' h'.objs.size (.tup (as.map V.ref))) { s1 with heap := h'.push { cls := .type "tuple", data := .seq (as.map Value.ref).toArray }, toks := tk } :=
    J.laid (t' := tk) (fun b o e => Heap.get?_push_of_some _ e) (Nat.le_refl _) (show ObjOk X.prog X.w _ _ _ (.tup (as.map V.ref)) from ⟨by rw [List.length_map]; omega, as.map Value.ref, LiI.vals_refs as, IsTup.new _ _⟩)
  have pnot : h'.objs.size ∉ as := fun z => Nat.lt_irrefl _ (hG.there z)
  refine ⟨.ref _, _, J2, rfl, q _ _ as (fun b o e => ?_) ?_ k3 pnot (by rw [if_pos rfl]; exact upd_same) (paired_imp k6 fun t ht q e => ?_)⟩
  · have e2 := k1 b o e
    rw [upd_ne (ne_of_none e2 pn)]; exact e2
  · cases hp : H1 h'.objs.size with
    | none => rfl
    | some o => rw [k1 _ _ hp] at pn; cases pn
  · rw [upd_ne (fun z => pnot (by rw [← z]; exact ht))]; exact e
end
end ItI
namespace Mi
open PySem PySem.Spec L2 TL ItI
def itemsL (kvs : List (MV × MV)) : List MV := kvs.map fun p => .tup [p.1, p.2]
def fItemsL (mu : Bool) (x : MV) (S : Sto) : Res MV := match asD S x with
  | some kvs => mkL mu (itemsL kvs) S
  | none => .bad
def fItemsT (x : MV) (S : Sto) : Res MV := match asD S x with
  | some kvs => .ok (.tup (itemsL kvs)) S
  | none => .bad
def mItemsL (mu : Bool) (e : ME) : ME := fun env S => (e env S).bind fun x S1 => fItemsL mu x S1
def mItemsT (e : ME) : ME := fun env S => (e env S).bind fun x S1 => fItemsT x S1
section
variable {C : Ct} {W : WX} {ι : Io} {S : Sto} {H H' : Hp} {σ : L2.St}
theorem Ext.grow (k : ∀ b o, H b = some o → H' b = some o) : Ext ι H ι H' := ⟨List.prefix_refl _, fun _ q => .inl q, fun a u e _ => .inl (k a u e)⟩
theorem StR.grow (s : StR C ι S H) (k : ∀ b o, H b = some o → H' b = some o) : StR C ι S H' :=
  ⟨s.len, s.nd, fun l u a e1 e2 => by
    have q := s.ob l u a e1 e2
    obtain ⟨w, ew⟩ := q.some
    exact q.mono (Ext.grow k) (by rw [ew]; exact k a w ew), s.exM (Ext.grow k)⟩
theorem items_vr : ∀ {kvs : List (MV × MV)} {kx : List (Key × V)} {ts : List Addr}, KRs C ι H kvs kx → (∀ t ∈ ts, t ∉ ι) → Paired (fun (t : Addr) (q : Key × V) => H t = some (.tup [kV q.1, q.2])) ts kx → VRs C ι H (itemsL kvs) (ts.map V.ref)
  | [], kx, ts, r, hn, h => by
    simp only [KRs] at r
    subst r
    cases h
    simp only [itemsL, List.map_nil, VRs]
  | p :: r, kx, ts, rr, hn, h => by
    simp only [KRs] at rr
    obtain ⟨q, w, rfl, r1, r2⟩ := rr
    cases h with
    | cons h t =>
      rename_i a as
      obtain ⟨k, v⟩ := q
      have ih := items_vr r2 (fun t ht => hn t (List.mem_cons_of_mem _ ht)) t
      simp only [itemsL, List.map_cons, VRs, VR] at ih ⊢
      exact ⟨_, _, rfl, ⟨a, [kV k, v], rfl, .inl ⟨hn a List.mem_cons_self, .inl h⟩, ⟨_, _, rfl, kr_key r1, _, _, rfl, kr_val r1, rfl⟩⟩, ih⟩
theorem items_post {mu tup : Bool} {x : MV} {v : V} {Q : VK} (hs : StR C ι S H) (r : VR C ι H x v) (hp : Post C W (VR C) ι σ H (if tup then fItemsT x S else fItemsL mu x S) Q) : rItemsR tup v H Q := by
  cases e : asD S x with
  | none => cases tup <;> (simp only [fItemsT, fItemsL, e, if_true, Bool.false_eq_true, if_false] at hp; exact hp.elim)
  | some kvs =>
    obtain ⟨a, kx, rfl, g1, g2⟩ := asD_ok hs r e
    refine ⟨a, kx, rfl, g1, fun H' p ts k hpn hts hpt hP hPair => ?_⟩
    let H0 : Hp := fun b => if b = p then none else H' b
    have h0 : ∀ b, b ≠ p → H0 b = H' b := fun b hb => if_neg hb
    have h00 : H0 p = none := if_pos rfl
    have k0 : ∀ b o, H b = some o → H0 b = some o := fun b o eb => by
      rw [h0 b (fun z => by rw [z, hpn] at eb; cases eb)]; exact k b o eb
    have up : ∀ o, H' p = some o → upd H0 p o = H' := fun o eo => by
      funext b
      by_cases hb : b = p
      · rw [hb, upd_same, eo]
      · rw [upd_ne hb, h0 b hb]
    have s0 := hs.grow k0
    have x0 : Ext ι H ι H0 := Ext.grow k0
    have vr : VRs C ι H0 (itemsL kvs) (ts.map V.ref) := items_vr (KRs.mono x0 _ _ g2) (fun t ht => hs.fresh (hts t ht)) (paired_imp hPair fun t ht q e => by rw [h0 t (fun z => hpt (by rw [← z]; exact ht))]; exact e)
    cases tup with
    | true =>
      simp only [fItemsT, e, if_true] at hp hP
      rw [← up _ hP]
      exact mkT_ok s0 vr (hp.mono x0) p h00
    | false =>
      simp only [fItemsL, e, Bool.false_eq_true, if_false] at hp hP
      rw [← up _ hP]
      exact mkL_ok s0 vr (hp.mono x0) p h00
variable {X : Cx} {k : Nat} {e : Expr} {a : ME} {p apos cpos pos : Pos}
theorem je_itemsL (mu : Bool) (B : Bx C W k X) (h : PE X e (tM C W a)) (hm : X.mg "list" = none) (hg : Gl X "list" := by rfl) (hbase : attributeBase e "items" X.env (eval e X.env) = eval e X.env := by rfl) (hline : (apos.endLine == cpos.line) = true := by rfl)
    (hs : starEach [.Call (.Attribute e "items" apos) [] [] cpos] X.env = (false, eval (.Call (.Attribute e "items" apos) [] [] cpos) X.env) :: starEach [] X.env := by rfl) :
    PE X (.Call (.Name "list" p) [.Call (.Attribute e "items" apos) [] [] cpos] [] pos) (tM C W (mItemsL mu a)) :=
  peImp (pe_listItemsR B.calm h hg hm hbase hline hs) fun σ H Q h => by
    obtain ⟨ι, env, S, he, hs, hp⟩ := h
    exact ⟨ι, env, S, he, hs, hp.bind fun x S1 ι1 H1 v e1 s1 r1 p1 => items_post (mu := mu) (tup := false) s1 r1 p1⟩
theorem je_itemsT (B : Bx C W k X) (h : PE X e (tM C W a)) (hm : X.mg "tuple" = none) (hg : Gl X "tuple" := by rfl) (hbase : attributeBase e "items" X.env (eval e X.env) = eval e X.env := by rfl) (hline : (apos.endLine == cpos.line) = true := by rfl)
    (hs : starEach [.Call (.Attribute e "items" apos) [] [] cpos] X.env = (false, eval (.Call (.Attribute e "items" apos) [] [] cpos) X.env) :: starEach [] X.env := by rfl) :
    PE X (.Call (.Name "tuple" p) [.Call (.Attribute e "items" apos) [] [] cpos] [] pos) (tM C W (mItemsT a)) :=
  peImp (pe_tupItemsR B.calm h hg hm hbase hline hs) fun σ H Q h => by
    obtain ⟨ι, env, S, he, hs, hp⟩ := h
    exact ⟨ι, env, S, he, hs, hp.bind fun x S1 ι1 H1 v e1 s1 r1 p1 => items_post (mu := false) (tup := true) s1 r1 p1⟩
end
end Mi
namespace Mi
open PySem L2 TL
def fClearD (x : MV) (vs : List MV) (S : Sto) : Res MV := match x, vs with
  | .ref l, [] => (match S[l]? with
    | some (.dic _) => .ok .non (S.set l (.dic []))
    | _ => .bad)
  | _, _ => .bad
theorem mm_clearD {C : Ct} : MethM C fClearD rDClear := by
  intro W ι σ S H x xs v vs Q hs r1 r2 hp
  unfold fClearD at hp
  split at hp
  · rename_i l
    simp only [VRs] at r2
    subst r2
    split at hp
    · rename_i kvs e
      simp only [VR] at r1
      obtain ⟨a, rfl, hl⟩ := r1
      obtain ⟨kx, h1, h2⟩ := hs.ob l _ a e hl
      refine ⟨a, kx, rfl, rfl, h1, ?_⟩
      exact hp ι _ _ (Ext.set hl) (hs.set hl (m := .dic []) ⟨[], upd_same, by simp only [KRs]⟩) (by simp only [VR])
    · exact hp.elim
  · exact hp.elim
theorem wp_clearD {l : Nat} {kvs : List (MV × MV)} {S : Sto} {Q : MV → Sto → Prop} {E : MX → Sto → Prop} (h : S[l]? = some (.dic kvs)) (q : Q .non (S.set l (.dic []))) : Wp (fClearD (.ref l) [] S) Q E := by
  have e : fClearD (.ref l) [] S = .ok .non (S.set l (.dic [])) := by simp only [fClearD, h]
  exact wp_eq e q
def mClearD (o : ME) : ME := fun env S => (o env S).bind fun x S1 => fClearD x [] S1
theorem je_clearD {X : Cx} {C : Ct} {W : WX} {o : Expr} {mo : ME} {apos cpos : Pos} (ho : PE X o (tM C W mo)) (hbase : attributeBase o "clear" X.env (eval o X.env) = eval o X.env := by rfl) (hline : (apos.endLine == cpos.line) = true := by rfl) :
    PE X (.Call (.Attribute o "clear" apos) [] [] cpos) (tM C W (mClearD mo)) := peImp (pe_dclear ho hbase hline) fun σ H Q h => by
  obtain ⟨ι, env, S, he, hs, hp⟩ := h
  refine ⟨ι, env, S, he, hs, hp.bind fun x S1 ι1 H1 v e1 s1 r1 p1 => ?_⟩
  obtain ⟨a, kvs, rfl, _, h1, h2⟩ := mm_clearD W ι1 σ S1 H1 x [] v [] Q s1 r1 (by simp only [VRs]) p1
  exact ⟨.inr (.inr (.inl ⟨rfl, .inl ⟨kvs, h1⟩⟩)), a, kvs, rfl, rfl, h1, h2⟩
end Mi
namespace Mi
open PySem L2 PySem.Spec PyProof.Rows TL
section
variable {X : Cx} {CX : CXT} {k n m : Nat} {f cl : Addr} {fd : FuncData} {ps ks : List Str} {sp : Sp} {x : Str} {p pos : Pos} {kws : List Keyword} {tk : TA} {gr : List Value → List Value → List Value} {gV : List V → List V → List V}
theorem makeKAt {E : XK} {pins : List (Addr × Obj)} {σ : L2.St} {H : Hp} {s : Shared} {Q : VK} {ws : List Value} {zs : List V} (M : Mk X.K cl f) (F : FnOk X.prog X.w X.K X.mg X.base CX k f fd ps sp) (hr : Room (k + 1) X.A) (hb : KBn X.K fd ps 1 ks gr gV) (hx : PassesAt CX X σ E)
    (I : Inv X pins σ H s) (rz : Vals zs ws) (l2 : zs.length = ks.length)
    (h : ∀ x dx, H x = none → H dx = none → dx ≠ x → sp (gV [.ref x] zs) (upd (upd H dx (.own x)) x (.ins cl dx [])) (fun v H2 => v = .non ∧ Q (.ref x) H2) E) :
    wpAny (model X.prog X.w) X.A (call (.ref cl) [] (ks.zip ws)) (EP X pins σ Q) X.xe s := by
  have hq := h (s.heap.objs.size + 1) s.heap.objs.size (I.hok.fresh (Nat.le_succ _)) (I.hok.fresh (Nat.le_refl _)) (Nat.ne_of_lt (Nat.lt_succ_self _))
  have I2 := Inv.made (C := cl) I
  have r1 : Vals [V.ref (s.heap.objs.size + 1)] [Value.ref (s.heap.objs.size + 1)] := .cons rfl .nil
  have r2 := hb.rel r1 rz
  refine wpAny_call (make_map (f := f) I.kIn M.makes M.init (beq_iff_eq.mp M.fn) (codeAny_mono (F.run _ X.stack _ _ ⟨[Value.ref (s.heap.objs.size + 1)], ks.zip ws⟩ (gr [Value.ref (s.heap.objs.size + 1)] ws) _ _ E (hr.make cl [] (ks.zip ws))
    (I2.env0.make cl [] (ks.zip ws)) (hb.to _ [Value.ref (s.heap.objs.size + 1)] ws I2.kIn rfl (rz.length.symm.trans l2)) r2 hq) fun r s' hq' => ?_))
  cases r with
  | error e => exact hx pins _ _ e s' I2 hq'
  | ok fl =>
    cases fl with
    | ret u =>
      obtain ⟨v, H', I3, rv, ev, q3⟩ := I2.after hq'
      subst ev
      exact ⟨rv, ⟨V.ref (s.heap.objs.size + 1), H', I3, rfl, q3⟩⟩
    | next => exact False.elim hq'
    | brk => exact False.elim hq'
    | cont => exact False.elim hq'
def tMakeKA (cl : Addr) (m : Nat) (sp : Sp) (gV : List V → List V → List V) (E : L2.St → XK) (tk : TA) : TE := fun σ H Q => tk σ H fun zs H2 => zs.length = m ∧ ∀ x dx, H2 x = none → H2 dx = none → dx ≠ x →
  sp (gV [.ref x] zs) (upd (upd H2 dx (.own x)) x (.ins cl dx [])) (fun v H3 => v = .non ∧ Q (.ref x) H3) (E σ)
theorem pe_makeKA {E : L2.St → XK} (M : Mk X.K cl f) (F : FnOk X.prog X.w X.K X.mg X.base CX k f fd ps sp) (hr : Room (k + 1) X.A) (hg : Gl X x) (hm : X.mg x = some (.ref cl)) (hb : KBn X.K fd ps 1 ks gr gV) (hx : ∀ σ, PassesAt CX X σ (E σ)) (hkw : PK X kws tk)
    (hall : (backToKw pos (keywordEach kws X.env)).all (·.1.isSome) = true) (hks : (backToKw pos (keywordEach kws X.env)).filterMap (·.1) = ks) (hdb : (x == ("__debug__" : Str)) = false)
    (hpl : ((backTo pos (starEach [] X.env)).any (·.1) || (backToKw pos (keywordEach kws X.env)).any (·.1.isNone)) = false) :
    PE X (.Call (.Name x p) [] kws pos) (tMakeKA cl ks.length sp gV E tk) := by
  refine ⟨fun pins s σ H Q I h => ?_⟩
  refine wpAny_Call_Name_kw (ld_glob I hg hm ?_ hdb)
  refine PySem.W.callWith_KW0 (h₀ := X.base) I.ok.mod.kin M.kp hall ?_ hpl
  refine thn (hkw.run pos pins s σ H _ I h) fun ws s2 ⟨zs, H2, I2, rz, l2, q2⟩ => ⟨I2.kIn, ?_⟩
  rw [hks]
  exact makeKAt M F hr hb (hx σ) I2 rz l2 q2
end
section
variable {X : Cx} {C : Ct} {W : WX} {k n j : Nat} {cl : Addr} {x : Str} {p pos : Pos} {kws : List Keyword} {g : List MV → Sto → Res MV}
/-- C(d = .., c = .., ..): the keywords stand the other way about -/
noncomputable def mMakeK (mu : Bool) (c n : Nat) (g : List MV → Sto → Res MV) (m : Nat) (as : MA) : ME := fun env S => (as env S).bind fun vs S1 => if vs.length = m ∧ (MV.ref S1.length :: vs.reverse).length = n then (match g (.ref S1.length :: vs.reverse) (S1 ++ [.ins c []]) with
  | .ok .non S2 => compE mu S1 S2
  | .ex x S2 => leaveX S1 S2 x
  | _ => .bad) else .bad
theorem makeK_imp {mu : Bool} {c m : Nat} {as : MA} {σ : L2.St} {H : Hp} {Q : VK} (hcl : C.cA c = cl) (h : tM C W (mMakeK mu c n g m as) σ H Q) : tMakeKA cl m (spM C n g) (fun vs zs => vs ++ zs.reverse) (WE W) (tMA C W as) σ H Q := by
  obtain ⟨ι, env, S, he, hs, hp⟩ := h
  refine ⟨ι, env, S, he, hs, Post.bind hp fun vs S1 ι1 H1 us e1 s1 q1 p1 => ?_⟩
  split at p1
  · rename_i hl
    obtain ⟨hm, hl⟩ := hl
    refine ⟨q1.len.trans hm, ?_⟩
    intro x dx nx ndx ne
    have e0 : Ext ι1 H1 ι1 (upd H1 dx (.own x)) := Ext.upd s1 ndx
    have s0 : StR C ι1 S1 (upd H1 dx (.own x)) := s1.upd ndx
    have nx0 : (upd H1 dx (.own x)) x = none := by rw [upd_ne (Ne.symm ne)]; exact nx
    have e2 := Ext.push (o := .ins cl dx []) s0 nx0
    have s2 : StR C (ι1 ++ [x]) (S1 ++ [.ins c []]) (upd (upd H1 dx (.own x)) x (.ins cl dx [])) := s0.push nx0 ⟨dx, [], by rw [upd_same, hcl], by simp only [FRs]⟩
    have e3 := e0.trans e2
    have hx : (ι1 ++ [x])[S1.length]? = some x := by rw [← s1.len]; simp
    refine ⟨?_, ι1 ++ [x], S1 ++ [.ins c []], .ref S1.length :: vs.reverse, s2, ?_, ?_⟩
    · have w := (VRs.rev q1).len
      rw [List.length_cons] at hl
      rw [List.length_append, List.length_singleton]
      omega
    · show VRs C _ _ (.ref S1.length :: vs.reverse) (.ref x :: us.reverse)
      simp only [VRs, VR]
      exact ⟨_, _, rfl, ⟨x, rfl, hx⟩, VRs.rev (VRs.mono e3 _ _ q1)⟩
    · cases eg : g (.ref S1.length :: vs.reverse) (S1 ++ [.ins c []]) with
      | bad => rw [eg] at p1; exact p1.elim
      | ex y S2 =>
        rw [eg] at p1
        intro ι3 H3 cls d f3 t3 xr
        rcases leaveX_ok (α := MV) s1 (e3.trans f3) t3 xr rfl with z | ⟨S4, z, a1, a2, a3⟩
        · simp only [z] at p1; exact p1.elim
        · simp only [z] at p1; exact p1 ι1 H3 cls d a1 a2 a3
      | ok y S2 =>
        rw [eg] at p1
        intro ι3 H3 v f3 t3 r3
        cases y with
        | non =>
          simp only [VR] at r3
          have e4 := e3.trans f3
          have rD : VR C ι3 H3 (.ref S1.length) (.ref x) := by simp only [VR]; exact ⟨x, rfl, f3.at hx⟩
          refine ⟨r3, ?_⟩
          cases mu with
          | true => exact p1 ι3 H3 _ e4 t3 rD
          | false =>
            cases el : leaveV S1 S2 (.ref S1.length) with
            | ok z S3 =>
              simp only [compE, el] at p1
              obtain ⟨a1, a2, a3⟩ := leaveV_ok s1 e4 t3 rD el
              exact p1 ι1 H3 _ a1 a2 a3
            | ex z S3 => unfold leaveV at el; (repeat (split at el)) <;> cases el
            | bad => simp only [compE, el] at p1; exact p1.elim
        | _ => exact p1.elim
  · exact p1.elim
theorem vals_rev : ∀ {vs : List V} {us : List Value}, Vals vs us → Vals vs.reverse us.reverse
  | _, _, .nil => .nil
  | _, _, .cons h r => by
    rw [List.reverse_cons, List.reverse_cons]
    exact (vals_rev r).append (.cons h .nil)
theorem pkImp {t t' : TA} (h : PK X kws t) (i : ∀ σ H Q, t' σ H Q → t σ H Q) : PK X kws t' := ⟨fun p pins s σ H Q I q => h.run p pins s σ H Q I (i σ H Q q)⟩
theorem jk_nil : PK X [] (tMA C W mNil) := pkImp pk_nil fun σ H Q h => by
  obtain ⟨ι, env, S, he, hs, hp⟩ := h
  exact hp ι H [] .refl hs (by simp only [VRs])
theorem jk_cons {e : Expr} {nm : Option Str} {kpos : Pos} {a : ME} {r : MA} (ha : PE X e (tM C W a)) (hr : PK X kws (tMA C W r)) : PK X (⟨nm, e, kpos⟩ :: kws) (tMA C W (mCons a r)) :=
  pkImp (pk_cons ha hr) fun σ H Q h => by
    obtain ⟨ι, env, S, he, hs, hp⟩ := h
    refine ⟨ι, env, S, he, hs, Post.bind hp fun x S1 ι1 H1 v e1 s1 q1 p1 => ?_⟩
    refine ⟨ι1, env, S1, he.mono e1, s1, Post.bind p1 fun y S2 ι2 H2 u e2 s2 q2 p2 => ?_⟩
    exact p2 ι2 H2 (v :: u) .refl s2 (by simp only [VRs]; exact ⟨v, u, rfl, q1.mono e2, q2⟩)
/-- a class, called by keywords that stand the other way about -/
structure MkKIn (P : Program) (w : World) (C : Ct) (mg : Str → Option Value) (base : Heap) (x : Str) (c k n : Nat) (g : List MV → Sto → Res MV) (ks : List Str) : Prop where
  ex : ∃ (f : Addr) (fd : FuncData) (ps : List Str) (gr : List Value → List Value → List Value), mg x = some (.ref (C.cA c)) ∧ Mk C.K (C.cA c) f ∧ KBn C.K fd ps 1 ks gr (fun vs zs => vs ++ zs.reverse) ∧ FnOk P w C.K mg base (L2.CX P w) k f fd ps (spM C n g)
theorem je_mkK (mu : Bool) {c : Nat} {ks : List Str} {as : MA} (B : Bx C W j X) (G : MkKIn X.prog X.w C X.mg X.base x c k n g ks) (ha : PK X kws (tMA C W as)) (hkj : k + 1 ≤ j := by decide) (hg : Gl X x := by rfl) (hdb : (x == ("__debug__" : Str)) = false := by decide)
    (hall : (backToKw pos (keywordEach kws X.env)).all (·.1.isSome) = true := by rfl) (hks : (backToKw pos (keywordEach kws X.env)).filterMap (·.1) = ks := by rfl)
    (hpl : ((backTo pos (starEach [] X.env)).any (·.1) || (backToKw pos (keywordEach kws X.env)).any (·.1.isNone)) = false := by rfl) : PE X (.Call (.Name x p) [] kws pos) (tM C W (mMakeK mu c n g ks.length as)) := by
  obtain ⟨f, fd, ps, gr, h1, h2, h3, h4⟩ := G.ex
  rw [← B.hK] at h2 h3 h4
  exact peImp (pe_makeKA h2 h4 (B.room.mono hkj) hg h1 h3 (fun σ => passAt B.tk σ) ha hall hks hdb hpl) fun σ H Q h => makeK_imp rfl h
end
end Mi
namespace Mi
open PySem L2 PySem.Spec PyProof.Rows TL
def okP : MO → Bool
  | .lst _ => true
  | .dic _ => true
  | .ins _ _ => true
  | _ => false
noncomputable def runP (g : List MV → Sto → Res MV) (xs : List MV) (S : Sto) : Res MV := match optL (fz S 0 6) xs with
  | some ys => (match g ys [] with
    | .ok v [] => if flat v = true ∧ S.all okP = true then .ok v S else .bad
    | _ => .bad)
  | none => .bad
section
variable {C : Ct} {ι : Io} {S : Sto} {H H' : Hp}
theorem fzs_ok (s : StR C ι S H) : ∀ {xs ys : List MV} {vs : List V}, optL (fz S 0 6) xs = some ys → VRs C ι H xs vs → VRs C [] H ys vs
  | [], ys, vs, h, r => by
    simp only [optL, Option.some.injEq] at h
    subst h
    simp only [VRs] at r ⊢
    exact r
  | x :: xs, ys, vs, h, r => by
    simp only [VRs] at r
    obtain ⟨v, us, rfl, r1, r2⟩ := r
    unfold optL at h
    split at h
    · rename_i y zs h1 h2
      simp only [Option.some.injEq] at h
      subst h
      simp only [VRs]
      have q := fz_ok s 6 x y v h1 r1
      rw [List.take_zero] at q
      exact ⟨v, us, rfl, q, fzs_ok s h2 r2⟩
    · cases h
theorem ext_same (e : Ext [] H [] H') : Ext ι H ι H' := ⟨List.prefix_refl _, fun a h => .inl h, fun a o h _ => e.oldT a o h (by simp)⟩
theorem str_same (hdx : C.dx = none) (s : StR C ι S H) (e : Ext [] H [] H') (hS : S.all okP = true) : StR C ι S H' := by
  have ee : Ext ι H ι H' := ext_same e
  refine ⟨s.len, s.nd, fun l o a h1 h2 => ?_, fun d fs fx h => by rw [hdx] at h; cases h⟩
  have q := s.ob l o a h1 h2
  have ok : okP o = true := List.all_eq_true.mp hS o (List.mem_of_getElem? h1)
  cases o with
  | lst xs =>
    obtain ⟨vs, a1, a2⟩ := q
    exact ⟨vs, e.old a _ a1 (by simp), VRs.mono ee _ _ a2⟩
  | dic kvs =>
    obtain ⟨kx, a1, a2⟩ := q
    exact ⟨kx, e.old a _ a1 (by simp), KRs.mono ee _ _ a2⟩
  | ins c fs =>
    obtain ⟨dx, fx, a1, a2⟩ := q
    exact ⟨dx, fx, e.old a _ a1 (by simp), FRs.mono ee _ _ a2⟩
  | td kvs => cases ok
  | tb t => cases ok
theorem vr_flat {ι' : Io} {v : MV} {u : V} (h : flat v = true) (r : VR C ι' H v u) : VR C ι H v u := by
  cases v <;> first | (simp only [VR] at r ⊢; exact r) | cases h
theorem spM_frz {n : Nat} {g : List MV → Sto → Res MV} (hdx : C.dx = none) (vs : List V) (H : Hp) (Q : VK) (E : XK) (h : spM C n (runP g) vs H Q E) : spM C n g vs H Q E := by
  obtain ⟨hl, ι, S, args, s, r, hp⟩ := h
  unfold runP at hp
  split at hp
  · rename_i ys hy
    refine ⟨hl, [], [], ys, ⟨rfl, List.nodup_nil, fun l o a h => by simp at h, fun d fs fx h => by rw [hdx] at h; cases h⟩, fzs_ok s hy r, ?_⟩
    split at hp
    · rename_i v hg
      split at hp
      · rename_i hf
        rw [hg]
        intro ι' H' u e s' rr
        have e0 : ι' = [] := List.eq_nil_of_length_eq_zero (by rw [s'.len]; rfl)
        subst e0
        exact hp ι H' u (ext_same e) (str_same hdx s e hf.2) (vr_flat hf.1 rr)
      · exact hp.elim
    · exact hp.elim
  · exact hp.elim
theorem FnIn.frz {P : Program} {w : World} {mg : Str → Option Value} {base : Heap} {x : Str} {k n : Nat} {g : List MV → Sto → Res MV} {ms : List MV} (hdx : C.dx = none) (G : FnIn P w C mg base x k n g ms) : FnIn P w C mg base x k n (runP g) ms := by
  obtain ⟨f, fd, ps, dvs, ds, h1, h2, h3, h4, h5, h6⟩ := G.ex
  exact ⟨f, fd, ps, dvs, ds, h1, h2, h3, h4, h5, h6.imp fun vs H Q E h => spM_frz hdx vs H Q E h⟩
end
end Mi
namespace Mi
open PySem L2 TL
theorem for_cellsN {N : Env → Sto → Prop} {R : MV → Sto → Prop} {B C : Env → Sto → Prop} {X : EE} {ns d : List Int} {a : ME} {k : Nat} {g : MG} {mb : MSt} {env : Env} {S : Sto} (h0 : env[0]? = some (some (.rol (ns.map MV.int)))) (ha : a env S = .ok (.lst (d.map MV.int)) S) (hd : d.length ≤ k) (I : Nat → Env → Sto → Prop) (h : I k env S)
    (st : ∀ (n : Nat) (i c : Int) (env : Env) (S : Sto), I (n + 1) env S → 0 ≤ i → i < k → ∃ e1, g (.tup [.int i, .int c]) env = some e1 ∧ Ws (mb e1 S) (I n) (fun _ _ => False) (fun _ _ => False) (I n) (fun _ _ _ => False)) (fin : ∀ n env S, I n env S → N env S) :
    Ws (sFor (mItE (mCons (mSl false (mOrT (mV 0) a) mNoPart (mPart (mC (.int k)))) mNil)) g mb env S) N R B C X := by
  refine ws_for ?_
  have hh := head_ok (k := k) h0 ha
  have e : mItE (mCons (mSl false (mOrT (mV 0) a) mNoPart (mPart (mC (.int k)))) mNil) env S = .ok ⟨enuL (((if ns = [] then d else ns).take k).map MV.int), []⟩ S := by
    simp only [mItE, mCons, mNil, hh, bind_ok, asL, depsOf]
  refine wp_eq e ?_
  generalize hy : (if ns = [] then d else ns).take k = ys
  have hl : ys.length ≤ k := by rw [← hy, List.length_take]; omega
  refine for_wp (fun items env S => (∃ n, items.length ≤ n ∧ I n env S) ∧ ∀ v ∈ items, ∃ i c : Int, v = .tup [.int i, .int c] ∧ 0 ≤ i ∧ i < k) ⟨⟨k, by simpa [enuL] using hl, h⟩, fun v hv => ?_⟩ (fun v rest env S hI => ?_) (fun env S hI => hI.1.elim fun n hn => fin n _ _ hn.2)
  · obtain ⟨j, hj⟩ := List.getElem?_of_mem hv
    obtain ⟨x, hx, rfl⟩ := enu_at hj
    obtain ⟨hj2, c, rfl⟩ := ints_at hx
    exact ⟨j, c, rfl, by omega, by omega⟩
  · obtain ⟨i, c, rfl, i0, i1⟩ := hI.2 v (by simp)
    obtain ⟨n, hn, hI1⟩ := hI.1
    rw [List.length_cons] at hn
    obtain ⟨n, rfl⟩ : ∃ m, n = m + 1 := ⟨n - 1, by omega⟩
    obtain ⟨e1, h1, h2⟩ := st n i c env S hI1 i0 i1
    have hn2 : rest.length ≤ n := by omega
    have hr : ∀ v ∈ rest, ∃ i c : Int, v = .tup [.int i, .int c] ∧ 0 ≤ i ∧ i < k := fun v hv => hI.2 v (List.mem_cons_of_mem _ hv)
    exact ⟨e1, h1, ws_mono h2 (fun _ _ z => ⟨⟨n, hn2, z⟩, hr⟩) (fun _ _ z => z.elim) (fun _ _ z => z.elim) (fun _ _ z => ⟨⟨n, hn2, z⟩, hr⟩) (fun _ _ _ z => z.elim)⟩
end Mi
namespace P14
def isL (c : Nat) : Bool := decide (97 ≤ c ∧ c ≤ 122)
def re (t : List Nat) (a : Nat) : Nat := a + ((t.drop a).takeWhile isL).length
def nm (t : List Nat) (a : Nat) : List Nat := (t.drop a).take (re t a - a)
section
variable (t : List Nat) (ar : List Nat → Option Nat) (wd : List Nat → Bool)
/-- behind a form that ended at a: where the next one begins, -1 at the end, -2 where it breaks; the counts left, the innermost first -/
def nf : Nat → List Nat → Int × List Nat
  | a, [] => (if a = t.length then -1 else -2, [])
  | a, k :: ks => if 1 < k then (if t[a]? = some 44 then ((a + 1 : Nat) : Int) else -2, (k - 1) :: ks) else if t[a]? = some 41 then nf (a + 1) ks else (-2, (k - 1) :: ks)
def run : Nat → Int → List Nat → Option Bool
  | 0, _, _ => none
  | f + 1, at', st => if at' < 0 then some (decide (at' = -1)) else
    let a := at'.toNat
    if t[re t a]? = some 40 then (match ar (nm t a) with
      | none => some false
      | some n => if n = 0 then run f (nf t (re t a + 1) (1 :: st)).1 (nf t (re t a + 1) (1 :: st)).2 else run f ((re t a + 1 : Nat) : Int) (n :: st))
    else if wd (nm t a) = true then run f (nf t (re t a) st).1 (nf t (re t a) st).2 else some false
end
end P14
namespace Mi
namespace SM
open PySem L2 TL
open Sh hiding b_law_gear_c1 b_law_gear_c2 b_law_gear m_law_gear b_law_moves_l1 b_law_moves m_law_moves b_next_form_l1 b_next_form m_next_form b_is_form_l1 b_is_form m_is_form b_is_puts_l1 b_is_puts m_is_puts b_is_asked_c1 b_is_asked m_is_asked b_is_meaning_l1 b_is_meaning m_is_meaning b_Op_init m_Op_init
local macro_rules | `(tactic| walk_at "r62") => `(tactic| first | exact r62 (by omega) (by omega) | exact ⟨r62 (by omega) (by omega), r62 (by omega) (by omega)⟩)
local macro_rules | `(tactic| walk_at "sz") => `(tactic| first | omega | (simp only [List.length_cons, List.length_nil, List.length_append, List.length_map, List.length_replicate, List.length_take, List.length_drop, sizeLine] <;> omega) | (unfold sizeLine; omega) | decide)
local macro_rules | `(tactic| walk_at "dq") => `(tactic| first | with_unfolding_all rfl | walk_at "r62" | walk_at "sz")
local macro_rules | `(tactic| walk_at "zs") => `(tactic| ((try (first | with_reducible refine i_wp ?_ | with_reducible refine i_ws ?_ | with_reducible refine i_get ?_ | with_reducible refine i_an ?_ | with_reducible refine i_if ?_ | with_reducible refine i_wb ?_ | with_reducible refine i_wt ?_ | with_reducible refine i_sub ?_ | with_reducible refine i_put ?_ | with_reducible refine i_fld ?_ | with_reducible refine i_ins ?_)); (try simp (disch := walk_at "dq") only [↓z_seq, ↓z_next, ↓z_break, ↓z_cont, ↓z_retN, ↓z_ret, ↓z_drop, ↓z_set, ↓z_asg, ↓z_if, ↓z_par, ↓z_par3, ↓z_sub, ↓z_dput, ↓z_fld, ↓z_for, ↓z_v, ↓z_vS, ↓z_v0, ↓z_e0, ↓z_e1, ↓z_e2, ↓z_c, ↓z_bin, ↓z_nil, ↓z_cons, ↓z_b, ↓z_bm, ↓z_call, ↓z_calld, ↓z_wb, ↓z_asB, ↓z_asT, ↓z_wtB, ↓z_wtN, ↓z_wtI, ↓z_wtT0, ↓z_wtT1, ↓z_wtL0, ↓z_wtL1, ↓z_notB, ↓z_andB, ↓z_orB, ↓z_notT, ↓z_andT, ↓z_orT, ↓z_ifE, ↓z_isn, ↓z_notn, ↓z_neg, ↓z_chain, ↓z_yes, ↓z_nopart, ↓z_part, ↓z_sl, ↓z_tup, ↓z_lst, ↓z_mkL, ↓z_mkLn, ↓z_dic0, ↓z_mkD, ↓z_mkDn, ↓z_revL, ↓z_fldE, ↓z_insV, ↓z_get2, ↓z_itS, ↓z_itR1, ↓z_itR2, ↓z_itT, ↓z_itE, ↓z_itZ, ↓z_get, ↓z_int, ↓z_int1, ↓z_int2, ↓z_one1, ↓z_two2, ↓z_str, ↓z_asLl, ↓z_asLr, ↓z_itLl, ↓z_itLt, ↓z_gN, ↓z_gNl, ↓z_gCs, ↓z_gTt, ↓z_gTl, ↓z_an, ↓z_ct, ↓z_cf, ↓z_ty1, ↓z_ty2, ↓z_ty3, ↓z_ty4, ↓z_anT, ↓z_addI, ↓z_addS, ↓z_addT, ↓z_addLL, ↓z_subI, ↓z_mod, ↓z_lt, ↓z_le, ↓z_gt, ↓z_ge, ↓z_eqI, ↓z_neI, ↓z_eqS, ↓z_neS, ↓z_eqB, ↓z_neB, ↓z_inL, ↓z_ninL, ↓z_lenL, ↓z_lenT, ↓z_lenD, ↓z_lenS, ↓z_slS, ↓z_slT, ↓z_slL, ↓z_listL, ↓z_listT, ↓z_listD, ↓z_tupL, ↓z_tupT, ↓z_max, ↓z_min, ↓z_dictD, ↓z_int1B, ↓z_int1I, ↓z_meth0, ↓z_methd, List.set_cons_zero, List.set_cons_succ, q_e0, q_e1, q_e2, -eq_self, -iff_self]); (try (first | with_reducible refine o_wp ?_ | with_reducible refine o_ws ?_ | with_reducible refine o_get ?_ | with_reducible refine o_an ?_ | with_reducible refine o_if ?_ | with_reducible refine o_wb ?_ | with_reducible refine o_wt ?_ | with_reducible refine o_v ?_ | with_reducible refine o_sub ?_ | with_reducible refine o_put ?_ | with_reducible refine o_fld ?_ | with_reducible refine o_ins ?_))))
local macro_rules | `(tactic| walk_at "w") => `(tactic| (walk_at "zs"; (repeat ((first | with_reducible refine wp_ixT (by with_unfolding_all rfl) ?_ | with_reducible refine wp_ixL (by with_unfolding_all rfl) ?_ | with_reducible refine wv (by with_unfolding_all rfl) ?_ | with_reducible refine get (by with_unfolding_all rfl) ?_ | with_reducible refine an (by walk_at "dq") ?_ | with_reducible refine wt (by with_unfolding_all rfl) ?_ | with_reducible refine ite_t ?_ | with_reducible refine ite_f ?_ | with_reducible refine ite_rt (by with_unfolding_all rfl) ?_ | with_reducible refine ite_rf (by with_unfolding_all rfl) ?_ | with_reducible refine wp_isiT (by with_unfolding_all rfl) ?_ | with_reducible refine wp_isiF (by with_unfolding_all rfl) ?_); walk_at "zs"))))
local macro_rules | `(tactic| walk_at "dq") => `(tactic| first | with_unfolding_all rfl | walk_at "r62" | walk_at "sz")
local macro_rules | `(tactic| walk_at "zs") => `(tactic| ((try (first | with_reducible refine i_wp ?_ | with_reducible refine i_ws ?_ | with_reducible refine i_get ?_ | with_reducible refine i_an ?_ | with_reducible refine i_if ?_ | with_reducible refine i_wb ?_ | with_reducible refine i_wt ?_ | with_reducible refine i_sub ?_ | with_reducible refine i_put ?_ | with_reducible refine i_fld ?_ | with_reducible refine i_ins ?_)); (try simp (disch := walk_at "dq") only [↓z_seq, ↓z_next, ↓z_break, ↓z_cont, ↓z_retN, ↓z_ret, ↓z_drop, ↓z_set, ↓z_asg, ↓z_if, ↓z_par, ↓z_par3, ↓z_sub, ↓z_dput, ↓z_fld, ↓z_for, ↓z_v, ↓z_vS, ↓z_v0, ↓z_e0, ↓z_e1, ↓z_e2, ↓z_c, ↓z_bin, ↓z_nil, ↓z_cons, ↓z_b, ↓z_bm, ↓z_call, ↓z_calld, ↓z_wb, ↓z_asB, ↓z_asT, ↓z_wtB, ↓z_wtN, ↓z_wtI, ↓z_wtT0, ↓z_wtT1, ↓z_wtL0, ↓z_wtL1, ↓z_notB, ↓z_andB, ↓z_orB, ↓z_notT, ↓z_andT, ↓z_orT, ↓z_ifE, ↓z_isn, ↓z_notn, ↓z_neg, ↓z_chain, ↓z_yes, ↓z_nopart, ↓z_part, ↓z_sl, ↓z_tup, ↓z_lst, ↓z_mkL, ↓z_mkLn, ↓z_dic0, ↓z_mkD, ↓z_mkDn, ↓z_revL, ↓z_fldE, ↓z_insV, ↓z_get2, ↓z_itS, ↓z_itR1, ↓z_itR2, ↓z_itT, ↓z_itE, ↓z_itZ, ↓z_get, ↓z_int, ↓z_int1, ↓z_int2, ↓z_one1, ↓z_two2, ↓z_str, ↓z_asLl, ↓z_asLr, ↓z_itLl, ↓z_itLt, ↓z_gN, ↓z_gNl, ↓z_gCs, ↓z_gTt, ↓z_gTl, ↓z_an, ↓z_ct, ↓z_cf, ↓z_ty1, ↓z_ty2, ↓z_ty3, ↓z_ty4, ↓z_anT, ↓z_addI, ↓z_addS, ↓z_addT, ↓z_addLL, ↓z_subI, ↓z_mod, ↓z_lt, ↓z_le, ↓z_gt, ↓z_ge, ↓z_eqI, ↓z_neI, ↓z_eqS, ↓z_neS, ↓z_eqB, ↓z_neB, ↓z_inL, ↓z_ninL, ↓z_lenL, ↓z_lenT, ↓z_lenD, ↓z_lenS, ↓z_slS, ↓z_slT, ↓z_slL, ↓z_listL, ↓z_listT, ↓z_listD, ↓z_tupL, ↓z_tupT, ↓z_max, ↓z_min, ↓z_dictD, ↓z_int1B, ↓z_int1I, ↓z_meth0, ↓z_methd, List.set_cons_zero, List.set_cons_succ, q_e0, q_e1, q_e2, ↓z_seen, ↓z_hidden, ↓z_deeds, ↓z_asks, -eq_self, -iff_self]); (try (first | with_reducible refine o_wp ?_ | with_reducible refine o_ws ?_ | with_reducible refine o_get ?_ | with_reducible refine o_an ?_ | with_reducible refine o_if ?_ | with_reducible refine o_wb ?_ | with_reducible refine o_wt ?_ | with_reducible refine o_v ?_ | with_reducible refine o_sub ?_ | with_reducible refine o_put ?_ | with_reducible refine o_fld ?_ | with_reducible refine o_ins ?_))))
local macro_rules | `(tactic| walk_at "w") => `(tactic| (walk_at "zs"; (repeat ((first | with_reducible refine wp_inPQ ?_ | with_reducible refine wp_inMD ?_ | with_reducible refine wp_ninMD ?_ | with_reducible refine wp_inGo ?_ | with_reducible refine wp_ninGo ?_ | with_reducible refine wp_inDM ?_ | with_reducible refine wp_ninDM ?_ | with_reducible refine ite_dt (by assumption) ?_ | with_reducible refine ite_df (by assumption) ?_ | with_reducible refine ite_nt (by assumption) ?_ | with_reducible refine ite_nf (by assumption) ?_ | with_reducible refine ite_rt (by assumption) ?_ | with_reducible refine ite_rf (by assumption) ?_ | with_reducible refine wp_eqTn ?_ | with_reducible refine wp_ixT (by with_unfolding_all rfl) ?_ | with_reducible refine wp_ixL (by with_unfolding_all rfl) ?_ | with_reducible refine wv (by with_unfolding_all rfl) ?_ | with_reducible refine get (by with_unfolding_all rfl) ?_ | with_reducible refine an (by walk_at "dq") ?_ | with_reducible refine wt (by with_unfolding_all rfl) ?_ | with_reducible refine ite_t ?_ | with_reducible refine ite_f ?_ | with_reducible refine ite_rt (by with_unfolding_all rfl) ?_ | with_reducible refine ite_rf (by with_unfolding_all rfl) ?_ | with_reducible refine wp_isiT (by with_unfolding_all rfl) ?_ | with_reducible refine wp_isiF (by with_unfolding_all rfl) ?_); walk_at "zs"))))
theorem clL_all {n : Nat} : ∀ {ys : List MV}, (∀ y ∈ ys, Cl n y) → ClL n ys
  | [], _ => by simp only [ClL]
  | y :: r, h => by simp only [ClL]; exact ⟨h y (by simp), clL_all fun z hz => h z (List.mem_cons_of_mem _ hz)⟩
end SM
end Mi
namespace Mi
namespace SM
open PySem L2 TL
open Sh hiding b_law_gear_c1 b_law_gear_c2 b_law_gear m_law_gear b_law_moves_l1 b_law_moves m_law_moves b_next_form_l1 b_next_form m_next_form b_is_form_l1 b_is_form m_is_form b_is_puts_l1 b_is_puts m_is_puts b_is_asked_c1 b_is_asked m_is_asked b_is_meaning_l1 b_is_meaning m_is_meaning b_Op_init m_Op_init
local macro_rules | `(tactic| walk_at "r62") => `(tactic| first | exact r62 (by omega) (by omega) | exact ⟨r62 (by omega) (by omega), r62 (by omega) (by omega)⟩)
local macro_rules | `(tactic| walk_at "sz") => `(tactic| first | omega | (simp only [List.length_cons, List.length_nil, List.length_append, List.length_map, List.length_replicate, List.length_take, List.length_drop, sizeLine] <;> omega) | (unfold sizeLine; omega) | decide)
local macro_rules | `(tactic| walk_at "dq") => `(tactic| first | with_unfolding_all rfl | walk_at "r62" | walk_at "sz")
local macro_rules | `(tactic| walk_at "zs") => `(tactic| ((try (first | with_reducible refine i_wp ?_ | with_reducible refine i_ws ?_ | with_reducible refine i_get ?_ | with_reducible refine i_an ?_ | with_reducible refine i_if ?_ | with_reducible refine i_wb ?_ | with_reducible refine i_wt ?_ | with_reducible refine i_sub ?_ | with_reducible refine i_put ?_ | with_reducible refine i_fld ?_ | with_reducible refine i_ins ?_)); (try simp (disch := walk_at "dq") only [↓z_seq, ↓z_next, ↓z_break, ↓z_cont, ↓z_retN, ↓z_ret, ↓z_drop, ↓z_set, ↓z_asg, ↓z_if, ↓z_par, ↓z_par3, ↓z_sub, ↓z_dput, ↓z_fld, ↓z_for, ↓z_v, ↓z_vS, ↓z_v0, ↓z_e0, ↓z_e1, ↓z_e2, ↓z_c, ↓z_bin, ↓z_nil, ↓z_cons, ↓z_b, ↓z_bm, ↓z_call, ↓z_calld, ↓z_wb, ↓z_asB, ↓z_asT, ↓z_wtB, ↓z_wtN, ↓z_wtI, ↓z_wtT0, ↓z_wtT1, ↓z_wtL0, ↓z_wtL1, ↓z_notB, ↓z_andB, ↓z_orB, ↓z_notT, ↓z_andT, ↓z_orT, ↓z_ifE, ↓z_isn, ↓z_notn, ↓z_neg, ↓z_chain, ↓z_yes, ↓z_nopart, ↓z_part, ↓z_sl, ↓z_tup, ↓z_lst, ↓z_mkL, ↓z_mkLn, ↓z_dic0, ↓z_mkD, ↓z_mkDn, ↓z_revL, ↓z_fldE, ↓z_insV, ↓z_get2, ↓z_itS, ↓z_itR1, ↓z_itR2, ↓z_itT, ↓z_itE, ↓z_itZ, ↓z_get, ↓z_int, ↓z_int1, ↓z_int2, ↓z_one1, ↓z_two2, ↓z_str, ↓z_asLl, ↓z_asLr, ↓z_itLl, ↓z_itLt, ↓z_gN, ↓z_gNl, ↓z_gCs, ↓z_gTt, ↓z_gTl, ↓z_an, ↓z_ct, ↓z_cf, ↓z_ty1, ↓z_ty2, ↓z_ty3, ↓z_ty4, ↓z_anT, ↓z_addI, ↓z_addS, ↓z_addT, ↓z_addLL, ↓z_subI, ↓z_mod, ↓z_lt, ↓z_le, ↓z_gt, ↓z_ge, ↓z_eqI, ↓z_neI, ↓z_eqS, ↓z_neS, ↓z_eqB, ↓z_neB, ↓z_inL, ↓z_ninL, ↓z_lenL, ↓z_lenT, ↓z_lenD, ↓z_lenS, ↓z_slS, ↓z_slT, ↓z_slL, ↓z_listL, ↓z_listT, ↓z_listD, ↓z_tupL, ↓z_tupT, ↓z_max, ↓z_min, ↓z_dictD, ↓z_int1B, ↓z_int1I, ↓z_meth0, ↓z_methd, List.set_cons_zero, List.set_cons_succ, q_e0, q_e1, q_e2, -eq_self, -iff_self]); (try (first | with_reducible refine o_wp ?_ | with_reducible refine o_ws ?_ | with_reducible refine o_get ?_ | with_reducible refine o_an ?_ | with_reducible refine o_if ?_ | with_reducible refine o_wb ?_ | with_reducible refine o_wt ?_ | with_reducible refine o_v ?_ | with_reducible refine o_sub ?_ | with_reducible refine o_put ?_ | with_reducible refine o_fld ?_ | with_reducible refine o_ins ?_))))
local macro_rules | `(tactic| walk_at "w") => `(tactic| (walk_at "zs"; (repeat ((first | with_reducible refine wp_ixT (by with_unfolding_all rfl) ?_ | with_reducible refine wp_ixL (by with_unfolding_all rfl) ?_ | with_reducible refine wv (by with_unfolding_all rfl) ?_ | with_reducible refine get (by with_unfolding_all rfl) ?_ | with_reducible refine an (by walk_at "dq") ?_ | with_reducible refine wt (by with_unfolding_all rfl) ?_ | with_reducible refine ite_t ?_ | with_reducible refine ite_f ?_ | with_reducible refine ite_rt (by with_unfolding_all rfl) ?_ | with_reducible refine ite_rf (by with_unfolding_all rfl) ?_ | with_reducible refine wp_isiT (by with_unfolding_all rfl) ?_ | with_reducible refine wp_isiF (by with_unfolding_all rfl) ?_); walk_at "zs"))))
local macro_rules | `(tactic| walk_at "dq") => `(tactic| first | with_unfolding_all rfl | walk_at "r62" | walk_at "sz")
local macro_rules | `(tactic| walk_at "zs") => `(tactic| ((try (first | with_reducible refine i_wp ?_ | with_reducible refine i_ws ?_ | with_reducible refine i_get ?_ | with_reducible refine i_an ?_ | with_reducible refine i_if ?_ | with_reducible refine i_wb ?_ | with_reducible refine i_wt ?_ | with_reducible refine i_sub ?_ | with_reducible refine i_put ?_ | with_reducible refine i_fld ?_ | with_reducible refine i_ins ?_)); (try simp (disch := walk_at "dq") only [↓z_seq, ↓z_next, ↓z_break, ↓z_cont, ↓z_retN, ↓z_ret, ↓z_drop, ↓z_set, ↓z_asg, ↓z_if, ↓z_par, ↓z_par3, ↓z_sub, ↓z_dput, ↓z_fld, ↓z_for, ↓z_v, ↓z_vS, ↓z_v0, ↓z_e0, ↓z_e1, ↓z_e2, ↓z_c, ↓z_bin, ↓z_nil, ↓z_cons, ↓z_b, ↓z_bm, ↓z_call, ↓z_calld, ↓z_wb, ↓z_asB, ↓z_asT, ↓z_wtB, ↓z_wtN, ↓z_wtI, ↓z_wtT0, ↓z_wtT1, ↓z_wtL0, ↓z_wtL1, ↓z_notB, ↓z_andB, ↓z_orB, ↓z_notT, ↓z_andT, ↓z_orT, ↓z_ifE, ↓z_isn, ↓z_notn, ↓z_neg, ↓z_chain, ↓z_yes, ↓z_nopart, ↓z_part, ↓z_sl, ↓z_tup, ↓z_lst, ↓z_mkL, ↓z_mkLn, ↓z_dic0, ↓z_mkD, ↓z_mkDn, ↓z_revL, ↓z_fldE, ↓z_insV, ↓z_get2, ↓z_itS, ↓z_itR1, ↓z_itR2, ↓z_itT, ↓z_itE, ↓z_itZ, ↓z_get, ↓z_int, ↓z_int1, ↓z_int2, ↓z_one1, ↓z_two2, ↓z_str, ↓z_asLl, ↓z_asLr, ↓z_itLl, ↓z_itLt, ↓z_gN, ↓z_gNl, ↓z_gCs, ↓z_gTt, ↓z_gTl, ↓z_an, ↓z_ct, ↓z_cf, ↓z_ty1, ↓z_ty2, ↓z_ty3, ↓z_ty4, ↓z_anT, ↓z_addI, ↓z_addS, ↓z_addT, ↓z_addLL, ↓z_subI, ↓z_mod, ↓z_lt, ↓z_le, ↓z_gt, ↓z_ge, ↓z_eqI, ↓z_neI, ↓z_eqS, ↓z_neS, ↓z_eqB, ↓z_neB, ↓z_inL, ↓z_ninL, ↓z_lenL, ↓z_lenT, ↓z_lenD, ↓z_lenS, ↓z_slS, ↓z_slT, ↓z_slL, ↓z_listL, ↓z_listT, ↓z_listD, ↓z_tupL, ↓z_tupT, ↓z_max, ↓z_min, ↓z_dictD, ↓z_int1B, ↓z_int1I, ↓z_meth0, ↓z_methd, List.set_cons_zero, List.set_cons_succ, q_e0, q_e1, q_e2, ↓z_seen, ↓z_hidden, ↓z_deeds, ↓z_asks, -eq_self, -iff_self]); (try (first | with_reducible refine o_wp ?_ | with_reducible refine o_ws ?_ | with_reducible refine o_get ?_ | with_reducible refine o_an ?_ | with_reducible refine o_if ?_ | with_reducible refine o_wb ?_ | with_reducible refine o_wt ?_ | with_reducible refine o_v ?_ | with_reducible refine o_sub ?_ | with_reducible refine o_put ?_ | with_reducible refine o_fld ?_ | with_reducible refine o_ins ?_))))
local macro_rules | `(tactic| walk_at "w") => `(tactic| (walk_at "zs"; (repeat ((first | with_reducible refine wp_inPQ ?_ | with_reducible refine wp_inMD ?_ | with_reducible refine wp_ninMD ?_ | with_reducible refine wp_inGo ?_ | with_reducible refine wp_ninGo ?_ | with_reducible refine wp_inDM ?_ | with_reducible refine wp_ninDM ?_ | with_reducible refine ite_dt (by assumption) ?_ | with_reducible refine ite_df (by assumption) ?_ | with_reducible refine ite_nt (by assumption) ?_ | with_reducible refine ite_nf (by assumption) ?_ | with_reducible refine ite_rt (by assumption) ?_ | with_reducible refine ite_rf (by assumption) ?_ | with_reducible refine wp_eqTn ?_ | with_reducible refine wp_ixT (by with_unfolding_all rfl) ?_ | with_reducible refine wp_ixL (by with_unfolding_all rfl) ?_ | with_reducible refine wv (by with_unfolding_all rfl) ?_ | with_reducible refine get (by with_unfolding_all rfl) ?_ | with_reducible refine an (by walk_at "dq") ?_ | with_reducible refine wt (by with_unfolding_all rfl) ?_ | with_reducible refine ite_t ?_ | with_reducible refine ite_f ?_ | with_reducible refine ite_rt (by with_unfolding_all rfl) ?_ | with_reducible refine ite_rf (by with_unfolding_all rfl) ?_ | with_reducible refine wp_isiT (by with_unfolding_all rfl) ?_ | with_reducible refine wp_isiF (by with_unfolding_all rfl) ?_); walk_at "zs"))))
theorem fEq_lnil (xs : List MV) (S : Sto) : fEq (.lst xs) (.lst []) S = .ok (.bl xs.isEmpty) S := by
  cases xs <;> rfl
end SM
end Mi
namespace Mi
namespace SM
open PySem L2 TL
open Sh hiding b_law_gear_c1 b_law_gear_c2 b_law_gear m_law_gear b_law_moves_l1 b_law_moves m_law_moves b_next_form_l1 b_next_form m_next_form b_is_form_l1 b_is_form m_is_form b_is_puts_l1 b_is_puts m_is_puts b_is_asked_c1 b_is_asked m_is_asked b_is_meaning_l1 b_is_meaning m_is_meaning b_Op_init m_Op_init
local macro_rules | `(tactic| walk_at "r62") => `(tactic| first | exact r62 (by omega) (by omega) | exact ⟨r62 (by omega) (by omega), r62 (by omega) (by omega)⟩)
local macro_rules | `(tactic| walk_at "sz") => `(tactic| first | omega | (simp only [List.length_cons, List.length_nil, List.length_append, List.length_map, List.length_replicate, List.length_take, List.length_drop, sizeLine] <;> omega) | (unfold sizeLine; omega) | decide)
local macro_rules | `(tactic| walk_at "dq") => `(tactic| first | with_unfolding_all rfl | walk_at "r62" | walk_at "sz")
local macro_rules | `(tactic| walk_at "zs") => `(tactic| ((try (first | with_reducible refine i_wp ?_ | with_reducible refine i_ws ?_ | with_reducible refine i_get ?_ | with_reducible refine i_an ?_ | with_reducible refine i_if ?_ | with_reducible refine i_wb ?_ | with_reducible refine i_wt ?_ | with_reducible refine i_sub ?_ | with_reducible refine i_put ?_ | with_reducible refine i_fld ?_ | with_reducible refine i_ins ?_)); (try simp (disch := walk_at "dq") only [↓z_seq, ↓z_next, ↓z_break, ↓z_cont, ↓z_retN, ↓z_ret, ↓z_drop, ↓z_set, ↓z_asg, ↓z_if, ↓z_par, ↓z_par3, ↓z_sub, ↓z_dput, ↓z_fld, ↓z_for, ↓z_v, ↓z_vS, ↓z_v0, ↓z_e0, ↓z_e1, ↓z_e2, ↓z_c, ↓z_bin, ↓z_nil, ↓z_cons, ↓z_b, ↓z_bm, ↓z_call, ↓z_calld, ↓z_wb, ↓z_asB, ↓z_asT, ↓z_wtB, ↓z_wtN, ↓z_wtI, ↓z_wtT0, ↓z_wtT1, ↓z_wtL0, ↓z_wtL1, ↓z_notB, ↓z_andB, ↓z_orB, ↓z_notT, ↓z_andT, ↓z_orT, ↓z_ifE, ↓z_isn, ↓z_notn, ↓z_neg, ↓z_chain, ↓z_yes, ↓z_nopart, ↓z_part, ↓z_sl, ↓z_tup, ↓z_lst, ↓z_mkL, ↓z_mkLn, ↓z_dic0, ↓z_mkD, ↓z_mkDn, ↓z_revL, ↓z_fldE, ↓z_insV, ↓z_get2, ↓z_itS, ↓z_itR1, ↓z_itR2, ↓z_itT, ↓z_itE, ↓z_itZ, ↓z_get, ↓z_int, ↓z_int1, ↓z_int2, ↓z_one1, ↓z_two2, ↓z_str, ↓z_asLl, ↓z_asLr, ↓z_itLl, ↓z_itLt, ↓z_gN, ↓z_gNl, ↓z_gCs, ↓z_gTt, ↓z_gTl, ↓z_an, ↓z_ct, ↓z_cf, ↓z_ty1, ↓z_ty2, ↓z_ty3, ↓z_ty4, ↓z_anT, ↓z_addI, ↓z_addS, ↓z_addT, ↓z_addLL, ↓z_subI, ↓z_mod, ↓z_lt, ↓z_le, ↓z_gt, ↓z_ge, ↓z_eqI, ↓z_neI, ↓z_eqS, ↓z_neS, ↓z_eqB, ↓z_neB, ↓z_inL, ↓z_ninL, ↓z_lenL, ↓z_lenT, ↓z_lenD, ↓z_lenS, ↓z_slS, ↓z_slT, ↓z_slL, ↓z_listL, ↓z_listT, ↓z_listD, ↓z_tupL, ↓z_tupT, ↓z_max, ↓z_min, ↓z_dictD, ↓z_int1B, ↓z_int1I, ↓z_meth0, ↓z_methd, List.set_cons_zero, List.set_cons_succ, q_e0, q_e1, q_e2, -eq_self, -iff_self]); (try (first | with_reducible refine o_wp ?_ | with_reducible refine o_ws ?_ | with_reducible refine o_get ?_ | with_reducible refine o_an ?_ | with_reducible refine o_if ?_ | with_reducible refine o_wb ?_ | with_reducible refine o_wt ?_ | with_reducible refine o_v ?_ | with_reducible refine o_sub ?_ | with_reducible refine o_put ?_ | with_reducible refine o_fld ?_ | with_reducible refine o_ins ?_))))
local macro_rules | `(tactic| walk_at "w") => `(tactic| (walk_at "zs"; (repeat ((first | with_reducible refine wp_ixT (by with_unfolding_all rfl) ?_ | with_reducible refine wp_ixL (by with_unfolding_all rfl) ?_ | with_reducible refine wv (by with_unfolding_all rfl) ?_ | with_reducible refine get (by with_unfolding_all rfl) ?_ | with_reducible refine an (by walk_at "dq") ?_ | with_reducible refine wt (by with_unfolding_all rfl) ?_ | with_reducible refine ite_t ?_ | with_reducible refine ite_f ?_ | with_reducible refine ite_rt (by with_unfolding_all rfl) ?_ | with_reducible refine ite_rf (by with_unfolding_all rfl) ?_ | with_reducible refine wp_isiT (by with_unfolding_all rfl) ?_ | with_reducible refine wp_isiF (by with_unfolding_all rfl) ?_); walk_at "zs"))))
local macro_rules | `(tactic| walk_at "dq") => `(tactic| first | with_unfolding_all rfl | walk_at "r62" | walk_at "sz")
local macro_rules | `(tactic| walk_at "zs") => `(tactic| ((try (first | with_reducible refine i_wp ?_ | with_reducible refine i_ws ?_ | with_reducible refine i_get ?_ | with_reducible refine i_an ?_ | with_reducible refine i_if ?_ | with_reducible refine i_wb ?_ | with_reducible refine i_wt ?_ | with_reducible refine i_sub ?_ | with_reducible refine i_put ?_ | with_reducible refine i_fld ?_ | with_reducible refine i_ins ?_)); (try simp (disch := walk_at "dq") only [↓z_seq, ↓z_next, ↓z_break, ↓z_cont, ↓z_retN, ↓z_ret, ↓z_drop, ↓z_set, ↓z_asg, ↓z_if, ↓z_par, ↓z_par3, ↓z_sub, ↓z_dput, ↓z_fld, ↓z_for, ↓z_v, ↓z_vS, ↓z_v0, ↓z_e0, ↓z_e1, ↓z_e2, ↓z_c, ↓z_bin, ↓z_nil, ↓z_cons, ↓z_b, ↓z_bm, ↓z_call, ↓z_calld, ↓z_wb, ↓z_asB, ↓z_asT, ↓z_wtB, ↓z_wtN, ↓z_wtI, ↓z_wtT0, ↓z_wtT1, ↓z_wtL0, ↓z_wtL1, ↓z_notB, ↓z_andB, ↓z_orB, ↓z_notT, ↓z_andT, ↓z_orT, ↓z_ifE, ↓z_isn, ↓z_notn, ↓z_neg, ↓z_chain, ↓z_yes, ↓z_nopart, ↓z_part, ↓z_sl, ↓z_tup, ↓z_lst, ↓z_mkL, ↓z_mkLn, ↓z_dic0, ↓z_mkD, ↓z_mkDn, ↓z_revL, ↓z_fldE, ↓z_insV, ↓z_get2, ↓z_itS, ↓z_itR1, ↓z_itR2, ↓z_itT, ↓z_itE, ↓z_itZ, ↓z_get, ↓z_int, ↓z_int1, ↓z_int2, ↓z_one1, ↓z_two2, ↓z_str, ↓z_asLl, ↓z_asLr, ↓z_itLl, ↓z_itLt, ↓z_gN, ↓z_gNl, ↓z_gCs, ↓z_gTt, ↓z_gTl, ↓z_an, ↓z_ct, ↓z_cf, ↓z_ty1, ↓z_ty2, ↓z_ty3, ↓z_ty4, ↓z_anT, ↓z_addI, ↓z_addS, ↓z_addT, ↓z_addLL, ↓z_subI, ↓z_mod, ↓z_lt, ↓z_le, ↓z_gt, ↓z_ge, ↓z_eqI, ↓z_neI, ↓z_eqS, ↓z_neS, ↓z_eqB, ↓z_neB, ↓z_inL, ↓z_ninL, ↓z_lenL, ↓z_lenT, ↓z_lenD, ↓z_lenS, ↓z_slS, ↓z_slT, ↓z_slL, ↓z_listL, ↓z_listT, ↓z_listD, ↓z_tupL, ↓z_tupT, ↓z_max, ↓z_min, ↓z_dictD, ↓z_int1B, ↓z_int1I, ↓z_meth0, ↓z_methd, List.set_cons_zero, List.set_cons_succ, q_e0, q_e1, q_e2, ↓z_seen, ↓z_hidden, ↓z_deeds, ↓z_asks, -eq_self, -iff_self]); (try (first | with_reducible refine o_wp ?_ | with_reducible refine o_ws ?_ | with_reducible refine o_get ?_ | with_reducible refine o_an ?_ | with_reducible refine o_if ?_ | with_reducible refine o_wb ?_ | with_reducible refine o_wt ?_ | with_reducible refine o_v ?_ | with_reducible refine o_sub ?_ | with_reducible refine o_put ?_ | with_reducible refine o_fld ?_ | with_reducible refine o_ins ?_))))
local macro_rules | `(tactic| walk_at "w") => `(tactic| (walk_at "zs"; (repeat ((first | with_reducible refine wp_inPQ ?_ | with_reducible refine wp_inMD ?_ | with_reducible refine wp_ninMD ?_ | with_reducible refine wp_inGo ?_ | with_reducible refine wp_ninGo ?_ | with_reducible refine wp_inDM ?_ | with_reducible refine wp_ninDM ?_ | with_reducible refine ite_dt (by assumption) ?_ | with_reducible refine ite_df (by assumption) ?_ | with_reducible refine ite_nt (by assumption) ?_ | with_reducible refine ite_nf (by assumption) ?_ | with_reducible refine ite_rt (by assumption) ?_ | with_reducible refine ite_rf (by assumption) ?_ | with_reducible refine wp_eqTn ?_ | with_reducible refine wp_ixT (by with_unfolding_all rfl) ?_ | with_reducible refine wp_ixL (by with_unfolding_all rfl) ?_ | with_reducible refine wv (by with_unfolding_all rfl) ?_ | with_reducible refine get (by with_unfolding_all rfl) ?_ | with_reducible refine an (by walk_at "dq") ?_ | with_reducible refine wt (by with_unfolding_all rfl) ?_ | with_reducible refine ite_t ?_ | with_reducible refine ite_f ?_ | with_reducible refine ite_rt (by with_unfolding_all rfl) ?_ | with_reducible refine ite_rf (by with_unfolding_all rfl) ?_ | with_reducible refine wp_isiT (by with_unfolding_all rfl) ?_ | with_reducible refine wp_isiF (by with_unfolding_all rfl) ?_); walk_at "zs"))))
def LD (l p q : Nat) (k : Int) (S S' : Sto) : Prop := ∃ T, Draws l q S T ∧ S' = T.set p (.lst [.int k])
section
variable {l p q r n : Nat} {k k' : Int} {S S' S1 S2 : Sto}
theorem LD.of (hp : S[p]? = some (.lst [.int k])) (hl : l ≠ p) (d : Draws l q S S') : LD l p q k S S' := by
  refine ⟨S', d, ?_⟩
  have e : S'[p]? = some (.lst [.int k]) := by rw [d.ne hl]; exact hp
  obtain ⟨h1, h2⟩ := List.getElem?_eq_some_iff.mp e
  rw [← h2, List.set_getElem_self]
theorem LD.sub (d : LD l p q k S S') : LD l p q k' S (S'.set p (.lst [.int k'])) := by
  obtain ⟨T, d, rfl⟩ := d
  exact ⟨T, d, by rw [List.set_set]⟩
theorem LD.draw (hl : l ≠ p) (d : LD l p q k S S1) (e : Draws l r S1 S2) : LD l p (q + r) k S S2 := by
  obtain ⟨T, d, rfl⟩ := d
  obtain ⟨a, b, c, a', c', h, e, h1, h2⟩ := e
  rw [List.getElem?_set_ne (Ne.symm hl)] at h
  refine ⟨T.set l (dr a' b c'), d.trans ⟨a, b, c, a', c', h, rfl, h1, h2⟩, ?_⟩
  rw [e, List.set_comm _ _ hl]
theorem LD.trans (hl : l ≠ p) (d : LD l p q k S S1) (e : LD l p r k' S1 S2) : LD l p (q + r) k' S S2 := by
  obtain ⟨U, e, rfl⟩ := e
  exact (d.draw hl e).sub
theorem LD.mono (d : LD l p q k S S') (h : q ≤ r) : LD l p r k S S' := by
  obtain ⟨T, d, e⟩ := d
  exact ⟨T, d.mono h, e⟩
theorem LD.len (d : LD l p q k S S') : S'.length = S.length := by
  obtain ⟨T, d, rfl⟩ := d
  rw [List.length_set, d.len]
theorem LD.at (hp : p < S.length) (d : LD l p q k S S') : S'[p]? = some (.lst [.int k]) := by
  obtain ⟨T, d, rfl⟩ := d
  rw [List.getElem?_set_self (by rw [d.len]; exact hp)]
theorem LD.dr (hl : l ≠ p) (h : HasDr l n S) (d : LD l p q k S S') : HasDr l (n + q) S' := by
  obtain ⟨T, d, rfl⟩ := d
  obtain ⟨a, b, c, h1, h2⟩ := h.draws d
  exact ⟨a, b, c, by rw [List.getElem?_set_ne (Ne.symm hl)]; exact h1, h2⟩
theorem LD.ne {j : Nat} (d : LD l p q k S S') (h1 : l ≠ j) (h2 : p ≠ j) : S'[j]? = S[j]? := by
  obtain ⟨T, d, rfl⟩ := d
  rw [List.getElem?_set_ne h2, d.ne h1]
theorem LD.keeps (d : LD l p q k S S') : Keeps S S' := by
  obtain ⟨T, d, rfl⟩ := d
  have hk := d.keeps
  refine ⟨by rw [List.length_set]; exact hk.1, fun j hj => ?_⟩
  by_cases e : p = j
  · subst e
    exact .inr ⟨_, List.getElem?_set_self (by rw [d.len]; exact hj), by simp only [ClO, ClL, Cl, and_self]⟩
  · rw [List.getElem?_set_ne e]; exact hk.2 j hj
end
end SM
end Mi
namespace Mi
namespace SM
open PySem L2 TL
open Sh hiding b_law_gear_c1 b_law_gear_c2 b_law_gear m_law_gear b_law_moves_l1 b_law_moves m_law_moves b_next_form_l1 b_next_form m_next_form b_is_form_l1 b_is_form m_is_form b_is_puts_l1 b_is_puts m_is_puts b_is_asked_c1 b_is_asked m_is_asked b_is_meaning_l1 b_is_meaning m_is_meaning b_Op_init m_Op_init
local macro_rules | `(tactic| walk_at "r62") => `(tactic| first | exact r62 (by omega) (by omega) | exact ⟨r62 (by omega) (by omega), r62 (by omega) (by omega)⟩)
local macro_rules | `(tactic| walk_at "sz") => `(tactic| first | omega | (simp only [List.length_cons, List.length_nil, List.length_append, List.length_map, List.length_replicate, List.length_take, List.length_drop, sizeLine] <;> omega) | (unfold sizeLine; omega) | decide)
local macro_rules | `(tactic| walk_at "dq") => `(tactic| first | with_unfolding_all rfl | walk_at "r62" | walk_at "sz")
local macro_rules | `(tactic| walk_at "zs") => `(tactic| ((try (first | with_reducible refine i_wp ?_ | with_reducible refine i_ws ?_ | with_reducible refine i_get ?_ | with_reducible refine i_an ?_ | with_reducible refine i_if ?_ | with_reducible refine i_wb ?_ | with_reducible refine i_wt ?_ | with_reducible refine i_sub ?_ | with_reducible refine i_put ?_ | with_reducible refine i_fld ?_ | with_reducible refine i_ins ?_)); (try simp (disch := walk_at "dq") only [↓z_seq, ↓z_next, ↓z_break, ↓z_cont, ↓z_retN, ↓z_ret, ↓z_drop, ↓z_set, ↓z_asg, ↓z_if, ↓z_par, ↓z_par3, ↓z_sub, ↓z_dput, ↓z_fld, ↓z_for, ↓z_v, ↓z_vS, ↓z_v0, ↓z_e0, ↓z_e1, ↓z_e2, ↓z_c, ↓z_bin, ↓z_nil, ↓z_cons, ↓z_b, ↓z_bm, ↓z_call, ↓z_calld, ↓z_wb, ↓z_asB, ↓z_asT, ↓z_wtB, ↓z_wtN, ↓z_wtI, ↓z_wtT0, ↓z_wtT1, ↓z_wtL0, ↓z_wtL1, ↓z_notB, ↓z_andB, ↓z_orB, ↓z_notT, ↓z_andT, ↓z_orT, ↓z_ifE, ↓z_isn, ↓z_notn, ↓z_neg, ↓z_chain, ↓z_yes, ↓z_nopart, ↓z_part, ↓z_sl, ↓z_tup, ↓z_lst, ↓z_mkL, ↓z_mkLn, ↓z_dic0, ↓z_mkD, ↓z_mkDn, ↓z_revL, ↓z_fldE, ↓z_insV, ↓z_get2, ↓z_itS, ↓z_itR1, ↓z_itR2, ↓z_itT, ↓z_itE, ↓z_itZ, ↓z_get, ↓z_int, ↓z_int1, ↓z_int2, ↓z_one1, ↓z_two2, ↓z_str, ↓z_asLl, ↓z_asLr, ↓z_itLl, ↓z_itLt, ↓z_gN, ↓z_gNl, ↓z_gCs, ↓z_gTt, ↓z_gTl, ↓z_an, ↓z_ct, ↓z_cf, ↓z_ty1, ↓z_ty2, ↓z_ty3, ↓z_ty4, ↓z_anT, ↓z_addI, ↓z_addS, ↓z_addT, ↓z_addLL, ↓z_subI, ↓z_mod, ↓z_lt, ↓z_le, ↓z_gt, ↓z_ge, ↓z_eqI, ↓z_neI, ↓z_eqS, ↓z_neS, ↓z_eqB, ↓z_neB, ↓z_inL, ↓z_ninL, ↓z_lenL, ↓z_lenT, ↓z_lenD, ↓z_lenS, ↓z_slS, ↓z_slT, ↓z_slL, ↓z_listL, ↓z_listT, ↓z_listD, ↓z_tupL, ↓z_tupT, ↓z_max, ↓z_min, ↓z_dictD, ↓z_int1B, ↓z_int1I, ↓z_meth0, ↓z_methd, List.set_cons_zero, List.set_cons_succ, q_e0, q_e1, q_e2, -eq_self, -iff_self]); (try (first | with_reducible refine o_wp ?_ | with_reducible refine o_ws ?_ | with_reducible refine o_get ?_ | with_reducible refine o_an ?_ | with_reducible refine o_if ?_ | with_reducible refine o_wb ?_ | with_reducible refine o_wt ?_ | with_reducible refine o_v ?_ | with_reducible refine o_sub ?_ | with_reducible refine o_put ?_ | with_reducible refine o_fld ?_ | with_reducible refine o_ins ?_))))
local macro_rules | `(tactic| walk_at "w") => `(tactic| (walk_at "zs"; (repeat ((first | with_reducible refine wp_ixT (by with_unfolding_all rfl) ?_ | with_reducible refine wp_ixL (by with_unfolding_all rfl) ?_ | with_reducible refine wv (by with_unfolding_all rfl) ?_ | with_reducible refine get (by with_unfolding_all rfl) ?_ | with_reducible refine an (by walk_at "dq") ?_ | with_reducible refine wt (by with_unfolding_all rfl) ?_ | with_reducible refine ite_t ?_ | with_reducible refine ite_f ?_ | with_reducible refine ite_rt (by with_unfolding_all rfl) ?_ | with_reducible refine ite_rf (by with_unfolding_all rfl) ?_ | with_reducible refine wp_isiT (by with_unfolding_all rfl) ?_ | with_reducible refine wp_isiF (by with_unfolding_all rfl) ?_); walk_at "zs"))))
local macro_rules | `(tactic| walk_at "dq") => `(tactic| first | with_unfolding_all rfl | walk_at "r62" | walk_at "sz")
local macro_rules | `(tactic| walk_at "zs") => `(tactic| ((try (first | with_reducible refine i_wp ?_ | with_reducible refine i_ws ?_ | with_reducible refine i_get ?_ | with_reducible refine i_an ?_ | with_reducible refine i_if ?_ | with_reducible refine i_wb ?_ | with_reducible refine i_wt ?_ | with_reducible refine i_sub ?_ | with_reducible refine i_put ?_ | with_reducible refine i_fld ?_ | with_reducible refine i_ins ?_)); (try simp (disch := walk_at "dq") only [↓z_seq, ↓z_next, ↓z_break, ↓z_cont, ↓z_retN, ↓z_ret, ↓z_drop, ↓z_set, ↓z_asg, ↓z_if, ↓z_par, ↓z_par3, ↓z_sub, ↓z_dput, ↓z_fld, ↓z_for, ↓z_v, ↓z_vS, ↓z_v0, ↓z_e0, ↓z_e1, ↓z_e2, ↓z_c, ↓z_bin, ↓z_nil, ↓z_cons, ↓z_b, ↓z_bm, ↓z_call, ↓z_calld, ↓z_wb, ↓z_asB, ↓z_asT, ↓z_wtB, ↓z_wtN, ↓z_wtI, ↓z_wtT0, ↓z_wtT1, ↓z_wtL0, ↓z_wtL1, ↓z_notB, ↓z_andB, ↓z_orB, ↓z_notT, ↓z_andT, ↓z_orT, ↓z_ifE, ↓z_isn, ↓z_notn, ↓z_neg, ↓z_chain, ↓z_yes, ↓z_nopart, ↓z_part, ↓z_sl, ↓z_tup, ↓z_lst, ↓z_mkL, ↓z_mkLn, ↓z_dic0, ↓z_mkD, ↓z_mkDn, ↓z_revL, ↓z_fldE, ↓z_insV, ↓z_get2, ↓z_itS, ↓z_itR1, ↓z_itR2, ↓z_itT, ↓z_itE, ↓z_itZ, ↓z_get, ↓z_int, ↓z_int1, ↓z_int2, ↓z_one1, ↓z_two2, ↓z_str, ↓z_asLl, ↓z_asLr, ↓z_itLl, ↓z_itLt, ↓z_gN, ↓z_gNl, ↓z_gCs, ↓z_gTt, ↓z_gTl, ↓z_an, ↓z_ct, ↓z_cf, ↓z_ty1, ↓z_ty2, ↓z_ty3, ↓z_ty4, ↓z_anT, ↓z_addI, ↓z_addS, ↓z_addT, ↓z_addLL, ↓z_subI, ↓z_mod, ↓z_lt, ↓z_le, ↓z_gt, ↓z_ge, ↓z_eqI, ↓z_neI, ↓z_eqS, ↓z_neS, ↓z_eqB, ↓z_neB, ↓z_inL, ↓z_ninL, ↓z_lenL, ↓z_lenT, ↓z_lenD, ↓z_lenS, ↓z_slS, ↓z_slT, ↓z_slL, ↓z_listL, ↓z_listT, ↓z_listD, ↓z_tupL, ↓z_tupT, ↓z_max, ↓z_min, ↓z_dictD, ↓z_int1B, ↓z_int1I, ↓z_meth0, ↓z_methd, List.set_cons_zero, List.set_cons_succ, q_e0, q_e1, q_e2, ↓z_seen, ↓z_hidden, ↓z_deeds, ↓z_asks, -eq_self, -iff_self]); (try (first | with_reducible refine o_wp ?_ | with_reducible refine o_ws ?_ | with_reducible refine o_get ?_ | with_reducible refine o_an ?_ | with_reducible refine o_if ?_ | with_reducible refine o_wb ?_ | with_reducible refine o_wt ?_ | with_reducible refine o_v ?_ | with_reducible refine o_sub ?_ | with_reducible refine o_put ?_ | with_reducible refine o_fld ?_ | with_reducible refine o_ins ?_))))
local macro_rules | `(tactic| walk_at "w") => `(tactic| (walk_at "zs"; (repeat ((first | with_reducible refine wp_inPQ ?_ | with_reducible refine wp_inMD ?_ | with_reducible refine wp_ninMD ?_ | with_reducible refine wp_inGo ?_ | with_reducible refine wp_ninGo ?_ | with_reducible refine wp_inDM ?_ | with_reducible refine wp_ninDM ?_ | with_reducible refine ite_dt (by assumption) ?_ | with_reducible refine ite_df (by assumption) ?_ | with_reducible refine ite_nt (by assumption) ?_ | with_reducible refine ite_nf (by assumption) ?_ | with_reducible refine ite_rt (by assumption) ?_ | with_reducible refine ite_rf (by assumption) ?_ | with_reducible refine wp_eqTn ?_ | with_reducible refine wp_ixT (by with_unfolding_all rfl) ?_ | with_reducible refine wp_ixL (by with_unfolding_all rfl) ?_ | with_reducible refine wv (by with_unfolding_all rfl) ?_ | with_reducible refine get (by with_unfolding_all rfl) ?_ | with_reducible refine an (by walk_at "dq") ?_ | with_reducible refine wt (by with_unfolding_all rfl) ?_ | with_reducible refine ite_t ?_ | with_reducible refine ite_f ?_ | with_reducible refine ite_rt (by with_unfolding_all rfl) ?_ | with_reducible refine ite_rf (by with_unfolding_all rfl) ?_ | with_reducible refine wp_isiT (by with_unfolding_all rfl) ?_ | with_reducible refine wp_isiF (by with_unfolding_all rfl) ?_); walk_at "zs"))))
end SM
end Mi
namespace Mi
namespace SM
open PySem L2 TL
open Sh hiding b_law_gear_c1 b_law_gear_c2 b_law_gear m_law_gear b_law_moves_l1 b_law_moves m_law_moves b_next_form_l1 b_next_form m_next_form b_is_form_l1 b_is_form m_is_form b_is_puts_l1 b_is_puts m_is_puts b_is_asked_c1 b_is_asked m_is_asked b_is_meaning_l1 b_is_meaning m_is_meaning b_Op_init m_Op_init
local macro_rules | `(tactic| walk_at "r62") => `(tactic| first | exact r62 (by omega) (by omega) | exact ⟨r62 (by omega) (by omega), r62 (by omega) (by omega)⟩)
local macro_rules | `(tactic| walk_at "sz") => `(tactic| first | omega | (simp only [List.length_cons, List.length_nil, List.length_append, List.length_map, List.length_replicate, List.length_take, List.length_drop, sizeLine] <;> omega) | (unfold sizeLine; omega) | decide)
local macro_rules | `(tactic| walk_at "dq") => `(tactic| first | with_unfolding_all rfl | walk_at "r62" | walk_at "sz")
local macro_rules | `(tactic| walk_at "zs") => `(tactic| ((try (first | with_reducible refine i_wp ?_ | with_reducible refine i_ws ?_ | with_reducible refine i_get ?_ | with_reducible refine i_an ?_ | with_reducible refine i_if ?_ | with_reducible refine i_wb ?_ | with_reducible refine i_wt ?_ | with_reducible refine i_sub ?_ | with_reducible refine i_put ?_ | with_reducible refine i_fld ?_ | with_reducible refine i_ins ?_)); (try simp (disch := walk_at "dq") only [↓z_seq, ↓z_next, ↓z_break, ↓z_cont, ↓z_retN, ↓z_ret, ↓z_drop, ↓z_set, ↓z_asg, ↓z_if, ↓z_par, ↓z_par3, ↓z_sub, ↓z_dput, ↓z_fld, ↓z_for, ↓z_v, ↓z_vS, ↓z_v0, ↓z_e0, ↓z_e1, ↓z_e2, ↓z_c, ↓z_bin, ↓z_nil, ↓z_cons, ↓z_b, ↓z_bm, ↓z_call, ↓z_calld, ↓z_wb, ↓z_asB, ↓z_asT, ↓z_wtB, ↓z_wtN, ↓z_wtI, ↓z_wtT0, ↓z_wtT1, ↓z_wtL0, ↓z_wtL1, ↓z_notB, ↓z_andB, ↓z_orB, ↓z_notT, ↓z_andT, ↓z_orT, ↓z_ifE, ↓z_isn, ↓z_notn, ↓z_neg, ↓z_chain, ↓z_yes, ↓z_nopart, ↓z_part, ↓z_sl, ↓z_tup, ↓z_lst, ↓z_mkL, ↓z_mkLn, ↓z_dic0, ↓z_mkD, ↓z_mkDn, ↓z_revL, ↓z_fldE, ↓z_insV, ↓z_get2, ↓z_itS, ↓z_itR1, ↓z_itR2, ↓z_itT, ↓z_itE, ↓z_itZ, ↓z_get, ↓z_int, ↓z_int1, ↓z_int2, ↓z_one1, ↓z_two2, ↓z_str, ↓z_asLl, ↓z_asLr, ↓z_itLl, ↓z_itLt, ↓z_gN, ↓z_gNl, ↓z_gCs, ↓z_gTt, ↓z_gTl, ↓z_an, ↓z_ct, ↓z_cf, ↓z_ty1, ↓z_ty2, ↓z_ty3, ↓z_ty4, ↓z_anT, ↓z_addI, ↓z_addS, ↓z_addT, ↓z_addLL, ↓z_subI, ↓z_mod, ↓z_lt, ↓z_le, ↓z_gt, ↓z_ge, ↓z_eqI, ↓z_neI, ↓z_eqS, ↓z_neS, ↓z_eqB, ↓z_neB, ↓z_inL, ↓z_ninL, ↓z_lenL, ↓z_lenT, ↓z_lenD, ↓z_lenS, ↓z_slS, ↓z_slT, ↓z_slL, ↓z_listL, ↓z_listT, ↓z_listD, ↓z_tupL, ↓z_tupT, ↓z_max, ↓z_min, ↓z_dictD, ↓z_int1B, ↓z_int1I, ↓z_meth0, ↓z_methd, List.set_cons_zero, List.set_cons_succ, q_e0, q_e1, q_e2, -eq_self, -iff_self]); (try (first | with_reducible refine o_wp ?_ | with_reducible refine o_ws ?_ | with_reducible refine o_get ?_ | with_reducible refine o_an ?_ | with_reducible refine o_if ?_ | with_reducible refine o_wb ?_ | with_reducible refine o_wt ?_ | with_reducible refine o_v ?_ | with_reducible refine o_sub ?_ | with_reducible refine o_put ?_ | with_reducible refine o_fld ?_ | with_reducible refine o_ins ?_))))
local macro_rules | `(tactic| walk_at "w") => `(tactic| (walk_at "zs"; (repeat ((first | with_reducible refine wp_ixT (by with_unfolding_all rfl) ?_ | with_reducible refine wp_ixL (by with_unfolding_all rfl) ?_ | with_reducible refine wv (by with_unfolding_all rfl) ?_ | with_reducible refine get (by with_unfolding_all rfl) ?_ | with_reducible refine an (by walk_at "dq") ?_ | with_reducible refine wt (by with_unfolding_all rfl) ?_ | with_reducible refine ite_t ?_ | with_reducible refine ite_f ?_ | with_reducible refine ite_rt (by with_unfolding_all rfl) ?_ | with_reducible refine ite_rf (by with_unfolding_all rfl) ?_ | with_reducible refine wp_isiT (by with_unfolding_all rfl) ?_ | with_reducible refine wp_isiF (by with_unfolding_all rfl) ?_); walk_at "zs"))))
local macro_rules | `(tactic| walk_at "dq") => `(tactic| first | with_unfolding_all rfl | walk_at "r62" | walk_at "sz")
local macro_rules | `(tactic| walk_at "zs") => `(tactic| ((try (first | with_reducible refine i_wp ?_ | with_reducible refine i_ws ?_ | with_reducible refine i_get ?_ | with_reducible refine i_an ?_ | with_reducible refine i_if ?_ | with_reducible refine i_wb ?_ | with_reducible refine i_wt ?_ | with_reducible refine i_sub ?_ | with_reducible refine i_put ?_ | with_reducible refine i_fld ?_ | with_reducible refine i_ins ?_)); (try simp (disch := walk_at "dq") only [↓z_seq, ↓z_next, ↓z_break, ↓z_cont, ↓z_retN, ↓z_ret, ↓z_drop, ↓z_set, ↓z_asg, ↓z_if, ↓z_par, ↓z_par3, ↓z_sub, ↓z_dput, ↓z_fld, ↓z_for, ↓z_v, ↓z_vS, ↓z_v0, ↓z_e0, ↓z_e1, ↓z_e2, ↓z_c, ↓z_bin, ↓z_nil, ↓z_cons, ↓z_b, ↓z_bm, ↓z_call, ↓z_calld, ↓z_wb, ↓z_asB, ↓z_asT, ↓z_wtB, ↓z_wtN, ↓z_wtI, ↓z_wtT0, ↓z_wtT1, ↓z_wtL0, ↓z_wtL1, ↓z_notB, ↓z_andB, ↓z_orB, ↓z_notT, ↓z_andT, ↓z_orT, ↓z_ifE, ↓z_isn, ↓z_notn, ↓z_neg, ↓z_chain, ↓z_yes, ↓z_nopart, ↓z_part, ↓z_sl, ↓z_tup, ↓z_lst, ↓z_mkL, ↓z_mkLn, ↓z_dic0, ↓z_mkD, ↓z_mkDn, ↓z_revL, ↓z_fldE, ↓z_insV, ↓z_get2, ↓z_itS, ↓z_itR1, ↓z_itR2, ↓z_itT, ↓z_itE, ↓z_itZ, ↓z_get, ↓z_int, ↓z_int1, ↓z_int2, ↓z_one1, ↓z_two2, ↓z_str, ↓z_asLl, ↓z_asLr, ↓z_itLl, ↓z_itLt, ↓z_gN, ↓z_gNl, ↓z_gCs, ↓z_gTt, ↓z_gTl, ↓z_an, ↓z_ct, ↓z_cf, ↓z_ty1, ↓z_ty2, ↓z_ty3, ↓z_ty4, ↓z_anT, ↓z_addI, ↓z_addS, ↓z_addT, ↓z_addLL, ↓z_subI, ↓z_mod, ↓z_lt, ↓z_le, ↓z_gt, ↓z_ge, ↓z_eqI, ↓z_neI, ↓z_eqS, ↓z_neS, ↓z_eqB, ↓z_neB, ↓z_inL, ↓z_ninL, ↓z_lenL, ↓z_lenT, ↓z_lenD, ↓z_lenS, ↓z_slS, ↓z_slT, ↓z_slL, ↓z_listL, ↓z_listT, ↓z_listD, ↓z_tupL, ↓z_tupT, ↓z_max, ↓z_min, ↓z_dictD, ↓z_int1B, ↓z_int1I, ↓z_meth0, ↓z_methd, List.set_cons_zero, List.set_cons_succ, q_e0, q_e1, q_e2, ↓z_seen, ↓z_hidden, ↓z_deeds, ↓z_asks, -eq_self, -iff_self]); (try (first | with_reducible refine o_wp ?_ | with_reducible refine o_ws ?_ | with_reducible refine o_get ?_ | with_reducible refine o_an ?_ | with_reducible refine o_if ?_ | with_reducible refine o_wb ?_ | with_reducible refine o_wt ?_ | with_reducible refine o_v ?_ | with_reducible refine o_sub ?_ | with_reducible refine o_put ?_ | with_reducible refine o_fld ?_ | with_reducible refine o_ins ?_))))
local macro_rules | `(tactic| walk_at "w") => `(tactic| (walk_at "zs"; (repeat ((first | with_reducible refine wp_inPQ ?_ | with_reducible refine wp_inMD ?_ | with_reducible refine wp_ninMD ?_ | with_reducible refine wp_inGo ?_ | with_reducible refine wp_ninGo ?_ | with_reducible refine wp_inDM ?_ | with_reducible refine wp_ninDM ?_ | with_reducible refine ite_dt (by assumption) ?_ | with_reducible refine ite_df (by assumption) ?_ | with_reducible refine ite_nt (by assumption) ?_ | with_reducible refine ite_nf (by assumption) ?_ | with_reducible refine ite_rt (by assumption) ?_ | with_reducible refine ite_rf (by assumption) ?_ | with_reducible refine wp_eqTn ?_ | with_reducible refine wp_ixT (by with_unfolding_all rfl) ?_ | with_reducible refine wp_ixL (by with_unfolding_all rfl) ?_ | with_reducible refine wv (by with_unfolding_all rfl) ?_ | with_reducible refine get (by with_unfolding_all rfl) ?_ | with_reducible refine an (by walk_at "dq") ?_ | with_reducible refine wt (by with_unfolding_all rfl) ?_ | with_reducible refine ite_t ?_ | with_reducible refine ite_f ?_ | with_reducible refine ite_rt (by with_unfolding_all rfl) ?_ | with_reducible refine ite_rf (by with_unfolding_all rfl) ?_ | with_reducible refine wp_isiT (by with_unfolding_all rfl) ?_ | with_reducible refine wp_isiF (by with_unfolding_all rfl) ?_); walk_at "zs"))))
end SM
end Mi
namespace Mi
namespace SM
open PySem L2 TL
open Sh hiding b_law_gear_c1 b_law_gear_c2 b_law_gear m_law_gear b_law_moves_l1 b_law_moves m_law_moves b_next_form_l1 b_next_form m_next_form b_is_form_l1 b_is_form m_is_form b_is_puts_l1 b_is_puts m_is_puts b_is_asked_c1 b_is_asked m_is_asked b_is_meaning_l1 b_is_meaning m_is_meaning b_Op_init m_Op_init
local macro_rules | `(tactic| walk_at "r62") => `(tactic| first | exact r62 (by omega) (by omega) | exact ⟨r62 (by omega) (by omega), r62 (by omega) (by omega)⟩)
local macro_rules | `(tactic| walk_at "sz") => `(tactic| first | omega | (simp only [List.length_cons, List.length_nil, List.length_append, List.length_map, List.length_replicate, List.length_take, List.length_drop, sizeLine] <;> omega) | (unfold sizeLine; omega) | decide)
local macro_rules | `(tactic| walk_at "dq") => `(tactic| first | with_unfolding_all rfl | walk_at "r62" | walk_at "sz")
local macro_rules | `(tactic| walk_at "zs") => `(tactic| ((try (first | with_reducible refine i_wp ?_ | with_reducible refine i_ws ?_ | with_reducible refine i_get ?_ | with_reducible refine i_an ?_ | with_reducible refine i_if ?_ | with_reducible refine i_wb ?_ | with_reducible refine i_wt ?_ | with_reducible refine i_sub ?_ | with_reducible refine i_put ?_ | with_reducible refine i_fld ?_ | with_reducible refine i_ins ?_)); (try simp (disch := walk_at "dq") only [↓z_seq, ↓z_next, ↓z_break, ↓z_cont, ↓z_retN, ↓z_ret, ↓z_drop, ↓z_set, ↓z_asg, ↓z_if, ↓z_par, ↓z_par3, ↓z_sub, ↓z_dput, ↓z_fld, ↓z_for, ↓z_v, ↓z_vS, ↓z_v0, ↓z_e0, ↓z_e1, ↓z_e2, ↓z_c, ↓z_bin, ↓z_nil, ↓z_cons, ↓z_b, ↓z_bm, ↓z_call, ↓z_calld, ↓z_wb, ↓z_asB, ↓z_asT, ↓z_wtB, ↓z_wtN, ↓z_wtI, ↓z_wtT0, ↓z_wtT1, ↓z_wtL0, ↓z_wtL1, ↓z_notB, ↓z_andB, ↓z_orB, ↓z_notT, ↓z_andT, ↓z_orT, ↓z_ifE, ↓z_isn, ↓z_notn, ↓z_neg, ↓z_chain, ↓z_yes, ↓z_nopart, ↓z_part, ↓z_sl, ↓z_tup, ↓z_lst, ↓z_mkL, ↓z_mkLn, ↓z_dic0, ↓z_mkD, ↓z_mkDn, ↓z_revL, ↓z_fldE, ↓z_insV, ↓z_get2, ↓z_itS, ↓z_itR1, ↓z_itR2, ↓z_itT, ↓z_itE, ↓z_itZ, ↓z_get, ↓z_int, ↓z_int1, ↓z_int2, ↓z_one1, ↓z_two2, ↓z_str, ↓z_asLl, ↓z_asLr, ↓z_itLl, ↓z_itLt, ↓z_gN, ↓z_gNl, ↓z_gCs, ↓z_gTt, ↓z_gTl, ↓z_an, ↓z_ct, ↓z_cf, ↓z_ty1, ↓z_ty2, ↓z_ty3, ↓z_ty4, ↓z_anT, ↓z_addI, ↓z_addS, ↓z_addT, ↓z_addLL, ↓z_subI, ↓z_mod, ↓z_lt, ↓z_le, ↓z_gt, ↓z_ge, ↓z_eqI, ↓z_neI, ↓z_eqS, ↓z_neS, ↓z_eqB, ↓z_neB, ↓z_inL, ↓z_ninL, ↓z_lenL, ↓z_lenT, ↓z_lenD, ↓z_lenS, ↓z_slS, ↓z_slT, ↓z_slL, ↓z_listL, ↓z_listT, ↓z_listD, ↓z_tupL, ↓z_tupT, ↓z_max, ↓z_min, ↓z_dictD, ↓z_int1B, ↓z_int1I, ↓z_meth0, ↓z_methd, List.set_cons_zero, List.set_cons_succ, q_e0, q_e1, q_e2, -eq_self, -iff_self]); (try (first | with_reducible refine o_wp ?_ | with_reducible refine o_ws ?_ | with_reducible refine o_get ?_ | with_reducible refine o_an ?_ | with_reducible refine o_if ?_ | with_reducible refine o_wb ?_ | with_reducible refine o_wt ?_ | with_reducible refine o_v ?_ | with_reducible refine o_sub ?_ | with_reducible refine o_put ?_ | with_reducible refine o_fld ?_ | with_reducible refine o_ins ?_))))
local macro_rules | `(tactic| walk_at "w") => `(tactic| (walk_at "zs"; (repeat ((first | with_reducible refine wp_ixT (by with_unfolding_all rfl) ?_ | with_reducible refine wp_ixL (by with_unfolding_all rfl) ?_ | with_reducible refine wv (by with_unfolding_all rfl) ?_ | with_reducible refine get (by with_unfolding_all rfl) ?_ | with_reducible refine an (by walk_at "dq") ?_ | with_reducible refine wt (by with_unfolding_all rfl) ?_ | with_reducible refine ite_t ?_ | with_reducible refine ite_f ?_ | with_reducible refine ite_rt (by with_unfolding_all rfl) ?_ | with_reducible refine ite_rf (by with_unfolding_all rfl) ?_ | with_reducible refine wp_isiT (by with_unfolding_all rfl) ?_ | with_reducible refine wp_isiF (by with_unfolding_all rfl) ?_); walk_at "zs"))))
local macro_rules | `(tactic| walk_at "dq") => `(tactic| first | with_unfolding_all rfl | walk_at "r62" | walk_at "sz")
local macro_rules | `(tactic| walk_at "zs") => `(tactic| ((try (first | with_reducible refine i_wp ?_ | with_reducible refine i_ws ?_ | with_reducible refine i_get ?_ | with_reducible refine i_an ?_ | with_reducible refine i_if ?_ | with_reducible refine i_wb ?_ | with_reducible refine i_wt ?_ | with_reducible refine i_sub ?_ | with_reducible refine i_put ?_ | with_reducible refine i_fld ?_ | with_reducible refine i_ins ?_)); (try simp (disch := walk_at "dq") only [↓z_seq, ↓z_next, ↓z_break, ↓z_cont, ↓z_retN, ↓z_ret, ↓z_drop, ↓z_set, ↓z_asg, ↓z_if, ↓z_par, ↓z_par3, ↓z_sub, ↓z_dput, ↓z_fld, ↓z_for, ↓z_v, ↓z_vS, ↓z_v0, ↓z_e0, ↓z_e1, ↓z_e2, ↓z_c, ↓z_bin, ↓z_nil, ↓z_cons, ↓z_b, ↓z_bm, ↓z_call, ↓z_calld, ↓z_wb, ↓z_asB, ↓z_asT, ↓z_wtB, ↓z_wtN, ↓z_wtI, ↓z_wtT0, ↓z_wtT1, ↓z_wtL0, ↓z_wtL1, ↓z_notB, ↓z_andB, ↓z_orB, ↓z_notT, ↓z_andT, ↓z_orT, ↓z_ifE, ↓z_isn, ↓z_notn, ↓z_neg, ↓z_chain, ↓z_yes, ↓z_nopart, ↓z_part, ↓z_sl, ↓z_tup, ↓z_lst, ↓z_mkL, ↓z_mkLn, ↓z_dic0, ↓z_mkD, ↓z_mkDn, ↓z_revL, ↓z_fldE, ↓z_insV, ↓z_get2, ↓z_itS, ↓z_itR1, ↓z_itR2, ↓z_itT, ↓z_itE, ↓z_itZ, ↓z_get, ↓z_int, ↓z_int1, ↓z_int2, ↓z_one1, ↓z_two2, ↓z_str, ↓z_asLl, ↓z_asLr, ↓z_itLl, ↓z_itLt, ↓z_gN, ↓z_gNl, ↓z_gCs, ↓z_gTt, ↓z_gTl, ↓z_an, ↓z_ct, ↓z_cf, ↓z_ty1, ↓z_ty2, ↓z_ty3, ↓z_ty4, ↓z_anT, ↓z_addI, ↓z_addS, ↓z_addT, ↓z_addLL, ↓z_subI, ↓z_mod, ↓z_lt, ↓z_le, ↓z_gt, ↓z_ge, ↓z_eqI, ↓z_neI, ↓z_eqS, ↓z_neS, ↓z_eqB, ↓z_neB, ↓z_inL, ↓z_ninL, ↓z_lenL, ↓z_lenT, ↓z_lenD, ↓z_lenS, ↓z_slS, ↓z_slT, ↓z_slL, ↓z_listL, ↓z_listT, ↓z_listD, ↓z_tupL, ↓z_tupT, ↓z_max, ↓z_min, ↓z_dictD, ↓z_int1B, ↓z_int1I, ↓z_meth0, ↓z_methd, List.set_cons_zero, List.set_cons_succ, q_e0, q_e1, q_e2, ↓z_seen, ↓z_hidden, ↓z_deeds, ↓z_asks, -eq_self, -iff_self]); (try (first | with_reducible refine o_wp ?_ | with_reducible refine o_ws ?_ | with_reducible refine o_get ?_ | with_reducible refine o_an ?_ | with_reducible refine o_if ?_ | with_reducible refine o_wb ?_ | with_reducible refine o_wt ?_ | with_reducible refine o_v ?_ | with_reducible refine o_sub ?_ | with_reducible refine o_put ?_ | with_reducible refine o_fld ?_ | with_reducible refine o_ins ?_))))
local macro_rules | `(tactic| walk_at "w") => `(tactic| (walk_at "zs"; (repeat ((first | with_reducible refine wp_inPQ ?_ | with_reducible refine wp_inMD ?_ | with_reducible refine wp_ninMD ?_ | with_reducible refine wp_inGo ?_ | with_reducible refine wp_ninGo ?_ | with_reducible refine wp_inDM ?_ | with_reducible refine wp_ninDM ?_ | with_reducible refine ite_dt (by assumption) ?_ | with_reducible refine ite_df (by assumption) ?_ | with_reducible refine ite_nt (by assumption) ?_ | with_reducible refine ite_nf (by assumption) ?_ | with_reducible refine ite_rt (by assumption) ?_ | with_reducible refine ite_rf (by assumption) ?_ | with_reducible refine wp_eqTn ?_ | with_reducible refine wp_ixT (by with_unfolding_all rfl) ?_ | with_reducible refine wp_ixL (by with_unfolding_all rfl) ?_ | with_reducible refine wv (by with_unfolding_all rfl) ?_ | with_reducible refine get (by with_unfolding_all rfl) ?_ | with_reducible refine an (by walk_at "dq") ?_ | with_reducible refine wt (by with_unfolding_all rfl) ?_ | with_reducible refine ite_t ?_ | with_reducible refine ite_f ?_ | with_reducible refine ite_rt (by with_unfolding_all rfl) ?_ | with_reducible refine ite_rf (by with_unfolding_all rfl) ?_ | with_reducible refine wp_isiT (by with_unfolding_all rfl) ?_ | with_reducible refine wp_isiF (by with_unfolding_all rfl) ?_); walk_at "zs"))))
end SM
end Mi
namespace Mi
namespace SM
open PySem L2 TL
open Sh hiding b_law_gear_c1 b_law_gear_c2 b_law_gear m_law_gear b_law_moves_l1 b_law_moves m_law_moves b_next_form_l1 b_next_form m_next_form b_is_form_l1 b_is_form m_is_form b_is_puts_l1 b_is_puts m_is_puts b_is_asked_c1 b_is_asked m_is_asked b_is_meaning_l1 b_is_meaning m_is_meaning b_Op_init m_Op_init
local macro_rules | `(tactic| walk_at "r62") => `(tactic| first | exact r62 (by omega) (by omega) | exact ⟨r62 (by omega) (by omega), r62 (by omega) (by omega)⟩)
local macro_rules | `(tactic| walk_at "sz") => `(tactic| first | omega | (simp only [List.length_cons, List.length_nil, List.length_append, List.length_map, List.length_replicate, List.length_take, List.length_drop, sizeLine] <;> omega) | (unfold sizeLine; omega) | decide)
local macro_rules | `(tactic| walk_at "dq") => `(tactic| first | with_unfolding_all rfl | walk_at "r62" | walk_at "sz")
local macro_rules | `(tactic| walk_at "zs") => `(tactic| ((try (first | with_reducible refine i_wp ?_ | with_reducible refine i_ws ?_ | with_reducible refine i_get ?_ | with_reducible refine i_an ?_ | with_reducible refine i_if ?_ | with_reducible refine i_wb ?_ | with_reducible refine i_wt ?_ | with_reducible refine i_sub ?_ | with_reducible refine i_put ?_ | with_reducible refine i_fld ?_ | with_reducible refine i_ins ?_)); (try simp (disch := walk_at "dq") only [↓z_seq, ↓z_next, ↓z_break, ↓z_cont, ↓z_retN, ↓z_ret, ↓z_drop, ↓z_set, ↓z_asg, ↓z_if, ↓z_par, ↓z_par3, ↓z_sub, ↓z_dput, ↓z_fld, ↓z_for, ↓z_v, ↓z_vS, ↓z_v0, ↓z_e0, ↓z_e1, ↓z_e2, ↓z_c, ↓z_bin, ↓z_nil, ↓z_cons, ↓z_b, ↓z_bm, ↓z_call, ↓z_calld, ↓z_wb, ↓z_asB, ↓z_asT, ↓z_wtB, ↓z_wtN, ↓z_wtI, ↓z_wtT0, ↓z_wtT1, ↓z_wtL0, ↓z_wtL1, ↓z_notB, ↓z_andB, ↓z_orB, ↓z_notT, ↓z_andT, ↓z_orT, ↓z_ifE, ↓z_isn, ↓z_notn, ↓z_neg, ↓z_chain, ↓z_yes, ↓z_nopart, ↓z_part, ↓z_sl, ↓z_tup, ↓z_lst, ↓z_mkL, ↓z_mkLn, ↓z_dic0, ↓z_mkD, ↓z_mkDn, ↓z_revL, ↓z_fldE, ↓z_insV, ↓z_get2, ↓z_itS, ↓z_itR1, ↓z_itR2, ↓z_itT, ↓z_itE, ↓z_itZ, ↓z_get, ↓z_int, ↓z_int1, ↓z_int2, ↓z_one1, ↓z_two2, ↓z_str, ↓z_asLl, ↓z_asLr, ↓z_itLl, ↓z_itLt, ↓z_gN, ↓z_gNl, ↓z_gCs, ↓z_gTt, ↓z_gTl, ↓z_an, ↓z_ct, ↓z_cf, ↓z_ty1, ↓z_ty2, ↓z_ty3, ↓z_ty4, ↓z_anT, ↓z_addI, ↓z_addS, ↓z_addT, ↓z_addLL, ↓z_subI, ↓z_mod, ↓z_lt, ↓z_le, ↓z_gt, ↓z_ge, ↓z_eqI, ↓z_neI, ↓z_eqS, ↓z_neS, ↓z_eqB, ↓z_neB, ↓z_inL, ↓z_ninL, ↓z_lenL, ↓z_lenT, ↓z_lenD, ↓z_lenS, ↓z_slS, ↓z_slT, ↓z_slL, ↓z_listL, ↓z_listT, ↓z_listD, ↓z_tupL, ↓z_tupT, ↓z_max, ↓z_min, ↓z_dictD, ↓z_int1B, ↓z_int1I, ↓z_meth0, ↓z_methd, List.set_cons_zero, List.set_cons_succ, q_e0, q_e1, q_e2, -eq_self, -iff_self]); (try (first | with_reducible refine o_wp ?_ | with_reducible refine o_ws ?_ | with_reducible refine o_get ?_ | with_reducible refine o_an ?_ | with_reducible refine o_if ?_ | with_reducible refine o_wb ?_ | with_reducible refine o_wt ?_ | with_reducible refine o_v ?_ | with_reducible refine o_sub ?_ | with_reducible refine o_put ?_ | with_reducible refine o_fld ?_ | with_reducible refine o_ins ?_))))
local macro_rules | `(tactic| walk_at "w") => `(tactic| (walk_at "zs"; (repeat ((first | with_reducible refine wp_ixT (by with_unfolding_all rfl) ?_ | with_reducible refine wp_ixL (by with_unfolding_all rfl) ?_ | with_reducible refine wv (by with_unfolding_all rfl) ?_ | with_reducible refine get (by with_unfolding_all rfl) ?_ | with_reducible refine an (by walk_at "dq") ?_ | with_reducible refine wt (by with_unfolding_all rfl) ?_ | with_reducible refine ite_t ?_ | with_reducible refine ite_f ?_ | with_reducible refine ite_rt (by with_unfolding_all rfl) ?_ | with_reducible refine ite_rf (by with_unfolding_all rfl) ?_ | with_reducible refine wp_isiT (by with_unfolding_all rfl) ?_ | with_reducible refine wp_isiF (by with_unfolding_all rfl) ?_); walk_at "zs"))))
local macro_rules | `(tactic| walk_at "dq") => `(tactic| first | with_unfolding_all rfl | walk_at "r62" | walk_at "sz")
local macro_rules | `(tactic| walk_at "zs") => `(tactic| ((try (first | with_reducible refine i_wp ?_ | with_reducible refine i_ws ?_ | with_reducible refine i_get ?_ | with_reducible refine i_an ?_ | with_reducible refine i_if ?_ | with_reducible refine i_wb ?_ | with_reducible refine i_wt ?_ | with_reducible refine i_sub ?_ | with_reducible refine i_put ?_ | with_reducible refine i_fld ?_ | with_reducible refine i_ins ?_)); (try simp (disch := walk_at "dq") only [↓z_seq, ↓z_next, ↓z_break, ↓z_cont, ↓z_retN, ↓z_ret, ↓z_drop, ↓z_set, ↓z_asg, ↓z_if, ↓z_par, ↓z_par3, ↓z_sub, ↓z_dput, ↓z_fld, ↓z_for, ↓z_v, ↓z_vS, ↓z_v0, ↓z_e0, ↓z_e1, ↓z_e2, ↓z_c, ↓z_bin, ↓z_nil, ↓z_cons, ↓z_b, ↓z_bm, ↓z_call, ↓z_calld, ↓z_wb, ↓z_asB, ↓z_asT, ↓z_wtB, ↓z_wtN, ↓z_wtI, ↓z_wtT0, ↓z_wtT1, ↓z_wtL0, ↓z_wtL1, ↓z_notB, ↓z_andB, ↓z_orB, ↓z_notT, ↓z_andT, ↓z_orT, ↓z_ifE, ↓z_isn, ↓z_notn, ↓z_neg, ↓z_chain, ↓z_yes, ↓z_nopart, ↓z_part, ↓z_sl, ↓z_tup, ↓z_lst, ↓z_mkL, ↓z_mkLn, ↓z_dic0, ↓z_mkD, ↓z_mkDn, ↓z_revL, ↓z_fldE, ↓z_insV, ↓z_get2, ↓z_itS, ↓z_itR1, ↓z_itR2, ↓z_itT, ↓z_itE, ↓z_itZ, ↓z_get, ↓z_int, ↓z_int1, ↓z_int2, ↓z_one1, ↓z_two2, ↓z_str, ↓z_asLl, ↓z_asLr, ↓z_itLl, ↓z_itLt, ↓z_gN, ↓z_gNl, ↓z_gCs, ↓z_gTt, ↓z_gTl, ↓z_an, ↓z_ct, ↓z_cf, ↓z_ty1, ↓z_ty2, ↓z_ty3, ↓z_ty4, ↓z_anT, ↓z_addI, ↓z_addS, ↓z_addT, ↓z_addLL, ↓z_subI, ↓z_mod, ↓z_lt, ↓z_le, ↓z_gt, ↓z_ge, ↓z_eqI, ↓z_neI, ↓z_eqS, ↓z_neS, ↓z_eqB, ↓z_neB, ↓z_inL, ↓z_ninL, ↓z_lenL, ↓z_lenT, ↓z_lenD, ↓z_lenS, ↓z_slS, ↓z_slT, ↓z_slL, ↓z_listL, ↓z_listT, ↓z_listD, ↓z_tupL, ↓z_tupT, ↓z_max, ↓z_min, ↓z_dictD, ↓z_int1B, ↓z_int1I, ↓z_meth0, ↓z_methd, List.set_cons_zero, List.set_cons_succ, q_e0, q_e1, q_e2, ↓z_seen, ↓z_hidden, ↓z_deeds, ↓z_asks, -eq_self, -iff_self]); (try (first | with_reducible refine o_wp ?_ | with_reducible refine o_ws ?_ | with_reducible refine o_get ?_ | with_reducible refine o_an ?_ | with_reducible refine o_if ?_ | with_reducible refine o_wb ?_ | with_reducible refine o_wt ?_ | with_reducible refine o_v ?_ | with_reducible refine o_sub ?_ | with_reducible refine o_put ?_ | with_reducible refine o_fld ?_ | with_reducible refine o_ins ?_))))
local macro_rules | `(tactic| walk_at "w") => `(tactic| (walk_at "zs"; (repeat ((first | with_reducible refine wp_inPQ ?_ | with_reducible refine wp_inMD ?_ | with_reducible refine wp_ninMD ?_ | with_reducible refine wp_inGo ?_ | with_reducible refine wp_ninGo ?_ | with_reducible refine wp_inDM ?_ | with_reducible refine wp_ninDM ?_ | with_reducible refine ite_dt (by assumption) ?_ | with_reducible refine ite_df (by assumption) ?_ | with_reducible refine ite_nt (by assumption) ?_ | with_reducible refine ite_nf (by assumption) ?_ | with_reducible refine ite_rt (by assumption) ?_ | with_reducible refine ite_rf (by assumption) ?_ | with_reducible refine wp_eqTn ?_ | with_reducible refine wp_ixT (by with_unfolding_all rfl) ?_ | with_reducible refine wp_ixL (by with_unfolding_all rfl) ?_ | with_reducible refine wv (by with_unfolding_all rfl) ?_ | with_reducible refine get (by with_unfolding_all rfl) ?_ | with_reducible refine an (by walk_at "dq") ?_ | with_reducible refine wt (by with_unfolding_all rfl) ?_ | with_reducible refine ite_t ?_ | with_reducible refine ite_f ?_ | with_reducible refine ite_rt (by with_unfolding_all rfl) ?_ | with_reducible refine ite_rf (by with_unfolding_all rfl) ?_ | with_reducible refine wp_isiT (by with_unfolding_all rfl) ?_ | with_reducible refine wp_isiF (by with_unfolding_all rfl) ?_); walk_at "zs"))))
end SM
end Mi
namespace Mi
namespace SM
open PySem L2 TL
open Sh hiding b_law_gear_c1 b_law_gear_c2 b_law_gear m_law_gear b_law_moves_l1 b_law_moves m_law_moves b_next_form_l1 b_next_form m_next_form b_is_form_l1 b_is_form m_is_form b_is_puts_l1 b_is_puts m_is_puts b_is_asked_c1 b_is_asked m_is_asked b_is_meaning_l1 b_is_meaning m_is_meaning b_Op_init m_Op_init
local macro_rules | `(tactic| walk_at "r62") => `(tactic| first | exact r62 (by omega) (by omega) | exact ⟨r62 (by omega) (by omega), r62 (by omega) (by omega)⟩)
local macro_rules | `(tactic| walk_at "sz") => `(tactic| first | omega | (simp only [List.length_cons, List.length_nil, List.length_append, List.length_map, List.length_replicate, List.length_take, List.length_drop, sizeLine] <;> omega) | (unfold sizeLine; omega) | decide)
local macro_rules | `(tactic| walk_at "dq") => `(tactic| first | with_unfolding_all rfl | walk_at "r62" | walk_at "sz")
local macro_rules | `(tactic| walk_at "zs") => `(tactic| ((try (first | with_reducible refine i_wp ?_ | with_reducible refine i_ws ?_ | with_reducible refine i_get ?_ | with_reducible refine i_an ?_ | with_reducible refine i_if ?_ | with_reducible refine i_wb ?_ | with_reducible refine i_wt ?_ | with_reducible refine i_sub ?_ | with_reducible refine i_put ?_ | with_reducible refine i_fld ?_ | with_reducible refine i_ins ?_)); (try simp (disch := walk_at "dq") only [↓z_seq, ↓z_next, ↓z_break, ↓z_cont, ↓z_retN, ↓z_ret, ↓z_drop, ↓z_set, ↓z_asg, ↓z_if, ↓z_par, ↓z_par3, ↓z_sub, ↓z_dput, ↓z_fld, ↓z_for, ↓z_v, ↓z_vS, ↓z_v0, ↓z_e0, ↓z_e1, ↓z_e2, ↓z_c, ↓z_bin, ↓z_nil, ↓z_cons, ↓z_b, ↓z_bm, ↓z_call, ↓z_calld, ↓z_wb, ↓z_asB, ↓z_asT, ↓z_wtB, ↓z_wtN, ↓z_wtI, ↓z_wtT0, ↓z_wtT1, ↓z_wtL0, ↓z_wtL1, ↓z_notB, ↓z_andB, ↓z_orB, ↓z_notT, ↓z_andT, ↓z_orT, ↓z_ifE, ↓z_isn, ↓z_notn, ↓z_neg, ↓z_chain, ↓z_yes, ↓z_nopart, ↓z_part, ↓z_sl, ↓z_tup, ↓z_lst, ↓z_mkL, ↓z_mkLn, ↓z_dic0, ↓z_mkD, ↓z_mkDn, ↓z_revL, ↓z_fldE, ↓z_insV, ↓z_get2, ↓z_itS, ↓z_itR1, ↓z_itR2, ↓z_itT, ↓z_itE, ↓z_itZ, ↓z_get, ↓z_int, ↓z_int1, ↓z_int2, ↓z_one1, ↓z_two2, ↓z_str, ↓z_asLl, ↓z_asLr, ↓z_itLl, ↓z_itLt, ↓z_gN, ↓z_gNl, ↓z_gCs, ↓z_gTt, ↓z_gTl, ↓z_an, ↓z_ct, ↓z_cf, ↓z_ty1, ↓z_ty2, ↓z_ty3, ↓z_ty4, ↓z_anT, ↓z_addI, ↓z_addS, ↓z_addT, ↓z_addLL, ↓z_subI, ↓z_mod, ↓z_lt, ↓z_le, ↓z_gt, ↓z_ge, ↓z_eqI, ↓z_neI, ↓z_eqS, ↓z_neS, ↓z_eqB, ↓z_neB, ↓z_inL, ↓z_ninL, ↓z_lenL, ↓z_lenT, ↓z_lenD, ↓z_lenS, ↓z_slS, ↓z_slT, ↓z_slL, ↓z_listL, ↓z_listT, ↓z_listD, ↓z_tupL, ↓z_tupT, ↓z_max, ↓z_min, ↓z_dictD, ↓z_int1B, ↓z_int1I, ↓z_meth0, ↓z_methd, List.set_cons_zero, List.set_cons_succ, q_e0, q_e1, q_e2, -eq_self, -iff_self]); (try (first | with_reducible refine o_wp ?_ | with_reducible refine o_ws ?_ | with_reducible refine o_get ?_ | with_reducible refine o_an ?_ | with_reducible refine o_if ?_ | with_reducible refine o_wb ?_ | with_reducible refine o_wt ?_ | with_reducible refine o_v ?_ | with_reducible refine o_sub ?_ | with_reducible refine o_put ?_ | with_reducible refine o_fld ?_ | with_reducible refine o_ins ?_))))
local macro_rules | `(tactic| walk_at "w") => `(tactic| (walk_at "zs"; (repeat ((first | with_reducible refine wp_ixT (by with_unfolding_all rfl) ?_ | with_reducible refine wp_ixL (by with_unfolding_all rfl) ?_ | with_reducible refine wv (by with_unfolding_all rfl) ?_ | with_reducible refine get (by with_unfolding_all rfl) ?_ | with_reducible refine an (by walk_at "dq") ?_ | with_reducible refine wt (by with_unfolding_all rfl) ?_ | with_reducible refine ite_t ?_ | with_reducible refine ite_f ?_ | with_reducible refine ite_rt (by with_unfolding_all rfl) ?_ | with_reducible refine ite_rf (by with_unfolding_all rfl) ?_ | with_reducible refine wp_isiT (by with_unfolding_all rfl) ?_ | with_reducible refine wp_isiF (by with_unfolding_all rfl) ?_); walk_at "zs"))))
local macro_rules | `(tactic| walk_at "dq") => `(tactic| first | with_unfolding_all rfl | walk_at "r62" | walk_at "sz")
local macro_rules | `(tactic| walk_at "zs") => `(tactic| ((try (first | with_reducible refine i_wp ?_ | with_reducible refine i_ws ?_ | with_reducible refine i_get ?_ | with_reducible refine i_an ?_ | with_reducible refine i_if ?_ | with_reducible refine i_wb ?_ | with_reducible refine i_wt ?_ | with_reducible refine i_sub ?_ | with_reducible refine i_put ?_ | with_reducible refine i_fld ?_ | with_reducible refine i_ins ?_)); (try simp (disch := walk_at "dq") only [↓z_seq, ↓z_next, ↓z_break, ↓z_cont, ↓z_retN, ↓z_ret, ↓z_drop, ↓z_set, ↓z_asg, ↓z_if, ↓z_par, ↓z_par3, ↓z_sub, ↓z_dput, ↓z_fld, ↓z_for, ↓z_v, ↓z_vS, ↓z_v0, ↓z_e0, ↓z_e1, ↓z_e2, ↓z_c, ↓z_bin, ↓z_nil, ↓z_cons, ↓z_b, ↓z_bm, ↓z_call, ↓z_calld, ↓z_wb, ↓z_asB, ↓z_asT, ↓z_wtB, ↓z_wtN, ↓z_wtI, ↓z_wtT0, ↓z_wtT1, ↓z_wtL0, ↓z_wtL1, ↓z_notB, ↓z_andB, ↓z_orB, ↓z_notT, ↓z_andT, ↓z_orT, ↓z_ifE, ↓z_isn, ↓z_notn, ↓z_neg, ↓z_chain, ↓z_yes, ↓z_nopart, ↓z_part, ↓z_sl, ↓z_tup, ↓z_lst, ↓z_mkL, ↓z_mkLn, ↓z_dic0, ↓z_mkD, ↓z_mkDn, ↓z_revL, ↓z_fldE, ↓z_insV, ↓z_get2, ↓z_itS, ↓z_itR1, ↓z_itR2, ↓z_itT, ↓z_itE, ↓z_itZ, ↓z_get, ↓z_int, ↓z_int1, ↓z_int2, ↓z_one1, ↓z_two2, ↓z_str, ↓z_asLl, ↓z_asLr, ↓z_itLl, ↓z_itLt, ↓z_gN, ↓z_gNl, ↓z_gCs, ↓z_gTt, ↓z_gTl, ↓z_an, ↓z_ct, ↓z_cf, ↓z_ty1, ↓z_ty2, ↓z_ty3, ↓z_ty4, ↓z_anT, ↓z_addI, ↓z_addS, ↓z_addT, ↓z_addLL, ↓z_subI, ↓z_mod, ↓z_lt, ↓z_le, ↓z_gt, ↓z_ge, ↓z_eqI, ↓z_neI, ↓z_eqS, ↓z_neS, ↓z_eqB, ↓z_neB, ↓z_inL, ↓z_ninL, ↓z_lenL, ↓z_lenT, ↓z_lenD, ↓z_lenS, ↓z_slS, ↓z_slT, ↓z_slL, ↓z_listL, ↓z_listT, ↓z_listD, ↓z_tupL, ↓z_tupT, ↓z_max, ↓z_min, ↓z_dictD, ↓z_int1B, ↓z_int1I, ↓z_meth0, ↓z_methd, List.set_cons_zero, List.set_cons_succ, q_e0, q_e1, q_e2, ↓z_seen, ↓z_hidden, ↓z_deeds, ↓z_asks, -eq_self, -iff_self]); (try (first | with_reducible refine o_wp ?_ | with_reducible refine o_ws ?_ | with_reducible refine o_get ?_ | with_reducible refine o_an ?_ | with_reducible refine o_if ?_ | with_reducible refine o_wb ?_ | with_reducible refine o_wt ?_ | with_reducible refine o_v ?_ | with_reducible refine o_sub ?_ | with_reducible refine o_put ?_ | with_reducible refine o_fld ?_ | with_reducible refine o_ins ?_))))
local macro_rules | `(tactic| walk_at "w") => `(tactic| (walk_at "zs"; (repeat ((first | with_reducible refine wp_inPQ ?_ | with_reducible refine wp_inMD ?_ | with_reducible refine wp_ninMD ?_ | with_reducible refine wp_inGo ?_ | with_reducible refine wp_ninGo ?_ | with_reducible refine wp_inDM ?_ | with_reducible refine wp_ninDM ?_ | with_reducible refine ite_dt (by assumption) ?_ | with_reducible refine ite_df (by assumption) ?_ | with_reducible refine ite_nt (by assumption) ?_ | with_reducible refine ite_nf (by assumption) ?_ | with_reducible refine ite_rt (by assumption) ?_ | with_reducible refine ite_rf (by assumption) ?_ | with_reducible refine wp_eqTn ?_ | with_reducible refine wp_ixT (by with_unfolding_all rfl) ?_ | with_reducible refine wp_ixL (by with_unfolding_all rfl) ?_ | with_reducible refine wv (by with_unfolding_all rfl) ?_ | with_reducible refine get (by with_unfolding_all rfl) ?_ | with_reducible refine an (by walk_at "dq") ?_ | with_reducible refine wt (by with_unfolding_all rfl) ?_ | with_reducible refine ite_t ?_ | with_reducible refine ite_f ?_ | with_reducible refine ite_rt (by with_unfolding_all rfl) ?_ | with_reducible refine ite_rf (by with_unfolding_all rfl) ?_ | with_reducible refine wp_isiT (by with_unfolding_all rfl) ?_ | with_reducible refine wp_isiF (by with_unfolding_all rfl) ?_); walk_at "zs"))))
end SM
end Mi
namespace Mi
namespace SM
open PySem L2 TL
open Sh hiding b_law_gear_c1 b_law_gear_c2 b_law_gear m_law_gear b_law_moves_l1 b_law_moves m_law_moves b_next_form_l1 b_next_form m_next_form b_is_form_l1 b_is_form m_is_form b_is_puts_l1 b_is_puts m_is_puts b_is_asked_c1 b_is_asked m_is_asked b_is_meaning_l1 b_is_meaning m_is_meaning b_Op_init m_Op_init
local macro_rules | `(tactic| walk_at "r62") => `(tactic| first | exact r62 (by omega) (by omega) | exact ⟨r62 (by omega) (by omega), r62 (by omega) (by omega)⟩)
local macro_rules | `(tactic| walk_at "sz") => `(tactic| first | omega | (simp only [List.length_cons, List.length_nil, List.length_append, List.length_map, List.length_replicate, List.length_take, List.length_drop, sizeLine] <;> omega) | (unfold sizeLine; omega) | decide)
local macro_rules | `(tactic| walk_at "dq") => `(tactic| first | with_unfolding_all rfl | walk_at "r62" | walk_at "sz")
local macro_rules | `(tactic| walk_at "zs") => `(tactic| ((try (first | with_reducible refine i_wp ?_ | with_reducible refine i_ws ?_ | with_reducible refine i_get ?_ | with_reducible refine i_an ?_ | with_reducible refine i_if ?_ | with_reducible refine i_wb ?_ | with_reducible refine i_wt ?_ | with_reducible refine i_sub ?_ | with_reducible refine i_put ?_ | with_reducible refine i_fld ?_ | with_reducible refine i_ins ?_)); (try simp (disch := walk_at "dq") only [↓z_seq, ↓z_next, ↓z_break, ↓z_cont, ↓z_retN, ↓z_ret, ↓z_drop, ↓z_set, ↓z_asg, ↓z_if, ↓z_par, ↓z_par3, ↓z_sub, ↓z_dput, ↓z_fld, ↓z_for, ↓z_v, ↓z_vS, ↓z_v0, ↓z_e0, ↓z_e1, ↓z_e2, ↓z_c, ↓z_bin, ↓z_nil, ↓z_cons, ↓z_b, ↓z_bm, ↓z_call, ↓z_calld, ↓z_wb, ↓z_asB, ↓z_asT, ↓z_wtB, ↓z_wtN, ↓z_wtI, ↓z_wtT0, ↓z_wtT1, ↓z_wtL0, ↓z_wtL1, ↓z_notB, ↓z_andB, ↓z_orB, ↓z_notT, ↓z_andT, ↓z_orT, ↓z_ifE, ↓z_isn, ↓z_notn, ↓z_neg, ↓z_chain, ↓z_yes, ↓z_nopart, ↓z_part, ↓z_sl, ↓z_tup, ↓z_lst, ↓z_mkL, ↓z_mkLn, ↓z_dic0, ↓z_mkD, ↓z_mkDn, ↓z_revL, ↓z_fldE, ↓z_insV, ↓z_get2, ↓z_itS, ↓z_itR1, ↓z_itR2, ↓z_itT, ↓z_itE, ↓z_itZ, ↓z_get, ↓z_int, ↓z_int1, ↓z_int2, ↓z_one1, ↓z_two2, ↓z_str, ↓z_asLl, ↓z_asLr, ↓z_itLl, ↓z_itLt, ↓z_gN, ↓z_gNl, ↓z_gCs, ↓z_gTt, ↓z_gTl, ↓z_an, ↓z_ct, ↓z_cf, ↓z_ty1, ↓z_ty2, ↓z_ty3, ↓z_ty4, ↓z_anT, ↓z_addI, ↓z_addS, ↓z_addT, ↓z_addLL, ↓z_subI, ↓z_mod, ↓z_lt, ↓z_le, ↓z_gt, ↓z_ge, ↓z_eqI, ↓z_neI, ↓z_eqS, ↓z_neS, ↓z_eqB, ↓z_neB, ↓z_inL, ↓z_ninL, ↓z_lenL, ↓z_lenT, ↓z_lenD, ↓z_lenS, ↓z_slS, ↓z_slT, ↓z_slL, ↓z_listL, ↓z_listT, ↓z_listD, ↓z_tupL, ↓z_tupT, ↓z_max, ↓z_min, ↓z_dictD, ↓z_int1B, ↓z_int1I, ↓z_meth0, ↓z_methd, List.set_cons_zero, List.set_cons_succ, q_e0, q_e1, q_e2, -eq_self, -iff_self]); (try (first | with_reducible refine o_wp ?_ | with_reducible refine o_ws ?_ | with_reducible refine o_get ?_ | with_reducible refine o_an ?_ | with_reducible refine o_if ?_ | with_reducible refine o_wb ?_ | with_reducible refine o_wt ?_ | with_reducible refine o_v ?_ | with_reducible refine o_sub ?_ | with_reducible refine o_put ?_ | with_reducible refine o_fld ?_ | with_reducible refine o_ins ?_))))
local macro_rules | `(tactic| walk_at "w") => `(tactic| (walk_at "zs"; (repeat ((first | with_reducible refine wp_ixT (by with_unfolding_all rfl) ?_ | with_reducible refine wp_ixL (by with_unfolding_all rfl) ?_ | with_reducible refine wv (by with_unfolding_all rfl) ?_ | with_reducible refine get (by with_unfolding_all rfl) ?_ | with_reducible refine an (by walk_at "dq") ?_ | with_reducible refine wt (by with_unfolding_all rfl) ?_ | with_reducible refine ite_t ?_ | with_reducible refine ite_f ?_ | with_reducible refine ite_rt (by with_unfolding_all rfl) ?_ | with_reducible refine ite_rf (by with_unfolding_all rfl) ?_ | with_reducible refine wp_isiT (by with_unfolding_all rfl) ?_ | with_reducible refine wp_isiF (by with_unfolding_all rfl) ?_); walk_at "zs"))))
local macro_rules | `(tactic| walk_at "dq") => `(tactic| first | with_unfolding_all rfl | walk_at "r62" | walk_at "sz")
local macro_rules | `(tactic| walk_at "zs") => `(tactic| ((try (first | with_reducible refine i_wp ?_ | with_reducible refine i_ws ?_ | with_reducible refine i_get ?_ | with_reducible refine i_an ?_ | with_reducible refine i_if ?_ | with_reducible refine i_wb ?_ | with_reducible refine i_wt ?_ | with_reducible refine i_sub ?_ | with_reducible refine i_put ?_ | with_reducible refine i_fld ?_ | with_reducible refine i_ins ?_)); (try simp (disch := walk_at "dq") only [↓z_seq, ↓z_next, ↓z_break, ↓z_cont, ↓z_retN, ↓z_ret, ↓z_drop, ↓z_set, ↓z_asg, ↓z_if, ↓z_par, ↓z_par3, ↓z_sub, ↓z_dput, ↓z_fld, ↓z_for, ↓z_v, ↓z_vS, ↓z_v0, ↓z_e0, ↓z_e1, ↓z_e2, ↓z_c, ↓z_bin, ↓z_nil, ↓z_cons, ↓z_b, ↓z_bm, ↓z_call, ↓z_calld, ↓z_wb, ↓z_asB, ↓z_asT, ↓z_wtB, ↓z_wtN, ↓z_wtI, ↓z_wtT0, ↓z_wtT1, ↓z_wtL0, ↓z_wtL1, ↓z_notB, ↓z_andB, ↓z_orB, ↓z_notT, ↓z_andT, ↓z_orT, ↓z_ifE, ↓z_isn, ↓z_notn, ↓z_neg, ↓z_chain, ↓z_yes, ↓z_nopart, ↓z_part, ↓z_sl, ↓z_tup, ↓z_lst, ↓z_mkL, ↓z_mkLn, ↓z_dic0, ↓z_mkD, ↓z_mkDn, ↓z_revL, ↓z_fldE, ↓z_insV, ↓z_get2, ↓z_itS, ↓z_itR1, ↓z_itR2, ↓z_itT, ↓z_itE, ↓z_itZ, ↓z_get, ↓z_int, ↓z_int1, ↓z_int2, ↓z_one1, ↓z_two2, ↓z_str, ↓z_asLl, ↓z_asLr, ↓z_itLl, ↓z_itLt, ↓z_gN, ↓z_gNl, ↓z_gCs, ↓z_gTt, ↓z_gTl, ↓z_an, ↓z_ct, ↓z_cf, ↓z_ty1, ↓z_ty2, ↓z_ty3, ↓z_ty4, ↓z_anT, ↓z_addI, ↓z_addS, ↓z_addT, ↓z_addLL, ↓z_subI, ↓z_mod, ↓z_lt, ↓z_le, ↓z_gt, ↓z_ge, ↓z_eqI, ↓z_neI, ↓z_eqS, ↓z_neS, ↓z_eqB, ↓z_neB, ↓z_inL, ↓z_ninL, ↓z_lenL, ↓z_lenT, ↓z_lenD, ↓z_lenS, ↓z_slS, ↓z_slT, ↓z_slL, ↓z_listL, ↓z_listT, ↓z_listD, ↓z_tupL, ↓z_tupT, ↓z_max, ↓z_min, ↓z_dictD, ↓z_int1B, ↓z_int1I, ↓z_meth0, ↓z_methd, List.set_cons_zero, List.set_cons_succ, q_e0, q_e1, q_e2, ↓z_seen, ↓z_hidden, ↓z_deeds, ↓z_asks, -eq_self, -iff_self]); (try (first | with_reducible refine o_wp ?_ | with_reducible refine o_ws ?_ | with_reducible refine o_get ?_ | with_reducible refine o_an ?_ | with_reducible refine o_if ?_ | with_reducible refine o_wb ?_ | with_reducible refine o_wt ?_ | with_reducible refine o_v ?_ | with_reducible refine o_sub ?_ | with_reducible refine o_put ?_ | with_reducible refine o_fld ?_ | with_reducible refine o_ins ?_))))
local macro_rules | `(tactic| walk_at "w") => `(tactic| (walk_at "zs"; (repeat ((first | with_reducible refine wp_inPQ ?_ | with_reducible refine wp_inMD ?_ | with_reducible refine wp_ninMD ?_ | with_reducible refine wp_inGo ?_ | with_reducible refine wp_ninGo ?_ | with_reducible refine wp_inDM ?_ | with_reducible refine wp_ninDM ?_ | with_reducible refine ite_dt (by assumption) ?_ | with_reducible refine ite_df (by assumption) ?_ | with_reducible refine ite_nt (by assumption) ?_ | with_reducible refine ite_nf (by assumption) ?_ | with_reducible refine ite_rt (by assumption) ?_ | with_reducible refine ite_rf (by assumption) ?_ | with_reducible refine wp_eqTn ?_ | with_reducible refine wp_ixT (by with_unfolding_all rfl) ?_ | with_reducible refine wp_ixL (by with_unfolding_all rfl) ?_ | with_reducible refine wv (by with_unfolding_all rfl) ?_ | with_reducible refine get (by with_unfolding_all rfl) ?_ | with_reducible refine an (by walk_at "dq") ?_ | with_reducible refine wt (by with_unfolding_all rfl) ?_ | with_reducible refine ite_t ?_ | with_reducible refine ite_f ?_ | with_reducible refine ite_rt (by with_unfolding_all rfl) ?_ | with_reducible refine ite_rf (by with_unfolding_all rfl) ?_ | with_reducible refine wp_isiT (by with_unfolding_all rfl) ?_ | with_reducible refine wp_isiF (by with_unfolding_all rfl) ?_); walk_at "zs"))))
end SM
end Mi
namespace Mi
namespace SM
open PySem L2 TL
open Sh hiding b_law_gear_c1 b_law_gear_c2 b_law_gear m_law_gear b_law_moves_l1 b_law_moves m_law_moves b_next_form_l1 b_next_form m_next_form b_is_form_l1 b_is_form m_is_form b_is_puts_l1 b_is_puts m_is_puts b_is_asked_c1 b_is_asked m_is_asked b_is_meaning_l1 b_is_meaning m_is_meaning b_Op_init m_Op_init
local macro_rules | `(tactic| walk_at "r62") => `(tactic| first | exact r62 (by omega) (by omega) | exact ⟨r62 (by omega) (by omega), r62 (by omega) (by omega)⟩)
local macro_rules | `(tactic| walk_at "sz") => `(tactic| first | omega | (simp only [List.length_cons, List.length_nil, List.length_append, List.length_map, List.length_replicate, List.length_take, List.length_drop, sizeLine] <;> omega) | (unfold sizeLine; omega) | decide)
local macro_rules | `(tactic| walk_at "dq") => `(tactic| first | with_unfolding_all rfl | walk_at "r62" | walk_at "sz")
local macro_rules | `(tactic| walk_at "zs") => `(tactic| ((try (first | with_reducible refine i_wp ?_ | with_reducible refine i_ws ?_ | with_reducible refine i_get ?_ | with_reducible refine i_an ?_ | with_reducible refine i_if ?_ | with_reducible refine i_wb ?_ | with_reducible refine i_wt ?_ | with_reducible refine i_sub ?_ | with_reducible refine i_put ?_ | with_reducible refine i_fld ?_ | with_reducible refine i_ins ?_)); (try simp (disch := walk_at "dq") only [↓z_seq, ↓z_next, ↓z_break, ↓z_cont, ↓z_retN, ↓z_ret, ↓z_drop, ↓z_set, ↓z_asg, ↓z_if, ↓z_par, ↓z_par3, ↓z_sub, ↓z_dput, ↓z_fld, ↓z_for, ↓z_v, ↓z_vS, ↓z_v0, ↓z_e0, ↓z_e1, ↓z_e2, ↓z_c, ↓z_bin, ↓z_nil, ↓z_cons, ↓z_b, ↓z_bm, ↓z_call, ↓z_calld, ↓z_wb, ↓z_asB, ↓z_asT, ↓z_wtB, ↓z_wtN, ↓z_wtI, ↓z_wtT0, ↓z_wtT1, ↓z_wtL0, ↓z_wtL1, ↓z_notB, ↓z_andB, ↓z_orB, ↓z_notT, ↓z_andT, ↓z_orT, ↓z_ifE, ↓z_isn, ↓z_notn, ↓z_neg, ↓z_chain, ↓z_yes, ↓z_nopart, ↓z_part, ↓z_sl, ↓z_tup, ↓z_lst, ↓z_mkL, ↓z_mkLn, ↓z_dic0, ↓z_mkD, ↓z_mkDn, ↓z_revL, ↓z_fldE, ↓z_insV, ↓z_get2, ↓z_itS, ↓z_itR1, ↓z_itR2, ↓z_itT, ↓z_itE, ↓z_itZ, ↓z_get, ↓z_int, ↓z_int1, ↓z_int2, ↓z_one1, ↓z_two2, ↓z_str, ↓z_asLl, ↓z_asLr, ↓z_itLl, ↓z_itLt, ↓z_gN, ↓z_gNl, ↓z_gCs, ↓z_gTt, ↓z_gTl, ↓z_an, ↓z_ct, ↓z_cf, ↓z_ty1, ↓z_ty2, ↓z_ty3, ↓z_ty4, ↓z_anT, ↓z_addI, ↓z_addS, ↓z_addT, ↓z_addLL, ↓z_subI, ↓z_mod, ↓z_lt, ↓z_le, ↓z_gt, ↓z_ge, ↓z_eqI, ↓z_neI, ↓z_eqS, ↓z_neS, ↓z_eqB, ↓z_neB, ↓z_inL, ↓z_ninL, ↓z_lenL, ↓z_lenT, ↓z_lenD, ↓z_lenS, ↓z_slS, ↓z_slT, ↓z_slL, ↓z_listL, ↓z_listT, ↓z_listD, ↓z_tupL, ↓z_tupT, ↓z_max, ↓z_min, ↓z_dictD, ↓z_int1B, ↓z_int1I, ↓z_meth0, ↓z_methd, List.set_cons_zero, List.set_cons_succ, q_e0, q_e1, q_e2, -eq_self, -iff_self]); (try (first | with_reducible refine o_wp ?_ | with_reducible refine o_ws ?_ | with_reducible refine o_get ?_ | with_reducible refine o_an ?_ | with_reducible refine o_if ?_ | with_reducible refine o_wb ?_ | with_reducible refine o_wt ?_ | with_reducible refine o_v ?_ | with_reducible refine o_sub ?_ | with_reducible refine o_put ?_ | with_reducible refine o_fld ?_ | with_reducible refine o_ins ?_))))
local macro_rules | `(tactic| walk_at "w") => `(tactic| (walk_at "zs"; (repeat ((first | with_reducible refine wp_ixT (by with_unfolding_all rfl) ?_ | with_reducible refine wp_ixL (by with_unfolding_all rfl) ?_ | with_reducible refine wv (by with_unfolding_all rfl) ?_ | with_reducible refine get (by with_unfolding_all rfl) ?_ | with_reducible refine an (by walk_at "dq") ?_ | with_reducible refine wt (by with_unfolding_all rfl) ?_ | with_reducible refine ite_t ?_ | with_reducible refine ite_f ?_ | with_reducible refine ite_rt (by with_unfolding_all rfl) ?_ | with_reducible refine ite_rf (by with_unfolding_all rfl) ?_ | with_reducible refine wp_isiT (by with_unfolding_all rfl) ?_ | with_reducible refine wp_isiF (by with_unfolding_all rfl) ?_); walk_at "zs"))))
local macro_rules | `(tactic| walk_at "dq") => `(tactic| first | with_unfolding_all rfl | walk_at "r62" | walk_at "sz")
local macro_rules | `(tactic| walk_at "zs") => `(tactic| ((try (first | with_reducible refine i_wp ?_ | with_reducible refine i_ws ?_ | with_reducible refine i_get ?_ | with_reducible refine i_an ?_ | with_reducible refine i_if ?_ | with_reducible refine i_wb ?_ | with_reducible refine i_wt ?_ | with_reducible refine i_sub ?_ | with_reducible refine i_put ?_ | with_reducible refine i_fld ?_ | with_reducible refine i_ins ?_)); (try simp (disch := walk_at "dq") only [↓z_seq, ↓z_next, ↓z_break, ↓z_cont, ↓z_retN, ↓z_ret, ↓z_drop, ↓z_set, ↓z_asg, ↓z_if, ↓z_par, ↓z_par3, ↓z_sub, ↓z_dput, ↓z_fld, ↓z_for, ↓z_v, ↓z_vS, ↓z_v0, ↓z_e0, ↓z_e1, ↓z_e2, ↓z_c, ↓z_bin, ↓z_nil, ↓z_cons, ↓z_b, ↓z_bm, ↓z_call, ↓z_calld, ↓z_wb, ↓z_asB, ↓z_asT, ↓z_wtB, ↓z_wtN, ↓z_wtI, ↓z_wtT0, ↓z_wtT1, ↓z_wtL0, ↓z_wtL1, ↓z_notB, ↓z_andB, ↓z_orB, ↓z_notT, ↓z_andT, ↓z_orT, ↓z_ifE, ↓z_isn, ↓z_notn, ↓z_neg, ↓z_chain, ↓z_yes, ↓z_nopart, ↓z_part, ↓z_sl, ↓z_tup, ↓z_lst, ↓z_mkL, ↓z_mkLn, ↓z_dic0, ↓z_mkD, ↓z_mkDn, ↓z_revL, ↓z_fldE, ↓z_insV, ↓z_get2, ↓z_itS, ↓z_itR1, ↓z_itR2, ↓z_itT, ↓z_itE, ↓z_itZ, ↓z_get, ↓z_int, ↓z_int1, ↓z_int2, ↓z_one1, ↓z_two2, ↓z_str, ↓z_asLl, ↓z_asLr, ↓z_itLl, ↓z_itLt, ↓z_gN, ↓z_gNl, ↓z_gCs, ↓z_gTt, ↓z_gTl, ↓z_an, ↓z_ct, ↓z_cf, ↓z_ty1, ↓z_ty2, ↓z_ty3, ↓z_ty4, ↓z_anT, ↓z_addI, ↓z_addS, ↓z_addT, ↓z_addLL, ↓z_subI, ↓z_mod, ↓z_lt, ↓z_le, ↓z_gt, ↓z_ge, ↓z_eqI, ↓z_neI, ↓z_eqS, ↓z_neS, ↓z_eqB, ↓z_neB, ↓z_inL, ↓z_ninL, ↓z_lenL, ↓z_lenT, ↓z_lenD, ↓z_lenS, ↓z_slS, ↓z_slT, ↓z_slL, ↓z_listL, ↓z_listT, ↓z_listD, ↓z_tupL, ↓z_tupT, ↓z_max, ↓z_min, ↓z_dictD, ↓z_int1B, ↓z_int1I, ↓z_meth0, ↓z_methd, List.set_cons_zero, List.set_cons_succ, q_e0, q_e1, q_e2, ↓z_seen, ↓z_hidden, ↓z_deeds, ↓z_asks, -eq_self, -iff_self]); (try (first | with_reducible refine o_wp ?_ | with_reducible refine o_ws ?_ | with_reducible refine o_get ?_ | with_reducible refine o_an ?_ | with_reducible refine o_if ?_ | with_reducible refine o_wb ?_ | with_reducible refine o_wt ?_ | with_reducible refine o_v ?_ | with_reducible refine o_sub ?_ | with_reducible refine o_put ?_ | with_reducible refine o_fld ?_ | with_reducible refine o_ins ?_))))
local macro_rules | `(tactic| walk_at "w") => `(tactic| (walk_at "zs"; (repeat ((first | with_reducible refine wp_inPQ ?_ | with_reducible refine wp_inMD ?_ | with_reducible refine wp_ninMD ?_ | with_reducible refine wp_inGo ?_ | with_reducible refine wp_ninGo ?_ | with_reducible refine wp_inDM ?_ | with_reducible refine wp_ninDM ?_ | with_reducible refine ite_dt (by assumption) ?_ | with_reducible refine ite_df (by assumption) ?_ | with_reducible refine ite_nt (by assumption) ?_ | with_reducible refine ite_nf (by assumption) ?_ | with_reducible refine ite_rt (by assumption) ?_ | with_reducible refine ite_rf (by assumption) ?_ | with_reducible refine wp_eqTn ?_ | with_reducible refine wp_ixT (by with_unfolding_all rfl) ?_ | with_reducible refine wp_ixL (by with_unfolding_all rfl) ?_ | with_reducible refine wv (by with_unfolding_all rfl) ?_ | with_reducible refine get (by with_unfolding_all rfl) ?_ | with_reducible refine an (by walk_at "dq") ?_ | with_reducible refine wt (by with_unfolding_all rfl) ?_ | with_reducible refine ite_t ?_ | with_reducible refine ite_f ?_ | with_reducible refine ite_rt (by with_unfolding_all rfl) ?_ | with_reducible refine ite_rf (by with_unfolding_all rfl) ?_ | with_reducible refine wp_isiT (by with_unfolding_all rfl) ?_ | with_reducible refine wp_isiF (by with_unfolding_all rfl) ?_); walk_at "zs"))))
end SM
end Mi
namespace Mi
namespace SM
open PySem L2 TL
open Sh hiding b_law_gear_c1 b_law_gear_c2 b_law_gear m_law_gear b_law_moves_l1 b_law_moves m_law_moves b_next_form_l1 b_next_form m_next_form b_is_form_l1 b_is_form m_is_form b_is_puts_l1 b_is_puts m_is_puts b_is_asked_c1 b_is_asked m_is_asked b_is_meaning_l1 b_is_meaning m_is_meaning b_Op_init m_Op_init
local macro_rules | `(tactic| walk_at "r62") => `(tactic| first | exact r62 (by omega) (by omega) | exact ⟨r62 (by omega) (by omega), r62 (by omega) (by omega)⟩)
local macro_rules | `(tactic| walk_at "sz") => `(tactic| first | omega | (simp only [List.length_cons, List.length_nil, List.length_append, List.length_map, List.length_replicate, List.length_take, List.length_drop, sizeLine] <;> omega) | (unfold sizeLine; omega) | decide)
local macro_rules | `(tactic| walk_at "dq") => `(tactic| first | with_unfolding_all rfl | walk_at "r62" | walk_at "sz")
local macro_rules | `(tactic| walk_at "zs") => `(tactic| ((try (first | with_reducible refine i_wp ?_ | with_reducible refine i_ws ?_ | with_reducible refine i_get ?_ | with_reducible refine i_an ?_ | with_reducible refine i_if ?_ | with_reducible refine i_wb ?_ | with_reducible refine i_wt ?_ | with_reducible refine i_sub ?_ | with_reducible refine i_put ?_ | with_reducible refine i_fld ?_ | with_reducible refine i_ins ?_)); (try simp (disch := walk_at "dq") only [↓z_seq, ↓z_next, ↓z_break, ↓z_cont, ↓z_retN, ↓z_ret, ↓z_drop, ↓z_set, ↓z_asg, ↓z_if, ↓z_par, ↓z_par3, ↓z_sub, ↓z_dput, ↓z_fld, ↓z_for, ↓z_v, ↓z_vS, ↓z_v0, ↓z_e0, ↓z_e1, ↓z_e2, ↓z_c, ↓z_bin, ↓z_nil, ↓z_cons, ↓z_b, ↓z_bm, ↓z_call, ↓z_calld, ↓z_wb, ↓z_asB, ↓z_asT, ↓z_wtB, ↓z_wtN, ↓z_wtI, ↓z_wtT0, ↓z_wtT1, ↓z_wtL0, ↓z_wtL1, ↓z_notB, ↓z_andB, ↓z_orB, ↓z_notT, ↓z_andT, ↓z_orT, ↓z_ifE, ↓z_isn, ↓z_notn, ↓z_neg, ↓z_chain, ↓z_yes, ↓z_nopart, ↓z_part, ↓z_sl, ↓z_tup, ↓z_lst, ↓z_mkL, ↓z_mkLn, ↓z_dic0, ↓z_mkD, ↓z_mkDn, ↓z_revL, ↓z_fldE, ↓z_insV, ↓z_get2, ↓z_itS, ↓z_itR1, ↓z_itR2, ↓z_itT, ↓z_itE, ↓z_itZ, ↓z_get, ↓z_int, ↓z_int1, ↓z_int2, ↓z_one1, ↓z_two2, ↓z_str, ↓z_asLl, ↓z_asLr, ↓z_itLl, ↓z_itLt, ↓z_gN, ↓z_gNl, ↓z_gCs, ↓z_gTt, ↓z_gTl, ↓z_an, ↓z_ct, ↓z_cf, ↓z_ty1, ↓z_ty2, ↓z_ty3, ↓z_ty4, ↓z_anT, ↓z_addI, ↓z_addS, ↓z_addT, ↓z_addLL, ↓z_subI, ↓z_mod, ↓z_lt, ↓z_le, ↓z_gt, ↓z_ge, ↓z_eqI, ↓z_neI, ↓z_eqS, ↓z_neS, ↓z_eqB, ↓z_neB, ↓z_inL, ↓z_ninL, ↓z_lenL, ↓z_lenT, ↓z_lenD, ↓z_lenS, ↓z_slS, ↓z_slT, ↓z_slL, ↓z_listL, ↓z_listT, ↓z_listD, ↓z_tupL, ↓z_tupT, ↓z_max, ↓z_min, ↓z_dictD, ↓z_int1B, ↓z_int1I, ↓z_meth0, ↓z_methd, List.set_cons_zero, List.set_cons_succ, q_e0, q_e1, q_e2, -eq_self, -iff_self]); (try (first | with_reducible refine o_wp ?_ | with_reducible refine o_ws ?_ | with_reducible refine o_get ?_ | with_reducible refine o_an ?_ | with_reducible refine o_if ?_ | with_reducible refine o_wb ?_ | with_reducible refine o_wt ?_ | with_reducible refine o_v ?_ | with_reducible refine o_sub ?_ | with_reducible refine o_put ?_ | with_reducible refine o_fld ?_ | with_reducible refine o_ins ?_))))
local macro_rules | `(tactic| walk_at "w") => `(tactic| (walk_at "zs"; (repeat ((first | with_reducible refine wp_ixT (by with_unfolding_all rfl) ?_ | with_reducible refine wp_ixL (by with_unfolding_all rfl) ?_ | with_reducible refine wv (by with_unfolding_all rfl) ?_ | with_reducible refine get (by with_unfolding_all rfl) ?_ | with_reducible refine an (by walk_at "dq") ?_ | with_reducible refine wt (by with_unfolding_all rfl) ?_ | with_reducible refine ite_t ?_ | with_reducible refine ite_f ?_ | with_reducible refine ite_rt (by with_unfolding_all rfl) ?_ | with_reducible refine ite_rf (by with_unfolding_all rfl) ?_ | with_reducible refine wp_isiT (by with_unfolding_all rfl) ?_ | with_reducible refine wp_isiF (by with_unfolding_all rfl) ?_); walk_at "zs"))))
local macro_rules | `(tactic| walk_at "dq") => `(tactic| first | with_unfolding_all rfl | walk_at "r62" | walk_at "sz")
local macro_rules | `(tactic| walk_at "zs") => `(tactic| ((try (first | with_reducible refine i_wp ?_ | with_reducible refine i_ws ?_ | with_reducible refine i_get ?_ | with_reducible refine i_an ?_ | with_reducible refine i_if ?_ | with_reducible refine i_wb ?_ | with_reducible refine i_wt ?_ | with_reducible refine i_sub ?_ | with_reducible refine i_put ?_ | with_reducible refine i_fld ?_ | with_reducible refine i_ins ?_)); (try simp (disch := walk_at "dq") only [↓z_seq, ↓z_next, ↓z_break, ↓z_cont, ↓z_retN, ↓z_ret, ↓z_drop, ↓z_set, ↓z_asg, ↓z_if, ↓z_par, ↓z_par3, ↓z_sub, ↓z_dput, ↓z_fld, ↓z_for, ↓z_v, ↓z_vS, ↓z_v0, ↓z_e0, ↓z_e1, ↓z_e2, ↓z_c, ↓z_bin, ↓z_nil, ↓z_cons, ↓z_b, ↓z_bm, ↓z_call, ↓z_calld, ↓z_wb, ↓z_asB, ↓z_asT, ↓z_wtB, ↓z_wtN, ↓z_wtI, ↓z_wtT0, ↓z_wtT1, ↓z_wtL0, ↓z_wtL1, ↓z_notB, ↓z_andB, ↓z_orB, ↓z_notT, ↓z_andT, ↓z_orT, ↓z_ifE, ↓z_isn, ↓z_notn, ↓z_neg, ↓z_chain, ↓z_yes, ↓z_nopart, ↓z_part, ↓z_sl, ↓z_tup, ↓z_lst, ↓z_mkL, ↓z_mkLn, ↓z_dic0, ↓z_mkD, ↓z_mkDn, ↓z_revL, ↓z_fldE, ↓z_insV, ↓z_get2, ↓z_itS, ↓z_itR1, ↓z_itR2, ↓z_itT, ↓z_itE, ↓z_itZ, ↓z_get, ↓z_int, ↓z_int1, ↓z_int2, ↓z_one1, ↓z_two2, ↓z_str, ↓z_asLl, ↓z_asLr, ↓z_itLl, ↓z_itLt, ↓z_gN, ↓z_gNl, ↓z_gCs, ↓z_gTt, ↓z_gTl, ↓z_an, ↓z_ct, ↓z_cf, ↓z_ty1, ↓z_ty2, ↓z_ty3, ↓z_ty4, ↓z_anT, ↓z_addI, ↓z_addS, ↓z_addT, ↓z_addLL, ↓z_subI, ↓z_mod, ↓z_lt, ↓z_le, ↓z_gt, ↓z_ge, ↓z_eqI, ↓z_neI, ↓z_eqS, ↓z_neS, ↓z_eqB, ↓z_neB, ↓z_inL, ↓z_ninL, ↓z_lenL, ↓z_lenT, ↓z_lenD, ↓z_lenS, ↓z_slS, ↓z_slT, ↓z_slL, ↓z_listL, ↓z_listT, ↓z_listD, ↓z_tupL, ↓z_tupT, ↓z_max, ↓z_min, ↓z_dictD, ↓z_int1B, ↓z_int1I, ↓z_meth0, ↓z_methd, List.set_cons_zero, List.set_cons_succ, q_e0, q_e1, q_e2, ↓z_seen, ↓z_hidden, ↓z_deeds, ↓z_asks, -eq_self, -iff_self]); (try (first | with_reducible refine o_wp ?_ | with_reducible refine o_ws ?_ | with_reducible refine o_get ?_ | with_reducible refine o_an ?_ | with_reducible refine o_if ?_ | with_reducible refine o_wb ?_ | with_reducible refine o_wt ?_ | with_reducible refine o_v ?_ | with_reducible refine o_sub ?_ | with_reducible refine o_put ?_ | with_reducible refine o_fld ?_ | with_reducible refine o_ins ?_))))
local macro_rules | `(tactic| walk_at "w") => `(tactic| (walk_at "zs"; (repeat ((first | with_reducible refine wp_inPQ ?_ | with_reducible refine wp_inMD ?_ | with_reducible refine wp_ninMD ?_ | with_reducible refine wp_inGo ?_ | with_reducible refine wp_ninGo ?_ | with_reducible refine wp_inDM ?_ | with_reducible refine wp_ninDM ?_ | with_reducible refine ite_dt (by assumption) ?_ | with_reducible refine ite_df (by assumption) ?_ | with_reducible refine ite_nt (by assumption) ?_ | with_reducible refine ite_nf (by assumption) ?_ | with_reducible refine ite_rt (by assumption) ?_ | with_reducible refine ite_rf (by assumption) ?_ | with_reducible refine wp_eqTn ?_ | with_reducible refine wp_ixT (by with_unfolding_all rfl) ?_ | with_reducible refine wp_ixL (by with_unfolding_all rfl) ?_ | with_reducible refine wv (by with_unfolding_all rfl) ?_ | with_reducible refine get (by with_unfolding_all rfl) ?_ | with_reducible refine an (by walk_at "dq") ?_ | with_reducible refine wt (by with_unfolding_all rfl) ?_ | with_reducible refine ite_t ?_ | with_reducible refine ite_f ?_ | with_reducible refine ite_rt (by with_unfolding_all rfl) ?_ | with_reducible refine ite_rf (by with_unfolding_all rfl) ?_ | with_reducible refine wp_isiT (by with_unfolding_all rfl) ?_ | with_reducible refine wp_isiF (by with_unfolding_all rfl) ?_); walk_at "zs"))))
section
variable {l a n m : Nat} {S S' S1 S2 : Sto} {T T' : List (MV × MV)} {Q : MV → Sto → Prop} {E : MX → Sto → Prop}
def At (v : MV) : Prop := (∃ i, v = .int i) ∨ ∃ z, v = .str z
def AK (p : MV × MV) : Prop := ∃ (n : List Nat) (vs : List MV) (b : Bool), p = (.tup [.str n, .tup vs], .bl b) ∧ ∀ v ∈ vs, At v
structure Wst (l a n : Nat) (T : List (MV × MV)) (S : Sto) : Prop where
  d : HasDr l n S
  t : S[a]? = some (.td T)
  ok : ∀ p ∈ T, AK p
structure Wmv (l a : Nat) (S S' : Sto) : Prop where
  len : S'.length = S.length
  ne : ∀ i, i ≠ l → i ≠ a → S'[i]? = S[i]?
theorem Wmv.refl : Wmv l a S S := ⟨rfl, fun _ _ _ => rfl⟩
theorem Wmv.trans (h : Wmv l a S S1) (g : Wmv l a S1 S2) : Wmv l a S S2 := ⟨g.len.trans h.len, fun i h1 h2 => (g.ne i h1 h2).trans (h.ne i h1 h2)⟩
theorem Wst.la (w : Wst l a n T S) : l ≠ a := by
  rintro rfl
  obtain ⟨x, y, z, h, _⟩ := w.d
  rw [w.t] at h
  cases h
theorem Wst.lb (w : Wst l a n T S) : a < S.length := (List.getElem?_eq_some_iff.mp w.t).1
theorem Wst.app (w : Wst l a n T S) (X : Sto) : Wst l a n T (S ++ X) := ⟨w.d.app X, by rw [List.getElem?_append_left w.lb]; exact w.t, w.ok⟩
theorem Wst.mono (w : Wst l a n T S) (h : n ≤ m) : Wst l a m T S := by
  obtain ⟨x, y, z, h1, h2, h3⟩ := w.d
  exact ⟨⟨x, y, z, h1, h2, by omega⟩, w.t, w.ok⟩
theorem Wmv.app (w : Wmv l a S S') (X : Sto) : Wmv l a (S ++ X) (S' ++ X) := by
  refine ⟨by simp [w.len], fun i h1 h2 => ?_⟩
  by_cases h : i < S.length
  · rw [List.getElem?_append_left h, List.getElem?_append_left (by rw [w.len]; exact h)]
    exact w.ne i h1 h2
  · rw [List.getElem?_append_right (by rw [w.len]; omega), List.getElem?_append_right (by omega), w.len]
theorem AK.cl (h : ∀ p ∈ T, AK p) (n : Nat) : ClO n (.td T) := by
  have at_ : ∀ {vs : List MV}, (∀ v ∈ vs, At v) → ClL n vs := fun {vs} hv => clL_all fun y hy => by
    rcases hv y hy with ⟨i, rfl⟩ | ⟨z, rfl⟩ <;> simp only [Cl]
  simp only [ClO]
  have c1 : ∀ {T : List (MV × MV)}, (∀ p ∈ T, AK p) → Clk n T ∧ ClL n (T.map (·.1)) := by
    intro T
    induction T with
    | nil => intro _; simp only [Clk, List.map_nil, ClL, and_self]
    | cons p r ih =>
      intro h
      obtain ⟨h1, h2⟩ := ih fun q hq => h q (List.mem_cons_of_mem _ hq)
      obtain ⟨z, vs, b, rfl, hv⟩ := h p List.mem_cons_self
      simp only [Clk, Clp, List.map_cons, ClL, Cl, true_and, and_true]
      first | exact ⟨h1, at_ hv, h2⟩ | exact ⟨⟨at_ hv, h1⟩, at_ hv, h2⟩
  exact (c1 h).1
theorem Wst.keeps (w : Wst l a n T S1) (m : Wmv l a S S1) : Keeps S S1 := by
  refine ⟨by rw [m.len]; omega, fun i hi => ?_⟩
  by_cases h1 : i = l
  · subst h1
    obtain ⟨x, y, z, h, _⟩ := w.d
    exact .inr ⟨_, h, dr_cl _ _ _ _⟩
  · by_cases h2 : i = a
    · subst h2
      exact .inr ⟨_, w.t, AK.cl w.ok _⟩
    · exact .inl (m.ne i h1 h2)
theorem Wst.tb {ts : List Nat} (w0 : Wst l a n T S) (w : Wst l a m T' S1) (mv : Wmv l a S S1) (h : TbOk ts S) : TbOk ts S1 := by
  have key : ∀ {S S1 : Sto} {n m : Nat} {T T' : List (MV × MV)}, Wst l a n T S → Wst l a m T' S1 → Wmv l a S S1 → ∀ t, MO.tb t ∈ S → MO.tb t ∈ S1 := by
    intro S S1 n m T T' w0 w mv t ht
    obtain ⟨i, hi⟩ := List.mem_iff_getElem?.mp ht
    have h1 : i ≠ l := by
      rintro rfl
      obtain ⟨x, y, z, e, _⟩ := w0.d
      rw [e] at hi
      cases hi
    have h2 : i ≠ a := by
      rintro rfl
      rw [w0.t] at hi
      cases hi
    rw [← mv.ne i h1 h2] at hi
    exact List.mem_of_getElem? hi
  intro t
  rw [← h t]
  exact ⟨key w w0 ⟨mv.len.symm, fun i h1 h2 => (mv.ne i h1 h2).symm⟩ t, key w0 w mv t⟩
theorem Wst.draws {q : Nat} (w : Wst l a n T S) (d : Draws l q S S') : Wst l a (n + q) T S' ∧ Wmv l a S S' := by
  have la := w.la
  refine ⟨⟨w.d.draws d, ?_, w.ok⟩, ?_⟩
  · rw [d.ne la]; exact w.t
  · obtain ⟨_, _, _, _, _, _, rfl, _, _⟩ := d
    exact ⟨by rw [List.length_set], fun i h1 h2 => by rw [List.getElem?_set_ne (Ne.symm h1)]⟩
end
end SM
end Mi
namespace Mi
namespace SM
open PySem L2 TL
open Sh hiding b_law_gear_c1 b_law_gear_c2 b_law_gear m_law_gear b_law_moves_l1 b_law_moves m_law_moves b_next_form_l1 b_next_form m_next_form b_is_form_l1 b_is_form m_is_form b_is_puts_l1 b_is_puts m_is_puts b_is_asked_c1 b_is_asked m_is_asked b_is_meaning_l1 b_is_meaning m_is_meaning b_Op_init m_Op_init
local macro_rules | `(tactic| walk_at "r62") => `(tactic| first | exact r62 (by omega) (by omega) | exact ⟨r62 (by omega) (by omega), r62 (by omega) (by omega)⟩)
local macro_rules | `(tactic| walk_at "sz") => `(tactic| first | omega | (simp only [List.length_cons, List.length_nil, List.length_append, List.length_map, List.length_replicate, List.length_take, List.length_drop, sizeLine] <;> omega) | (unfold sizeLine; omega) | decide)
local macro_rules | `(tactic| walk_at "dq") => `(tactic| first | with_unfolding_all rfl | walk_at "r62" | walk_at "sz")
local macro_rules | `(tactic| walk_at "zs") => `(tactic| ((try (first | with_reducible refine i_wp ?_ | with_reducible refine i_ws ?_ | with_reducible refine i_get ?_ | with_reducible refine i_an ?_ | with_reducible refine i_if ?_ | with_reducible refine i_wb ?_ | with_reducible refine i_wt ?_ | with_reducible refine i_sub ?_ | with_reducible refine i_put ?_ | with_reducible refine i_fld ?_ | with_reducible refine i_ins ?_)); (try simp (disch := walk_at "dq") only [↓z_seq, ↓z_next, ↓z_break, ↓z_cont, ↓z_retN, ↓z_ret, ↓z_drop, ↓z_set, ↓z_asg, ↓z_if, ↓z_par, ↓z_par3, ↓z_sub, ↓z_dput, ↓z_fld, ↓z_for, ↓z_v, ↓z_vS, ↓z_v0, ↓z_e0, ↓z_e1, ↓z_e2, ↓z_c, ↓z_bin, ↓z_nil, ↓z_cons, ↓z_b, ↓z_bm, ↓z_call, ↓z_calld, ↓z_wb, ↓z_asB, ↓z_asT, ↓z_wtB, ↓z_wtN, ↓z_wtI, ↓z_wtT0, ↓z_wtT1, ↓z_wtL0, ↓z_wtL1, ↓z_notB, ↓z_andB, ↓z_orB, ↓z_notT, ↓z_andT, ↓z_orT, ↓z_ifE, ↓z_isn, ↓z_notn, ↓z_neg, ↓z_chain, ↓z_yes, ↓z_nopart, ↓z_part, ↓z_sl, ↓z_tup, ↓z_lst, ↓z_mkL, ↓z_mkLn, ↓z_dic0, ↓z_mkD, ↓z_mkDn, ↓z_revL, ↓z_fldE, ↓z_insV, ↓z_get2, ↓z_itS, ↓z_itR1, ↓z_itR2, ↓z_itT, ↓z_itE, ↓z_itZ, ↓z_get, ↓z_int, ↓z_int1, ↓z_int2, ↓z_one1, ↓z_two2, ↓z_str, ↓z_asLl, ↓z_asLr, ↓z_itLl, ↓z_itLt, ↓z_gN, ↓z_gNl, ↓z_gCs, ↓z_gTt, ↓z_gTl, ↓z_an, ↓z_ct, ↓z_cf, ↓z_ty1, ↓z_ty2, ↓z_ty3, ↓z_ty4, ↓z_anT, ↓z_addI, ↓z_addS, ↓z_addT, ↓z_addLL, ↓z_subI, ↓z_mod, ↓z_lt, ↓z_le, ↓z_gt, ↓z_ge, ↓z_eqI, ↓z_neI, ↓z_eqS, ↓z_neS, ↓z_eqB, ↓z_neB, ↓z_inL, ↓z_ninL, ↓z_lenL, ↓z_lenT, ↓z_lenD, ↓z_lenS, ↓z_slS, ↓z_slT, ↓z_slL, ↓z_listL, ↓z_listT, ↓z_listD, ↓z_tupL, ↓z_tupT, ↓z_max, ↓z_min, ↓z_dictD, ↓z_int1B, ↓z_int1I, ↓z_meth0, ↓z_methd, List.set_cons_zero, List.set_cons_succ, q_e0, q_e1, q_e2, -eq_self, -iff_self]); (try (first | with_reducible refine o_wp ?_ | with_reducible refine o_ws ?_ | with_reducible refine o_get ?_ | with_reducible refine o_an ?_ | with_reducible refine o_if ?_ | with_reducible refine o_wb ?_ | with_reducible refine o_wt ?_ | with_reducible refine o_v ?_ | with_reducible refine o_sub ?_ | with_reducible refine o_put ?_ | with_reducible refine o_fld ?_ | with_reducible refine o_ins ?_))))
local macro_rules | `(tactic| walk_at "w") => `(tactic| (walk_at "zs"; (repeat ((first | with_reducible refine wp_ixT (by with_unfolding_all rfl) ?_ | with_reducible refine wp_ixL (by with_unfolding_all rfl) ?_ | with_reducible refine wv (by with_unfolding_all rfl) ?_ | with_reducible refine get (by with_unfolding_all rfl) ?_ | with_reducible refine an (by walk_at "dq") ?_ | with_reducible refine wt (by with_unfolding_all rfl) ?_ | with_reducible refine ite_t ?_ | with_reducible refine ite_f ?_ | with_reducible refine ite_rt (by with_unfolding_all rfl) ?_ | with_reducible refine ite_rf (by with_unfolding_all rfl) ?_ | with_reducible refine wp_isiT (by with_unfolding_all rfl) ?_ | with_reducible refine wp_isiF (by with_unfolding_all rfl) ?_); walk_at "zs"))))
local macro_rules | `(tactic| walk_at "dq") => `(tactic| first | with_unfolding_all rfl | walk_at "r62" | walk_at "sz")
local macro_rules | `(tactic| walk_at "zs") => `(tactic| ((try (first | with_reducible refine i_wp ?_ | with_reducible refine i_ws ?_ | with_reducible refine i_get ?_ | with_reducible refine i_an ?_ | with_reducible refine i_if ?_ | with_reducible refine i_wb ?_ | with_reducible refine i_wt ?_ | with_reducible refine i_sub ?_ | with_reducible refine i_put ?_ | with_reducible refine i_fld ?_ | with_reducible refine i_ins ?_)); (try simp (disch := walk_at "dq") only [↓z_seq, ↓z_next, ↓z_break, ↓z_cont, ↓z_retN, ↓z_ret, ↓z_drop, ↓z_set, ↓z_asg, ↓z_if, ↓z_par, ↓z_par3, ↓z_sub, ↓z_dput, ↓z_fld, ↓z_for, ↓z_v, ↓z_vS, ↓z_v0, ↓z_e0, ↓z_e1, ↓z_e2, ↓z_c, ↓z_bin, ↓z_nil, ↓z_cons, ↓z_b, ↓z_bm, ↓z_call, ↓z_calld, ↓z_wb, ↓z_asB, ↓z_asT, ↓z_wtB, ↓z_wtN, ↓z_wtI, ↓z_wtT0, ↓z_wtT1, ↓z_wtL0, ↓z_wtL1, ↓z_notB, ↓z_andB, ↓z_orB, ↓z_notT, ↓z_andT, ↓z_orT, ↓z_ifE, ↓z_isn, ↓z_notn, ↓z_neg, ↓z_chain, ↓z_yes, ↓z_nopart, ↓z_part, ↓z_sl, ↓z_tup, ↓z_lst, ↓z_mkL, ↓z_mkLn, ↓z_dic0, ↓z_mkD, ↓z_mkDn, ↓z_revL, ↓z_fldE, ↓z_insV, ↓z_get2, ↓z_itS, ↓z_itR1, ↓z_itR2, ↓z_itT, ↓z_itE, ↓z_itZ, ↓z_get, ↓z_int, ↓z_int1, ↓z_int2, ↓z_one1, ↓z_two2, ↓z_str, ↓z_asLl, ↓z_asLr, ↓z_itLl, ↓z_itLt, ↓z_gN, ↓z_gNl, ↓z_gCs, ↓z_gTt, ↓z_gTl, ↓z_an, ↓z_ct, ↓z_cf, ↓z_ty1, ↓z_ty2, ↓z_ty3, ↓z_ty4, ↓z_anT, ↓z_addI, ↓z_addS, ↓z_addT, ↓z_addLL, ↓z_subI, ↓z_mod, ↓z_lt, ↓z_le, ↓z_gt, ↓z_ge, ↓z_eqI, ↓z_neI, ↓z_eqS, ↓z_neS, ↓z_eqB, ↓z_neB, ↓z_inL, ↓z_ninL, ↓z_lenL, ↓z_lenT, ↓z_lenD, ↓z_lenS, ↓z_slS, ↓z_slT, ↓z_slL, ↓z_listL, ↓z_listT, ↓z_listD, ↓z_tupL, ↓z_tupT, ↓z_max, ↓z_min, ↓z_dictD, ↓z_int1B, ↓z_int1I, ↓z_meth0, ↓z_methd, List.set_cons_zero, List.set_cons_succ, q_e0, q_e1, q_e2, ↓z_seen, ↓z_hidden, ↓z_deeds, ↓z_asks, -eq_self, -iff_self]); (try (first | with_reducible refine o_wp ?_ | with_reducible refine o_ws ?_ | with_reducible refine o_get ?_ | with_reducible refine o_an ?_ | with_reducible refine o_if ?_ | with_reducible refine o_wb ?_ | with_reducible refine o_wt ?_ | with_reducible refine o_v ?_ | with_reducible refine o_sub ?_ | with_reducible refine o_put ?_ | with_reducible refine o_fld ?_ | with_reducible refine o_ins ?_))))
local macro_rules | `(tactic| walk_at "w") => `(tactic| (walk_at "zs"; (repeat ((first | with_reducible refine wp_inPQ ?_ | with_reducible refine wp_inMD ?_ | with_reducible refine wp_ninMD ?_ | with_reducible refine wp_inGo ?_ | with_reducible refine wp_ninGo ?_ | with_reducible refine wp_inDM ?_ | with_reducible refine wp_ninDM ?_ | with_reducible refine ite_dt (by assumption) ?_ | with_reducible refine ite_df (by assumption) ?_ | with_reducible refine ite_nt (by assumption) ?_ | with_reducible refine ite_nf (by assumption) ?_ | with_reducible refine ite_rt (by assumption) ?_ | with_reducible refine ite_rf (by assumption) ?_ | with_reducible refine wp_eqTn ?_ | with_reducible refine wp_ixT (by with_unfolding_all rfl) ?_ | with_reducible refine wp_ixL (by with_unfolding_all rfl) ?_ | with_reducible refine wv (by with_unfolding_all rfl) ?_ | with_reducible refine get (by with_unfolding_all rfl) ?_ | with_reducible refine an (by walk_at "dq") ?_ | with_reducible refine wt (by with_unfolding_all rfl) ?_ | with_reducible refine ite_t ?_ | with_reducible refine ite_f ?_ | with_reducible refine ite_rt (by with_unfolding_all rfl) ?_ | with_reducible refine ite_rf (by with_unfolding_all rfl) ?_ | with_reducible refine wp_isiT (by with_unfolding_all rfl) ?_ | with_reducible refine wp_isiF (by with_unfolding_all rfl) ?_); walk_at "zs"))))
abbrev kvM (K : List (List Nat × MV)) : List (MV × MV) := K.map fun p => (.str p.1, p.2)
structure KOk (K : List (List Nat × MV)) : Prop where
  nd : (K.map (·.1)).Nodup
  at_ : ∀ p ∈ K, At p.2
theorem keyB_str (a b : List Nat) : keyB (.str a) (.str b) = decide (a = b) := by
  show (a == b) = decide (a = b)
  by_cases e : a = b <;> simp [e]
theorem look_kvM (w : List Nat) : ∀ K : List (List Nat × MV), kLook (kvM K) (.str w) = K.lookup w
  | [] => rfl
  | (k, i) :: r => by
    have ih := look_kvM w r
    have st : kLook (kvM ((k, i) :: r)) (.str w) = if keyB (.str k) (.str w) = true then some i else kLook (kvM r) (.str w) := rfl
    rw [st, List.lookup_cons, keyB_str]
    by_cases e : k = w
    · subst e; simp
    · have : (w == k) = false := by simpa using fun z => e z.symm
      rw [this, ih]
      simp [e]
theorem lookup_key {α : Type} {A : List (List Nat × α)} (nd : (A.map (·.1)).Nodup) : ∀ p ∈ A, A.lookup p.1 = some p.2 := by
  induction A with
  | nil => intro p hp; cases hp
  | cons q r ih =>
    rw [List.map_cons, List.nodup_cons] at nd
    intro p hp
    rw [List.lookup_cons]
    rcases List.mem_cons.mp hp with rfl | hp
    · simp
    · have : (p.1 == q.1) = false := by
        have : p.1 ≠ q.1 := fun e => nd.1 (e ▸ List.mem_map_of_mem hp)
        simpa using this
      rw [this]
      exact ih nd.2 p hp
theorem deq_at {v : MV} (h : At v) : deq 58 v v = some true := by
  rcases h with ⟨i, rfl⟩ | ⟨z, rfl⟩ <;> simp [deq, flat, eqF]
theorem deqDs_kvM {A : List (List Nat × MV)} : ∀ {B : List (List Nat × MV)}, (∀ p ∈ B, A.lookup p.1 = some p.2) → (∀ p ∈ B, At p.2) → deqDs (kvM A) (kvM B) = some true
  | [], _, _ => rfl
  | p :: r, h, h2 => by
    have ih := deqDs_kvM (A := A) (B := r) (fun q hq => h q (List.mem_cons_of_mem _ hq)) fun q hq => h2 q (List.mem_cons_of_mem _ hq)
    show deqDs (kvM A) ((.str p.1, p.2) :: kvM r) = _
    unfold deqDs
    simp only [isKey, if_true, look_kvM, h p (by simp), ih, deq_at (h2 p (by simp))]
    rfl
theorem deqD_kvM {A : List (List Nat × MV)} (h : KOk A) : deqD (kvM A) (kvM A) = some true := by
  unfold deqD
  rw [if_pos rfl]
  exact deqDs_kvM (lookup_key h.nd) h.at_
end SM
end Mi
namespace Mi
namespace SM
open PySem L2 TL
open Sh hiding b_law_gear_c1 b_law_gear_c2 b_law_gear m_law_gear b_law_moves_l1 b_law_moves m_law_moves b_next_form_l1 b_next_form m_next_form b_is_form_l1 b_is_form m_is_form b_is_puts_l1 b_is_puts m_is_puts b_is_asked_c1 b_is_asked m_is_asked b_is_meaning_l1 b_is_meaning m_is_meaning b_Op_init m_Op_init
local macro_rules | `(tactic| walk_at "r62") => `(tactic| first | exact r62 (by omega) (by omega) | exact ⟨r62 (by omega) (by omega), r62 (by omega) (by omega)⟩)
local macro_rules | `(tactic| walk_at "sz") => `(tactic| first | omega | (simp only [List.length_cons, List.length_nil, List.length_append, List.length_map, List.length_replicate, List.length_take, List.length_drop, sizeLine] <;> omega) | (unfold sizeLine; omega) | decide)
local macro_rules | `(tactic| walk_at "dq") => `(tactic| first | with_unfolding_all rfl | walk_at "r62" | walk_at "sz")
local macro_rules | `(tactic| walk_at "zs") => `(tactic| ((try (first | with_reducible refine i_wp ?_ | with_reducible refine i_ws ?_ | with_reducible refine i_get ?_ | with_reducible refine i_an ?_ | with_reducible refine i_if ?_ | with_reducible refine i_wb ?_ | with_reducible refine i_wt ?_ | with_reducible refine i_sub ?_ | with_reducible refine i_put ?_ | with_reducible refine i_fld ?_ | with_reducible refine i_ins ?_)); (try simp (disch := walk_at "dq") only [↓z_seq, ↓z_next, ↓z_break, ↓z_cont, ↓z_retN, ↓z_ret, ↓z_drop, ↓z_set, ↓z_asg, ↓z_if, ↓z_par, ↓z_par3, ↓z_sub, ↓z_dput, ↓z_fld, ↓z_for, ↓z_v, ↓z_vS, ↓z_v0, ↓z_e0, ↓z_e1, ↓z_e2, ↓z_c, ↓z_bin, ↓z_nil, ↓z_cons, ↓z_b, ↓z_bm, ↓z_call, ↓z_calld, ↓z_wb, ↓z_asB, ↓z_asT, ↓z_wtB, ↓z_wtN, ↓z_wtI, ↓z_wtT0, ↓z_wtT1, ↓z_wtL0, ↓z_wtL1, ↓z_notB, ↓z_andB, ↓z_orB, ↓z_notT, ↓z_andT, ↓z_orT, ↓z_ifE, ↓z_isn, ↓z_notn, ↓z_neg, ↓z_chain, ↓z_yes, ↓z_nopart, ↓z_part, ↓z_sl, ↓z_tup, ↓z_lst, ↓z_mkL, ↓z_mkLn, ↓z_dic0, ↓z_mkD, ↓z_mkDn, ↓z_revL, ↓z_fldE, ↓z_insV, ↓z_get2, ↓z_itS, ↓z_itR1, ↓z_itR2, ↓z_itT, ↓z_itE, ↓z_itZ, ↓z_get, ↓z_int, ↓z_int1, ↓z_int2, ↓z_one1, ↓z_two2, ↓z_str, ↓z_asLl, ↓z_asLr, ↓z_itLl, ↓z_itLt, ↓z_gN, ↓z_gNl, ↓z_gCs, ↓z_gTt, ↓z_gTl, ↓z_an, ↓z_ct, ↓z_cf, ↓z_ty1, ↓z_ty2, ↓z_ty3, ↓z_ty4, ↓z_anT, ↓z_addI, ↓z_addS, ↓z_addT, ↓z_addLL, ↓z_subI, ↓z_mod, ↓z_lt, ↓z_le, ↓z_gt, ↓z_ge, ↓z_eqI, ↓z_neI, ↓z_eqS, ↓z_neS, ↓z_eqB, ↓z_neB, ↓z_inL, ↓z_ninL, ↓z_lenL, ↓z_lenT, ↓z_lenD, ↓z_lenS, ↓z_slS, ↓z_slT, ↓z_slL, ↓z_listL, ↓z_listT, ↓z_listD, ↓z_tupL, ↓z_tupT, ↓z_max, ↓z_min, ↓z_dictD, ↓z_int1B, ↓z_int1I, ↓z_meth0, ↓z_methd, List.set_cons_zero, List.set_cons_succ, q_e0, q_e1, q_e2, -eq_self, -iff_self]); (try (first | with_reducible refine o_wp ?_ | with_reducible refine o_ws ?_ | with_reducible refine o_get ?_ | with_reducible refine o_an ?_ | with_reducible refine o_if ?_ | with_reducible refine o_wb ?_ | with_reducible refine o_wt ?_ | with_reducible refine o_v ?_ | with_reducible refine o_sub ?_ | with_reducible refine o_put ?_ | with_reducible refine o_fld ?_ | with_reducible refine o_ins ?_))))
local macro_rules | `(tactic| walk_at "w") => `(tactic| (walk_at "zs"; (repeat ((first | with_reducible refine wp_ixT (by with_unfolding_all rfl) ?_ | with_reducible refine wp_ixL (by with_unfolding_all rfl) ?_ | with_reducible refine wv (by with_unfolding_all rfl) ?_ | with_reducible refine get (by with_unfolding_all rfl) ?_ | with_reducible refine an (by walk_at "dq") ?_ | with_reducible refine wt (by with_unfolding_all rfl) ?_ | with_reducible refine ite_t ?_ | with_reducible refine ite_f ?_ | with_reducible refine ite_rt (by with_unfolding_all rfl) ?_ | with_reducible refine ite_rf (by with_unfolding_all rfl) ?_ | with_reducible refine wp_isiT (by with_unfolding_all rfl) ?_ | with_reducible refine wp_isiF (by with_unfolding_all rfl) ?_); walk_at "zs"))))
local macro_rules | `(tactic| walk_at "dq") => `(tactic| first | with_unfolding_all rfl | walk_at "r62" | walk_at "sz")
local macro_rules | `(tactic| walk_at "zs") => `(tactic| ((try (first | with_reducible refine i_wp ?_ | with_reducible refine i_ws ?_ | with_reducible refine i_get ?_ | with_reducible refine i_an ?_ | with_reducible refine i_if ?_ | with_reducible refine i_wb ?_ | with_reducible refine i_wt ?_ | with_reducible refine i_sub ?_ | with_reducible refine i_put ?_ | with_reducible refine i_fld ?_ | with_reducible refine i_ins ?_)); (try simp (disch := walk_at "dq") only [↓z_seq, ↓z_next, ↓z_break, ↓z_cont, ↓z_retN, ↓z_ret, ↓z_drop, ↓z_set, ↓z_asg, ↓z_if, ↓z_par, ↓z_par3, ↓z_sub, ↓z_dput, ↓z_fld, ↓z_for, ↓z_v, ↓z_vS, ↓z_v0, ↓z_e0, ↓z_e1, ↓z_e2, ↓z_c, ↓z_bin, ↓z_nil, ↓z_cons, ↓z_b, ↓z_bm, ↓z_call, ↓z_calld, ↓z_wb, ↓z_asB, ↓z_asT, ↓z_wtB, ↓z_wtN, ↓z_wtI, ↓z_wtT0, ↓z_wtT1, ↓z_wtL0, ↓z_wtL1, ↓z_notB, ↓z_andB, ↓z_orB, ↓z_notT, ↓z_andT, ↓z_orT, ↓z_ifE, ↓z_isn, ↓z_notn, ↓z_neg, ↓z_chain, ↓z_yes, ↓z_nopart, ↓z_part, ↓z_sl, ↓z_tup, ↓z_lst, ↓z_mkL, ↓z_mkLn, ↓z_dic0, ↓z_mkD, ↓z_mkDn, ↓z_revL, ↓z_fldE, ↓z_insV, ↓z_get2, ↓z_itS, ↓z_itR1, ↓z_itR2, ↓z_itT, ↓z_itE, ↓z_itZ, ↓z_get, ↓z_int, ↓z_int1, ↓z_int2, ↓z_one1, ↓z_two2, ↓z_str, ↓z_asLl, ↓z_asLr, ↓z_itLl, ↓z_itLt, ↓z_gN, ↓z_gNl, ↓z_gCs, ↓z_gTt, ↓z_gTl, ↓z_an, ↓z_ct, ↓z_cf, ↓z_ty1, ↓z_ty2, ↓z_ty3, ↓z_ty4, ↓z_anT, ↓z_addI, ↓z_addS, ↓z_addT, ↓z_addLL, ↓z_subI, ↓z_mod, ↓z_lt, ↓z_le, ↓z_gt, ↓z_ge, ↓z_eqI, ↓z_neI, ↓z_eqS, ↓z_neS, ↓z_eqB, ↓z_neB, ↓z_inL, ↓z_ninL, ↓z_lenL, ↓z_lenT, ↓z_lenD, ↓z_lenS, ↓z_slS, ↓z_slT, ↓z_slL, ↓z_listL, ↓z_listT, ↓z_listD, ↓z_tupL, ↓z_tupT, ↓z_max, ↓z_min, ↓z_dictD, ↓z_int1B, ↓z_int1I, ↓z_meth0, ↓z_methd, List.set_cons_zero, List.set_cons_succ, q_e0, q_e1, q_e2, ↓z_seen, ↓z_hidden, ↓z_deeds, ↓z_asks, -eq_self, -iff_self]); (try (first | with_reducible refine o_wp ?_ | with_reducible refine o_ws ?_ | with_reducible refine o_get ?_ | with_reducible refine o_an ?_ | with_reducible refine o_if ?_ | with_reducible refine o_wb ?_ | with_reducible refine o_wt ?_ | with_reducible refine o_v ?_ | with_reducible refine o_sub ?_ | with_reducible refine o_put ?_ | with_reducible refine o_fld ?_ | with_reducible refine o_ins ?_))))
local macro_rules | `(tactic| walk_at "w") => `(tactic| (walk_at "zs"; (repeat ((first | with_reducible refine wp_inPQ ?_ | with_reducible refine wp_inMD ?_ | with_reducible refine wp_ninMD ?_ | with_reducible refine wp_inGo ?_ | with_reducible refine wp_ninGo ?_ | with_reducible refine wp_inDM ?_ | with_reducible refine wp_ninDM ?_ | with_reducible refine ite_dt (by assumption) ?_ | with_reducible refine ite_df (by assumption) ?_ | with_reducible refine ite_nt (by assumption) ?_ | with_reducible refine ite_nf (by assumption) ?_ | with_reducible refine ite_rt (by assumption) ?_ | with_reducible refine ite_rf (by assumption) ?_ | with_reducible refine wp_eqTn ?_ | with_reducible refine wp_ixT (by with_unfolding_all rfl) ?_ | with_reducible refine wp_ixL (by with_unfolding_all rfl) ?_ | with_reducible refine wv (by with_unfolding_all rfl) ?_ | with_reducible refine get (by with_unfolding_all rfl) ?_ | with_reducible refine an (by walk_at "dq") ?_ | with_reducible refine wt (by with_unfolding_all rfl) ?_ | with_reducible refine ite_t ?_ | with_reducible refine ite_f ?_ | with_reducible refine ite_rt (by with_unfolding_all rfl) ?_ | with_reducible refine ite_rf (by with_unfolding_all rfl) ?_ | with_reducible refine wp_isiT (by with_unfolding_all rfl) ?_ | with_reducible refine wp_isiF (by with_unfolding_all rfl) ?_); walk_at "zs"))))
/-- a value that is equal to itself by parts -/
def cmpB : Nat → MV → Bool
  | 0, x => flat x
  | d + 1, x => flat x || match x with
    | .tup xs => xs.all (cmpB d)
    | .lst xs => xs.all (cmpB d)
    | .dic [] => true
    | _ => false
theorem eqF_self : ∀ {x : MV}, flat x = true → eqF x x = true := by
  intro x h
  cases x <;> first | rfl | (simp [eqF]; done) | cases h
theorem deq_self : ∀ (d : Nat) (x : MV), cmpB d x = true → deq d x x = some true
  | 0, x, h => by
    have h : flat x = true := h
    rw [deq_flat h h, eqF_self h]
  | d + 1, x, h => by
    have ih := deq_self d
    have all : ∀ {xs : List MV}, xs.all (cmpB d) = true → all2 (deq d) xs xs = some true := by
      intro xs
      induction xs with
      | nil => intro _; rfl
      | cons y r ih2 =>
        intro h
        rw [List.all_cons, Bool.and_eq_true] at h
        simp only [all2, ih y h.1, ih2 h.2, Bool.and_self]
    by_cases hf : flat x = true
    · rw [deq_flat hf hf, eqF_self hf]
    · unfold cmpB at h
      rw [Bool.not_eq_true] at hf
      rw [hf, Bool.false_or] at h
      unfold deq
      rw [if_neg (by simp [hf])]
      split at h
      · rename_i xs
        simp only [all h, Option.map_some, beq_self_eq_true, Bool.and_self]
      · rename_i xs
        simp only [if_true, all h]
      · rfl
      · cases h
theorem cmp_flat {d : Nat} {v : MV} (h : flat v = true) : cmpB d v = true := by
  cases d with
  | zero => exact h
  | succ d => unfold cmpB; rw [h]; rfl
theorem cmp_at {d : Nat} {v : MV} (h : At v) : cmpB d v = true := by
  refine cmp_flat ?_
  rcases h with ⟨i, rfl⟩ | ⟨z, rfl⟩ <;> rfl
theorem cmp_tup {d : Nat} {xs : List MV} (h : ∀ x ∈ xs, cmpB d x = true) : cmpB (d + 1) (.tup xs) = true := by
  unfold cmpB
  rw [Bool.or_eq_true]
  right
  exact List.all_eq_true.mpr h
theorem cmp_lst {d : Nat} {xs : List MV} (h : ∀ x ∈ xs, cmpB d x = true) : cmpB (d + 1) (.lst xs) = true := by
  unfold cmpB
  rw [Bool.or_eq_true]
  right
  exact List.all_eq_true.mpr h
theorem wp_clearM {o : ME} {env : Env} {S : Sto} {Q : MV → Sto → Prop} {E : MX → Sto → Prop} (h : Wp (o env S) (fun x S1 => ∃ l kvs, x = .ref l ∧ S1[l]? = some (.dic kvs) ∧ Q .non (S1.set l (.dic []))) E) : Wp (mClearD o env S) Q E := by
  unfold mClearD
  refine wp_bind (wp_mono h (fun x S1 q => ?_) fun _ _ z => z)
  obtain ⟨l, kvs, rfl, h1, q⟩ := q
  exact wp_clearD h1 q
end SM
end Mi
namespace Mi
namespace K11
open PySem L2
open Sh hiding b_Gear_deeds m_Gear_deeds b_Gear_init m_Gear_init
noncomputable def b_law_drawn_c1 : ME :=
  (mComp false (mItS (mV 4)) [7] (gN 7) mYes (mTup (mCons (mV 7) (mCons (mCall 2 m_law_next [] (mCons (mV 0) (mCons (mC (.int 3)) mNil))) mNil))))
noncomputable def b_law_drawn_c2 : ME :=
  (mComp false (mItS (mV 5)) [7] (gN 7) mYes (mTup (mCons (mV 7) (mCons (mBin (fAdd false) (mC (.int 1)) (mCall 2 m_law_next [] (mCons (mV 0) (mCons (mC (.int 2)) mNil)))) mNil))))
noncomputable def b_law_drawn : MSt :=
  (sSeq (sSet 1 (mBin fEq (mCall 2 m_law_next [] (mCons (mV 0) (mCons (mC (.int 4)) mNil))) (mC (.int 0))))
  (sSeq (sSet 2 (mCall 3 m_law_names [] (mCons (mV 0) (mCons (mBin (fAdd false) (mC (.int 1)) (mCall 2 m_law_next [] (mCons (mV 0) (mCons (mC (.int 4)) mNil)))) (mCons (mLst false mNil) mNil)))))
  (sSeq (sIf (asT (mV 1)) (sRet (mLst false (mCons (mV 2) (mCons (mLst false mNil) (mCons (mLst false mNil) (mCons (mLst false mNil) mNil)))))) sNext)
  (sSeq (sSet 3 (mCall 3 m_law_names [] (mCons (mV 0) (mCons (mCall 2 m_law_next [] (mCons (mV 0) (mCons (mC (.int 5)) mNil))) (mCons (mV 2) mNil)))))
  (sSeq (sSet 4 (mCall 3 m_law_names [] (mCons (mV 0) (mCons (mCall 2 m_law_next [] (mCons (mV 0) (mCons (mC (.int 7)) mNil))) (mCons (mBin (fAdd false) (mV 2) (mV 3)) mNil)))))
  (sSeq (sSet 5 (mCall 3 m_law_names [] (mCons (mV 0) (mCons (mCall 2 m_law_next [] (mCons (mV 0) (mCons (mC (.int 7)) mNil))) (mCons (mBin (fAdd false) (mBin (fAdd false) (mV 2) (mV 3)) (mV 4)) mNil)))))
  (sSeq (sSet 6 b_law_drawn_c1)
  (sRet (mLst false (mCons (mV 2) (mCons (mV 3) (mCons (mV 6) (mCons b_law_drawn_c2 mNil)))))))))))))
noncomputable def m_law_drawn : List MV → Sto → Res MV := mDef 8 b_law_drawn
noncomputable def b_Gear_init : MSt :=
  (sSeq (sSet 5 (mIf (asB (mIsN (mV 2))) (mLst false mNil) (mV 2)))
  (sSeq (sSet 6 (mIf (asB (mIsN (mV 3))) (mDic0 false) (mV 3)))
  (sSeq (sSet 7 (mIf (asB (mIsN (mV 4))) (mDic0 false) (mV 4)))
  (sSeq (sIf (mOrB (mNotB (asT (mCall 2 (runP m_is_named) [] (mCons (mV 1) (mCons (mC (.int 1)) mNil))))) (mNotB (asT (mCall 2 (runP m_is_named) [] (mCons (mV 5) (mCons (mC (.int 0)) mNil)))))) sBad sNext)
  (sSeq (sIf (mOrB (mNotB (asT (mCall 2 (runP m_is_counted) [] (mCons (mV 6) (mCons (mC (.int 0)) mNil))))) (mNotB (asT (mCall 2 (runP m_is_counted) [] (mCons (mV 7) (mCons (mC (.int 1)) mNil)))))) sBad sNext)
  (sSeq (sSet 8 (mBin (fAdd false) (mBin (fAdd false) (mBin (fAdd false) (mV 1) (mV 5)) (mB (fListA false) (mCons (mV 6) mNil))) (mB (fListA false) (mCons (mV 7) mNil))))
  (sSeq (sIf (mOrB (asB (mBin fNe (mLenOnce (mV 8)) (mB fLen (mCons (mV 8) mNil)))) (mOrB (asB (mBin fIn (mC (.str [112])) (mV 8))) (asB (mBin fIn (mC (.str [113])) (mV 8))))) sBad sNext)
  (sSeq (sFldM 0 "upper" (mV 0) (mB (fListA false) (mCons (mV 1) mNil)))
  (sSeq (sFldM 0 "lower" (mV 0) (mB (fListA false) (mCons (mV 5) mNil)))
  (sSeq (sFldM 0 "makers" (mV 0) (mB (fDict false) (mCons (mV 6) mNil)))
  (sFldM 0 "tellers" (mV 0) (mB (fDict false) (mCons (mV 7) mNil)))))))))))))
noncomputable def m_Gear_init : List MV → Sto → Res MV := mDef 9 b_Gear_init
noncomputable def b_law_made : MSt :=
  (sSeq (sAsg (gT 4 (gCs (gN 4) (gCs (gN 5) (gCs (gN 6) (gCs (gN 7) gNl))))) (mV 2))
  (sSeq (sIf (asB (mBin fEq (mV 1) (mC (.int 0)))) (sRet (mMake false 0 5 m_Gear_init [] (mCons (mV 4) (mCons (mV 5) (mCons (mV 6) (mCons (mV 7) mNil)))))) sNext)
  (sSeq (sIf (asB (mBin fEq (mV 1) (mC (.int 1)))) (sRet (mMakeK false 0 5 m_Gear_init 4 (mCons (mV 7) (mCons (mV 6) (mCons (mV 5) (mCons (mV 4) mNil)))))) sNext)
  (sSeq (sIf (mAndB (asB (mBin fEq (mV 5) (mLst false mNil))) (mAndB (asB (mBin fEqD (mV 6) (mDic0 false))) (asB (mBin fEqD (mV 7) (mDic0 false))))) (sRet (mMake false 0 5 m_Gear_init [.non, .non, .non] (mCons (mV 4) mNil))) sNext)
  (sSeq (sSet 3 (mIf (asB (mBin fEq (mV 5) (mLst false mNil))) (mC .non) (mV 5)))
  (sSeq (sIf (asB (mBin fEqD (mV 7) (mDic0 false))) (sRet (mMake false 0 5 m_Gear_init [.non] (mCons (mV 4) (mCons (mV 3) (mCons (mIf (asB (mBin fEqD (mV 6) (mDic0 false))) (mC .non) (mV 6)) mNil))))) sNext)
  (sRet (mMake false 0 5 m_Gear_init [] (mCons (mV 4) (mCons (mV 3) (mCons (mIf (asB (mBin fEqD (mV 6) (mDic0 false))) (mC .non) (mV 6)) (mCons (mV 7) mNil))))))))))))
noncomputable def m_law_made : List MV → Sto → Res MV := mDef 8 b_law_made
noncomputable def b_law_alike_c1 : ME :=
  (mComp false (mItZ (mCons (mV 0) (mCons (mV 1) mNil))) [2, 3] (gT 2 (gCs (gN 2) (gCs (gN 3) gNl))) mYes (mBin fEq (mV 2) (mV 3)))
noncomputable def b_law_alike : MSt :=
  (sRet (mAndT (mB fIsi (mCons (mV 0) (mCons (mC (.ty "list")) mNil))) (mAndT (mBin fEq (mB fLen (mCons (mV 0) mNil)) (mB fLen (mCons (mV 1) mNil))) (mB fAll (mCons b_law_alike_c1 mNil)))))
noncomputable def m_law_alike : List MV → Sto → Res MV := mDef 4 b_law_alike
noncomputable def b_law_like : MSt :=
  (sRet (mAndT (mB fIsi (mCons (mV 0) (mCons (mC (.ty "dict")) mNil))) (mBin fEq (mItemsL false (mV 0)) (mV 1))))
noncomputable def m_law_like : List MV → Sto → Res MV := mDef 2 b_law_like
noncomputable def b_Gear_told : MSt :=
  (sSeq (sSet 1 (mTup (mCons (mB fTuple (mCons (mFld 0 "upper" (mV 0)) mNil)) (mCons (mB fTuple (mCons (mFld 0 "lower" (mV 0)) mNil)) mNil))))
  (sRet (mBin (fAdd false) (mV 1) (mTup (mCons (mItemsT (mFld 0 "makers" (mV 0))) (mCons (mItemsT (mFld 0 "tellers" (mV 0))) mNil))))))
noncomputable def m_Gear_told : List MV → Sto → Res MV := mDef 2 b_Gear_told
noncomputable def b_Gear_seen : MSt :=
  (sRet (mB (fListA true) (mCons (mFld 0 "upper" (mV 0)) mNil)))
noncomputable def m_Gear_seen : List MV → Sto → Res MV := mDefR 1 b_Gear_seen
noncomputable def b_Gear_hidden : MSt :=
  (sRet (mB (fListA true) (mCons (mFld 0 "lower" (mV 0)) mNil)))
noncomputable def m_Gear_hidden : List MV → Sto → Res MV := mDefR 1 b_Gear_hidden
noncomputable def b_Gear_deeds : MSt :=
  (sRet (mB (fDict true) (mCons (mFld 0 "makers" (mV 0)) mNil)))
noncomputable def m_Gear_deeds : List MV → Sto → Res MV := mDefR 1 b_Gear_deeds
noncomputable def b_Gear_asks : MSt :=
  (sRet (mB (fDict true) (mCons (mFld 0 "tellers" (mV 0)) mNil)))
noncomputable def m_Gear_asks : List MV → Sto → Res MV := mDefR 1 b_Gear_asks
noncomputable def b_Gear_namings_c1 : ME :=
  (mComp false (mItS (mFld 0 "upper" (mV 0))) [6] (gN 6) mYes (mBin (fAdd false) (mV 5) (mTup (mCons (mV 6) mNil))))
noncomputable def b_Gear_namings_l1 : MSt :=
  (sDrop (mBM "list" fExtend (mV 4) (mCons b_Gear_namings_c1 mNil)))
noncomputable def b_Gear_namings_l2 : MSt :=
  (sSeq (sSet 4 (mLst true mNil))
    (sSeq (sFor (mItS (mV 2)) (gN 5) b_Gear_namings_l1)
    (sSet 2 (mV 4))))
noncomputable def b_Gear_namings : MSt :=
  (sSeq (sSet 2 (mLst true (mCons (mTup mNil) mNil)))
  (sSeq (sFor (mItR1 (mCons (mV 1) mNil)) (gN 3) b_Gear_namings_l2)
  (sRet (mV 2))))
noncomputable def m_Gear_namings : List MV → Sto → Res MV := mDefR 7 b_Gear_namings
noncomputable def b_law_right_c1 : ME :=
  (mComp false (mItS (mV 5)) [9] (gN 9) mYes (mTup (mCons (mV 4) (mCons (mV 9) mNil))))
noncomputable def b_law_right_l1 : MSt :=
  (sSet 3 (mBin (fAdd false) (mV 3) b_law_right_c1))
noncomputable def b_law_right_c2 : ME :=
  (mComp false (mItS (mV 5)) [4] (gN 4) mYes (mTup (mCons (mV 4) mNil)))
noncomputable def b_law_right : MSt :=
  (sSeq (sAsg (gT 4 (gCs (gN 5) (gCs (gN 6) (gCs (gN 7) (gCs (gN 8) gNl))))) (mV 1))
  (sSeq (sIf (mAndB (asB (mBin fEq (mV 2) (mC (.int 1)))) (asB (mBin fNe (mMeth 0 1 "told" m_Gear_told [] (mV 0) mNil) (mTup (mCons (mB fTuple (mCons (mV 5) mNil)) (mCons (mB fTuple (mCons (mV 6) mNil)) (mCons (mB fTuple (mCons (mV 7) mNil)) (mCons (mB fTuple (mCons (mV 8) mNil)) mNil)))))))) (sRet (mC (.bl false))) sNext)
  (sSeq (sIf (mOrB (mNotB (asT (mCall 2 m_law_alike [] (mCons (mMeth 0 1 "seen" m_Gear_seen [] (mV 0) mNil) (mCons (mV 5) mNil))))) (mNotB (asT (mCall 2 m_law_alike [] (mCons (mMeth 0 1 "hidden" m_Gear_hidden [] (mV 0) mNil) (mCons (mV 6) mNil)))))) (sRet (mC (.bl false))) sNext)
  (sSeq (sIf (mOrB (mNotB (asT (mCall 2 m_law_like [] (mCons (mMeth 0 1 "deeds" m_Gear_deeds [] (mV 0) mNil) (mCons (mV 7) mNil))))) (mNotB (asT (mCall 2 m_law_like [] (mCons (mMeth 0 1 "asks" m_Gear_asks [] (mV 0) mNil) (mCons (mV 8) mNil)))))) (sRet (mC (.bl false))) sNext)
  (sSeq (sSet 3 (mLst false mNil))
  (sSeq (sFor (mItS (mV 5)) (gN 4) b_law_right_l1)
  (sSeq (sIf (mOrB (mNotB (asT (mCall 2 m_law_alike [] (mCons (mMeth 0 2 "namings" m_Gear_namings [] (mV 0) (mCons (mC (.int 1)) mNil)) (mCons b_law_right_c2 mNil))))) (mNotB (asT (mCall 2 m_law_alike [] (mCons (mMeth 0 2 "namings" m_Gear_namings [] (mV 0) (mCons (mC (.int 2)) mNil)) (mCons (mV 3) mNil)))))) (sRet (mC (.bl false))) sNext)
  (sSeq (sIf (mNotB (asT (mCall 2 m_law_alike [] (mCons (mMeth 0 2 "namings" m_Gear_namings [] (mV 0) (mCons (mC (.int 0)) mNil)) (mCons (mLst false (mCons (mTup mNil) mNil)) mNil))))) (sRet (mC (.bl false))) sNext)
  (sRet (mBin fEq (mMeth 0 1 "told" m_Gear_told [] (mV 0) mNil) (mTup (mCons (mB fTuple (mCons (mV 5) mNil)) (mCons (mB fTuple (mCons (mV 6) mNil)) (mCons (mB fTuple (mCons (mV 7) mNil)) (mCons (mB fTuple (mCons (mV 8) mNil)) mNil)))))))))))))))
noncomputable def m_law_right : List MV → Sto → Res MV := mDef 10 b_law_right
noncomputable def b_law_changed_l1 : MSt :=
  (sSeq (sDrop (mBM "list" fReverse (mV 2) mNil))
    (sDrop (mBM "list" fAppend (mV 2) (mCons (mC (.str [122, 122])) mNil))))
noncomputable def b_law_changed_l2 : MSt :=
  (sSeq (sDrop (mClearD (mV 2)))
    (sDPutM (mV 2) (mC (.str [122, 122])) (mC (.int 1))))
noncomputable def b_law_changed : MSt :=
  (sSeq (sFor (mItS (mTup (mCons (mBin fIx (mV 0) (mC (.int 0))) (mCons (mBin fIx (mV 0) (mC (.int 1))) (mCons (mMeth 0 1 "seen" m_Gear_seen [] (mV 1) mNil) (mCons (mMeth 0 1 "hidden" m_Gear_hidden [] (mV 1) mNil) (mCons (mMeth 0 2 "namings" m_Gear_namings [] (mV 1) (mCons (mC (.int 1)) mNil)) (mCons (mMeth 0 2 "namings" m_Gear_namings [] (mV 1) (mCons (mC (.int 2)) mNil)) mNil)))))))) (gN 2) b_law_changed_l1)
  (sFor (mItS (mTup (mCons (mBin fIx (mV 0) (mC (.int 2))) (mCons (mBin fIx (mV 0) (mC (.int 3))) (mCons (mMeth 0 1 "deeds" m_Gear_deeds [] (mV 1) mNil) (mCons (mMeth 0 1 "asks" m_Gear_asks [] (mV 1) mNil) mNil)))))) (gN 2) b_law_changed_l2))
noncomputable def m_law_changed : List MV → Sto → Res MV := mDef 3 b_law_changed
noncomputable def b_law_c1 : ME :=
  (mComp false (mItS (mSl false (mV 1) (mPart (mNeg (mC (.int 3)))) mNoPart)) [10, 11, 12] (gT 3 (gCs (gN 10) (gCs (gN 11) (gCs (gN 12) gNl)))) mYes (mCall 3 m_law_right [] (mCons (mV 10) (mCons (mV 11) (mCons (mV 12) mNil)))))
noncomputable def b_law_l1 : MSt :=
  (sSeq (sSet 4 (mCall 2 m_law_begun [] (mCons (mV 3) (mCons (mV 2) mNil))))
    (sSeq (sPar 8 9 (mCall 2 m_law_next [] (mCons (mV 4) (mCons (mC (.int 3)) mNil))) (mCall 2 m_law_next [] (mCons (mV 4) (mCons (mC (.int 2)) mNil))))
    (sSeq (sSet 5 (mCall 1 m_law_drawn [] (mCons (mV 4) mNil)))
    (sSeq (sSet 6 (mTup (mCons (mB (fListA true) (mCons (mBin fIx (mV 5) (mC (.int 0))) mNil)) (mCons (mB (fListA true) (mCons (mBin fIx (mV 5) (mC (.int 1))) mNil)) (mCons (mB (fDict true) (mCons (mBin fIx (mV 5) (mC (.int 2))) mNil)) (mCons (mB (fDict true) (mCons (mBin fIx (mV 5) (mC (.int 3))) mNil)) mNil))))))
    (sSeq (sSet 7 (mCall 3 m_law_made [] (mCons (mV 5) (mCons (mV 8) (mCons (mV 6) mNil)))))
    (sSeq (sIf (mOrB (asB (mBin fNeP (mV 6) (mTup (mCons (mBin fIx (mV 5) (mC (.int 0))) (mCons (mBin fIx (mV 5) (mC (.int 1))) (mCons (mB (fDict false) (mCons (mBin fIx (mV 5) (mC (.int 2))) mNil)) (mCons (mB (fDict false) (mCons (mBin fIx (mV 5) (mC (.int 3))) mNil)) mNil))))))) (mNotB (asT (mCall 3 m_law_right [] (mCons (mV 7) (mCons (mV 5) (mCons (mV 9) mNil))))))) (sRet (mC (.bl false))) sNext)
    (sSeq (sDrop (mCall 2 m_law_changed [] (mCons (mV 6) (mCons (mV 7) mNil))))
    (sSeq (sDrop (mBM "list" fAppend (mV 1) (mCons (mTup (mCons (mV 7) (mCons (mV 5) (mCons (mBin fSub (mC (.int 1)) (mV 9)) mNil)))) mNil)))
    (sIf (mNotB (asT (mB fAll (mCons b_law_c1 mNil)))) (sRet (mC (.bl false))) sNext)))))))))
noncomputable def b_law_c2 : ME :=
  (mComp false (mItS (mV 1)) [7, 5, 9] (gT 3 (gCs (gN 7) (gCs (gN 5) (gCs (gN 9) gNl)))) mYes (mCall 3 m_law_right [] (mCons (mV 7) (mCons (mV 5) (mCons (mV 9) mNil)))))
noncomputable def b_law : MSt :=
  (sSeq (sSet 1 (mLst true mNil))
  (sSeq (sFor (mItE (mCons (mSl false (mOrT (mV 0) (mLst false (mCons (mC (.int 5)) mNil))) mNoPart (mPart (mC (.int 12)))) mNil)) (gT 2 (gCs (gN 2) (gCs (gN 3) gNl))) b_law_l1)
  (sRet (mB fAll (mCons b_law_c2 mNil)))))
noncomputable def m_law : List MV → Sto → Res MV := mDef 13 b_law
end K11
end Mi
namespace Mi
namespace K11
open PySem L2
open Sh hiding b_Gear_deeds m_Gear_deeds b_Gear_init m_Gear_init
def top (i : Nat) : Stmt := PySem.Challenge.pw_underrows_k11_gears_told.main.body.getD i (.Pass ⟨0, 0, 0, 0⟩)
abbrev s_law_begun : Stmt := top 10
abbrev s_law_next : Stmt := top 11
abbrev s_law_pick : Stmt := top 12
abbrev s_law_name : Stmt := top 13
abbrev s_law_names : Stmt := top 14
abbrev s_law_drawn : Stmt := top 15
abbrev s_is_name : Stmt := top 4
abbrev s_is_named : Stmt := top 6
abbrev s_is_number : Stmt := top 5
abbrev s_is_counted : Stmt := top 7
abbrev s_Gear_init : Stmt := inClass (top 8) 0
abbrev s_law_made : Stmt := top 16
abbrev s_law_alike : Stmt := top 17
abbrev s_law_like : Stmt := top 18
abbrev s_Gear_told : Stmt := inClass (top 8) 5
abbrev s_Gear_seen : Stmt := inClass (top 8) 1
abbrev s_Gear_hidden : Stmt := inClass (top 8) 2
abbrev s_Gear_deeds : Stmt := inClass (top 8) 3
abbrev s_Gear_asks : Stmt := inClass (top 8) 4
abbrev s_Gear_namings : Stmt := inClass (top 8) 6
abbrev s_law_right : Stmt := top 19
abbrev s_law_changed : Stmt := top 20
abbrev s_law : Stmt := top 21
section
variable {P : Program} {w : World} {C : Ct} {mg : Str → Option Value} {base : Heap}
theorem sc_law_begun : FnScope ["_law_cell", "_law_k"] ["_law_cell", "_law_k"] (defScope s_law_begun) := ⟨rfl, rfl, rfl, by decide +kernel, rfl, by decide +kernel, by decide +kernel⟩
theorem ok_law_begun {f : Addr} {fd : FuncData} (F : Fun C.K "_law_begun" "_law_begun" s_law_begun f fd) (HW : w = C.w) (z_max : mg "max" = none) : FnOk P w C.K mg base (L2.CX P w) 1 f fd ["_law_cell", "_law_k"] (spM C 2 m_law_begun) := by
  refine def_ok (N := ["_law_cell", "_law_k"]) (n := 2) (b := b_law_begun) (k := 0) F sc_law_begun (.inr rfl) ?_
  intro cdv A outer s H E E₁ X hX hr
  have B := bx_of hX rfl hr HW
  subst hX
  exact (js_one (js_ret (je_lst true (ja_cons (je_b (call_max2' B.calm) cm_max2 z_max (by decide +kernel) (ja_cons je_int (ja_cons (je_op op_sub opm_sub (je_v 0) (je_op op_powW opm_pow je_int je_int)) ja_nil))) (ja_cons (je_op op_addM (opm_add false) (je_v 0) (je_op op_mulM (opm_mul false) je_int (je_v 1))) (ja_cons je_int ja_nil))))))
theorem sc_law_next : FnScope ["_law_draw", "_law_size", "_law_found"] ["_law_draw", "_law_size"] (defScope s_law_next) := ⟨rfl, rfl, rfl, by decide +kernel, rfl, by decide +kernel, by decide +kernel⟩
theorem ok_law_next {f : Addr} {fd : FuncData} (F : Fun C.K "_law_next" "_law_next" s_law_next f fd) (HW : w = C.w) : FnOk P w C.K mg base (L2.CX P w) 1 f fd ["_law_draw", "_law_size"] (spM C 2 m_law_next) := by
  refine def_ok (N := ["_law_draw", "_law_size", "_law_found"]) (n := 3) (b := b_law_next) (k := 0) F sc_law_next (.inl rfl) ?_
  intro cdv A outer s H E E₁ X hX hr
  have B := bx_of hX rfl hr HW
  subst hX
  exact (js_cons (js_if (jt_cmp op_gtM opm_gt (je_ix B (je_v 0) je_int) je_int (nomark _)) (js_cons (js_set (i := 2) sc_law_next.nd (je_op op_mod opm_mod (je_ix B (je_v 0) je_int) (je_v 1)))
    (js_cons (js_sub (je_v 0) je_int (je_op op_fdivW opm_div (je_ix B (je_v 0) je_int) (je_v 1)))
    (js_one (js_ret (je_v 2))))) js_nil)
  (js_cons (js_sub (je_v 0) je_int (je_op op_addM (opm_add false) (je_ix B (je_v 0) je_int) je_int))
  (js_cons (js_set (i := 2) sc_law_next.nd (je_op op_addM (opm_add false) (je_op op_mod opm_mod (je_ix B (je_v 0) je_int) je_int) (je_op op_mulM (opm_mul false) je_int (je_ix B (je_v 0) je_int))))
  (js_cons (js_set (i := 2) sc_law_next.nd (je_op op_mulM (opm_mul false) (je_v 2) (je_op op_addM (opm_add false) (je_op op_addM (opm_add false) (je_op op_mod opm_mod (je_ix B (je_v 0) je_int) je_int) (je_op op_mulM (opm_mul false) (je_op op_mulM (opm_mul false) je_int (je_ix B (je_v 0) je_int)) (je_ix B (je_v 0) je_int))) je_int)))
  (js_one (js_ret (je_op op_mod opm_mod (je_op op_fdivW opm_div (je_op op_mod opm_mod (je_op op_powW opm_pow (je_v 2) je_int) je_int) je_int) (je_v 1))))))))
theorem sc_law_pick : FnScope ["_law_draw", "_law_some"] ["_law_draw", "_law_some"] (defScope s_law_pick) := ⟨rfl, rfl, rfl, by decide +kernel, rfl, by decide +kernel, by decide +kernel⟩
theorem ok_law_pick {f : Addr} {fd : FuncData} (F : Fun C.K "_law_pick" "_law_pick" s_law_pick f fd) (HW : w = C.w) (z_len : mg "len" = none) (G_law_next : FnIn P w C mg base "_law_next" 1 2 m_law_next []) : FnOk P w C.K mg base (L2.CX P w) 2 f fd ["_law_draw", "_law_some"] (spM C 2 m_law_pick) := by
  refine def_ok (N := ["_law_draw", "_law_some"]) (n := 2) (b := b_law_pick) (k := 1) F sc_law_pick (.inl rfl) ?_
  intro cdv A outer s H E E₁ X hX hr
  have B := bx_of hX rfl hr HW
  subst hX
  exact (js_one (js_ret (je_ix B (je_v 1) (je_f B G_law_next (ja_cons (je_v 0) (ja_cons (je_b call_lenM cm_len z_len (by decide +kernel) (ja_cons (je_v 1) ja_nil)) ja_nil))))))
theorem sc_law_name : FnScope ["_law_draw", "_law_found", "_law_own", "_law_name_here", "_law_k", "_law_sign"] ["_law_draw", "_law_found"] (defScope s_law_name) := ⟨rfl, rfl, rfl, by decide +kernel, rfl, by decide +kernel, by decide +kernel⟩
theorem ok_law_name {f : Addr} {fd : FuncData} (F : Fun C.K "_law_name" "_law_name" s_law_name f fd) (HW : w = C.w) (z_range : mg "range" = none) (G_law_next : FnIn P w C mg base "_law_next" 1 2 m_law_next []) (G_law_pick : FnIn P w C mg base "_law_pick" 2 2 m_law_pick []) : FnOk P w C.K mg base (L2.CX P w) 3 f fd ["_law_draw", "_law_found"] (spM C 2 m_law_name) := by
  refine def_ok (N := ["_law_draw", "_law_found", "_law_own", "_law_name_here", "_law_k", "_law_sign"]) (n := 6) (b := b_law_name) (k := 2) F sc_law_name (.inl rfl) ?_
  intro cdv A outer s H E E₁ X hX hr
  have B := bx_of hX rfl hr HW
  subst hX
  exact (js_cons (js_set (i := 2) sc_law_name.nd (je_str [97, 115, 107, 32, 112, 117, 116, 32, 111, 110, 32, 116, 111, 32, 115, 116, 111, 112, 32, 115, 101, 101, 110, 32, 104, 105, 100, 100, 101, 110, 32, 100, 101, 101, 100, 32, 100, 111, 32, 105, 102, 32, 116, 104, 101, 110, 32, 101, 108, 115, 101, 32, 111, 112, 32, 109, 101, 97, 110, 115, 32, 106, 117, 109, 112, 32, 109, 111, 118, 101, 32, 110, 111, 110, 101, 32, 99, 97, 115, 101, 32, 98, 101, 108, 108, 32, 103, 111, 101, 115]))
  (js_cons (js_if (jt_cmp (op_eqM B.hK B.u64) opm_eq (je_f B G_law_next (ja_cons (je_v 0) (ja_cons je_int ja_nil))) je_int (nomark _)) (js_one (js_set (i := 3) sc_law_name.nd (je_f B G_law_pick (ja_cons (je_v 0) (ja_cons (je_bm B.hK PySem.F.plainAttrs_str PySem.F.slot_str_split PySem.F.type_str_split mt_splitM (mm_split false) (je_v 2) (ja_cons (je_str [32]) ja_nil)) ja_nil))))) (js_one (js_set (i := 3) sc_law_name.nd (je_bm B.hK PySem.F.plainAttrs_str PySem.F.slot_str_join PySem.F.type_str_join mt_joinM mm_join (je_str []) (ja_cons (je_lc false (ws := [4]) B sc_law_name.nd (ji_range1 (hm := z_range) (ha := (ja_cons (je_op op_addM (opm_add false) je_int (je_f B G_law_next (ja_cons (je_v 0) (ja_cons je_int ja_nil)))) ja_nil))) (blkOk_by (own := [("_law_k", 4)]) (by kernel_rfl)) (fun Y BY eN ⟨s, H, A, cl, fp, eY⟩ => by subst eY; exact (jg_n (i := 4) sc_law_name.nd)) (fun s H A cl fp B1 => jts_nil) (fun s H A cl fp B1 => (je_f B1 G_law_pick (ja_cons (je_v 0) (ja_cons (je_str [101, 116, 97, 111, 105, 110, 115, 104, 114, 100, 108, 99, 117, 109, 119, 102, 103, 121, 112, 98, 118, 107, 106, 120, 113, 122]) ja_nil))))) ja_nil)))))
  (js_cons (js_if (jw_or (jt_cmp (op_inM B.u1) opm_in (je_v 3) (je_v 1) rfl) (jw_one_or (jt_cmp (op_inM B.u1) opm_in (je_v 3) (je_tup (ja_cons (je_str [112]) (ja_cons (je_str [113]) ja_nil))) rfl))).pt (js_one (js_set (i := 3) sc_law_name.nd (je_ix B (je_lc false (ws := [5]) B sc_law_name.nd (ji_str (je_str [97, 98, 99, 100, 101, 102, 103, 104, 105, 106, 107, 108, 109, 110, 111, 112, 113, 114, 115, 116, 117, 118, 119, 120, 121, 122])) (blkOk_by (own := [("_law_sign", 5)]) (by kernel_rfl)) (fun Y BY eN ⟨s, H, A, cl, fp, eY⟩ => by subst eY; exact (jg_n (i := 5) sc_law_name.nd)) (fun s H A cl fp B2 => (jts_one (jt_cmp (op_notInM B2.u1) opm_notIn (je_op op_addM (opm_add false) (je_sl false B2.hK (je_v 3) jo_none (jo_some je_int)) (je_v 5)) (je_v 1) rfl))) (fun s H A cl fp B2 => (je_op op_addM (opm_add false) (je_sl false B2.hK (je_v 3) jo_none (jo_some je_int)) (je_v 5)))) je_int))) js_nil)
  (js_one (js_ret (je_v 3))))))
theorem sc_law_names : FnScope ["_law_draw", "_law_many", "_law_found", "_law_some", "_law_k"] ["_law_draw", "_law_many", "_law_found"] (defScope s_law_names) := ⟨rfl, rfl, rfl, by decide +kernel, rfl, by decide +kernel, by decide +kernel⟩
theorem ok_law_names {f : Addr} {fd : FuncData} (F : Fun C.K "_law_names" "_law_names" s_law_names f fd) (HW : w = C.w) (z_range : mg "range" = none) (G_law_name : FnIn P w C mg base "_law_name" 3 2 m_law_name []) : FnOk P w C.K mg base (L2.CX P w) 4 f fd ["_law_draw", "_law_many", "_law_found"] (spM C 3 m_law_names) := by
  refine def_ok (N := ["_law_draw", "_law_many", "_law_found", "_law_some", "_law_k"]) (n := 5) (b := b_law_names) (k := 3) F sc_law_names (.inl rfl) ?_
  intro cdv A outer s H E E₁ X hX hr
  have B := bx_of hX rfl hr HW
  subst hX
  exact (js_cons (js_set (i := 3) sc_law_names.nd (je_lst true ja_nil))
  (js_cons (js_for B.own B.calm (ji_range1 (hm := z_range) (ha := (ja_cons (je_v 1) ja_nil))) (jg_n (i := 4) sc_law_names.nd) (js_one (js_expr (je_bm B.hK PySem.F.plainAttrs_list PySem.F.slot_list_append PySem.F.type_list_append mt_append mm_append (je_v 3) (ja_cons (je_f B G_law_name (ja_cons (je_v 0) (ja_cons (je_op op_addM (opm_add false) (je_v 2) (je_v 3)) ja_nil))) ja_nil)))))
  (js_one (js_ret (je_v 3)))))
theorem sc_law_drawn : FnScope ["_law_draw", "_law_bare", "_law_upper", "_law_lower", "_law_does", "_law_tells", "_law_pairs", "_law_name_here"] ["_law_draw"] (defScope s_law_drawn) := ⟨rfl, rfl, rfl, by decide +kernel, rfl, by decide +kernel, by decide +kernel⟩
theorem ok_law_drawn {f : Addr} {fd : FuncData} (F : Fun C.K "_law_drawn" "_law_drawn" s_law_drawn f fd) (HW : w = C.w) (G_law_next : FnIn P w C mg base "_law_next" 1 2 m_law_next []) (G_law_names : FnIn P w C mg base "_law_names" 4 3 m_law_names []) : FnOk P w C.K mg base (L2.CX P w) 5 f fd ["_law_draw"] (spM C 1 m_law_drawn) := by
  refine def_ok (N := ["_law_draw", "_law_bare", "_law_upper", "_law_lower", "_law_does", "_law_tells", "_law_pairs", "_law_name_here"]) (n := 8) (b := b_law_drawn) (k := 4) F sc_law_drawn (.inl rfl) ?_
  intro cdv A outer s H E E₁ X hX hr
  have B := bx_of hX rfl hr HW
  subst hX
  exact (js_cons (js_set (i := 1) sc_law_drawn.nd (je_cmp (op_eqM B.hK B.u64) opm_eq (je_f B G_law_next (ja_cons (je_v 0) (ja_cons je_int ja_nil))) je_int (nomark _)))
  (js_cons (js_set (i := 2) sc_law_drawn.nd (je_f B G_law_names (ja_cons (je_v 0) (ja_cons (je_op op_addM (opm_add false) je_int (je_f B G_law_next (ja_cons (je_v 0) (ja_cons je_int ja_nil)))) (ja_cons (je_lst false ja_nil) ja_nil)))))
  (js_cons (js_if (jt_tru B.hK (je_v 1)) (js_one (js_ret (je_lst false (ja_cons (je_v 2) (ja_cons (je_lst false ja_nil) (ja_cons (je_lst false ja_nil) (ja_cons (je_lst false ja_nil) ja_nil))))))) js_nil)
  (js_cons (js_set (i := 3) sc_law_drawn.nd (je_f B G_law_names (ja_cons (je_v 0) (ja_cons (je_f B G_law_next (ja_cons (je_v 0) (ja_cons je_int ja_nil))) (ja_cons (je_v 2) ja_nil)))))
  (js_cons (js_set (i := 4) sc_law_drawn.nd (je_f B G_law_names (ja_cons (je_v 0) (ja_cons (je_f B G_law_next (ja_cons (je_v 0) (ja_cons je_int ja_nil))) (ja_cons (je_op op_addM (opm_add false) (je_v 2) (je_v 3)) ja_nil)))))
  (js_cons (js_set (i := 5) sc_law_drawn.nd (je_f B G_law_names (ja_cons (je_v 0) (ja_cons (je_f B G_law_next (ja_cons (je_v 0) (ja_cons je_int ja_nil))) (ja_cons (je_op op_addM (opm_add false) (je_op op_addM (opm_add false) (je_v 2) (je_v 3)) (je_v 4)) ja_nil)))))
  (js_cons (js_setLc false (i := 6) (ws := [7]) B sc_law_drawn.nd (ji_seq B.hK (je_v 4)) (blkOk_by (own := [("_law_name_here", 7)]) (by kernel_rfl)) (fun Y BY eN ⟨s, H, A, cl, fp, eY⟩ => by subst eY; exact (jg_n (i := 7) sc_law_drawn.nd)) (fun s H A cl fp B1 => jts_nil) (fun s H A cl fp B1 => (je_tup (ja_cons (je_v 7) (ja_cons (je_f B1 G_law_next (ja_cons (je_v 0) (ja_cons je_int ja_nil))) ja_nil)))))
  (js_one (js_ret (je_lst false (ja_cons (je_v 2) (ja_cons (je_v 3) (ja_cons (je_v 6) (ja_cons (je_lc false (ws := [7]) B sc_law_drawn.nd (ji_seq B.hK (je_v 5)) (blkOk_by (own := [("_law_name_here", 7)]) (by kernel_rfl)) (fun Y BY eN ⟨s, H, A, cl, fp, eY⟩ => by subst eY; exact (jg_n (i := 7) sc_law_drawn.nd)) (fun s H A cl fp B2 => jts_nil) (fun s H A cl fp B2 => (je_tup (ja_cons (je_v 7) (ja_cons (je_op op_addM (opm_add false) je_int (je_f B2 G_law_next (ja_cons (je_v 0) (ja_cons je_int ja_nil)))) ja_nil))))) ja_nil))))))))))))))
theorem sc_is_name : FnScope ["text", "sign"] ["text"] (defScope s_is_name) := ⟨rfl, rfl, rfl, by decide +kernel, rfl, by decide +kernel, by decide +kernel⟩
theorem ok_is_name {f : Addr} {fd : FuncData} (F : Fun C.K "is_name" "is_name" s_is_name f fd) (HW : w = C.w) (z_str : mg "str" = none) (z_isinstance : mg "isinstance" = none) (z_len : mg "len" = none) (z_all : mg "all" = none) : FnOk P w C.K mg base (L2.CX P w) 1 f fd ["text"] (spM C 1 m_is_name) := by
  refine def_ok (N := ["text", "sign"]) (n := 2) (b := b_is_name) (k := 0) F sc_is_name (.inl rfl) ?_
  intro cdv A outer s H E E₁ X hX hr
  have B := bx_of hX rfl hr HW
  subst hX
  exact (js_cons (js_if (jw_or (jt_not (jt_tru B.hK (je_b call_isi cm_isi z_isinstance (by decide +kernel) (ja_cons (je_v 0) (ja_cons (je_tyv z_str (by decide +kernel)) ja_nil))))) (jw_one_or (jt_not (jt_chain op_leM opm_le op_leM opm_le je_int (je_b call_lenM cm_len z_len (by decide +kernel) (ja_cons (je_v 0) ja_nil)) je_int)))).pt (js_one (js_ret je_bl)) js_nil)
  (js_one (js_ret (je_b (cr_all B.calm) cm_all z_all (by decide +kernel) (ja_cons (je_lc false (ws := [1]) B sc_is_name.nd (ji_str (je_v 0)) (blkOk_by (own := [("sign", 1)]) (by kernel_rfl)) (fun Y BY eN ⟨s, H, A, cl, fp, eY⟩ => by subst eY; exact (jg_n (i := 1) sc_is_name.nd)) (fun s H A cl fp B1 => jts_nil) (fun s H A cl fp B1 => (je_cmp (op_inM B1.u1) opm_in (je_v 1) (je_str [97, 98, 99, 100, 101, 102, 103, 104, 105, 106, 107, 108, 109, 110, 111, 112, 113, 114, 115, 116, 117, 118, 119, 120, 121, 122]) rfl))) ja_nil)))))
theorem sc_is_named : FnScope ["some", "least", "name"] ["some", "least"] (defScope s_is_named) := ⟨rfl, rfl, rfl, by decide +kernel, rfl, by decide +kernel, by decide +kernel⟩
theorem ok_is_named {f : Addr} {fd : FuncData} (F : Fun C.K "is_named" "is_named" s_is_named f fd) (HW : w = C.w) (z_list : mg "list" = none) (z_isinstance : mg "isinstance" = none) (z_len : mg "len" = none) (z_all : mg "all" = none) (G_is_name : FnIn P w C mg base "is_name" 1 1 m_is_name []) : FnOk P w C.K mg base (L2.CX P w) 2 f fd ["some", "least"] (spM C 2 m_is_named) := by
  refine def_ok (N := ["some", "least", "name"]) (n := 3) (b := b_is_named) (k := 1) F sc_is_named (.inl rfl) ?_
  intro cdv A outer s H E E₁ X hX hr
  have B := bx_of hX rfl hr HW
  subst hX
  exact (js_cons (js_if (jw_or (jt_not (jt_tru B.hK (je_b call_isi cm_isi z_isinstance (by decide +kernel) (ja_cons (je_v 0) (ja_cons (je_tyv z_list (by decide +kernel)) ja_nil))))) (jw_one_or (jt_not (jt_chain op_leM opm_le op_leM opm_le (je_v 1) (je_b call_lenM cm_len z_len (by decide +kernel) (ja_cons (je_v 0) ja_nil)) je_int)))).pt (js_one (js_ret je_bl)) js_nil)
  (js_one (js_ret (je_b (cr_all B.calm) cm_all z_all (by decide +kernel) (ja_cons (je_lc false (ws := [2]) B sc_is_named.nd (ji_seq B.hK (je_v 0)) (blkOk_by (own := [("name", 2)]) (by kernel_rfl)) (fun Y BY eN ⟨s, H, A, cl, fp, eY⟩ => by subst eY; exact (jg_n (i := 2) sc_is_named.nd)) (fun s H A cl fp B1 => jts_nil) (fun s H A cl fp B1 => (je_f B1 G_is_name (ja_cons (je_v 2) ja_nil)))) ja_nil)))))
theorem sc_is_number : FnScope ["thing", "least", "most"] ["thing", "least", "most"] (defScope s_is_number) := ⟨rfl, rfl, rfl, by decide +kernel, rfl, by decide +kernel, by decide +kernel⟩
theorem ok_is_number {f : Addr} {fd : FuncData} (F : Fun C.K "is_number" "is_number" s_is_number f fd) (HW : w = C.w) (z_int : mg "int" = none) (z_isinstance : mg "isinstance" = none) (z_bool : mg "bool" = none) : FnOk P w C.K mg base (L2.CX P w) 1 f fd ["thing", "least", "most"] (spM C 3 m_is_number) := by
  refine def_ok (N := ["thing", "least", "most"]) (n := 3) (b := b_is_number) (k := 0) F sc_is_number (.inl rfl) ?_
  intro cdv A outer s H E E₁ X hX hr
  have B := bx_of hX rfl hr HW
  subst hX
  exact (js_one (js_ret (je_andT B.hK (je_b call_isi cm_isi z_isinstance (by decide +kernel) (ja_cons (je_v 0) (ja_cons (je_tyv z_int (by decide +kernel)) ja_nil))) (je_andT B.hK (je_notT B.hK (je_b call_isi cm_isi z_isinstance (by decide +kernel) (ja_cons (je_v 0) (ja_cons (je_tyv z_bool (by decide +kernel)) ja_nil)))) (pe_one (je_chain op_leM opm_le op_leM opm_le (je_v 1) (je_v 0) (je_v 2)))))))
theorem sc_is_counted : FnScope ["some", "least", "name", "many"] ["some", "least"] (defScope s_is_counted) := ⟨rfl, rfl, rfl, by decide +kernel, rfl, by decide +kernel, by decide +kernel⟩
theorem ok_is_counted {f : Addr} {fd : FuncData} (F : Fun C.K "is_counted" "is_counted" s_is_counted f fd) (HW : w = C.w) (z_dict : mg "dict" = none) (z_isinstance : mg "isinstance" = none) (z_len : mg "len" = none) (z_all : mg "all" = none) (G_is_name : FnIn P w C mg base "is_name" 1 1 m_is_name []) (G_is_number : FnIn P w C mg base "is_number" 1 3 m_is_number []) : FnOk P w C.K mg base (L2.CX P w) 2 f fd ["some", "least"] (spM C 2 m_is_counted) := by
  refine def_ok (N := ["some", "least", "name", "many"]) (n := 4) (b := b_is_counted) (k := 1) F sc_is_counted (.inl rfl) ?_
  intro cdv A outer s H E E₁ X hX hr
  have B := bx_of hX rfl hr HW
  subst hX
  exact (js_cons (js_if (jw_or (jt_not (jt_tru B.hK (je_b call_isi cm_isi z_isinstance (by decide +kernel) (ja_cons (je_v 0) (ja_cons (je_tyv z_dict (by decide +kernel)) ja_nil))))) (jw_one_or (jt_cmp op_gtM opm_gt (je_b call_lenM cm_len z_len (by decide +kernel) (ja_cons (je_v 0) ja_nil)) je_int (nomark _)))).pt (js_one (js_ret je_bl)) js_nil)
  (js_one (js_ret (je_b (cr_all B.calm) cm_all z_all (by decide +kernel) (ja_cons (je_lcItems false (i := 0) B sc_is_counted.nd (blkOk_by (own := [("name", 2), ("many", 3)]) (by kernel_rfl)) (fun Y BY eN ⟨s, H, A, cl, fp, eY⟩ => by subst eY; exact (jg_t BY.hK BY.calm (jgs_cons (jg_n (i := 2) sc_is_counted.nd) (jgs_cons (jg_n (i := 3) sc_is_counted.nd) jgs_nil)))) (fun s H A cl fp B1 => jts_nil) (fun s H A cl fp B1 => (je_andT B1.hK (je_f B1 G_is_name (ja_cons (je_v 2) ja_nil)) (pe_one (je_f B1 G_is_number (ja_cons (je_v 3) (ja_cons (je_v 1) (ja_cons je_int ja_nil)))))))) ja_nil)))))
theorem sc_Gear_init : FnScope ["self", "seen", "hidden", "deeds", "asks", "below", "does", "tells", "every"] ["self", "seen", "hidden", "deeds", "asks"] (defScope s_Gear_init) := ⟨rfl, rfl, rfl, by decide +kernel, rfl, by decide +kernel, by decide +kernel⟩
theorem ok_Gear_init {f : Addr} {fd : FuncData} (F : FunD C.K "__init__" "Gear.__init__" (defArgs s_Gear_init) (defBody s_Gear_init) (defScope s_Gear_init) [V.non, V.non, V.non] [] f fd) (HW : w = C.w) (z_list : mg "list" = none) (z_len : mg "len" = none) (z_set : mg "set" = none) (z_dict : mg "dict" = none) (F_upper : FldIn C 0 "upper") (F_lower : FldIn C 0 "lower") (F_makers : FldIn C 0 "makers") (F_tellers : FldIn C 0 "tellers") (HDX : C.dx = none) (G_is_named : FnIn P w C mg base "is_named" 2 2 m_is_named []) (G_is_counted : FnIn P w C mg base "is_counted" 2 2 m_is_counted []) : FnOk P w C.K mg base (L2.CX P w) 3 f fd ["self", "seen", "hidden", "deeds", "asks"] (spM C 5 m_Gear_init) := by
  refine def_okD (N := ["self", "seen", "hidden", "deeds", "asks", "below", "does", "tells", "every"]) (n := 9) (b := b_Gear_init) (k := 2) F sc_Gear_init (.inl rfl) ?_
  intro cdv A outer s H E X hX hr
  have B := bx_of hX rfl hr HW
  subst hX
  exact (js_cons (js_set (i := 5) sc_Gear_init.nd (je_if (jt_isN (je_v 2)) (je_lst false ja_nil) (je_v 2)))
  (js_cons (js_set (i := 6) sc_Gear_init.nd (je_if (jt_isN (je_v 3)) (je_dic0 false) (je_v 3)))
  (js_cons (js_set (i := 7) sc_Gear_init.nd (je_if (jt_isN (je_v 4)) (je_dic0 false) (je_v 4)))
  (js_cons (js_if (jw_or (jt_not (jt_tru B.hK (je_f B (FnIn.frz HDX G_is_named) (ja_cons (je_v 1) (ja_cons je_int ja_nil))))) (jw_one_or (jt_not (jt_tru B.hK (je_f B (FnIn.frz HDX G_is_named) (ja_cons (je_v 5) (ja_cons je_int ja_nil))))))).pt (js_one js_never) js_nil)
  (js_cons (js_if (jw_or (jt_not (jt_tru B.hK (je_f B (FnIn.frz HDX G_is_counted) (ja_cons (je_v 6) (ja_cons je_int ja_nil))))) (jw_one_or (jt_not (jt_tru B.hK (je_f B (FnIn.frz HDX G_is_counted) (ja_cons (je_v 7) (ja_cons je_int ja_nil))))))).pt (js_one js_never) js_nil)
  (js_cons (js_set (i := 8) sc_Gear_init.nd (je_op op_addM (opm_add false) (je_op op_addM (opm_add false) (je_op op_addM (opm_add false) (je_v 1) (je_v 5)) (je_ty (call_listA B.calm) (cm_listA false) z_list (by decide +kernel) (ja_cons (je_v 6) ja_nil))) (je_ty (call_listA B.calm) (cm_listA false) z_list (by decide +kernel) (ja_cons (je_v 7) ja_nil))))
  (js_cons (js_if (jw_or (jt_cmp (op_neM B.hK B.u64) opm_ne (je_lenOnce B z_len z_set (je_v 8)) (je_b call_lenM cm_len z_len (by decide +kernel) (ja_cons (je_v 8) ja_nil)) (nomark _)) (jw_or (jt_cmp (op_inM B.u1) opm_in (je_str [112]) (je_v 8) rfl) (jw_one_or (jt_cmp (op_inM B.u1) opm_in (je_str [113]) (je_v 8) rfl)))).pt (js_one js_never) js_nil)
  (js_cons (js_fd B F_upper (je_v 0) (je_ty (call_listA B.calm) (cm_listA false) z_list (by decide +kernel) (ja_cons (je_v 1) ja_nil)))
  (js_cons (js_fd B F_lower (je_v 0) (je_ty (call_listA B.calm) (cm_listA false) z_list (by decide +kernel) (ja_cons (je_v 5) ja_nil)))
  (js_cons (js_fd B F_makers (je_v 0) (je_ty (call_dictM B.calm) (cm_dict false) z_dict (by decide +kernel) (ja_cons (je_v 6) ja_nil)))
  (js_one (js_fd B F_tellers (je_v 0) (je_ty (call_dictM B.calm) (cm_dict false) z_dict (by decide +kernel) (ja_cons (je_v 7) ja_nil))))))))))))))
theorem sc_law_made : FnScope ["_law_due", "_law_way", "_law_handed", "_law_below", "_law_upper", "_law_lower", "_law_does", "_law_tells"] ["_law_due", "_law_way", "_law_handed"] (defScope s_law_made) := ⟨rfl, rfl, rfl, by decide +kernel, rfl, by decide +kernel, by decide +kernel⟩
theorem ok_law_made {f : Addr} {fd : FuncData} (F : Fun C.K "_law_made" "_law_made" s_law_made f fd) (HW : w = C.w) (N_Gear_0 : MkIn P w C mg base "Gear" 0 3 5 m_Gear_init []) (N_Gear_K : MkKIn P w C mg base "Gear" 0 3 5 m_Gear_init ["asks", "deeds", "hidden", "seen"]) (N_Gear_3 : MkIn P w C mg base "Gear" 0 3 5 m_Gear_init [.non, .non, .non]) (N_Gear_1 : MkIn P w C mg base "Gear" 0 3 5 m_Gear_init [.non]) : FnOk P w C.K mg base (L2.CX P w) 5 f fd ["_law_due", "_law_way", "_law_handed"] (spM C 3 m_law_made) := by
  refine def_ok (N := ["_law_due", "_law_way", "_law_handed", "_law_below", "_law_upper", "_law_lower", "_law_does", "_law_tells"]) (n := 8) (b := b_law_made) (k := 4) F sc_law_made (.inl rfl) ?_
  intro cdv A outer s H E E₁ X hX hr
  have B := bx_of hX rfl hr HW
  subst hX
  exact (js_cons (js_asg (je_v 2) (jg_t B.hK B.calm (jgs_cons (jg_n (i := 4) sc_law_made.nd) (jgs_cons (jg_n (i := 5) sc_law_made.nd) (jgs_cons (jg_n (i := 6) sc_law_made.nd) (jgs_cons (jg_n (i := 7) sc_law_made.nd) jgs_nil))))))
  (js_cons (js_if (jt_cmp (op_eqM B.hK B.u64) opm_eq (je_v 1) je_int (nomark _)) (js_one (js_ret (je_mk false B N_Gear_0 (ja_cons (je_v 4) (ja_cons (je_v 5) (ja_cons (je_v 6) (ja_cons (je_v 7) ja_nil))))))) js_nil)
  (js_cons (js_if (jt_cmp (op_eqM B.hK B.u64) opm_eq (je_v 1) je_int (nomark _)) (js_one (js_ret (je_mkK false B N_Gear_K (jk_cons (je_v 7) (jk_cons (je_v 6) (jk_cons (je_v 5) (jk_cons (je_v 4) jk_nil))))))) js_nil)
  (js_cons (js_if (jw_and (jt_cmp (op_eqM B.hK B.u64) opm_eq (je_v 5) (je_lst false ja_nil) (nomark _)) (jw_and (jt_cmp (op_eqD B.hK B.u64) opm_eqD (je_v 6) (je_dic0 false) (nomark _)) (jw_one_and (jt_cmp (op_eqD B.hK B.u64) opm_eqD (je_v 7) (je_dic0 false) (nomark _))))).pt (js_one (js_ret (je_mk false B N_Gear_3 (ja_cons (je_v 4) ja_nil)))) js_nil)
  (js_cons (js_set (i := 3) sc_law_made.nd (je_if (jt_cmp (op_eqM B.hK B.u64) opm_eq (je_v 5) (je_lst false ja_nil) (nomark _)) je_non (je_v 5)))
  (js_cons (js_if (jt_cmp (op_eqD B.hK B.u64) opm_eqD (je_v 7) (je_dic0 false) (nomark _)) (js_one (js_ret (je_mk false B N_Gear_1 (ja_cons (je_v 4) (ja_cons (je_v 3) (ja_cons (je_if (jt_cmp (op_eqD B.hK B.u64) opm_eqD (je_v 6) (je_dic0 false) (nomark _)) je_non (je_v 6)) ja_nil)))))) js_nil)
  (js_one (js_ret (je_mk false B N_Gear_0 (ja_cons (je_v 4) (ja_cons (je_v 3) (ja_cons (je_if (jt_cmp (op_eqD B.hK B.u64) opm_eqD (je_v 6) (je_dic0 false) (nomark _)) je_non (je_v 6)) (ja_cons (je_v 7) ja_nil)))))))))))))
theorem sc_law_alike : FnScope ["_law_found", "_law_due", "_law_x", "_law_y"] ["_law_found", "_law_due"] (defScope s_law_alike) := ⟨rfl, rfl, rfl, by decide +kernel, rfl, by decide +kernel, by decide +kernel⟩
theorem ok_law_alike {f : Addr} {fd : FuncData} (F : Fun C.K "_law_alike" "_law_alike" s_law_alike f fd) (HW : w = C.w) (z_list : mg "list" = none) (z_isinstance : mg "isinstance" = none) (z_len : mg "len" = none) (z_zip : mg "zip" = none) (z_all : mg "all" = none) : FnOk P w C.K mg base (L2.CX P w) 1 f fd ["_law_found", "_law_due"] (spM C 2 m_law_alike) := by
  refine def_ok (N := ["_law_found", "_law_due", "_law_x", "_law_y"]) (n := 4) (b := b_law_alike) (k := 0) F sc_law_alike (.inl rfl) ?_
  intro cdv A outer s H E E₁ X hX hr
  have B := bx_of hX rfl hr HW
  subst hX
  exact (js_one (js_ret (je_andT B.hK (je_b call_isi cm_isi z_isinstance (by decide +kernel) (ja_cons (je_v 0) (ja_cons (je_tyv z_list (by decide +kernel)) ja_nil))) (je_andT B.hK (je_cmp (op_eqM B.hK B.u64) opm_eq (je_b call_lenM cm_len z_len (by decide +kernel) (ja_cons (je_v 0) ja_nil)) (je_b call_lenM cm_len z_len (by decide +kernel) (ja_cons (je_v 1) ja_nil)) (nomark _)) (pe_one (je_b (cr_all B.calm) cm_all z_all (by decide +kernel) (ja_cons (je_lc false (ws := [2, 3]) B sc_law_alike.nd (ji_zip B.hK (hm := z_zip) (ha := (ja_cons (je_v 0) (ja_cons (je_v 1) ja_nil)))) (blkOk_by (own := [("_law_x", 2), ("_law_y", 3)]) (by kernel_rfl)) (fun Y BY eN ⟨s, H, A, cl, fp, eY⟩ => by subst eY; exact (jg_t BY.hK BY.calm (jgs_cons (jg_n (i := 2) sc_law_alike.nd) (jgs_cons (jg_n (i := 3) sc_law_alike.nd) jgs_nil)))) (fun s H A cl fp B1 => jts_nil) (fun s H A cl fp B1 => (je_cmp (op_eqM B1.hK B1.u64) opm_eq (je_v 2) (je_v 3) (nomark _)))) ja_nil)))))))
theorem sc_law_like : FnScope ["_law_found", "_law_due"] ["_law_found", "_law_due"] (defScope s_law_like) := ⟨rfl, rfl, rfl, by decide +kernel, rfl, by decide +kernel, by decide +kernel⟩
theorem ok_law_like {f : Addr} {fd : FuncData} (F : Fun C.K "_law_like" "_law_like" s_law_like f fd) (HW : w = C.w) (z_dict : mg "dict" = none) (z_isinstance : mg "isinstance" = none) (z_list : mg "list" = none) : FnOk P w C.K mg base (L2.CX P w) 1 f fd ["_law_found", "_law_due"] (spM C 2 m_law_like) := by
  refine def_ok (N := ["_law_found", "_law_due"]) (n := 2) (b := b_law_like) (k := 0) F sc_law_like (.inl rfl) ?_
  intro cdv A outer s H E E₁ X hX hr
  have B := bx_of hX rfl hr HW
  subst hX
  exact (js_one (js_ret (je_andT B.hK (je_b call_isi cm_isi z_isinstance (by decide +kernel) (ja_cons (je_v 0) (ja_cons (je_tyv z_dict (by decide +kernel)) ja_nil))) (pe_one (je_cmp (op_eqM B.hK B.u64) opm_eq (je_itemsL false B (je_v 0) z_list) (je_v 1) (nomark _))))))
theorem sc_Gear_told : FnScope ["self", "names"] ["self"] (defScope s_Gear_told) := ⟨rfl, rfl, rfl, by decide +kernel, rfl, by decide +kernel, by decide +kernel⟩
theorem ok_Gear_told {f : Addr} {fd : FuncData} (F : Fun C.K "told" "Gear.told" s_Gear_told f fd) (HW : w = C.w) (z_tuple : mg "tuple" = none) (F_lower : FldIn C 0 "lower") (F_upper : FldIn C 0 "upper") (F_tellers : FldIn C 0 "tellers") (F_makers : FldIn C 0 "makers") : FnOk P w C.K mg base (L2.CX P w) 1 f fd ["self"] (spM C 1 m_Gear_told) := by
  refine def_ok (N := ["self", "names"]) (n := 2) (b := b_Gear_told) (k := 0) F sc_Gear_told (.inl rfl) ?_
  intro cdv A outer s H E E₁ X hX hr
  have B := bx_of hX rfl hr HW
  subst hX
  exact (js_cons (js_set (i := 1) sc_Gear_told.nd (je_tup (ja_cons (je_ty call_tupM cm_tup z_tuple (by decide +kernel) (ja_cons (je_fd B F_upper (je_v 0)) ja_nil)) (ja_cons (je_ty call_tupM cm_tup z_tuple (by decide +kernel) (ja_cons (je_fd B F_lower (je_v 0)) ja_nil)) ja_nil))))
  (js_one (js_ret (je_op op_addM (opm_add false) (je_v 1) (je_tup (ja_cons (je_itemsT B (je_fd B F_makers (je_v 0)) z_tuple) (ja_cons (je_itemsT B (je_fd B F_tellers (je_v 0)) z_tuple) ja_nil)))))))
theorem sc_Gear_seen : FnScope ["self"] ["self"] (defScope s_Gear_seen) := ⟨rfl, rfl, rfl, by decide +kernel, rfl, by decide +kernel, by decide +kernel⟩
theorem ok_Gear_seen {f : Addr} {fd : FuncData} (F : Fun C.K "seen" "Gear.seen" s_Gear_seen f fd) (HW : w = C.w) (z_list : mg "list" = none) (F_upper : FldIn C 0 "upper") : FnOk P w C.K mg base (L2.CX P w) 1 f fd ["self"] (spM C 1 m_Gear_seen) := by
  refine def_ok (N := ["self"]) (n := 1) (b := b_Gear_seen) (k := 0) F sc_Gear_seen (.inr rfl) ?_
  intro cdv A outer s H E E₁ X hX hr
  have B := bx_of hX rfl hr HW
  subst hX
  exact (js_one (js_ret (je_ty (call_listA B.calm) (cm_listA true) z_list (by decide +kernel) (ja_cons (je_fd B F_upper (je_v 0)) ja_nil))))
theorem sc_Gear_hidden : FnScope ["self"] ["self"] (defScope s_Gear_hidden) := ⟨rfl, rfl, rfl, by decide +kernel, rfl, by decide +kernel, by decide +kernel⟩
theorem ok_Gear_hidden {f : Addr} {fd : FuncData} (F : Fun C.K "hidden" "Gear.hidden" s_Gear_hidden f fd) (HW : w = C.w) (z_list : mg "list" = none) (F_lower : FldIn C 0 "lower") : FnOk P w C.K mg base (L2.CX P w) 1 f fd ["self"] (spM C 1 m_Gear_hidden) := by
  refine def_ok (N := ["self"]) (n := 1) (b := b_Gear_hidden) (k := 0) F sc_Gear_hidden (.inr rfl) ?_
  intro cdv A outer s H E E₁ X hX hr
  have B := bx_of hX rfl hr HW
  subst hX
  exact (js_one (js_ret (je_ty (call_listA B.calm) (cm_listA true) z_list (by decide +kernel) (ja_cons (je_fd B F_lower (je_v 0)) ja_nil))))
theorem sc_Gear_deeds : FnScope ["self"] ["self"] (defScope s_Gear_deeds) := ⟨rfl, rfl, rfl, by decide +kernel, rfl, by decide +kernel, by decide +kernel⟩
theorem ok_Gear_deeds {f : Addr} {fd : FuncData} (F : Fun C.K "deeds" "Gear.deeds" s_Gear_deeds f fd) (HW : w = C.w) (z_dict : mg "dict" = none) (F_makers : FldIn C 0 "makers") : FnOk P w C.K mg base (L2.CX P w) 1 f fd ["self"] (spM C 1 m_Gear_deeds) := by
  refine def_ok (N := ["self"]) (n := 1) (b := b_Gear_deeds) (k := 0) F sc_Gear_deeds (.inr rfl) ?_
  intro cdv A outer s H E E₁ X hX hr
  have B := bx_of hX rfl hr HW
  subst hX
  exact (js_one (js_ret (je_ty (call_dictM B.calm) (cm_dict true) z_dict (by decide +kernel) (ja_cons (je_fd B F_makers (je_v 0)) ja_nil))))
theorem sc_Gear_asks : FnScope ["self"] ["self"] (defScope s_Gear_asks) := ⟨rfl, rfl, rfl, by decide +kernel, rfl, by decide +kernel, by decide +kernel⟩
theorem ok_Gear_asks {f : Addr} {fd : FuncData} (F : Fun C.K "asks" "Gear.asks" s_Gear_asks f fd) (HW : w = C.w) (z_dict : mg "dict" = none) (F_tellers : FldIn C 0 "tellers") : FnOk P w C.K mg base (L2.CX P w) 1 f fd ["self"] (spM C 1 m_Gear_asks) := by
  refine def_ok (N := ["self"]) (n := 1) (b := b_Gear_asks) (k := 0) F sc_Gear_asks (.inr rfl) ?_
  intro cdv A outer s H E E₁ X hX hr
  have B := bx_of hX rfl hr HW
  subst hX
  exact (js_one (js_ret (je_ty (call_dictM B.calm) (cm_dict true) z_dict (by decide +kernel) (ja_cons (je_fd B F_tellers (je_v 0)) ja_nil))))
theorem sc_Gear_namings : FnScope ["self", "parts", "found", "turn", "longer", "naming", "box"] ["self", "parts"] (defScope s_Gear_namings) := ⟨rfl, rfl, rfl, by decide +kernel, rfl, by decide +kernel, by decide +kernel⟩
theorem ok_Gear_namings {f : Addr} {fd : FuncData} (F : Fun C.K "namings" "Gear.namings" s_Gear_namings f fd) (HW : w = C.w) (z_range : mg "range" = none) (F_upper : FldIn C 0 "upper") : FnOk P w C.K mg base (L2.CX P w) 1 f fd ["self", "parts"] (spM C 2 m_Gear_namings) := by
  refine def_ok (N := ["self", "parts", "found", "turn", "longer", "naming", "box"]) (n := 7) (b := b_Gear_namings) (k := 0) F sc_Gear_namings (.inr rfl) ?_
  intro cdv A outer s H E E₁ X hX hr
  have B := bx_of hX rfl hr HW
  subst hX
  exact (js_cons (js_set (i := 2) sc_Gear_namings.nd (je_lst true (ja_cons (je_tup ja_nil) ja_nil)))
  (js_cons (js_for B.own B.calm (ji_range1 (hm := z_range) (ha := (ja_cons (je_v 1) ja_nil))) (jg_n (i := 3) sc_Gear_namings.nd) (js_cons (js_set (i := 4) sc_Gear_namings.nd (je_lst true ja_nil))
    (js_cons (js_for B.own B.calm (ji_seq B.hK (je_v 2)) (jg_n (i := 5) sc_Gear_namings.nd) (js_one (js_expr (je_bm B.hK PySem.F.plainAttrs_list PySem.F.slot_list_extend PySem.F.type_list_extend mt_extend mm_extend (je_v 4) (ja_cons (je_lc false (ws := [6]) B sc_Gear_namings.nd (ji_seq B.hK (je_fd B F_upper (je_v 0))) (blkOk_by (own := [("box", 6)]) (by kernel_rfl)) (fun Y BY eN ⟨s, H, A, cl, fp, eY⟩ => by subst eY; exact (jg_n (i := 6) sc_Gear_namings.nd)) (fun s H A cl fp B1 => jts_nil) (fun s H A cl fp B1 => (je_op op_addM (opm_add false) (je_v 5) (je_tup (ja_cons (je_v 6) ja_nil))))) ja_nil)))))
    (js_one (js_set (i := 2) sc_Gear_namings.nd (je_v 4))))))
  (js_one (js_ret (je_v 2)))))
theorem sc_law_right : FnScope ["_law_gear", "_law_due", "_law_first", "_law_pairs", "_law_one", "_law_upper", "_law_lower", "_law_does", "_law_tells", "_law_two"] ["_law_gear", "_law_due", "_law_first"] (defScope s_law_right) := ⟨rfl, rfl, rfl, by decide +kernel, rfl, by decide +kernel, by decide +kernel⟩
theorem ok_law_right {f : Addr} {fd : FuncData} (F : Fun C.K "_law_right" "_law_right" s_law_right f fd) (HW : w = C.w) (z_tuple : mg "tuple" = none) (G_law_alike : FnIn P w C mg base "_law_alike" 1 2 m_law_alike []) (G_law_like : FnIn P w C mg base "_law_like" 1 2 m_law_like []) (M_Gear_told : MethIn P w C mg base 0 "told" 1 1 m_Gear_told []) (M_Gear_seen : MethIn P w C mg base 0 "seen" 1 1 m_Gear_seen []) (M_Gear_hidden : MethIn P w C mg base 0 "hidden" 1 1 m_Gear_hidden []) (M_Gear_deeds : MethIn P w C mg base 0 "deeds" 1 1 m_Gear_deeds []) (M_Gear_asks : MethIn P w C mg base 0 "asks" 1 1 m_Gear_asks []) (M_Gear_namings : MethIn P w C mg base 0 "namings" 1 2 m_Gear_namings []) : FnOk P w C.K mg base (L2.CX P w) 2 f fd ["_law_gear", "_law_due", "_law_first"] (spM C 3 m_law_right) := by
  refine def_ok (N := ["_law_gear", "_law_due", "_law_first", "_law_pairs", "_law_one", "_law_upper", "_law_lower", "_law_does", "_law_tells", "_law_two"]) (n := 10) (b := b_law_right) (k := 1) F sc_law_right (.inl rfl) ?_
  intro cdv A outer s H E E₁ X hX hr
  have B := bx_of hX rfl hr HW
  subst hX
  exact (js_cons (js_asg (je_v 1) (jg_t B.hK B.calm (jgs_cons (jg_n (i := 5) sc_law_right.nd) (jgs_cons (jg_n (i := 6) sc_law_right.nd) (jgs_cons (jg_n (i := 7) sc_law_right.nd) (jgs_cons (jg_n (i := 8) sc_law_right.nd) jgs_nil))))))
  (js_cons (js_if (jw_and (jt_cmp (op_eqM B.hK B.u64) opm_eq (je_v 2) je_int (nomark _)) (jw_one_and (jt_cmp (op_neM B.hK B.u64) opm_ne (je_me0 B M_Gear_told (je_v 0)) (je_tup (ja_cons (je_ty call_tupM cm_tup z_tuple (by decide +kernel) (ja_cons (je_v 5) ja_nil)) (ja_cons (je_ty call_tupM cm_tup z_tuple (by decide +kernel) (ja_cons (je_v 6) ja_nil)) (ja_cons (je_ty call_tupM cm_tup z_tuple (by decide +kernel) (ja_cons (je_v 7) ja_nil)) (ja_cons (je_ty call_tupM cm_tup z_tuple (by decide +kernel) (ja_cons (je_v 8) ja_nil)) ja_nil))))) (nomark _)))).pt (js_one (js_ret je_bl)) js_nil)
  (js_cons (js_if (jw_or (jt_not (jt_tru B.hK (je_f B G_law_alike (ja_cons (je_me0 B M_Gear_seen (je_v 0)) (ja_cons (je_v 5) ja_nil))))) (jw_one_or (jt_not (jt_tru B.hK (je_f B G_law_alike (ja_cons (je_me0 B M_Gear_hidden (je_v 0)) (ja_cons (je_v 6) ja_nil))))))).pt (js_one (js_ret je_bl)) js_nil)
  (js_cons (js_if (jw_or (jt_not (jt_tru B.hK (je_f B G_law_like (ja_cons (je_me0 B M_Gear_deeds (je_v 0)) (ja_cons (je_v 7) ja_nil))))) (jw_one_or (jt_not (jt_tru B.hK (je_f B G_law_like (ja_cons (je_me0 B M_Gear_asks (je_v 0)) (ja_cons (je_v 8) ja_nil))))))).pt (js_one (js_ret je_bl)) js_nil)
  (js_cons (js_set (i := 3) sc_law_right.nd (je_lst false ja_nil))
  (js_cons (js_for B.own B.calm (ji_seq B.hK (je_v 5)) (jg_n (i := 4) sc_law_right.nd) (js_one (js_set (i := 3) sc_law_right.nd (je_op op_addM (opm_add false) (je_v 3) (je_lc false (ws := [9]) B sc_law_right.nd (ji_seq B.hK (je_v 5)) (blkOk_by (own := [("_law_two", 9)]) (by kernel_rfl)) (fun Y BY eN ⟨s, H, A, cl, fp, eY⟩ => by subst eY; exact (jg_n (i := 9) sc_law_right.nd)) (fun s H A cl fp B1 => jts_nil) (fun s H A cl fp B1 => (je_tup (ja_cons (je_v 4) (ja_cons (je_v 9) ja_nil)))))))))
  (js_cons (js_if (jw_or (jt_not (jt_tru B.hK (je_f B G_law_alike (ja_cons (je_me B M_Gear_namings (je_v 0) (ja_cons je_int ja_nil)) (ja_cons (je_lc false (ws := [4]) B sc_law_right.nd (ji_seq B.hK (je_v 5)) (blkOk_by (own := [("_law_one", 4)]) (by kernel_rfl)) (fun Y BY eN ⟨s, H, A, cl, fp, eY⟩ => by subst eY; exact (jg_n (i := 4) sc_law_right.nd)) (fun s H A cl fp B2 => jts_nil) (fun s H A cl fp B2 => (je_tup (ja_cons (je_v 4) ja_nil)))) ja_nil))))) (jw_one_or (jt_not (jt_tru B.hK (je_f B G_law_alike (ja_cons (je_me B M_Gear_namings (je_v 0) (ja_cons je_int ja_nil)) (ja_cons (je_v 3) ja_nil))))))).pt (js_one (js_ret je_bl)) js_nil)
  (js_cons (js_if (jt_not (jt_tru B.hK (je_f B G_law_alike (ja_cons (je_me B M_Gear_namings (je_v 0) (ja_cons je_int ja_nil)) (ja_cons (je_lst false (ja_cons (je_tup ja_nil) ja_nil)) ja_nil))))) (js_one (js_ret je_bl)) js_nil)
  (js_one (js_ret (je_cmp (op_eqM B.hK B.u64) opm_eq (je_me0 B M_Gear_told (je_v 0)) (je_tup (ja_cons (je_ty call_tupM cm_tup z_tuple (by decide +kernel) (ja_cons (je_v 5) ja_nil)) (ja_cons (je_ty call_tupM cm_tup z_tuple (by decide +kernel) (ja_cons (je_v 6) ja_nil)) (ja_cons (je_ty call_tupM cm_tup z_tuple (by decide +kernel) (ja_cons (je_v 7) ja_nil)) (ja_cons (je_ty call_tupM cm_tup z_tuple (by decide +kernel) (ja_cons (je_v 8) ja_nil)) ja_nil))))) (nomark _))))))))))))
theorem sc_law_changed : FnScope ["_law_handed", "_law_gear", "_law_some"] ["_law_handed", "_law_gear"] (defScope s_law_changed) := ⟨rfl, rfl, rfl, by decide +kernel, rfl, by decide +kernel, by decide +kernel⟩
theorem ok_law_changed {f : Addr} {fd : FuncData} (F : Fun C.K "_law_changed" "_law_changed" s_law_changed f fd) (HW : w = C.w) (M_Gear_namings : MethIn P w C mg base 0 "namings" 1 2 m_Gear_namings []) (M_Gear_hidden : MethIn P w C mg base 0 "hidden" 1 1 m_Gear_hidden []) (M_Gear_seen : MethIn P w C mg base 0 "seen" 1 1 m_Gear_seen []) (M_Gear_asks : MethIn P w C mg base 0 "asks" 1 1 m_Gear_asks []) (M_Gear_deeds : MethIn P w C mg base 0 "deeds" 1 1 m_Gear_deeds []) : FnOk P w C.K mg base (L2.CX P w) 2 f fd ["_law_handed", "_law_gear"] (spM C 2 m_law_changed) := by
  refine def_ok (N := ["_law_handed", "_law_gear", "_law_some"]) (n := 3) (b := b_law_changed) (k := 1) F sc_law_changed (.inl rfl) ?_
  intro cdv A outer s H E E₁ X hX hr
  have B := bx_of hX rfl hr HW
  subst hX
  exact (js_cons (js_for B.own B.calm (ji_seq B.hK (je_tup (ja_cons (je_ix B (je_v 0) je_int) (ja_cons (je_ix B (je_v 0) je_int) (ja_cons (je_me0 B M_Gear_seen (je_v 1)) (ja_cons (je_me0 B M_Gear_hidden (je_v 1)) (ja_cons (je_me B M_Gear_namings (je_v 1) (ja_cons je_int ja_nil)) (ja_cons (je_me B M_Gear_namings (je_v 1) (ja_cons je_int ja_nil)) ja_nil)))))))) (jg_n (i := 2) sc_law_changed.nd) (js_cons (js_expr (je_bm0 B.hK PySem.F.plainAttrs_list PySem.F.slot_list_reverse PySem.F.type_list_reverse mt_reverse mm_reverse (je_v 2)))
    (js_one (js_expr (je_bm B.hK PySem.F.plainAttrs_list PySem.F.slot_list_append PySem.F.type_list_append mt_append mm_append (je_v 2) (ja_cons (je_str [122, 122]) ja_nil))))))
  (js_one (js_for B.own B.calm (ji_seq B.hK (je_tup (ja_cons (je_ix B (je_v 0) je_int) (ja_cons (je_ix B (je_v 0) je_int) (ja_cons (je_me0 B M_Gear_deeds (je_v 1)) (ja_cons (je_me0 B M_Gear_asks (je_v 1)) ja_nil)))))) (jg_n (i := 2) sc_law_changed.nd) (js_cons (js_expr (je_clearD (je_v 2)))
    (js_one (js_dput B (je_v 2) (je_str [122, 122]) je_int))))))
theorem sc_law : FnScope ["_law_script", "_law_held", "_law_k", "_law_cell", "_law_draw", "_law_due", "_law_handed", "_law_gear", "_law_way", "_law_first", "_law_one", "_law_some", "_law_bit"] ["_law_script"] (defScope s_law) := ⟨rfl, rfl, rfl, by decide +kernel, rfl, by decide +kernel, by decide +kernel⟩
theorem ok_law {f : Addr} {fd : FuncData} (F : Fun C.K "law" "law" s_law f fd) (HW : w = C.w) (z_enumerate : mg "enumerate" = none) (z_dict : mg "dict" = none) (z_list : mg "list" = none) (z_all : mg "all" = none) (G_law_begun : FnIn P w C mg base "_law_begun" 1 2 m_law_begun []) (G_law_next : FnIn P w C mg base "_law_next" 1 2 m_law_next []) (G_law_drawn : FnIn P w C mg base "_law_drawn" 5 1 m_law_drawn []) (G_law_made : FnIn P w C mg base "_law_made" 5 3 m_law_made []) (G_law_right : FnIn P w C mg base "_law_right" 2 3 m_law_right []) (G_law_changed : FnIn P w C mg base "_law_changed" 2 2 m_law_changed []) : FnOk P w C.K mg base (L2.CX P w) 6 f fd ["_law_script"] (spM C 1 m_law) := by
  refine def_ok (N := ["_law_script", "_law_held", "_law_k", "_law_cell", "_law_draw", "_law_due", "_law_handed", "_law_gear", "_law_way", "_law_first", "_law_one", "_law_some", "_law_bit"]) (n := 13) (b := b_law) (k := 5) F sc_law (.inl rfl) ?_
  intro cdv A outer s H E E₁ X hX hr
  have B := bx_of hX rfl hr HW
  subst hX
  exact (js_cons (js_set (i := 1) sc_law.nd (je_lst true ja_nil))
  (js_cons (js_for B.own B.calm (ji_enum B.hK (hm := z_enumerate) (ha := (ja_cons (je_sl false B.hK (je_orT B.hK (je_v 0) (pe_one (je_lst false (ja_cons je_int ja_nil)))) jo_none (jo_some je_int)) ja_nil))) (jg_t B.hK B.calm (jgs_cons (jg_n (i := 2) sc_law.nd) (jgs_cons (jg_n (i := 3) sc_law.nd) jgs_nil))) (js_cons (js_set (i := 4) sc_law.nd (je_f B G_law_begun (ja_cons (je_v 3) (ja_cons (je_v 2) ja_nil))))
    (js_cons (js_par (i := 8) (j := 9) B.calm sc_law.nd (je_f B G_law_next (ja_cons (je_v 4) (ja_cons je_int ja_nil))) (je_f B G_law_next (ja_cons (je_v 4) (ja_cons je_int ja_nil))))
    (js_cons (js_set (i := 5) sc_law.nd (je_f B G_law_drawn (ja_cons (je_v 4) ja_nil)))
    (js_cons (js_set (i := 6) sc_law.nd (je_tup (ja_cons (je_ty (call_listA B.calm) (cm_listA true) z_list (by decide +kernel) (ja_cons (je_ix B (je_v 5) je_int) ja_nil)) (ja_cons (je_ty (call_listA B.calm) (cm_listA true) z_list (by decide +kernel) (ja_cons (je_ix B (je_v 5) je_int) ja_nil)) (ja_cons (je_ty (call_dictM B.calm) (cm_dict true) z_dict (by decide +kernel) (ja_cons (je_ix B (je_v 5) je_int) ja_nil)) (ja_cons (je_ty (call_dictM B.calm) (cm_dict true) z_dict (by decide +kernel) (ja_cons (je_ix B (je_v 5) je_int) ja_nil)) ja_nil))))))
    (js_cons (js_set (i := 7) sc_law.nd (je_f B G_law_made (ja_cons (je_v 5) (ja_cons (je_v 8) (ja_cons (je_v 6) ja_nil)))))
    (js_cons (js_if (jw_or (jt_cmp (op_neP B.hK B.u64) opm_neP (je_v 6) (je_tup (ja_cons (je_ix B (je_v 5) je_int) (ja_cons (je_ix B (je_v 5) je_int) (ja_cons (je_ty (call_dictM B.calm) (cm_dict false) z_dict (by decide +kernel) (ja_cons (je_ix B (je_v 5) je_int) ja_nil)) (ja_cons (je_ty (call_dictM B.calm) (cm_dict false) z_dict (by decide +kernel) (ja_cons (je_ix B (je_v 5) je_int) ja_nil)) ja_nil))))) (nomark _)) (jw_one_or (jt_not (jt_tru B.hK (je_f B G_law_right (ja_cons (je_v 7) (ja_cons (je_v 5) (ja_cons (je_v 9) ja_nil)))))))).pt (js_one (js_ret je_bl)) js_nil)
    (js_cons (js_expr (je_f B G_law_changed (ja_cons (je_v 6) (ja_cons (je_v 7) ja_nil))))
    (js_cons (js_expr (je_bm B.hK PySem.F.plainAttrs_list PySem.F.slot_list_append PySem.F.type_list_append mt_append mm_append (je_v 1) (ja_cons (je_tup (ja_cons (je_v 7) (ja_cons (je_v 5) (ja_cons (je_op op_sub opm_sub je_int (je_v 9)) ja_nil)))) ja_nil)))
    (js_one (js_if (jt_not (jt_tru B.hK (je_b (cr_all B.calm) cm_all z_all (by decide +kernel) (ja_cons (je_lc false (ws := [10, 11, 12]) B sc_law.nd (ji_seq B.hK (je_sl false B.hK (je_v 1) (jo_some (je_neg je_int)) jo_none)) (blkOk_by (own := [("_law_one", 10), ("_law_some", 11), ("_law_bit", 12)]) (by kernel_rfl)) (fun Y BY eN ⟨s, H, A, cl, fp, eY⟩ => by subst eY; exact (jg_t BY.hK BY.calm (jgs_cons (jg_n (i := 10) sc_law.nd) (jgs_cons (jg_n (i := 11) sc_law.nd) (jgs_cons (jg_n (i := 12) sc_law.nd) jgs_nil))))) (fun s H A cl fp B1 => jts_nil) (fun s H A cl fp B1 => (je_f B1 G_law_right (ja_cons (je_v 10) (ja_cons (je_v 11) (ja_cons (je_v 12) ja_nil)))))) ja_nil)))) (js_one (js_ret je_bl)) js_nil)))))))))))
  (js_one (js_ret (je_b (cr_all B.calm) cm_all z_all (by decide +kernel) (ja_cons (je_lc false (ws := [7, 5, 9]) B sc_law.nd (ji_seq B.hK (je_v 1)) (blkOk_by (own := [("_law_gear", 7), ("_law_due", 5), ("_law_first", 9)]) (by kernel_rfl)) (fun Y BY eN ⟨s, H, A, cl, fp, eY⟩ => by subst eY; exact (jg_t BY.hK BY.calm (jgs_cons (jg_n (i := 7) sc_law.nd) (jgs_cons (jg_n (i := 5) sc_law.nd) (jgs_cons (jg_n (i := 9) sc_law.nd) jgs_nil))))) (fun s H A cl fp B2 => jts_nil) (fun s H A cl fp B2 => (je_f B2 G_law_right (ja_cons (je_v 7) (ja_cons (je_v 5) (ja_cons (je_v 9) ja_nil)))))) ja_nil))))))
end
theorem all_mk {l : PySem.W.OpenLaw} {w : World} {K : PySem.W.Frag} {h : Heap} {mg : Str → Option Value} {fa f0 f1 f2 f3 f4 f5 f6 f7 f8 f9 f10 f11 f12 f13 f14 f15 f16 f17 f18 f19 f20 f21 f22 T10 C0 : Addr} (X : K.In h) (G : h.Ns mainGlobals mg) (hfa : mg "law" = some (.ref fa))
    {od0 an0 od1 an1 od2 an2 od3 an3 od4 an4 od5 an5 od6 an6 od7 an7 od8 an8 od9 an9 od10 an10 od11 an11 od12 an12 od13 an13 od14 an14 od15 an15 od16 an16 od17 an17 od18 an18 od19 an19 od20 an20 od21 an21 od22 an22 td10 : Option Addr} {sl0 sl1 sl2 sl3 sl4 sl5 sl6 sl7 sl8 sl9 sl10 sl11 sl12 sl13 sl14 sl15 sl16 sl17 sl18 sl19 sl20 sl21 sl22 ts10 : Array (Option Value)} {oc0 kV0 dc0 pm0 cd0 ct0 oc1 kV1 dc1 pm1 cd1 ct1 oc2 kV2 dc2 pm2 cd2 ct2 oc3 kV3 dc3 pm3 cd3 ct3 oc4 kV4 dc4 pm4 cd4 ct4 oc5 kV5 dc5 pm5 cd5 ct5 oc6 kV6 dc6 pm6 cd6 ct6 oc7 kV7 dc7 pm7 cd7 ct7 oc8 kV8 dc8 pm8 cd8 ct8 oc9 kV9 dc9 pm9 cd9 ct9 oc10 kV10 dc10 pm10 cd10 ct10 oc11 kV11 dc11 pm11 cd11 ct11 oc12 kV12 dc12 pm12 cd12 ct12 oc13 kV13 dc13 pm13 cd13 ct13 oc14 kV14 dc14 pm14 cd14 ct14 oc15 kV15 dc15 pm15 cd15 ct15 oc16 kV16 dc16 pm16 cd16 ct16 oc17 kV17 dc17 pm17 cd17 ct17 oc18 kV18 dc18 pm18 cd18 ct18 oc19 kV19 dc19 pm19 cd19 ct19 oc20 kV20 dc20 pm20 cd20 ct20 oc21 kV21 dc21 pm21 cd21 ct21 oc22 kV22 dc22 pm22 cd22 ct22 to10 : Value} {tn10 : Nat}
    (ac0 : PySem.W.nsIn K mainGlobals "Gear" = some (some (.ref C0)))
    (a0 : PySem.W.nsIn K mainGlobals "_law_begun" = some (some (.ref f0)))
    (l0 : K.lookup f0 = some ⟨oc0, od0, .func (PySem.W.fnOf "_law_begun" "_law_begun" (defArgs s_law_begun) (defBody s_law_begun) (defScope s_law_begun) .none kV0 dc0 pm0 an0 cd0 ct0), sl0⟩)
    (c0 : PySem.W.codeIn K cd0 "_law_begun" = true)
    (k0 : PySem.W.keepIn K (.ref f0) = true)
    (a1 : PySem.W.nsIn K mainGlobals "_law_next" = some (some (.ref f1)))
    (l1 : K.lookup f1 = some ⟨oc1, od1, .func (PySem.W.fnOf "_law_next" "_law_next" (defArgs s_law_next) (defBody s_law_next) (defScope s_law_next) .none kV1 dc1 pm1 an1 cd1 ct1), sl1⟩)
    (c1 : PySem.W.codeIn K cd1 "_law_next" = true)
    (k1 : PySem.W.keepIn K (.ref f1) = true)
    (a2 : PySem.W.nsIn K mainGlobals "_law_pick" = some (some (.ref f2)))
    (l2 : K.lookup f2 = some ⟨oc2, od2, .func (PySem.W.fnOf "_law_pick" "_law_pick" (defArgs s_law_pick) (defBody s_law_pick) (defScope s_law_pick) .none kV2 dc2 pm2 an2 cd2 ct2), sl2⟩)
    (c2 : PySem.W.codeIn K cd2 "_law_pick" = true)
    (k2 : PySem.W.keepIn K (.ref f2) = true)
    (a3 : PySem.W.nsIn K mainGlobals "_law_name" = some (some (.ref f3)))
    (l3 : K.lookup f3 = some ⟨oc3, od3, .func (PySem.W.fnOf "_law_name" "_law_name" (defArgs s_law_name) (defBody s_law_name) (defScope s_law_name) .none kV3 dc3 pm3 an3 cd3 ct3), sl3⟩)
    (c3 : PySem.W.codeIn K cd3 "_law_name" = true)
    (k3 : PySem.W.keepIn K (.ref f3) = true)
    (a4 : PySem.W.nsIn K mainGlobals "_law_names" = some (some (.ref f4)))
    (l4 : K.lookup f4 = some ⟨oc4, od4, .func (PySem.W.fnOf "_law_names" "_law_names" (defArgs s_law_names) (defBody s_law_names) (defScope s_law_names) .none kV4 dc4 pm4 an4 cd4 ct4), sl4⟩)
    (c4 : PySem.W.codeIn K cd4 "_law_names" = true)
    (k4 : PySem.W.keepIn K (.ref f4) = true)
    (a5 : PySem.W.nsIn K mainGlobals "_law_drawn" = some (some (.ref f5)))
    (l5 : K.lookup f5 = some ⟨oc5, od5, .func (PySem.W.fnOf "_law_drawn" "_law_drawn" (defArgs s_law_drawn) (defBody s_law_drawn) (defScope s_law_drawn) .none kV5 dc5 pm5 an5 cd5 ct5), sl5⟩)
    (c5 : PySem.W.codeIn K cd5 "_law_drawn" = true)
    (k5 : PySem.W.keepIn K (.ref f5) = true)
    (a6 : PySem.W.nsIn K mainGlobals "is_name" = some (some (.ref f6)))
    (l6 : K.lookup f6 = some ⟨oc6, od6, .func (PySem.W.fnOf "is_name" "is_name" (defArgs s_is_name) (defBody s_is_name) (defScope s_is_name) .none kV6 dc6 pm6 an6 cd6 ct6), sl6⟩)
    (c6 : PySem.W.codeIn K cd6 "is_name" = true)
    (k6 : PySem.W.keepIn K (.ref f6) = true)
    (a7 : PySem.W.nsIn K mainGlobals "is_named" = some (some (.ref f7)))
    (l7 : K.lookup f7 = some ⟨oc7, od7, .func (PySem.W.fnOf "is_named" "is_named" (defArgs s_is_named) (defBody s_is_named) (defScope s_is_named) .none kV7 dc7 pm7 an7 cd7 ct7), sl7⟩)
    (c7 : PySem.W.codeIn K cd7 "is_named" = true)
    (k7 : PySem.W.keepIn K (.ref f7) = true)
    (a8 : PySem.W.nsIn K mainGlobals "is_number" = some (some (.ref f8)))
    (l8 : K.lookup f8 = some ⟨oc8, od8, .func (PySem.W.fnOf "is_number" "is_number" (defArgs s_is_number) (defBody s_is_number) (defScope s_is_number) .none kV8 dc8 pm8 an8 cd8 ct8), sl8⟩)
    (c8 : PySem.W.codeIn K cd8 "is_number" = true)
    (k8 : PySem.W.keepIn K (.ref f8) = true)
    (a9 : PySem.W.nsIn K mainGlobals "is_counted" = some (some (.ref f9)))
    (l9 : K.lookup f9 = some ⟨oc9, od9, .func (PySem.W.fnOf "is_counted" "is_counted" (defArgs s_is_counted) (defBody s_is_counted) (defScope s_is_counted) .none kV9 dc9 pm9 an9 cd9 ct9), sl9⟩)
    (c9 : PySem.W.codeIn K cd9 "is_counted" = true)
    (k9 : PySem.W.keepIn K (.ref f9) = true)
    (a10 : PySem.W.findIn K (.ref C0) "__init__" = some (some (.ref f10)))
    (i10 : PySem.W.isFn K (.ref f10) = true)
    (l10 : K.lookup f10 = some ⟨oc10, od10, .func (PySem.W.fnOf "__init__" "Gear.__init__" (defArgs s_Gear_init) (defBody s_Gear_init) (defScope s_Gear_init) (.ref T10) kV10 dc10 pm10 an10 cd10 ct10), sl10⟩)
    (c10 : PySem.W.codeIn K cd10 "Gear.__init__" = true)
    (k10 : PySem.W.keepIn K (.ref f10) = true)
    (t10 : K.lookup T10 = some ⟨to10, td10, .seq ([Value.none, Value.none, Value.none] : List Value).toArray tn10, ts10⟩)
    (a11 : PySem.W.nsIn K mainGlobals "_law_made" = some (some (.ref f11)))
    (l11 : K.lookup f11 = some ⟨oc11, od11, .func (PySem.W.fnOf "_law_made" "_law_made" (defArgs s_law_made) (defBody s_law_made) (defScope s_law_made) .none kV11 dc11 pm11 an11 cd11 ct11), sl11⟩)
    (c11 : PySem.W.codeIn K cd11 "_law_made" = true)
    (k11 : PySem.W.keepIn K (.ref f11) = true)
    (a12 : PySem.W.nsIn K mainGlobals "_law_alike" = some (some (.ref f12)))
    (l12 : K.lookup f12 = some ⟨oc12, od12, .func (PySem.W.fnOf "_law_alike" "_law_alike" (defArgs s_law_alike) (defBody s_law_alike) (defScope s_law_alike) .none kV12 dc12 pm12 an12 cd12 ct12), sl12⟩)
    (c12 : PySem.W.codeIn K cd12 "_law_alike" = true)
    (k12 : PySem.W.keepIn K (.ref f12) = true)
    (a13 : PySem.W.nsIn K mainGlobals "_law_like" = some (some (.ref f13)))
    (l13 : K.lookup f13 = some ⟨oc13, od13, .func (PySem.W.fnOf "_law_like" "_law_like" (defArgs s_law_like) (defBody s_law_like) (defScope s_law_like) .none kV13 dc13 pm13 an13 cd13 ct13), sl13⟩)
    (c13 : PySem.W.codeIn K cd13 "_law_like" = true)
    (k13 : PySem.W.keepIn K (.ref f13) = true)
    (a14 : PySem.W.findIn K (.ref C0) "told" = some (some (.ref f14)))
    (i14 : PySem.W.isFn K (.ref f14) = true)
    (l14 : K.lookup f14 = some ⟨oc14, od14, .func (PySem.W.fnOf "told" "Gear.told" (defArgs s_Gear_told) (defBody s_Gear_told) (defScope s_Gear_told) .none kV14 dc14 pm14 an14 cd14 ct14), sl14⟩)
    (c14 : PySem.W.codeIn K cd14 "Gear.told" = true)
    (k14 : PySem.W.keepIn K (.ref f14) = true)
    (a15 : PySem.W.findIn K (.ref C0) "seen" = some (some (.ref f15)))
    (i15 : PySem.W.isFn K (.ref f15) = true)
    (l15 : K.lookup f15 = some ⟨oc15, od15, .func (PySem.W.fnOf "seen" "Gear.seen" (defArgs s_Gear_seen) (defBody s_Gear_seen) (defScope s_Gear_seen) .none kV15 dc15 pm15 an15 cd15 ct15), sl15⟩)
    (c15 : PySem.W.codeIn K cd15 "Gear.seen" = true)
    (k15 : PySem.W.keepIn K (.ref f15) = true)
    (a16 : PySem.W.findIn K (.ref C0) "hidden" = some (some (.ref f16)))
    (i16 : PySem.W.isFn K (.ref f16) = true)
    (l16 : K.lookup f16 = some ⟨oc16, od16, .func (PySem.W.fnOf "hidden" "Gear.hidden" (defArgs s_Gear_hidden) (defBody s_Gear_hidden) (defScope s_Gear_hidden) .none kV16 dc16 pm16 an16 cd16 ct16), sl16⟩)
    (c16 : PySem.W.codeIn K cd16 "Gear.hidden" = true)
    (k16 : PySem.W.keepIn K (.ref f16) = true)
    (a17 : PySem.W.findIn K (.ref C0) "deeds" = some (some (.ref f17)))
    (i17 : PySem.W.isFn K (.ref f17) = true)
    (l17 : K.lookup f17 = some ⟨oc17, od17, .func (PySem.W.fnOf "deeds" "Gear.deeds" (defArgs s_Gear_deeds) (defBody s_Gear_deeds) (defScope s_Gear_deeds) .none kV17 dc17 pm17 an17 cd17 ct17), sl17⟩)
    (c17 : PySem.W.codeIn K cd17 "Gear.deeds" = true)
    (k17 : PySem.W.keepIn K (.ref f17) = true)
    (a18 : PySem.W.findIn K (.ref C0) "asks" = some (some (.ref f18)))
    (i18 : PySem.W.isFn K (.ref f18) = true)
    (l18 : K.lookup f18 = some ⟨oc18, od18, .func (PySem.W.fnOf "asks" "Gear.asks" (defArgs s_Gear_asks) (defBody s_Gear_asks) (defScope s_Gear_asks) .none kV18 dc18 pm18 an18 cd18 ct18), sl18⟩)
    (c18 : PySem.W.codeIn K cd18 "Gear.asks" = true)
    (k18 : PySem.W.keepIn K (.ref f18) = true)
    (a19 : PySem.W.findIn K (.ref C0) "namings" = some (some (.ref f19)))
    (i19 : PySem.W.isFn K (.ref f19) = true)
    (l19 : K.lookup f19 = some ⟨oc19, od19, .func (PySem.W.fnOf "namings" "Gear.namings" (defArgs s_Gear_namings) (defBody s_Gear_namings) (defScope s_Gear_namings) .none kV19 dc19 pm19 an19 cd19 ct19), sl19⟩)
    (c19 : PySem.W.codeIn K cd19 "Gear.namings" = true)
    (k19 : PySem.W.keepIn K (.ref f19) = true)
    (a20 : PySem.W.nsIn K mainGlobals "_law_right" = some (some (.ref f20)))
    (l20 : K.lookup f20 = some ⟨oc20, od20, .func (PySem.W.fnOf "_law_right" "_law_right" (defArgs s_law_right) (defBody s_law_right) (defScope s_law_right) .none kV20 dc20 pm20 an20 cd20 ct20), sl20⟩)
    (c20 : PySem.W.codeIn K cd20 "_law_right" = true)
    (k20 : PySem.W.keepIn K (.ref f20) = true)
    (a21 : PySem.W.nsIn K mainGlobals "_law_changed" = some (some (.ref f21)))
    (l21 : K.lookup f21 = some ⟨oc21, od21, .func (PySem.W.fnOf "_law_changed" "_law_changed" (defArgs s_law_changed) (defBody s_law_changed) (defScope s_law_changed) .none kV21 dc21 pm21 an21 cd21 ct21), sl21⟩)
    (c21 : PySem.W.codeIn K cd21 "_law_changed" = true)
    (k21 : PySem.W.keepIn K (.ref f21) = true)
    (a22 : PySem.W.nsIn K mainGlobals "law" = some (some (.ref f22)))
    (l22 : K.lookup f22 = some ⟨oc22, od22, .func (PySem.W.fnOf "law" "law" (defArgs s_law) (defBody s_law) (defScope s_law) .none kV22 dc22 pm22 an22 cd22 ct22), sl22⟩)
    (c22 : PySem.W.codeIn K cd22 "law" = true)
    (k22 : PySem.W.keepIn K (.ref f22) = true)
    (pg0 : PySem.W.plainGet K C0 Str.empty = true)
    (hd0 : PySem.W.hasDictIn K C0 = true)
    (po0 : PySem.W.plainOver K C0 = true)
    (sa0 : PySem.W.findIn K (.ref C0) "__setattr__" = some (some (.builtin "object.__setattr__")))
    (mk0 : PySem.W.makesIn K C0 = true)
    (kc0 : PySem.W.keepIn K (.ref C0) = true)
    (fl_upper : PySem.W.findIn K (.ref C0) "upper" = some none)
    (fl_lower : PySem.W.findIn K (.ref C0) "lower" = some none)
    (fl_makers : PySem.W.findIn K (.ref C0) "makers" = some none)
    (fl_tellers : PySem.W.findIn K (.ref C0) "tellers" = some none)
    (zmax : PySem.W.nsIn K mainGlobals "max" = some none)
    (zlen : PySem.W.nsIn K mainGlobals "len" = some none)
    (zrange : PySem.W.nsIn K mainGlobals "range" = some none)
    (zstr : PySem.W.nsIn K mainGlobals "str" = some none)
    (zisinstance : PySem.W.nsIn K mainGlobals "isinstance" = some none)
    (zall : PySem.W.nsIn K mainGlobals "all" = some none)
    (zlist : PySem.W.nsIn K mainGlobals "list" = some none)
    (zint : PySem.W.nsIn K mainGlobals "int" = some none)
    (zbool : PySem.W.nsIn K mainGlobals "bool" = some none)
    (zdict : PySem.W.nsIn K mainGlobals "dict" = some none)
    (zset : PySem.W.nsIn K mainGlobals "set" = some none)
    (zzip : PySem.W.nsIn K mainGlobals "zip" = some none)
    (ztuple : PySem.W.nsIn K mainGlobals "tuple" = some none)
    (zenumerate : PySem.W.nsIn K mainGlobals "enumerate" = some none) :
    ∃ fd : FuncData, (∀ (s : Shared) (v : Value), BindsTo s fd ⟨[v], []⟩ [("_law_script", v)]) ∧ ∃ C : Ct, C.K = K ∧ C.dx = none ∧ ∀ base : Heap, K.In base → base.Ns mainGlobals mg → FnOk l.prog w C.K mg base (L2.CX l.prog w) 6 fa fd ["_law_script"] (spM C 1 m_law) := by
  have e := hfa.symm.trans (PySem.W.mg_of X G a22)
  cases e
  let C : Ct := ⟨K, fun n => match n with | 0 => C0 | _ => 0, fun _ => none, none, w, fun _ => ⟨.Pass ⟨0, 0, 0, 0⟩, "", "", []⟩, fun _ => (0, fun _ _ => "")⟩
  have cls0 : L2.Cls C.K (C.cA 0) := ⟨pg0, hd0, po0, sa0⟩
  have HDX : C.dx = none := rfl
  have F0 := fun_mk (st := s_law_begun) l0 c0 k0
  have b0 := F0.binds (ps := ["_law_cell", "_law_k"]) fun _ _ _ _ _ _ us hl => match us, hl with | [_, _], _ => rfl
  have F1 := fun_mk (st := s_law_next) l1 c1 k1
  have b1 := F1.binds (ps := ["_law_draw", "_law_size"]) fun _ _ _ _ _ _ us hl => match us, hl with | [_, _], _ => rfl
  have F2 := fun_mk (st := s_law_pick) l2 c2 k2
  have b2 := F2.binds (ps := ["_law_draw", "_law_some"]) fun _ _ _ _ _ _ us hl => match us, hl with | [_, _], _ => rfl
  have F3 := fun_mk (st := s_law_name) l3 c3 k3
  have b3 := F3.binds (ps := ["_law_draw", "_law_found"]) fun _ _ _ _ _ _ us hl => match us, hl with | [_, _], _ => rfl
  have F4 := fun_mk (st := s_law_names) l4 c4 k4
  have b4 := F4.binds (ps := ["_law_draw", "_law_many", "_law_found"]) fun _ _ _ _ _ _ us hl => match us, hl with | [_, _, _], _ => rfl
  have F5 := fun_mk (st := s_law_drawn) l5 c5 k5
  have b5 := F5.binds (ps := ["_law_draw"]) fun _ _ _ _ _ _ us hl => match us, hl with | [_], _ => rfl
  have F6 := fun_mk (st := s_is_name) l6 c6 k6
  have b6 := F6.binds (ps := ["text"]) fun _ _ _ _ _ _ us hl => match us, hl with | [_], _ => rfl
  have F7 := fun_mk (st := s_is_named) l7 c7 k7
  have b7 := F7.binds (ps := ["some", "least"]) fun _ _ _ _ _ _ us hl => match us, hl with | [_, _], _ => rfl
  have F8 := fun_mk (st := s_is_number) l8 c8 k8
  have b8 := F8.binds (ps := ["thing", "least", "most"]) fun _ _ _ _ _ _ us hl => match us, hl with | [_, _, _], _ => rfl
  have F9 := fun_mk (st := s_is_counted) l9 c9 k9
  have b9 := F9.binds (ps := ["some", "least"]) fun _ _ _ _ _ _ us hl => match us, hl with | [_, _], _ => rfl
  have F10 := funD_mk (st := s_Gear_init) (dvs := [V.non, V.non, V.non]) l10 c10 k10 t10 (fun z => by cases z) (.cons rfl (.cons rfl (.cons rfl .nil)))
  have F11 := fun_mk (st := s_law_made) l11 c11 k11
  have b11 := F11.binds (ps := ["_law_due", "_law_way", "_law_handed"]) fun _ _ _ _ _ _ us hl => match us, hl with | [_, _, _], _ => rfl
  have F12 := fun_mk (st := s_law_alike) l12 c12 k12
  have b12 := F12.binds (ps := ["_law_found", "_law_due"]) fun _ _ _ _ _ _ us hl => match us, hl with | [_, _], _ => rfl
  have F13 := fun_mk (st := s_law_like) l13 c13 k13
  have b13 := F13.binds (ps := ["_law_found", "_law_due"]) fun _ _ _ _ _ _ us hl => match us, hl with | [_, _], _ => rfl
  have F14 := fun_mk (st := s_Gear_told) l14 c14 k14
  have b14 := F14.binds (ps := ["self"]) fun _ _ _ _ _ _ us hl => match us, hl with | [_], _ => rfl
  have F15 := fun_mk (st := s_Gear_seen) l15 c15 k15
  have b15 := F15.binds (ps := ["self"]) fun _ _ _ _ _ _ us hl => match us, hl with | [_], _ => rfl
  have F16 := fun_mk (st := s_Gear_hidden) l16 c16 k16
  have b16 := F16.binds (ps := ["self"]) fun _ _ _ _ _ _ us hl => match us, hl with | [_], _ => rfl
  have F17 := fun_mk (st := s_Gear_deeds) l17 c17 k17
  have b17 := F17.binds (ps := ["self"]) fun _ _ _ _ _ _ us hl => match us, hl with | [_], _ => rfl
  have F18 := fun_mk (st := s_Gear_asks) l18 c18 k18
  have b18 := F18.binds (ps := ["self"]) fun _ _ _ _ _ _ us hl => match us, hl with | [_], _ => rfl
  have F19 := fun_mk (st := s_Gear_namings) l19 c19 k19
  have b19 := F19.binds (ps := ["self", "parts"]) fun _ _ _ _ _ _ us hl => match us, hl with | [_, _], _ => rfl
  have F20 := fun_mk (st := s_law_right) l20 c20 k20
  have b20 := F20.binds (ps := ["_law_gear", "_law_due", "_law_first"]) fun _ _ _ _ _ _ us hl => match us, hl with | [_, _, _], _ => rfl
  have F21 := fun_mk (st := s_law_changed) l21 c21 k21
  have b21 := F21.binds (ps := ["_law_handed", "_law_gear"]) fun _ _ _ _ _ _ us hl => match us, hl with | [_, _], _ => rfl
  have F22 := fun_mk (st := s_law) l22 c22 k22
  have b22 := F22.binds (ps := ["_law_script"]) fun _ _ _ _ _ _ us hl => match us, hl with | [_], _ => rfl
  refine ⟨PySem.W.fnOf "law" "law" (defArgs s_law) (defBody s_law) (defScope s_law) .none kV22 dc22 pm22 an22 cd22 ct22, fun s v => .of_eq rfl, C, rfl, rfl, fun base _ _ => ?_⟩
  revert base
  intro base0 _ _
  have G0 : ∀ base : Heap, FnIn l.prog w C mg base "_law_begun" 1 2 m_law_begun [] := fun base => ⟨f0, _, _, [], [], PySem.W.mg_of X G a0, k0, b0, .nil, .nil, ok_law_begun (C := C) F0 rfl (PySem.W.mg_none_of X G zmax)⟩
  have G1 : ∀ base : Heap, FnIn l.prog w C mg base "_law_next" 1 2 m_law_next [] := fun base => ⟨f1, _, _, [], [], PySem.W.mg_of X G a1, k1, b1, .nil, .nil, ok_law_next (C := C) F1 rfl⟩
  have G2 : ∀ base : Heap, FnIn l.prog w C mg base "_law_pick" 2 2 m_law_pick [] := fun base => ⟨f2, _, _, [], [], PySem.W.mg_of X G a2, k2, b2, .nil, .nil, ok_law_pick (C := C) F2 rfl (PySem.W.mg_none_of X G zlen) (G1 base)⟩
  have G3 : ∀ base : Heap, FnIn l.prog w C mg base "_law_name" 3 2 m_law_name [] := fun base => ⟨f3, _, _, [], [], PySem.W.mg_of X G a3, k3, b3, .nil, .nil, ok_law_name (C := C) F3 rfl (PySem.W.mg_none_of X G zrange) (G1 base) (G2 base)⟩
  have G4 : ∀ base : Heap, FnIn l.prog w C mg base "_law_names" 4 3 m_law_names [] := fun base => ⟨f4, _, _, [], [], PySem.W.mg_of X G a4, k4, b4, .nil, .nil, ok_law_names (C := C) F4 rfl (PySem.W.mg_none_of X G zrange) (G3 base)⟩
  have G5 : ∀ base : Heap, FnIn l.prog w C mg base "_law_drawn" 5 1 m_law_drawn [] := fun base => ⟨f5, _, _, [], [], PySem.W.mg_of X G a5, k5, b5, .nil, .nil, ok_law_drawn (C := C) F5 rfl (G1 base) (G4 base)⟩
  have G6 : ∀ base : Heap, FnIn l.prog w C mg base "is_name" 1 1 m_is_name [] := fun base => ⟨f6, _, _, [], [], PySem.W.mg_of X G a6, k6, b6, .nil, .nil, ok_is_name (C := C) F6 rfl (PySem.W.mg_none_of X G zstr) (PySem.W.mg_none_of X G zisinstance) (PySem.W.mg_none_of X G zlen) (PySem.W.mg_none_of X G zall)⟩
  have G7 : ∀ base : Heap, FnIn l.prog w C mg base "is_named" 2 2 m_is_named [] := fun base => ⟨f7, _, _, [], [], PySem.W.mg_of X G a7, k7, b7, .nil, .nil, ok_is_named (C := C) F7 rfl (PySem.W.mg_none_of X G zlist) (PySem.W.mg_none_of X G zisinstance) (PySem.W.mg_none_of X G zlen) (PySem.W.mg_none_of X G zall) (G6 base)⟩
  have G8 : ∀ base : Heap, FnIn l.prog w C mg base "is_number" 1 3 m_is_number [] := fun base => ⟨f8, _, _, [], [], PySem.W.mg_of X G a8, k8, b8, .nil, .nil, ok_is_number (C := C) F8 rfl (PySem.W.mg_none_of X G zint) (PySem.W.mg_none_of X G zisinstance) (PySem.W.mg_none_of X G zbool)⟩
  have G9 : ∀ base : Heap, FnIn l.prog w C mg base "is_counted" 2 2 m_is_counted [] := fun base => ⟨f9, _, _, [], [], PySem.W.mg_of X G a9, k9, b9, .nil, .nil, ok_is_counted (C := C) F9 rfl (PySem.W.mg_none_of X G zdict) (PySem.W.mg_none_of X G zisinstance) (PySem.W.mg_none_of X G zlen) (PySem.W.mg_none_of X G zall) (G6 base) (G8 base)⟩
  obtain ⟨ds10_0, vd10_0, bd10_0⟩ := FunD.binds1 (ps := ["self", "seen", "hidden", "deeds", "asks"]) F10 5 3 (fun z => by cases z) rfl fun T kV doc pm an cdv ct us its h1 h2 => match us, h1, its, h2 with | [_, _, _, _, _], _, [_, _, _], _ => ⟨_, rfl, rfl⟩
  have N_Gear_0 : ∀ base : Heap, MkIn l.prog w C mg base "Gear" 0 3 5 m_Gear_init [] := fun base => ⟨f10, _, _, [], _, PySem.W.mg_of X G ac0, ⟨mk0, a10, i10, kc0⟩, bd10_0, vd10_0, .nil, ok_Gear_init (C := C) F10 rfl (PySem.W.mg_none_of X G zlist) (PySem.W.mg_none_of X G zlen) (PySem.W.mg_none_of X G zset) (PySem.W.mg_none_of X G zdict) ⟨cls0, fl_upper⟩ ⟨cls0, fl_lower⟩ ⟨cls0, fl_makers⟩ ⟨cls0, fl_tellers⟩ HDX (G7 base) (G9 base)⟩
  obtain ⟨it10_K, kb10_K⟩ := FunD.kbindsD (ps := ["self", "seen", "hidden", "deeds", "asks"]) F10 1 ["asks", "deeds", "hidden", "seen"] (fun us its ws => us ++ ws.reverse) (fun z => by cases z) (fun r1 r2 r3 => r1.append (vals_rev r3)) fun T kV doc pm an cdv ct us its ws h1 h2 h3 => match us, h1, its, h2, ws, h3 with | [_], _, [_, _, _], _, [_, _, _, _], _ => ⟨_, rfl, rfl⟩
  have N_Gear_K : ∀ base : Heap, MkKIn l.prog w C mg base "Gear" 0 3 5 m_Gear_init ["asks", "deeds", "hidden", "seen"] := fun base => ⟨f10, _, _, _, PySem.W.mg_of X G ac0, ⟨mk0, a10, i10, kc0⟩, kb10_K, ok_Gear_init (C := C) F10 rfl (PySem.W.mg_none_of X G zlist) (PySem.W.mg_none_of X G zlen) (PySem.W.mg_none_of X G zset) (PySem.W.mg_none_of X G zdict) ⟨cls0, fl_upper⟩ ⟨cls0, fl_lower⟩ ⟨cls0, fl_makers⟩ ⟨cls0, fl_tellers⟩ HDX (G7 base) (G9 base)⟩
  obtain ⟨ds10_3, vd10_3, bd10_3⟩ := FunD.binds1 (ps := ["self", "seen", "hidden", "deeds", "asks"]) F10 2 0 (fun z => by cases z) rfl fun T kV doc pm an cdv ct us its h1 h2 => match us, h1, its, h2 with | [_, _], _, [_, _, _], _ => ⟨_, rfl, rfl⟩
  have N_Gear_3 : ∀ base : Heap, MkIn l.prog w C mg base "Gear" 0 3 5 m_Gear_init [.non, .non, .non] := fun base => ⟨f10, _, _, [V.non, V.non, V.non], _, PySem.W.mg_of X G ac0, ⟨mk0, a10, i10, kc0⟩, bd10_3, vd10_3, (.non (.non (.non .nil))), ok_Gear_init (C := C) F10 rfl (PySem.W.mg_none_of X G zlist) (PySem.W.mg_none_of X G zlen) (PySem.W.mg_none_of X G zset) (PySem.W.mg_none_of X G zdict) ⟨cls0, fl_upper⟩ ⟨cls0, fl_lower⟩ ⟨cls0, fl_makers⟩ ⟨cls0, fl_tellers⟩ HDX (G7 base) (G9 base)⟩
  obtain ⟨ds10_1, vd10_1, bd10_1⟩ := FunD.binds1 (ps := ["self", "seen", "hidden", "deeds", "asks"]) F10 4 2 (fun z => by cases z) rfl fun T kV doc pm an cdv ct us its h1 h2 => match us, h1, its, h2 with | [_, _, _, _], _, [_, _, _], _ => ⟨_, rfl, rfl⟩
  have N_Gear_1 : ∀ base : Heap, MkIn l.prog w C mg base "Gear" 0 3 5 m_Gear_init [.non] := fun base => ⟨f10, _, _, [V.non], _, PySem.W.mg_of X G ac0, ⟨mk0, a10, i10, kc0⟩, bd10_1, vd10_1, (.non .nil), ok_Gear_init (C := C) F10 rfl (PySem.W.mg_none_of X G zlist) (PySem.W.mg_none_of X G zlen) (PySem.W.mg_none_of X G zset) (PySem.W.mg_none_of X G zdict) ⟨cls0, fl_upper⟩ ⟨cls0, fl_lower⟩ ⟨cls0, fl_makers⟩ ⟨cls0, fl_tellers⟩ HDX (G7 base) (G9 base)⟩
  have G11 : ∀ base : Heap, FnIn l.prog w C mg base "_law_made" 5 3 m_law_made [] := fun base => ⟨f11, _, _, [], [], PySem.W.mg_of X G a11, k11, b11, .nil, .nil, ok_law_made (C := C) F11 rfl (N_Gear_0 base) (N_Gear_K base) (N_Gear_3 base) (N_Gear_1 base)⟩
  have G12 : ∀ base : Heap, FnIn l.prog w C mg base "_law_alike" 1 2 m_law_alike [] := fun base => ⟨f12, _, _, [], [], PySem.W.mg_of X G a12, k12, b12, .nil, .nil, ok_law_alike (C := C) F12 rfl (PySem.W.mg_none_of X G zlist) (PySem.W.mg_none_of X G zisinstance) (PySem.W.mg_none_of X G zlen) (PySem.W.mg_none_of X G zzip) (PySem.W.mg_none_of X G zall)⟩
  have G13 : ∀ base : Heap, FnIn l.prog w C mg base "_law_like" 1 2 m_law_like [] := fun base => ⟨f13, _, _, [], [], PySem.W.mg_of X G a13, k13, b13, .nil, .nil, ok_law_like (C := C) F13 rfl (PySem.W.mg_none_of X G zdict) (PySem.W.mg_none_of X G zisinstance) (PySem.W.mg_none_of X G zlist)⟩
  have M14 : ∀ base : Heap, MethIn l.prog w C mg base 0 "told" 1 1 m_Gear_told [] := fun base => ⟨f14, _, _, [], [], cls0, ⟨a14, i14, k14⟩, b14, .nil, .nil, ok_Gear_told (C := C) F14 rfl (PySem.W.mg_none_of X G ztuple) ⟨cls0, fl_lower⟩ ⟨cls0, fl_upper⟩ ⟨cls0, fl_tellers⟩ ⟨cls0, fl_makers⟩⟩
  have M15 : ∀ base : Heap, MethIn l.prog w C mg base 0 "seen" 1 1 m_Gear_seen [] := fun base => ⟨f15, _, _, [], [], cls0, ⟨a15, i15, k15⟩, b15, .nil, .nil, ok_Gear_seen (C := C) F15 rfl (PySem.W.mg_none_of X G zlist) ⟨cls0, fl_upper⟩⟩
  have M16 : ∀ base : Heap, MethIn l.prog w C mg base 0 "hidden" 1 1 m_Gear_hidden [] := fun base => ⟨f16, _, _, [], [], cls0, ⟨a16, i16, k16⟩, b16, .nil, .nil, ok_Gear_hidden (C := C) F16 rfl (PySem.W.mg_none_of X G zlist) ⟨cls0, fl_lower⟩⟩
  have M17 : ∀ base : Heap, MethIn l.prog w C mg base 0 "deeds" 1 1 m_Gear_deeds [] := fun base => ⟨f17, _, _, [], [], cls0, ⟨a17, i17, k17⟩, b17, .nil, .nil, ok_Gear_deeds (C := C) F17 rfl (PySem.W.mg_none_of X G zdict) ⟨cls0, fl_makers⟩⟩
  have M18 : ∀ base : Heap, MethIn l.prog w C mg base 0 "asks" 1 1 m_Gear_asks [] := fun base => ⟨f18, _, _, [], [], cls0, ⟨a18, i18, k18⟩, b18, .nil, .nil, ok_Gear_asks (C := C) F18 rfl (PySem.W.mg_none_of X G zdict) ⟨cls0, fl_tellers⟩⟩
  have M19 : ∀ base : Heap, MethIn l.prog w C mg base 0 "namings" 1 2 m_Gear_namings [] := fun base => ⟨f19, _, _, [], [], cls0, ⟨a19, i19, k19⟩, b19, .nil, .nil, ok_Gear_namings (C := C) F19 rfl (PySem.W.mg_none_of X G zrange) ⟨cls0, fl_upper⟩⟩
  have G20 : ∀ base : Heap, FnIn l.prog w C mg base "_law_right" 2 3 m_law_right [] := fun base => ⟨f20, _, _, [], [], PySem.W.mg_of X G a20, k20, b20, .nil, .nil, ok_law_right (C := C) F20 rfl (PySem.W.mg_none_of X G ztuple) (G12 base) (G13 base) (M14 base) (M15 base) (M16 base) (M17 base) (M18 base) (M19 base)⟩
  have G21 : ∀ base : Heap, FnIn l.prog w C mg base "_law_changed" 2 2 m_law_changed [] := fun base => ⟨f21, _, _, [], [], PySem.W.mg_of X G a21, k21, b21, .nil, .nil, ok_law_changed (C := C) F21 rfl (M19 base) (M16 base) (M15 base) (M18 base) (M17 base)⟩
  exact (fun base => ok_law (C := C) F22 rfl (PySem.W.mg_none_of X G zenumerate) (PySem.W.mg_none_of X G zdict) (PySem.W.mg_none_of X G zlist) (PySem.W.mg_none_of X G zall) (G0 base) (G1 base) (G5 base) (G11 base) (G20 base) (G21 base)) base0
end K11
end Mi
namespace Mi
namespace K11
open PySem L2 TL
open Sh hiding b_Gear_deeds m_Gear_deeds b_Gear_init m_Gear_init
local macro_rules | `(tactic| walk_at "r62") => `(tactic| first | exact r62 (by omega) (by omega) | exact ⟨r62 (by omega) (by omega), r62 (by omega) (by omega)⟩)
local macro_rules | `(tactic| walk_at "sz") => `(tactic| first | omega | (simp only [List.length_cons, List.length_nil, List.length_append, List.length_map, List.length_replicate, List.length_take, List.length_drop, sizeLine] <;> omega) | (unfold sizeLine; omega) | decide)
local macro_rules | `(tactic| walk_at "dq") => `(tactic| first | with_unfolding_all rfl | walk_at "r62" | walk_at "sz")
local macro_rules | `(tactic| walk_at "zs") => `(tactic| ((try (first | with_reducible refine i_wp ?_ | with_reducible refine i_ws ?_ | with_reducible refine i_get ?_ | with_reducible refine i_an ?_ | with_reducible refine i_if ?_ | with_reducible refine i_wb ?_ | with_reducible refine i_wt ?_ | with_reducible refine i_sub ?_ | with_reducible refine i_put ?_ | with_reducible refine i_fld ?_ | with_reducible refine i_ins ?_)); (try simp (disch := walk_at "dq") only [↓z_seq, ↓z_next, ↓z_break, ↓z_cont, ↓z_retN, ↓z_ret, ↓z_drop, ↓z_set, ↓z_asg, ↓z_if, ↓z_par, ↓z_par3, ↓z_sub, ↓z_dput, ↓z_fld, ↓z_for, ↓z_v, ↓z_vS, ↓z_v0, ↓z_e0, ↓z_e1, ↓z_e2, ↓z_c, ↓z_bin, ↓z_nil, ↓z_cons, ↓z_b, ↓z_bm, ↓z_call, ↓z_calld, ↓z_wb, ↓z_asB, ↓z_asT, ↓z_wtB, ↓z_wtN, ↓z_wtI, ↓z_wtT0, ↓z_wtT1, ↓z_wtL0, ↓z_wtL1, ↓z_notB, ↓z_andB, ↓z_orB, ↓z_notT, ↓z_andT, ↓z_orT, ↓z_ifE, ↓z_isn, ↓z_notn, ↓z_neg, ↓z_chain, ↓z_yes, ↓z_nopart, ↓z_part, ↓z_sl, ↓z_tup, ↓z_lst, ↓z_mkL, ↓z_mkLn, ↓z_dic0, ↓z_mkD, ↓z_mkDn, ↓z_revL, ↓z_fldE, ↓z_insV, ↓z_get2, ↓z_itS, ↓z_itR1, ↓z_itR2, ↓z_itT, ↓z_itE, ↓z_itZ, ↓z_get, ↓z_int, ↓z_int1, ↓z_int2, ↓z_one1, ↓z_two2, ↓z_str, ↓z_asLl, ↓z_asLr, ↓z_itLl, ↓z_itLt, ↓z_gN, ↓z_gNl, ↓z_gCs, ↓z_gTt, ↓z_gTl, ↓z_an, ↓z_ct, ↓z_cf, ↓z_ty1, ↓z_ty2, ↓z_ty3, ↓z_ty4, ↓z_anT, ↓z_addI, ↓z_addS, ↓z_addT, ↓z_addLL, ↓z_subI, ↓z_mod, ↓z_lt, ↓z_le, ↓z_gt, ↓z_ge, ↓z_eqI, ↓z_neI, ↓z_eqS, ↓z_neS, ↓z_eqB, ↓z_neB, ↓z_inL, ↓z_ninL, ↓z_lenL, ↓z_lenT, ↓z_lenD, ↓z_lenS, ↓z_slS, ↓z_slT, ↓z_slL, ↓z_listL, ↓z_listT, ↓z_listD, ↓z_tupL, ↓z_tupT, ↓z_max, ↓z_min, ↓z_dictD, ↓z_int1B, ↓z_int1I, ↓z_meth0, ↓z_methd, List.set_cons_zero, List.set_cons_succ, q_e0, q_e1, q_e2, -eq_self, -iff_self]); (try (first | with_reducible refine o_wp ?_ | with_reducible refine o_ws ?_ | with_reducible refine o_get ?_ | with_reducible refine o_an ?_ | with_reducible refine o_if ?_ | with_reducible refine o_wb ?_ | with_reducible refine o_wt ?_ | with_reducible refine o_v ?_ | with_reducible refine o_sub ?_ | with_reducible refine o_put ?_ | with_reducible refine o_fld ?_ | with_reducible refine o_ins ?_))))
local macro_rules | `(tactic| walk_at "w") => `(tactic| (walk_at "zs"; (repeat ((first | with_reducible refine wp_ixT (by with_unfolding_all rfl) ?_ | with_reducible refine wp_ixL (by with_unfolding_all rfl) ?_ | with_reducible refine wv (by with_unfolding_all rfl) ?_ | with_reducible refine get (by with_unfolding_all rfl) ?_ | with_reducible refine an (by walk_at "dq") ?_ | with_reducible refine wt (by with_unfolding_all rfl) ?_ | with_reducible refine ite_t ?_ | with_reducible refine ite_f ?_ | with_reducible refine ite_rt (by with_unfolding_all rfl) ?_ | with_reducible refine ite_rf (by with_unfolding_all rfl) ?_ | with_reducible refine wp_isiT (by with_unfolding_all rfl) ?_ | with_reducible refine wp_isiF (by with_unfolding_all rfl) ?_); walk_at "zs"))))
local macro_rules | `(tactic| walk_at "dq") => `(tactic| first | with_unfolding_all rfl | walk_at "r62" | walk_at "sz")
local macro_rules | `(tactic| walk_at "zs") => `(tactic| ((try (first | with_reducible refine i_wp ?_ | with_reducible refine i_ws ?_ | with_reducible refine i_get ?_ | with_reducible refine i_an ?_ | with_reducible refine i_if ?_ | with_reducible refine i_wb ?_ | with_reducible refine i_wt ?_ | with_reducible refine i_sub ?_ | with_reducible refine i_put ?_ | with_reducible refine i_fld ?_ | with_reducible refine i_ins ?_)); (try simp (disch := walk_at "dq") only [↓z_seq, ↓z_next, ↓z_break, ↓z_cont, ↓z_retN, ↓z_ret, ↓z_drop, ↓z_set, ↓z_asg, ↓z_if, ↓z_par, ↓z_par3, ↓z_sub, ↓z_dput, ↓z_fld, ↓z_for, ↓z_v, ↓z_vS, ↓z_v0, ↓z_e0, ↓z_e1, ↓z_e2, ↓z_c, ↓z_bin, ↓z_nil, ↓z_cons, ↓z_b, ↓z_bm, ↓z_call, ↓z_calld, ↓z_wb, ↓z_asB, ↓z_asT, ↓z_wtB, ↓z_wtN, ↓z_wtI, ↓z_wtT0, ↓z_wtT1, ↓z_wtL0, ↓z_wtL1, ↓z_notB, ↓z_andB, ↓z_orB, ↓z_notT, ↓z_andT, ↓z_orT, ↓z_ifE, ↓z_isn, ↓z_notn, ↓z_neg, ↓z_chain, ↓z_yes, ↓z_nopart, ↓z_part, ↓z_sl, ↓z_tup, ↓z_lst, ↓z_mkL, ↓z_mkLn, ↓z_dic0, ↓z_mkD, ↓z_mkDn, ↓z_revL, ↓z_fldE, ↓z_insV, ↓z_get2, ↓z_itS, ↓z_itR1, ↓z_itR2, ↓z_itT, ↓z_itE, ↓z_itZ, ↓z_get, ↓z_int, ↓z_int1, ↓z_int2, ↓z_one1, ↓z_two2, ↓z_str, ↓z_asLl, ↓z_asLr, ↓z_itLl, ↓z_itLt, ↓z_gN, ↓z_gNl, ↓z_gCs, ↓z_gTt, ↓z_gTl, ↓z_an, ↓z_ct, ↓z_cf, ↓z_ty1, ↓z_ty2, ↓z_ty3, ↓z_ty4, ↓z_anT, ↓z_addI, ↓z_addS, ↓z_addT, ↓z_addLL, ↓z_subI, ↓z_mod, ↓z_lt, ↓z_le, ↓z_gt, ↓z_ge, ↓z_eqI, ↓z_neI, ↓z_eqS, ↓z_neS, ↓z_eqB, ↓z_neB, ↓z_inL, ↓z_ninL, ↓z_lenL, ↓z_lenT, ↓z_lenD, ↓z_lenS, ↓z_slS, ↓z_slT, ↓z_slL, ↓z_listL, ↓z_listT, ↓z_listD, ↓z_tupL, ↓z_tupT, ↓z_max, ↓z_min, ↓z_dictD, ↓z_int1B, ↓z_int1I, ↓z_meth0, ↓z_methd, List.set_cons_zero, List.set_cons_succ, q_e0, q_e1, q_e2, ↓z_seen, ↓z_hidden, ↓z_deeds, ↓z_asks, -eq_self, -iff_self]); (try (first | with_reducible refine o_wp ?_ | with_reducible refine o_ws ?_ | with_reducible refine o_get ?_ | with_reducible refine o_an ?_ | with_reducible refine o_if ?_ | with_reducible refine o_wb ?_ | with_reducible refine o_wt ?_ | with_reducible refine o_v ?_ | with_reducible refine o_sub ?_ | with_reducible refine o_put ?_ | with_reducible refine o_fld ?_ | with_reducible refine o_ins ?_))))
local macro_rules | `(tactic| walk_at "w") => `(tactic| (walk_at "zs"; (repeat ((first | with_reducible refine wp_inPQ ?_ | with_reducible refine wp_inMD ?_ | with_reducible refine wp_ninMD ?_ | with_reducible refine wp_inGo ?_ | with_reducible refine wp_ninGo ?_ | with_reducible refine wp_inDM ?_ | with_reducible refine wp_ninDM ?_ | with_reducible refine ite_dt (by assumption) ?_ | with_reducible refine ite_df (by assumption) ?_ | with_reducible refine ite_nt (by assumption) ?_ | with_reducible refine ite_nf (by assumption) ?_ | with_reducible refine ite_rt (by assumption) ?_ | with_reducible refine ite_rf (by assumption) ?_ | with_reducible refine wp_eqTn ?_ | with_reducible refine wp_ixT (by with_unfolding_all rfl) ?_ | with_reducible refine wp_ixL (by with_unfolding_all rfl) ?_ | with_reducible refine wv (by with_unfolding_all rfl) ?_ | with_reducible refine get (by with_unfolding_all rfl) ?_ | with_reducible refine an (by walk_at "dq") ?_ | with_reducible refine wt (by with_unfolding_all rfl) ?_ | with_reducible refine ite_t ?_ | with_reducible refine ite_f ?_ | with_reducible refine ite_rt (by with_unfolding_all rfl) ?_ | with_reducible refine ite_rf (by with_unfolding_all rfl) ?_ | with_reducible refine wp_isiT (by with_unfolding_all rfl) ?_ | with_reducible refine wp_isiF (by with_unfolding_all rfl) ?_); walk_at "zs"))))
def HL (S : Sto) (x : MV) (xs : List MV) : Prop := x = .lst xs ∨ ∃ p, x = .ref p ∧ S[p]? = some (.lst xs)
def HD (S : Sto) (x : MV) (kvs : List (MV × MV)) : Prop := x = .dic kvs ∨ ∃ p, x = .ref p ∧ S[p]? = some (.dic kvs)
section
variable {S T : Sto} {Q : MV → Sto → Prop} {E : MX → Sto → Prop} {x : MV} {xs : List MV} {kvs : List (MV × MV)}
theorem get_app {p : Nat} {o : MO} (h : S[p]? = some o) : (S ++ T)[p]? = some o := by
  rw [List.getElem?_append_left (List.getElem?_eq_some_iff.mp h).1]; exact h
theorem HL.app (h : HL S x xs) : HL (S ++ T) x xs := h.elim .inl fun ⟨p, e, q⟩ => .inr ⟨p, e, get_app q⟩
theorem HD.app (h : HD S x kvs) : HD (S ++ T) x kvs := h.elim .inl fun ⟨p, e, q⟩ => .inr ⟨p, e, get_app q⟩
theorem HL.isi (h : HL S x xs) : fIsi [x, .ty "list"] S = .ok (.bl true) S := by
  rcases h with rfl | ⟨p, rfl, q⟩
  · rfl
  · simp [fIsi, tyName, isiB, q]
theorem HD.isi (h : HD S x kvs) : fIsi [x, .ty "dict"] S = .ok (.bl true) S := by
  rcases h with rfl | ⟨p, rfl, q⟩
  · rfl
  · simp [fIsi, tyName, isiB, q]
theorem HL.asH (h : HL S x xs) : asH S x = some xs := by
  rcases h with rfl | ⟨p, rfl, q⟩
  · rfl
  · simp [Mi.asH, q]
theorem HL.asL (h : HL S x xs) : asL S x = some xs := by
  rcases h with rfl | ⟨p, rfl, q⟩
  · rfl
  · simp [Mi.asL, q]
theorem HL.len (h : HL S x xs) : fLen [x] S = .ok (.int (xs.length : Int)) S := by
  rcases h with rfl | ⟨p, rfl, q⟩
  · rfl
  · simp [fLen, lenM, asSq, asU, Mi.asL, q]
theorem HL.list (h : HL S x xs) (mu : Bool) : fListA mu [x] S = mkL mu xs S := by
  rcases h with rfl | ⟨p, rfl, q⟩
  · rfl
  · simp [fListA, asSq, asU, Mi.asL, Mi.asD, q]
theorem HD.list (h : HD S x kvs) (mu : Bool) : fListA mu [x] S = mkL mu (kvs.map fun p => p.1) S := by
  rcases h with rfl | ⟨p, rfl, q⟩
  · rfl
  · simp [fListA, asSq, asU, Mi.asL, Mi.asD, q]
theorem HD.dict (h : HD S x kvs) (mu : Bool) : fDict mu [x] S = mkD mu kvs S := by
  rcases h with rfl | ⟨p, rfl, q⟩
  · rfl
  · simp [fDict, Mi.asD, q]
theorem HD.items (h : HD S x kvs) : fItemsL false x S = .ok (.lst (itemsL kvs)) S := by
  rcases h with rfl | ⟨p, rfl, q⟩
  · rfl
  · simp [fItemsL, Mi.asD, q, mkL]
theorem HL.notN (h : HL S x xs) : isN x = false := by
  rcases h with rfl | ⟨p, rfl, q⟩ <;> rfl
theorem HD.notN (h : HD S x kvs) : isN x = false := by
  rcases h with rfl | ⟨p, rfl, q⟩ <;> rfl
theorem optL_all {α : Type} {f : α → Option α} : ∀ {xs : List α}, (∀ v ∈ xs, f v = some v) → optL f xs = some xs
  | [], _ => rfl
  | v :: r, h => by simp only [optL, h v (by simp), optL_all fun u hu => h u (List.mem_cons_of_mem _ hu)]
theorem fz_flat {v : MV} {d : Nat} (h : flat v = true) : fz S 0 d v = some v := fz_cl (by cases v <;> first | (simp only [Cl]; done) | cases h)
theorem HL.fz (h : HL S x xs) (hf : ∀ v ∈ xs, flat v = true) : fz S 0 6 x = some (.lst xs) := by
  rcases h with rfl | ⟨p, rfl, q⟩
  · refine fz_cl ?_
    simp only [Cl]
    exact clL_all fun v hv => by have := hf v hv; cases v <;> first | (simp only [Cl]; done) | cases this
  · unfold Mi.fz
    rw [if_neg (by simp [Cl])]
    simp only [q, optL_all fun v hv => fz_flat (hf v hv), Option.map_some]
theorem HD.fz (h : HD S x kvs) (hf : ∀ p ∈ kvs, flat p.2 = true) : fz S 0 6 x = some (.dic kvs) := by
  rcases h with rfl | ⟨p, rfl, q⟩
  · refine fz_cl ?_
    simp only [Cl]
    induction kvs with
    | nil => simp only [Clk]
    | cons a r ih =>
      simp only [Clk]
      refine ⟨?_, ih fun p hp => hf p (List.mem_cons_of_mem _ hp)⟩
      obtain ⟨k, v⟩ := a
      have := hf (k, v) (by simp)
      simp only [Clp]
      cases v <;> first | (simp only [Cl]; done) | cases this
  · unfold Mi.fz
    rw [if_neg (by simp [Cl])]
    have e : optL (fun p : MV × MV => (Mi.fz S 0 5 p.2).map fun y => (p.1, y)) kvs = some kvs := optL_all fun p hp => by
      rw [fz_flat (hf p hp)]
      rfl
    simp only [q, e, Option.map_some]
theorem runP_ok {g : List MV → Sto → Res MV} {x y : MV} {n : Int} {b : Bool} (hx : fz S 0 6 x = some y) (hS : S.all okP = true) (hg : g [y, .int n] [] = .ok (.bl b) []) : runP g [x, .int n] S = .ok (.bl b) S := by
  have e : optL (fz S 0 6) [x, .int n] = some [y, .int n] := by simp only [optL, hx, fz_flat (S := S) (d := 6) (v := .int n) rfl]
  simp only [runP, e, hg, flat, hS]
  rfl
theorem named_ok {zs : List (List Nat)} {least : Int} (h : HL S x (zs.map MV.str)) (hS : S.all okP = true) (h1 : least ≤ zs.length) (h2 : zs.length ≤ 4) (hz : ∀ z ∈ zs, Nm z) : runP m_is_named [x, .int least] S = .ok (.bl true) S :=
  runP_ok (h.fz fun v hv => by obtain ⟨z, _, rfl⟩ := List.mem_map.mp hv; rfl) hS (is_named_ok h1 h2 hz)
theorem counted_ok {ps : List (List Nat × Int)} {least : Int} (h : HD S x (kvOf ps)) (hS : S.all okP = true) (h2 : ps.length ≤ 6) (hz : ∀ p ∈ ps, Nm p.1 ∧ least ≤ p.2 ∧ p.2 ≤ 2) : runP m_is_counted [x, .int least] S = .ok (.bl true) S :=
  runP_ok (h.fz fun v hv => by obtain ⟨z, _, rfl⟩ := List.mem_map.mp hv; rfl) hS (is_counted_ok h2 hz)
theorem add_ok {y : MV} {ys : List MV} (h : HL S x xs) (g : HL S y ys) (hl : xs.length + ys.length ≤ sizeLine) : fAdd false x y S = .ok (.lst (xs ++ ys)) S := by
  have a := h.asH
  have b := g.asH
  rcases h with rfl | ⟨p, rfl, q⟩ <;> rcases g with rfl | ⟨p2, rfl, q2⟩ <;> (simp only [fAdd, a, b, if_pos hl, mkL, Bool.false_eq_true, if_false])
end
end K11
end Mi
namespace Mi
namespace K11
open PySem L2 TL
open Sh hiding b_Gear_deeds m_Gear_deeds b_Gear_init m_Gear_init
local macro_rules | `(tactic| walk_at "r62") => `(tactic| first | exact r62 (by omega) (by omega) | exact ⟨r62 (by omega) (by omega), r62 (by omega) (by omega)⟩)
local macro_rules | `(tactic| walk_at "sz") => `(tactic| first | omega | (simp only [List.length_cons, List.length_nil, List.length_append, List.length_map, List.length_replicate, List.length_take, List.length_drop, sizeLine] <;> omega) | (unfold sizeLine; omega) | decide)
local macro_rules | `(tactic| walk_at "dq") => `(tactic| first | with_unfolding_all rfl | walk_at "r62" | walk_at "sz")
local macro_rules | `(tactic| walk_at "zs") => `(tactic| ((try (first | with_reducible refine i_wp ?_ | with_reducible refine i_ws ?_ | with_reducible refine i_get ?_ | with_reducible refine i_an ?_ | with_reducible refine i_if ?_ | with_reducible refine i_wb ?_ | with_reducible refine i_wt ?_ | with_reducible refine i_sub ?_ | with_reducible refine i_put ?_ | with_reducible refine i_fld ?_ | with_reducible refine i_ins ?_)); (try simp (disch := walk_at "dq") only [↓z_seq, ↓z_next, ↓z_break, ↓z_cont, ↓z_retN, ↓z_ret, ↓z_drop, ↓z_set, ↓z_asg, ↓z_if, ↓z_par, ↓z_par3, ↓z_sub, ↓z_dput, ↓z_fld, ↓z_for, ↓z_v, ↓z_vS, ↓z_v0, ↓z_e0, ↓z_e1, ↓z_e2, ↓z_c, ↓z_bin, ↓z_nil, ↓z_cons, ↓z_b, ↓z_bm, ↓z_call, ↓z_calld, ↓z_wb, ↓z_asB, ↓z_asT, ↓z_wtB, ↓z_wtN, ↓z_wtI, ↓z_wtT0, ↓z_wtT1, ↓z_wtL0, ↓z_wtL1, ↓z_notB, ↓z_andB, ↓z_orB, ↓z_notT, ↓z_andT, ↓z_orT, ↓z_ifE, ↓z_isn, ↓z_notn, ↓z_neg, ↓z_chain, ↓z_yes, ↓z_nopart, ↓z_part, ↓z_sl, ↓z_tup, ↓z_lst, ↓z_mkL, ↓z_mkLn, ↓z_dic0, ↓z_mkD, ↓z_mkDn, ↓z_revL, ↓z_fldE, ↓z_insV, ↓z_get2, ↓z_itS, ↓z_itR1, ↓z_itR2, ↓z_itT, ↓z_itE, ↓z_itZ, ↓z_get, ↓z_int, ↓z_int1, ↓z_int2, ↓z_one1, ↓z_two2, ↓z_str, ↓z_asLl, ↓z_asLr, ↓z_itLl, ↓z_itLt, ↓z_gN, ↓z_gNl, ↓z_gCs, ↓z_gTt, ↓z_gTl, ↓z_an, ↓z_ct, ↓z_cf, ↓z_ty1, ↓z_ty2, ↓z_ty3, ↓z_ty4, ↓z_anT, ↓z_addI, ↓z_addS, ↓z_addT, ↓z_addLL, ↓z_subI, ↓z_mod, ↓z_lt, ↓z_le, ↓z_gt, ↓z_ge, ↓z_eqI, ↓z_neI, ↓z_eqS, ↓z_neS, ↓z_eqB, ↓z_neB, ↓z_inL, ↓z_ninL, ↓z_lenL, ↓z_lenT, ↓z_lenD, ↓z_lenS, ↓z_slS, ↓z_slT, ↓z_slL, ↓z_listL, ↓z_listT, ↓z_listD, ↓z_tupL, ↓z_tupT, ↓z_max, ↓z_min, ↓z_dictD, ↓z_int1B, ↓z_int1I, ↓z_meth0, ↓z_methd, List.set_cons_zero, List.set_cons_succ, q_e0, q_e1, q_e2, -eq_self, -iff_self]); (try (first | with_reducible refine o_wp ?_ | with_reducible refine o_ws ?_ | with_reducible refine o_get ?_ | with_reducible refine o_an ?_ | with_reducible refine o_if ?_ | with_reducible refine o_wb ?_ | with_reducible refine o_wt ?_ | with_reducible refine o_v ?_ | with_reducible refine o_sub ?_ | with_reducible refine o_put ?_ | with_reducible refine o_fld ?_ | with_reducible refine o_ins ?_))))
local macro_rules | `(tactic| walk_at "w") => `(tactic| (walk_at "zs"; (repeat ((first | with_reducible refine wp_ixT (by with_unfolding_all rfl) ?_ | with_reducible refine wp_ixL (by with_unfolding_all rfl) ?_ | with_reducible refine wv (by with_unfolding_all rfl) ?_ | with_reducible refine get (by with_unfolding_all rfl) ?_ | with_reducible refine an (by walk_at "dq") ?_ | with_reducible refine wt (by with_unfolding_all rfl) ?_ | with_reducible refine ite_t ?_ | with_reducible refine ite_f ?_ | with_reducible refine ite_rt (by with_unfolding_all rfl) ?_ | with_reducible refine ite_rf (by with_unfolding_all rfl) ?_ | with_reducible refine wp_isiT (by with_unfolding_all rfl) ?_ | with_reducible refine wp_isiF (by with_unfolding_all rfl) ?_); walk_at "zs"))))
local macro_rules | `(tactic| walk_at "dq") => `(tactic| first | with_unfolding_all rfl | walk_at "r62" | walk_at "sz")
local macro_rules | `(tactic| walk_at "zs") => `(tactic| ((try (first | with_reducible refine i_wp ?_ | with_reducible refine i_ws ?_ | with_reducible refine i_get ?_ | with_reducible refine i_an ?_ | with_reducible refine i_if ?_ | with_reducible refine i_wb ?_ | with_reducible refine i_wt ?_ | with_reducible refine i_sub ?_ | with_reducible refine i_put ?_ | with_reducible refine i_fld ?_ | with_reducible refine i_ins ?_)); (try simp (disch := walk_at "dq") only [↓z_seq, ↓z_next, ↓z_break, ↓z_cont, ↓z_retN, ↓z_ret, ↓z_drop, ↓z_set, ↓z_asg, ↓z_if, ↓z_par, ↓z_par3, ↓z_sub, ↓z_dput, ↓z_fld, ↓z_for, ↓z_v, ↓z_vS, ↓z_v0, ↓z_e0, ↓z_e1, ↓z_e2, ↓z_c, ↓z_bin, ↓z_nil, ↓z_cons, ↓z_b, ↓z_bm, ↓z_call, ↓z_calld, ↓z_wb, ↓z_asB, ↓z_asT, ↓z_wtB, ↓z_wtN, ↓z_wtI, ↓z_wtT0, ↓z_wtT1, ↓z_wtL0, ↓z_wtL1, ↓z_notB, ↓z_andB, ↓z_orB, ↓z_notT, ↓z_andT, ↓z_orT, ↓z_ifE, ↓z_isn, ↓z_notn, ↓z_neg, ↓z_chain, ↓z_yes, ↓z_nopart, ↓z_part, ↓z_sl, ↓z_tup, ↓z_lst, ↓z_mkL, ↓z_mkLn, ↓z_dic0, ↓z_mkD, ↓z_mkDn, ↓z_revL, ↓z_fldE, ↓z_insV, ↓z_get2, ↓z_itS, ↓z_itR1, ↓z_itR2, ↓z_itT, ↓z_itE, ↓z_itZ, ↓z_get, ↓z_int, ↓z_int1, ↓z_int2, ↓z_one1, ↓z_two2, ↓z_str, ↓z_asLl, ↓z_asLr, ↓z_itLl, ↓z_itLt, ↓z_gN, ↓z_gNl, ↓z_gCs, ↓z_gTt, ↓z_gTl, ↓z_an, ↓z_ct, ↓z_cf, ↓z_ty1, ↓z_ty2, ↓z_ty3, ↓z_ty4, ↓z_anT, ↓z_addI, ↓z_addS, ↓z_addT, ↓z_addLL, ↓z_subI, ↓z_mod, ↓z_lt, ↓z_le, ↓z_gt, ↓z_ge, ↓z_eqI, ↓z_neI, ↓z_eqS, ↓z_neS, ↓z_eqB, ↓z_neB, ↓z_inL, ↓z_ninL, ↓z_lenL, ↓z_lenT, ↓z_lenD, ↓z_lenS, ↓z_slS, ↓z_slT, ↓z_slL, ↓z_listL, ↓z_listT, ↓z_listD, ↓z_tupL, ↓z_tupT, ↓z_max, ↓z_min, ↓z_dictD, ↓z_int1B, ↓z_int1I, ↓z_meth0, ↓z_methd, List.set_cons_zero, List.set_cons_succ, q_e0, q_e1, q_e2, ↓z_seen, ↓z_hidden, ↓z_deeds, ↓z_asks, -eq_self, -iff_self]); (try (first | with_reducible refine o_wp ?_ | with_reducible refine o_ws ?_ | with_reducible refine o_get ?_ | with_reducible refine o_an ?_ | with_reducible refine o_if ?_ | with_reducible refine o_wb ?_ | with_reducible refine o_wt ?_ | with_reducible refine o_v ?_ | with_reducible refine o_sub ?_ | with_reducible refine o_put ?_ | with_reducible refine o_fld ?_ | with_reducible refine o_ins ?_))))
local macro_rules | `(tactic| walk_at "w") => `(tactic| (walk_at "zs"; (repeat ((first | with_reducible refine wp_inPQ ?_ | with_reducible refine wp_inMD ?_ | with_reducible refine wp_ninMD ?_ | with_reducible refine wp_inGo ?_ | with_reducible refine wp_ninGo ?_ | with_reducible refine wp_inDM ?_ | with_reducible refine wp_ninDM ?_ | with_reducible refine ite_dt (by assumption) ?_ | with_reducible refine ite_df (by assumption) ?_ | with_reducible refine ite_nt (by assumption) ?_ | with_reducible refine ite_nf (by assumption) ?_ | with_reducible refine ite_rt (by assumption) ?_ | with_reducible refine ite_rf (by assumption) ?_ | with_reducible refine wp_eqTn ?_ | with_reducible refine wp_ixT (by with_unfolding_all rfl) ?_ | with_reducible refine wp_ixL (by with_unfolding_all rfl) ?_ | with_reducible refine wv (by with_unfolding_all rfl) ?_ | with_reducible refine get (by with_unfolding_all rfl) ?_ | with_reducible refine an (by walk_at "dq") ?_ | with_reducible refine wt (by with_unfolding_all rfl) ?_ | with_reducible refine ite_t ?_ | with_reducible refine ite_f ?_ | with_reducible refine ite_rt (by with_unfolding_all rfl) ?_ | with_reducible refine ite_rf (by with_unfolding_all rfl) ?_ | with_reducible refine wp_isiT (by with_unfolding_all rfl) ?_ | with_reducible refine wp_isiF (by with_unfolding_all rfl) ?_); walk_at "zs"))))
structure Four (S : Sto) (U L : List (List Nat)) (D A : List (List Nat × Int)) (u hid dee ask : MV) : Prop where
  u : HL S u (U.map MV.str)
  h : HL S hid (L.map MV.str) ∨ hid = .non ∧ L = []
  d : HD S dee (kvOf D) ∨ dee = .non ∧ D = []
  a : HD S ask (kvOf A) ∨ ask = .non ∧ A = []
section
variable {S : Sto} {Q : MV → Sto → Prop} {E : MX → Sto → Prop} {U L : List (List Nat)} {D A : List (List Nat × Int)} {u hid dee ask : MV}
theorem Four.app {T : Sto} (h : Four S U L D A u hid dee ask) : Four (S ++ T) U L D A u hid dee ask := ⟨h.u.app, h.h.imp (fun h => h.app) id, h.d.imp (fun h => h.app) id, h.a.imp (fun h => h.app) id⟩
noncomputable abbrev initM : MSt := (sSeq (sIf (mOrB (mNotB (asT (mCall 2 (runP m_is_named) [] (mCons (mV 1) (mCons (mC (.int 1)) mNil))))) (mNotB (asT (mCall 2 (runP m_is_named) [] (mCons (mV 5) (mCons (mC (.int 0)) mNil)))))) sBad sNext)
  (sSeq (sIf (mOrB (mNotB (asT (mCall 2 (runP m_is_counted) [] (mCons (mV 6) (mCons (mC (.int 0)) mNil))))) (mNotB (asT (mCall 2 (runP m_is_counted) [] (mCons (mV 7) (mCons (mC (.int 1)) mNil)))))) sBad sNext)
  (sSeq (sSet 8 (mBin (fAdd false) (mBin (fAdd false) (mBin (fAdd false) (mV 1) (mV 5)) (mB (fListA false) (mCons (mV 6) mNil))) (mB (fListA false) (mCons (mV 7) mNil))))
  (sSeq (sIf (mOrB (asB (mBin fNe (mLenOnce (mV 8)) (mB fLen (mCons (mV 8) mNil)))) (mOrB (asB (mBin fIn (mC (.str [112])) (mV 8))) (asB (mBin fIn (mC (.str [113])) (mV 8))))) sBad sNext)
  (sSeq (sFldM 0 "upper" (mV 0) (mB (fListA false) (mCons (mV 1) mNil)))
  (sSeq (sFldM 0 "lower" (mV 0) (mB (fListA false) (mCons (mV 5) mNil)))
  (sSeq (sFldM 0 "makers" (mV 0) (mB (fDict false) (mCons (mV 6) mNil)))
  (sFldM 0 "tellers" (mV 0) (mB (fDict false) (mCons (mV 7) mNil))))))))))
theorem kv_keys2 (ps : List (List Nat × Int)) : (kvOf ps).map (fun p => p.1) = (ps.map (·.1)).map MV.str := by
  simp only [kvOf, List.map_map]; rfl
theorem initM_ws {b d t : MV} (hG : GearOk U L D A) (hS : S.all okP = true) (hu : HL S u (U.map MV.str)) (hb : HL S b (L.map MV.str)) (hd : HD S d (kvOf D)) (ht : HD S t (kvOf A)) (q : Q .non (S ++ [.ins 0 (gearFs (.lst (U.map MV.str)) (.lst (L.map MV.str)) (.dic (kvOf D)) (.dic (kvOf A)))])) :
    Ws (initM [some (.ref S.length), some u, some hid, some dee, some ask, some b, some d, some t, none] (S ++ [.ins 0 []])) (fun _ S1 => Wp (leaveV (S ++ [.ins 0 []]) S1 .non) Q E) (fun v S1 => Wp (leaveV (S ++ [.ins 0 []]) S1 v) Q E) (fun _ _ => False) (fun _ _ => False) (fun x _ S1 => Wp (leaveX (α := MV) (S ++ [.ins 0 []]) S1 x) Q E) := by
  have gl : ∀ o : MO, (S ++ [o])[S.length]? = some o := fun o => by simp
  have sl : ∀ o o' : MO, (S ++ [o]).set S.length o' = S ++ [o'] := fun o o' => by simp
  have c4 := hG.u4
  have c5 := hG.l4
  have c6 := hG.d6
  have c7 := hG.t6
  have c1 := hG.u1
  have hS2 : (S ++ [MO.ins 0 []]).all okP = true := by rw [List.all_append, hS]; rfl
  have n1 := named_ok (least := 1) (hu.app (T := [.ins 0 []])) hS2 (by omega) c4 hG.nU
  have n2 := named_ok (least := 0) (hb.app (T := [.ins 0 []])) hS2 (by omega) c5 hG.nL
  have n3 := counted_ok (least := 0) (hd.app (T := [.ins 0 []])) hS2 c6 hG.nD
  have n4 := counted_ok (least := 1) (ht.app (T := [.ins 0 []])) hS2 c7 hG.nT
  have a1 := add_ok (hu.app (T := [.ins 0 []])) (hb.app (T := [.ins 0 []])) (by rw [List.length_map, List.length_map]; unfold sizeLine; omega)
  have k1 := (hd.app (T := [.ins 0 []])).list false
  have k2 := (ht.app (T := [.ins 0 []])).list false
  have l1 := fun fs => (hu.app (T := [.ins 0 fs])).list false
  have l2 := fun fs => (hb.app (T := [.ins 0 fs])).list false
  have l3 := fun fs => (hd.app (T := [.ins 0 fs])).dict false
  have l4 := fun fs => (ht.app (T := [.ins 0 fs])).dict false
  rw [kv_keys2] at k1 k2
  simp only [mkL, mkD, Bool.false_eq_true, if_false] at k1 k2 l1 l2 l3 l4
  have hnotin : ∀ q : List Nat, (∀ z, Nm z → z ≠ q) → q ∉ U ++ L ++ D.map (·.1) ++ A.map (·.1) := by
    intro q hq hm
    rcases List.mem_append.mp hm with hm | hm
    · rcases List.mem_append.mp hm with hm | hm
      · rcases List.mem_append.mp hm with hm | hm
        · exact hq q (hG.nU q hm) rfl
        · exact hq q (hG.nL q hm) rfl
      · obtain ⟨p, hp, rfl⟩ := List.mem_map.mp hm
        exact hq _ (hG.nD p hp).1 rfl
    · obtain ⟨p, hp, rfl⟩ := List.mem_map.mp hm
      exact hq _ (hG.nT p hp).1 rfl
  have hp1 := hnotin [112] fun z h => h.np
  have hp2 := hnotin [113] fun z h => h.nq
  have hnd := hG.nd
  have hzl : (U ++ L ++ D.map (·.1) ++ A.map (·.1)).length ≤ 20 := by
    simp only [List.length_append, List.length_map]; omega
  unfold initM
  walk_at "w"
  refine wp_eq n1 ?_
  walk_at "w"
  refine wp_eq n2 ?_
  walk_at "w"
  refine wp_eq n3 ?_
  walk_at "w"
  refine wp_eq n4 ?_
  walk_at "w"
  refine wp_eq a1 ?_
  walk_at "w"
  refine wp_eq k1 ?_
  walk_at "w"
  refine wp_eq k2 ?_
  walk_at "w"
  rw [← List.map_append, ← List.map_append, ← List.map_append]
  generalize U ++ L ++ D.map (·.1) ++ A.map (·.1) = zs at *
  have lo : ∀ S : Sto, ∀ x0 x1 x2 x3 x4 x5 x6 x7 : Option MV, mLenOnce (mV 8) [x0, x1, x2, x3, x4, x5, x6, x7, some (.lst (zs.map MV.str))] S = .ok (.int (zs.length : Int)) S := fun S x0 x1 x2 x3 x4 x5 x6 x7 => by
    have z1 : (asL S (.lst (zs.map MV.str))).bind strsOf = some zs := by
      show (some (zs.map MV.str)).bind strsOf = _
      rw [Option.bind_some, strs_map]
    have z2 : zs.length ≤ 4000 := by omega
    have z3 : (onceM zs).length = zs.length := by rw [once_nodup _ hnd]
    simp only [mLenOnce, mV, List.getElem?_cons_zero, List.getElem?_cons_succ, bind_ok, z1, if_pos z2, z3]
  refine wp_eq (lo _ _ _ _ _ _ _ _ _) ?_
  have lz : (zs.map MV.str).length = zs.length := List.length_map _
  walk_at "w"
  rw [if_neg (by rw [lz]; simp)]
  have isin : ∀ (q : List Nat) (S : Sto), q ∉ zs → fIn (.str q) (.lst (zs.map MV.str)) S = .ok (.bl false) S := fun q S hq => by
    simp only [fIn, in_strs (S := S) (x := .lst (zs.map MV.str)) (F := zs) rfl (fun s => by simp), decide_eq_false hq]
  generalize zs.map MV.str = ZS at *
  walk_at "w"
  refine wp_eq (isin _ _ hp1) ?_
  walk_at "w"
  refine wp_eq (isin _ _ hp2) ?_
  walk_at "w"
  refine wp_eq (l1 []) ?_
  walk_at "w"
  refine fld_ref (gl _) (by decide) ?_
  rw [sl, put_up]
  walk_at "w"
  refine wp_eq (l2 _) ?_
  walk_at "w"
  refine fld_ref (gl _) (by simp) ?_
  rw [sl, put_lo]
  walk_at "w"
  refine wp_eq (l3 _) ?_
  walk_at "w"
  refine fld_ref (gl _) (by simp) ?_
  rw [sl, put_ma]
  walk_at "w"
  refine wp_eq (l4 _) ?_
  walk_at "w"
  refine fld_ref (gl _) (by simp) ?_
  rw [sl, put_te]
  have keep : Keeps (S ++ [MO.ins 0 []]) (S ++ [MO.ins 0 (gearFs (.lst (U.map MV.str)) (.lst (L.map MV.str)) (.dic (kvOf D)) (.dic (kvOf A)))]) := by
    have e : S ++ [MO.ins 0 (gearFs (.lst (U.map MV.str)) (.lst (L.map MV.str)) (.dic (kvOf D)) (.dic (kvOf A)))] = (S ++ [MO.ins 0 []]).set S.length (.ins 0 (gearFs (.lst (U.map MV.str)) (.lst (L.map MV.str)) (.dic (kvOf D)) (.dic (kvOf A)))) := (sl _ _).symm
    rw [e]
    refine keeps_set (keeps_refl _) ?_
    exact gear_cl U L D A _
  exact wp_leave1 keep (by simp) (by simp only [Cl]) q
theorem init_wp (hG : GearOk U L D A) (hS : S.all okP = true) (h : Four S U L D A u hid dee ask) (q : Q .non (S ++ [.ins 0 (gearFs (.lst (U.map MV.str)) (.lst (L.map MV.str)) (.dic (kvOf D)) (.dic (kvOf A)))])) :
    Wp (m_Gear_init [.ref S.length, u, hid, dee, ask] (S ++ [.ins 0 []])) Q E := by
  have iw := fun b d t hb hd ht => @initM_ws S Q E U L D A u hid dee ask b d t hG hS h.u hb hd ht q
  have hh := h.h
  have hd := h.d
  have ha := h.a
  unfold m_Gear_init
  refine wp_def ?_
  unfold b_Gear_init
  show Ws (sSeq _ (sSeq _ (sSeq _ initM)) _ _) _ _ _ _ _
  obtain ⟨KK, hKK⟩ : ∃ KK, KK = initM := ⟨_, rfl⟩
  rw [← hKK] at iw ⊢
  have sub : ∀ (e : Env), e[2]? = some (some hid) → ∃ b, HL S b (L.map MV.str) ∧ ∀ S', mIf (asB (mIsN (mV 2))) (mLst false mNil) (mV 2) e S' = .ok b S' := fun e h2 => by
    rcases hh with h | ⟨rfl, rfl⟩
    · refine ⟨hid, h, fun S' => ?_⟩
      simp only [mIf, asB, mIsN, mV, h2, bind_ok, h.notN]
      rfl
    · refine ⟨.lst [], .inl rfl, fun S' => ?_⟩
      simp only [mIf, asB, mIsN, mV, h2, bind_ok]
      rfl
  have sub2 : ∀ (e : Env), e[3]? = some (some dee) → ∃ b, HD S b (kvOf D) ∧ ∀ S', mIf (asB (mIsN (mV 3))) (mDic0 false) (mV 3) e S' = .ok b S' := fun e h2 => by
    rcases hd with h | ⟨rfl, rfl⟩
    · refine ⟨dee, h, fun S' => ?_⟩
      simp only [mIf, asB, mIsN, mV, h2, bind_ok, h.notN]
      rfl
    · refine ⟨.dic [], .inl rfl, fun S' => ?_⟩
      simp only [mIf, asB, mIsN, mV, h2, bind_ok]
      rfl
  have sub3 : ∀ (e : Env), e[4]? = some (some ask) → ∃ b, HD S b (kvOf A) ∧ ∀ S', mIf (asB (mIsN (mV 4))) (mDic0 false) (mV 4) e S' = .ok b S' := fun e h2 => by
    rcases ha with h | ⟨rfl, rfl⟩
    · refine ⟨ask, h, fun S' => ?_⟩
      simp only [mIf, asB, mIsN, mV, h2, bind_ok, h.notN]
      rfl
    · refine ⟨.dic [], .inl rfl, fun S' => ?_⟩
      simp only [mIf, asB, mIsN, mV, h2, bind_ok]
      rfl
  obtain ⟨b, hb, e1⟩ := sub (env0 9 [.ref S.length, u, hid, dee, ask]) rfl
  refine ws_seq (ws_set (wp_eq (e1 _) ?_))
  obtain ⟨d, hd, e2⟩ := sub2 ((env0 9 [.ref S.length, u, hid, dee, ask]).set 5 (some b)) rfl
  refine ws_seq (ws_set (wp_eq (e2 _) ?_))
  obtain ⟨t, ht, e3⟩ := sub3 (((env0 9 [.ref S.length, u, hid, dee, ask]).set 5 (some b)).set 6 (some d)) rfl
  refine ws_seq (ws_set (wp_eq (e3 _) ?_))
  exact iw b d t hb hd ht
/-- made by place -/
theorem make_wp {env : Env} {as : MA} {vs ms : List MV} {S1 : Sto} (hG : GearOk U L D A) (ha : as env S = .ok vs S1) (hv : vs ++ ms = [u, hid, dee, ask]) (hS : S1.all okP = true) (h : Four S1 U L D A u hid dee ask) (q : Q (gearM U L D A) S1) : Wp (mMake false 0 5 m_Gear_init ms as env S) Q E := by
  have w : Wp (m_Gear_init [.ref S1.length, u, hid, dee, ask] (S1 ++ [.ins 0 []])) (fun v S' => v = .non ∧ S' = S1 ++ [.ins 0 (gearFs (.lst (U.map MV.str)) (.lst (L.map MV.str)) (.dic (kvOf D)) (.dic (kvOf A)))]) (fun _ _ => False) := init_wp hG hS h ⟨rfl, rfl⟩
  obtain ⟨v, S', e2, rfl, rfl⟩ := wp_ex w
  have lv := leaveV_newI (S := S1) (S1 := S1) (c := 0) (keeps_refl S1) rfl (gear_cl U L D A S1.length)
  have e3 : mMake false 0 5 m_Gear_init ms as env S = .ok (gearM U L D A) S1 := by
    unfold mMake
    simp only [ha, bind_ok, hv]
    rw [if_pos (show [MV.ref S1.length, u, hid, dee, ask].length = 5 from rfl), e2]
    simp only [compE, Bool.false_eq_true, if_false, lv]
  exact wp_eq e3 q
/-- made by keywords -/
theorem makeK_wp {env : Env} {as : MA} {S1 : Sto} (hG : GearOk U L D A) (ha : as env S = .ok [ask, dee, hid, u] S1) (hS : S1.all okP = true) (h : Four S1 U L D A u hid dee ask) (q : Q (gearM U L D A) S1) : Wp (mMakeK false 0 5 m_Gear_init 4 as env S) Q E := by
  have w : Wp (m_Gear_init [.ref S1.length, u, hid, dee, ask] (S1 ++ [.ins 0 []])) (fun v S' => v = .non ∧ S' = S1 ++ [.ins 0 (gearFs (.lst (U.map MV.str)) (.lst (L.map MV.str)) (.dic (kvOf D)) (.dic (kvOf A)))]) (fun _ _ => False) := init_wp hG hS h ⟨rfl, rfl⟩
  obtain ⟨v, S', e2, rfl, rfl⟩ := wp_ex w
  have lv := leaveV_newI (S := S1) (S1 := S1) (c := 0) (keeps_refl S1) rfl (gear_cl U L D A S1.length)
  have e3 : mMakeK false 0 5 m_Gear_init 4 as env S = .ok (gearM U L D A) S1 := by
    unfold mMakeK
    simp only [ha, bind_ok]
    rw [if_pos ⟨rfl, rfl⟩]
    show (match m_Gear_init [MV.ref S1.length, u, hid, dee, ask] (S1 ++ [.ins 0 []]) with | .ok .non S2 => compE false S1 S2 | .ex x S2 => leaveX S1 S2 x | _ => .bad) = _
    rw [e2]
    simp only [compE, Bool.false_eq_true, if_false, lv]
  exact wp_eq e3 q
end
end K11
end Mi
namespace Mi
namespace K11
open PySem L2 TL
open Sh hiding b_Gear_deeds m_Gear_deeds b_Gear_init m_Gear_init
local macro_rules | `(tactic| walk_at "r62") => `(tactic| first | exact r62 (by omega) (by omega) | exact ⟨r62 (by omega) (by omega), r62 (by omega) (by omega)⟩)
local macro_rules | `(tactic| walk_at "sz") => `(tactic| first | omega | (simp only [List.length_cons, List.length_nil, List.length_append, List.length_map, List.length_replicate, List.length_take, List.length_drop, sizeLine] <;> omega) | (unfold sizeLine; omega) | decide)
local macro_rules | `(tactic| walk_at "dq") => `(tactic| first | with_unfolding_all rfl | walk_at "r62" | walk_at "sz")
local macro_rules | `(tactic| walk_at "zs") => `(tactic| ((try (first | with_reducible refine i_wp ?_ | with_reducible refine i_ws ?_ | with_reducible refine i_get ?_ | with_reducible refine i_an ?_ | with_reducible refine i_if ?_ | with_reducible refine i_wb ?_ | with_reducible refine i_wt ?_ | with_reducible refine i_sub ?_ | with_reducible refine i_put ?_ | with_reducible refine i_fld ?_ | with_reducible refine i_ins ?_)); (try simp (disch := walk_at "dq") only [↓z_seq, ↓z_next, ↓z_break, ↓z_cont, ↓z_retN, ↓z_ret, ↓z_drop, ↓z_set, ↓z_asg, ↓z_if, ↓z_par, ↓z_par3, ↓z_sub, ↓z_dput, ↓z_fld, ↓z_for, ↓z_v, ↓z_vS, ↓z_v0, ↓z_e0, ↓z_e1, ↓z_e2, ↓z_c, ↓z_bin, ↓z_nil, ↓z_cons, ↓z_b, ↓z_bm, ↓z_call, ↓z_calld, ↓z_wb, ↓z_asB, ↓z_asT, ↓z_wtB, ↓z_wtN, ↓z_wtI, ↓z_wtT0, ↓z_wtT1, ↓z_wtL0, ↓z_wtL1, ↓z_notB, ↓z_andB, ↓z_orB, ↓z_notT, ↓z_andT, ↓z_orT, ↓z_ifE, ↓z_isn, ↓z_notn, ↓z_neg, ↓z_chain, ↓z_yes, ↓z_nopart, ↓z_part, ↓z_sl, ↓z_tup, ↓z_lst, ↓z_mkL, ↓z_mkLn, ↓z_dic0, ↓z_mkD, ↓z_mkDn, ↓z_revL, ↓z_fldE, ↓z_insV, ↓z_get2, ↓z_itS, ↓z_itR1, ↓z_itR2, ↓z_itT, ↓z_itE, ↓z_itZ, ↓z_get, ↓z_int, ↓z_int1, ↓z_int2, ↓z_one1, ↓z_two2, ↓z_str, ↓z_asLl, ↓z_asLr, ↓z_itLl, ↓z_itLt, ↓z_gN, ↓z_gNl, ↓z_gCs, ↓z_gTt, ↓z_gTl, ↓z_an, ↓z_ct, ↓z_cf, ↓z_ty1, ↓z_ty2, ↓z_ty3, ↓z_ty4, ↓z_anT, ↓z_addI, ↓z_addS, ↓z_addT, ↓z_addLL, ↓z_subI, ↓z_mod, ↓z_lt, ↓z_le, ↓z_gt, ↓z_ge, ↓z_eqI, ↓z_neI, ↓z_eqS, ↓z_neS, ↓z_eqB, ↓z_neB, ↓z_inL, ↓z_ninL, ↓z_lenL, ↓z_lenT, ↓z_lenD, ↓z_lenS, ↓z_slS, ↓z_slT, ↓z_slL, ↓z_listL, ↓z_listT, ↓z_listD, ↓z_tupL, ↓z_tupT, ↓z_max, ↓z_min, ↓z_dictD, ↓z_int1B, ↓z_int1I, ↓z_meth0, ↓z_methd, List.set_cons_zero, List.set_cons_succ, q_e0, q_e1, q_e2, -eq_self, -iff_self]); (try (first | with_reducible refine o_wp ?_ | with_reducible refine o_ws ?_ | with_reducible refine o_get ?_ | with_reducible refine o_an ?_ | with_reducible refine o_if ?_ | with_reducible refine o_wb ?_ | with_reducible refine o_wt ?_ | with_reducible refine o_v ?_ | with_reducible refine o_sub ?_ | with_reducible refine o_put ?_ | with_reducible refine o_fld ?_ | with_reducible refine o_ins ?_))))
local macro_rules | `(tactic| walk_at "w") => `(tactic| (walk_at "zs"; (repeat ((first | with_reducible refine wp_ixT (by with_unfolding_all rfl) ?_ | with_reducible refine wp_ixL (by with_unfolding_all rfl) ?_ | with_reducible refine wv (by with_unfolding_all rfl) ?_ | with_reducible refine get (by with_unfolding_all rfl) ?_ | with_reducible refine an (by walk_at "dq") ?_ | with_reducible refine wt (by with_unfolding_all rfl) ?_ | with_reducible refine ite_t ?_ | with_reducible refine ite_f ?_ | with_reducible refine ite_rt (by with_unfolding_all rfl) ?_ | with_reducible refine ite_rf (by with_unfolding_all rfl) ?_ | with_reducible refine wp_isiT (by with_unfolding_all rfl) ?_ | with_reducible refine wp_isiF (by with_unfolding_all rfl) ?_); walk_at "zs"))))
local macro_rules | `(tactic| walk_at "dq") => `(tactic| first | with_unfolding_all rfl | walk_at "r62" | walk_at "sz")
local macro_rules | `(tactic| walk_at "zs") => `(tactic| ((try (first | with_reducible refine i_wp ?_ | with_reducible refine i_ws ?_ | with_reducible refine i_get ?_ | with_reducible refine i_an ?_ | with_reducible refine i_if ?_ | with_reducible refine i_wb ?_ | with_reducible refine i_wt ?_ | with_reducible refine i_sub ?_ | with_reducible refine i_put ?_ | with_reducible refine i_fld ?_ | with_reducible refine i_ins ?_)); (try simp (disch := walk_at "dq") only [↓z_seq, ↓z_next, ↓z_break, ↓z_cont, ↓z_retN, ↓z_ret, ↓z_drop, ↓z_set, ↓z_asg, ↓z_if, ↓z_par, ↓z_par3, ↓z_sub, ↓z_dput, ↓z_fld, ↓z_for, ↓z_v, ↓z_vS, ↓z_v0, ↓z_e0, ↓z_e1, ↓z_e2, ↓z_c, ↓z_bin, ↓z_nil, ↓z_cons, ↓z_b, ↓z_bm, ↓z_call, ↓z_calld, ↓z_wb, ↓z_asB, ↓z_asT, ↓z_wtB, ↓z_wtN, ↓z_wtI, ↓z_wtT0, ↓z_wtT1, ↓z_wtL0, ↓z_wtL1, ↓z_notB, ↓z_andB, ↓z_orB, ↓z_notT, ↓z_andT, ↓z_orT, ↓z_ifE, ↓z_isn, ↓z_notn, ↓z_neg, ↓z_chain, ↓z_yes, ↓z_nopart, ↓z_part, ↓z_sl, ↓z_tup, ↓z_lst, ↓z_mkL, ↓z_mkLn, ↓z_dic0, ↓z_mkD, ↓z_mkDn, ↓z_revL, ↓z_fldE, ↓z_insV, ↓z_get2, ↓z_itS, ↓z_itR1, ↓z_itR2, ↓z_itT, ↓z_itE, ↓z_itZ, ↓z_get, ↓z_int, ↓z_int1, ↓z_int2, ↓z_one1, ↓z_two2, ↓z_str, ↓z_asLl, ↓z_asLr, ↓z_itLl, ↓z_itLt, ↓z_gN, ↓z_gNl, ↓z_gCs, ↓z_gTt, ↓z_gTl, ↓z_an, ↓z_ct, ↓z_cf, ↓z_ty1, ↓z_ty2, ↓z_ty3, ↓z_ty4, ↓z_anT, ↓z_addI, ↓z_addS, ↓z_addT, ↓z_addLL, ↓z_subI, ↓z_mod, ↓z_lt, ↓z_le, ↓z_gt, ↓z_ge, ↓z_eqI, ↓z_neI, ↓z_eqS, ↓z_neS, ↓z_eqB, ↓z_neB, ↓z_inL, ↓z_ninL, ↓z_lenL, ↓z_lenT, ↓z_lenD, ↓z_lenS, ↓z_slS, ↓z_slT, ↓z_slL, ↓z_listL, ↓z_listT, ↓z_listD, ↓z_tupL, ↓z_tupT, ↓z_max, ↓z_min, ↓z_dictD, ↓z_int1B, ↓z_int1I, ↓z_meth0, ↓z_methd, List.set_cons_zero, List.set_cons_succ, q_e0, q_e1, q_e2, ↓z_seen, ↓z_hidden, ↓z_deeds, ↓z_asks, -eq_self, -iff_self]); (try (first | with_reducible refine o_wp ?_ | with_reducible refine o_ws ?_ | with_reducible refine o_get ?_ | with_reducible refine o_an ?_ | with_reducible refine o_if ?_ | with_reducible refine o_wb ?_ | with_reducible refine o_wt ?_ | with_reducible refine o_v ?_ | with_reducible refine o_sub ?_ | with_reducible refine o_put ?_ | with_reducible refine o_fld ?_ | with_reducible refine o_ins ?_))))
local macro_rules | `(tactic| walk_at "w") => `(tactic| (walk_at "zs"; (repeat ((first | with_reducible refine wp_inPQ ?_ | with_reducible refine wp_inMD ?_ | with_reducible refine wp_ninMD ?_ | with_reducible refine wp_inGo ?_ | with_reducible refine wp_ninGo ?_ | with_reducible refine wp_inDM ?_ | with_reducible refine wp_ninDM ?_ | with_reducible refine ite_dt (by assumption) ?_ | with_reducible refine ite_df (by assumption) ?_ | with_reducible refine ite_nt (by assumption) ?_ | with_reducible refine ite_nf (by assumption) ?_ | with_reducible refine ite_rt (by assumption) ?_ | with_reducible refine ite_rf (by assumption) ?_ | with_reducible refine wp_eqTn ?_ | with_reducible refine wp_ixT (by with_unfolding_all rfl) ?_ | with_reducible refine wp_ixL (by with_unfolding_all rfl) ?_ | with_reducible refine wv (by with_unfolding_all rfl) ?_ | with_reducible refine get (by with_unfolding_all rfl) ?_ | with_reducible refine an (by walk_at "dq") ?_ | with_reducible refine wt (by with_unfolding_all rfl) ?_ | with_reducible refine ite_t ?_ | with_reducible refine ite_f ?_ | with_reducible refine ite_rt (by with_unfolding_all rfl) ?_ | with_reducible refine ite_rf (by with_unfolding_all rfl) ?_ | with_reducible refine wp_isiT (by with_unfolding_all rfl) ?_ | with_reducible refine wp_isiF (by with_unfolding_all rfl) ?_); walk_at "zs"))))
theorem items_kv (D : List (List Nat × Int)) : itemsL (kvOf D) = prM D := by
  simp only [itemsL, kvOf, prM, List.map_map]; rfl
def toldM (U L : List (List Nat)) (D A : List (List Nat × Int)) : MV := .tup [.tup (U.map MV.str), .tup (L.map MV.str), .tup (prM D), .tup (prM A)]
theorem clL_prM (n : Nat) (D : List (List Nat × Int)) : ClL n (prM D) := clL_all fun y hy => by
  obtain ⟨p, _, rfl⟩ := List.mem_map.mp hy
  simp only [Cl, ClL, and_self]
section
variable {S : Sto} {Q : MV → Sto → Prop} {E : MX → Sto → Prop} {U L : List (List Nat)} {D A : List (List Nat × Int)}
theorem told_wp (q : Q (toldM U L D A) S) : Wp (m_Gear_told [gearM U L D A] S) Q E := by
  unfold m_Gear_told
  refine wp_def ?_
  unfold b_Gear_told
  have i1 : fItemsT (.dic (kvOf D)) S = .ok (.tup (prM D)) S := by rw [← items_kv]; rfl
  have i2 : fItemsT (.dic (kvOf A)) S = .ok (.tup (prM A)) S := by rw [← items_kv]; rfl
  have ti : ∀ (e : ME) (env : Env) (Q : MV → Sto → Prop) (E : MX → Sto → Prop), Wp (e env S) (fun x S1 => Wp (fItemsT x S1) Q E) E → Wp (mItemsT e env S) Q E := fun e env Q E h => wp_bind h
  have cd := fun n => clL_prM n D
  have ca := fun n => clL_prM n A
  have q : Q (.tup [.tup (U.map MV.str), .tup (L.map MV.str), .tup (prM D), .tup (prM A)]) S := q
  generalize prM D = PD at *
  generalize prM A = PA at *
  walk_at "w"
  refine ti _ _ _ _ ?_
  walk_at "w"
  refine wp_eq i1 ?_
  walk_at "w"
  refine ti _ _ _ _ ?_
  walk_at "w"
  refine wp_eq i2 ?_
  walk_at "w"
  show Wp (leaveV S S (.tup [.tup (U.map MV.str), .tup (L.map MV.str), .tup PD, .tup PA])) Q E
  refine wp_leave0 ?_ q
  simp only [Cl, ClL, true_and, and_true]
  exact ⟨clL_strs _ _, clL_strs _ _, cd _, ca _⟩
theorem ok_of {α : Type} {r : Res α} {x : α} {S : Sto} (h : Wp r (fun v S' => v = x ∧ S' = S) (fun _ _ => False)) : r = .ok x S := by
  cases r with
  | ok v S' => obtain ⟨rfl, rfl⟩ := h; rfl
  | ex x S => exact h.elim
  | bad => exact h.elim
theorem leaveR_top {o : MO} (c : ClO S.length o) (q : Q (.ref S.length) (S ++ [o])) : Wp (leaveR S (S ++ [o]) (.ref S.length)) Q E := by
  have e : leaveR S (S ++ [o]) (.ref S.length) = .ok (.ref S.length) (S ++ [o]) := by
    unfold leaveR
    rw [if_pos (keeps_app _ (keeps_refl S))]
    have g : (S ++ [o])[S.length]? = some o := by simp
    simp only [g]
    rw [if_pos (Nat.le_refl _), if_pos c, List.take_left]
  exact wp_eq e q
theorem seen_wp (q : Q (.ref S.length) (S ++ [.lst (U.map MV.str)])) : Wp (m_Gear_seen [gearM U L D A] S) Q E := by
  unfold m_Gear_seen
  refine wp_defR ?_
  unfold b_Gear_seen
  walk_at "w"
  exact leaveR_top (by simp only [ClO]; exact clL_strs _ _) q
theorem hidden_wp (q : Q (.ref S.length) (S ++ [.lst (L.map MV.str)])) : Wp (m_Gear_hidden [gearM U L D A] S) Q E := by
  unfold m_Gear_hidden
  refine wp_defR ?_
  unfold b_Gear_hidden
  walk_at "w"
  exact leaveR_top (by simp only [ClO]; exact clL_strs _ _) q
theorem deeds_wp (q : Q (.ref S.length) (S ++ [.dic (kvOf D)])) : Wp (m_Gear_deeds [gearM U L D A] S) Q E := by
  unfold m_Gear_deeds
  refine wp_defR ?_
  unfold b_Gear_deeds
  walk_at "w"
  exact leaveR_top (by simp only [ClO]; exact clk_kv _ _) q
theorem asks_wp (q : Q (.ref S.length) (S ++ [.dic (kvOf A)])) : Wp (m_Gear_asks [gearM U L D A] S) Q E := by
  unfold m_Gear_asks
  refine wp_defR ?_
  unfold b_Gear_asks
  walk_at "w"
  exact leaveR_top (by simp only [ClO]; exact clk_kv _ _) q
def nm1 (U : List (List Nat)) : List MV := U.map fun z => .tup [.str z]
def nm2 (U : List (List Nat)) : List MV := (U.map fun a => U.map fun b => MV.tup [.str a, .str b]).flatten
def nms (U : List (List Nat)) : Nat → List MV
  | 0 => [.tup []]
  | 1 => nm1 U
  | _ => nm2 U
/-- each longer by each box -/
def longer (U : List (List Nat)) (xs : List MV) : List MV := (xs.map fun n => match n with
  | .tup ys => U.map fun b => MV.tup (ys ++ [.str b])
  | _ => []).flatten
theorem longer0 : longer U [.tup []] = nm1 U := by simp [longer, nm1]
theorem longer1 : longer U (nm1 U) = nm2 U := by
  simp only [longer, nm1, nm2, List.map_map]
  rfl
theorem cl_nm (U : List (List Nat)) (k n : Nat) : ClL n (nms U k) := clL_all fun y hy => by
  match k with
  | 0 =>
    have : y = .tup [] := by simpa [nms] using hy
    subst this
    simp only [Cl, ClL]
  | 1 =>
    obtain ⟨z, _, rfl⟩ := List.mem_map.mp hy
    simp only [Cl, ClL, and_self]
  | k + 2 =>
    obtain ⟨l, hl, hy⟩ := List.mem_flatten.mp hy
    obtain ⟨z, _, rfl⟩ := List.mem_map.mp hl
    obtain ⟨z, _, rfl⟩ := List.mem_map.mp hy
    simp only [Cl, ClL, and_self]
theorem nm_len (U : List (List Nat)) (h : U.length ≤ 4) (k : Nat) : (nms U k).length ≤ 16 := by
  match k with
  | 0 => show 1 ≤ 16; omega
  | 1 => simp only [nms, nm1, List.length_map]; omega
  | k + 2 =>
    match U, h with
    | [], _ => simp [nms, nm2]
    | [a], _ => simp [nms, nm2]
    | [a, b], _ => simp [nms, nm2]
    | [a, b, c], _ => simp [nms, nm2]
    | [a, b, c, d], _ => simp [nms, nm2]
theorem nc1_wp {ys : List MV} {l : Nat} {T : Sto} {x1 x2 x3 x4 x6 : Option MV} (hU : U.length ≤ 4) (hy : ys.length ≤ 2) (hc : ∀ n, ClL n ys) (q : Q (.lst (U.map fun b => .tup (ys ++ [.str b]))) S) : Wp (b_Gear_namings_c1 [some (gearM U L D A), x1, x2, x3, x4, some (.tup ys), x6] S) Q E := by
  unfold b_Gear_namings_c1
  have w := mComp_pure (mu := false) (mi := mItS (mFld 0 "upper" (mV 0))) (vs := [6]) (g := gN 6) (c := mYes) (e := mBin (fAdd false) (mV 5) (mTup (mCons (mV 6) mNil))) (env := [some (gearM U L D A), x1, x2, x3, x4, some (.tup ys), x6]) (S := S) (t := ⟨U.map MV.str, []⟩) (p := fun _ => true) (F := fun v => .tup (ys ++ [v]))
    rfl (fun acc => chk_nil rfl _) (fun v hv => by
      refine ⟨_, rfl, fun acc => ⟨rfl, fun _ => ?_⟩⟩
      show Mi.mBin (fAdd false) (mV 5) (mTup (mCons (mV 6) mNil)) [some (gearM U L D A), x1, x2, x3, x4, some (.tup ys), some v] (S ++ [.lst acc]) = _
      have l2 : ys.length + [v].length ≤ sizeLine := by show _ + 1 ≤ _; unfold sizeLine; omega
      exact ok_of (by
        generalize gearM U L D A = gg
        walk_at "w"
        exact ⟨rfl, rfl⟩)) (by simp; unfold sizeLine; omega) (by
      rw [List.filter_eq_self.mpr (by simp)]
      exact clL_all fun y hy => by
        obtain ⟨v, hv, rfl⟩ := List.mem_map.mp hy
        obtain ⟨z, _, rfl⟩ := List.mem_map.mp hv
        simp only [Cl]
        exact clL_app (hc _) (by simp only [ClL, Cl, and_self]))
  refine wp_eq w ?_
  simp only [Bool.false_eq_true, if_false]
  rw [List.filter_eq_self.mpr (by simp), List.map_map]
  exact q
end
section
variable {S : Sto} {Q : MV → Sto → Prop} {E : MX → Sto → Prop} {U L : List (List Nat)} {D A : List (List Nat × Int)}
theorem longer_app (xs ys : List MV) : longer U (xs ++ ys) = longer U xs ++ longer U ys := by simp [longer]
theorem longer_nm {i : Nat} (h : i ≤ 1) : longer U (nms U i) = nms U (i + 1) := by
  have : i = 0 ∨ i = 1 := by omega
  rcases this with rfl | rfl
  · exact longer0
  · exact longer1
theorem nm_el {i : Nat} (h : i ≤ 1) {v : MV} (hv : v ∈ nms U i) : ∃ ys, v = .tup ys ∧ ys.length ≤ 1 ∧ ∀ n, ClL n ys := by
  have : i = 0 ∨ i = 1 := by omega
  rcases this with rfl | rfl
  · have : v = .tup [] := by simpa [nms] using hv
    exact ⟨[], this, by simp, fun n => by simp only [ClL]⟩
  · obtain ⟨z, _, rfl⟩ := List.mem_map.mp hv
    exact ⟨[.str z], rfl, by simp, fun n => by simp only [ClL, Cl, and_self]⟩
theorem set_1 (S : Sto) (x o : MO) : (S ++ [x]).set S.length o = S ++ [o] := by
  induction S with
  | nil => rfl
  | cons y r ih => exact congrArg (List.cons y) ih
theorem chk_at {p : Nat} {xs its : List MV} {T : Sto} (h : S[p]? = some (.lst xs)) : (Itv.mk its (depsOf (.ref p) xs)).chk (S ++ T) := by
  intro a ha
  have : a = (p, xs) := by simpa [depsOf] using ha
  subst this
  exact get_app h
theorem namings_wp {k : Nat} {kk : Int} (hkk : kk = (k : Int)) (hk : k ≤ 2) (hU : U.length ≤ 4) (q : Q (.ref S.length) (S ++ [.lst (nms U k)])) : Wp (m_Gear_namings [gearM U L D A, .int kk] S) Q E := by
  have ncw := fun S Q E ys x1 x2 x3 x4 x6 hy hc q => @nc1_wp S Q E U L D A ys 0 [] x1 x2 x3 x4 x6 hU hy hc q
  have c0 : 0 ≤ kk ∧ kk ≤ 2 := by omega
  have lr : (rngL 0 kk.toNat).length = k := by simp [rngL]; omega
  generalize hgg : gearM U L D A = gg at *
  unfold m_Gear_namings
  refine wp_defR ?_
  unfold b_Gear_namings
  walk_at "w"
  refine for_wp (fun rest e S' => ∃ (i p : Nat) (X : Sto) (x3 x4 x5 x6 : Option MV), i + rest.length = k ∧ e = [some gg, some (.int kk), some (.ref p), x3, x4, x5, x6] ∧ S' = S ++ X ∧ S.length ≤ p ∧ S'[p]? = some (.lst (nms U i))) ⟨0, S.length, _, none, none, none, none, by omega, rfl, rfl, Nat.le_refl _, by simp [nms]⟩ ?_ ?_
  · rintro v rest e S' ⟨i, p, X, x3, x4, x5, x6, hi, rfl, rfl, hp, hS⟩
    simp only [List.length_cons] at hi
    refine ⟨_, rfl, ?_⟩
    show Ws (b_Gear_namings_l2 [some gg, some (.int kk), some (.ref p), some v, x4, x5, x6] (S ++ X)) _ _ _ _ _
    unfold b_Gear_namings_l2
    walk_at "w"
    have hi1 : i ≤ 1 := by omega
    have hS2 := get_app (T := [MO.lst []]) hS
    have ei : itL (S ++ X ++ [MO.lst []]) (.ref p) = some ⟨nms U i, depsOf (.ref p) (nms U i)⟩ := by
      simp only [itL, asU, asL, hS2, Option.map_some]
    refine get ei ?_
    have lall : (longer U (nms U i)).length ≤ 16 := by rw [longer_nm hi1]; exact nm_len U hU _
    have hel := fun v hv => @nm_el U i hi1 v hv
    generalize hSX : S ++ X = SX at *
    show Ws (forL ⟨nms U i, depsOf (.ref p) (nms U i)⟩ (gN 5) b_Gear_namings_l1 (nms U i) [some gg, some (.int kk), some (.ref p), some v, some (.ref SX.length), x5, x6] (SX ++ [.lst []])) _ _ _ _ _
    refine forL_wp (fun items e S' => ∃ (pre : List MV) (x5 x6 : Option MV), nms U i = pre ++ items ∧ e = [some gg, some (.int kk), some (.ref p), some v, some (.ref SX.length), x5, x6] ∧ S' = SX ++ [.lst (longer U pre)]) _ _ _ ⟨[], x5, x6, rfl, rfl, rfl⟩ ?_ ?_ ?_
    · rintro items e S' ⟨pre, x5, x6, hpre, rfl, rfl⟩
      exact chk_at hS
    · rintro u rest2 e S' ⟨pre, x5, x6, hpre, rfl, rfl⟩
      obtain ⟨ys, rfl, hy1, hyc⟩ := hel u (by rw [hpre]; simp)
      refine ⟨_, rfl, ?_⟩
      show Ws (b_Gear_namings_l1 [some gg, some (.int kk), some (.ref p), some v, some (.ref SX.length), some (.tup ys), x6] (SX ++ [.lst (longer U pre)])) _ _ _ _ _
      unfold b_Gear_namings_l1
      have gt : (SX ++ [MO.lst (longer U pre)])[SX.length]? = some (.lst (longer U pre)) := by simp
      have ht : tyM "list" (SX ++ [MO.lst (longer U pre)]) (.ref SX.length) = true := by simp only [tyM, asL, gt]; rfl
      have ll : (longer U pre).length + (U.map fun b => MV.tup (ys ++ [.str b])).length ≤ 16 := by
        rw [hpre, longer_app] at lall
        have e1 : longer U (.tup ys :: rest2) = (U.map fun b => MV.tup (ys ++ [.str b])) ++ longer U rest2 := rfl
        rw [e1] at lall
        simp only [List.length_append] at lall
        omega
      walk_at "w"
      refine ncw _ _ _ ys _ _ _ _ _ (by omega) hyc ?_
      walk_at "w"
      refine wp_extend gt rfl ?_ (by unfold sizeLine; omega)
      rw [set_1]
      refine ⟨pre ++ [.tup ys], _, _, by rw [hpre]; simp, rfl, ?_⟩
      rw [longer_app]
      simp [longer]
    · rintro e S' ⟨pre, x5, x6, hpre, rfl, rfl⟩
      rw [List.append_nil] at hpre
      subst hpre
      walk_at "w"
      refine ⟨i + 1, SX.length, X ++ [.lst (longer U (nms U i))], _, _, _, _, by omega, rfl, by rw [← hSX]; simp, by rw [← hSX]; simp, ?_⟩
      rw [longer_nm hi1]
      simp
  · rintro e S' ⟨i, p, X, x3, x4, x5, x6, hi, rfl, rfl, hp, hS⟩
    have hi : i = k := by simpa using hi
    subst hi
    walk_at "w"
    have cl := cl_nm U i S.length
    have e : leaveR S (S ++ X) (.ref p) = .ok (.ref S.length) (S ++ [.lst (nms U i)]) := by
      unfold leaveR
      rw [if_pos (keeps_app _ (keeps_refl S))]
      simp only [hS]
      rw [if_pos hp, if_pos (show ClO S.length (.lst (nms U i)) by simp only [ClO]; exact cl), List.take_left]
    exact wp_eq e q
end
end K11
end Mi
namespace Mi
namespace K11
open PySem L2 TL
open Sh hiding b_Gear_deeds m_Gear_deeds b_Gear_init m_Gear_init
local macro_rules | `(tactic| walk_at "r62") => `(tactic| first | exact r62 (by omega) (by omega) | exact ⟨r62 (by omega) (by omega), r62 (by omega) (by omega)⟩)
local macro_rules | `(tactic| walk_at "sz") => `(tactic| first | omega | (simp only [List.length_cons, List.length_nil, List.length_append, List.length_map, List.length_replicate, List.length_take, List.length_drop, sizeLine] <;> omega) | (unfold sizeLine; omega) | decide)
local macro_rules | `(tactic| walk_at "dq") => `(tactic| first | with_unfolding_all rfl | walk_at "r62" | walk_at "sz")
local macro_rules | `(tactic| walk_at "zs") => `(tactic| ((try (first | with_reducible refine i_wp ?_ | with_reducible refine i_ws ?_ | with_reducible refine i_get ?_ | with_reducible refine i_an ?_ | with_reducible refine i_if ?_ | with_reducible refine i_wb ?_ | with_reducible refine i_wt ?_ | with_reducible refine i_sub ?_ | with_reducible refine i_put ?_ | with_reducible refine i_fld ?_ | with_reducible refine i_ins ?_)); (try simp (disch := walk_at "dq") only [↓z_seq, ↓z_next, ↓z_break, ↓z_cont, ↓z_retN, ↓z_ret, ↓z_drop, ↓z_set, ↓z_asg, ↓z_if, ↓z_par, ↓z_par3, ↓z_sub, ↓z_dput, ↓z_fld, ↓z_for, ↓z_v, ↓z_vS, ↓z_v0, ↓z_e0, ↓z_e1, ↓z_e2, ↓z_c, ↓z_bin, ↓z_nil, ↓z_cons, ↓z_b, ↓z_bm, ↓z_call, ↓z_calld, ↓z_wb, ↓z_asB, ↓z_asT, ↓z_wtB, ↓z_wtN, ↓z_wtI, ↓z_wtT0, ↓z_wtT1, ↓z_wtL0, ↓z_wtL1, ↓z_notB, ↓z_andB, ↓z_orB, ↓z_notT, ↓z_andT, ↓z_orT, ↓z_ifE, ↓z_isn, ↓z_notn, ↓z_neg, ↓z_chain, ↓z_yes, ↓z_nopart, ↓z_part, ↓z_sl, ↓z_tup, ↓z_lst, ↓z_mkL, ↓z_mkLn, ↓z_dic0, ↓z_mkD, ↓z_mkDn, ↓z_revL, ↓z_fldE, ↓z_insV, ↓z_get2, ↓z_itS, ↓z_itR1, ↓z_itR2, ↓z_itT, ↓z_itE, ↓z_itZ, ↓z_get, ↓z_int, ↓z_int1, ↓z_int2, ↓z_one1, ↓z_two2, ↓z_str, ↓z_asLl, ↓z_asLr, ↓z_itLl, ↓z_itLt, ↓z_gN, ↓z_gNl, ↓z_gCs, ↓z_gTt, ↓z_gTl, ↓z_an, ↓z_ct, ↓z_cf, ↓z_ty1, ↓z_ty2, ↓z_ty3, ↓z_ty4, ↓z_anT, ↓z_addI, ↓z_addS, ↓z_addT, ↓z_addLL, ↓z_subI, ↓z_mod, ↓z_lt, ↓z_le, ↓z_gt, ↓z_ge, ↓z_eqI, ↓z_neI, ↓z_eqS, ↓z_neS, ↓z_eqB, ↓z_neB, ↓z_inL, ↓z_ninL, ↓z_lenL, ↓z_lenT, ↓z_lenD, ↓z_lenS, ↓z_slS, ↓z_slT, ↓z_slL, ↓z_listL, ↓z_listT, ↓z_listD, ↓z_tupL, ↓z_tupT, ↓z_max, ↓z_min, ↓z_dictD, ↓z_int1B, ↓z_int1I, ↓z_meth0, ↓z_methd, List.set_cons_zero, List.set_cons_succ, q_e0, q_e1, q_e2, -eq_self, -iff_self]); (try (first | with_reducible refine o_wp ?_ | with_reducible refine o_ws ?_ | with_reducible refine o_get ?_ | with_reducible refine o_an ?_ | with_reducible refine o_if ?_ | with_reducible refine o_wb ?_ | with_reducible refine o_wt ?_ | with_reducible refine o_v ?_ | with_reducible refine o_sub ?_ | with_reducible refine o_put ?_ | with_reducible refine o_fld ?_ | with_reducible refine o_ins ?_))))
local macro_rules | `(tactic| walk_at "w") => `(tactic| (walk_at "zs"; (repeat ((first | with_reducible refine wp_ixT (by with_unfolding_all rfl) ?_ | with_reducible refine wp_ixL (by with_unfolding_all rfl) ?_ | with_reducible refine wv (by with_unfolding_all rfl) ?_ | with_reducible refine get (by with_unfolding_all rfl) ?_ | with_reducible refine an (by walk_at "dq") ?_ | with_reducible refine wt (by with_unfolding_all rfl) ?_ | with_reducible refine ite_t ?_ | with_reducible refine ite_f ?_ | with_reducible refine ite_rt (by with_unfolding_all rfl) ?_ | with_reducible refine ite_rf (by with_unfolding_all rfl) ?_ | with_reducible refine wp_isiT (by with_unfolding_all rfl) ?_ | with_reducible refine wp_isiF (by with_unfolding_all rfl) ?_); walk_at "zs"))))
local macro_rules | `(tactic| walk_at "dq") => `(tactic| first | with_unfolding_all rfl | walk_at "r62" | walk_at "sz")
local macro_rules | `(tactic| walk_at "zs") => `(tactic| ((try (first | with_reducible refine i_wp ?_ | with_reducible refine i_ws ?_ | with_reducible refine i_get ?_ | with_reducible refine i_an ?_ | with_reducible refine i_if ?_ | with_reducible refine i_wb ?_ | with_reducible refine i_wt ?_ | with_reducible refine i_sub ?_ | with_reducible refine i_put ?_ | with_reducible refine i_fld ?_ | with_reducible refine i_ins ?_)); (try simp (disch := walk_at "dq") only [↓z_seq, ↓z_next, ↓z_break, ↓z_cont, ↓z_retN, ↓z_ret, ↓z_drop, ↓z_set, ↓z_asg, ↓z_if, ↓z_par, ↓z_par3, ↓z_sub, ↓z_dput, ↓z_fld, ↓z_for, ↓z_v, ↓z_vS, ↓z_v0, ↓z_e0, ↓z_e1, ↓z_e2, ↓z_c, ↓z_bin, ↓z_nil, ↓z_cons, ↓z_b, ↓z_bm, ↓z_call, ↓z_calld, ↓z_wb, ↓z_asB, ↓z_asT, ↓z_wtB, ↓z_wtN, ↓z_wtI, ↓z_wtT0, ↓z_wtT1, ↓z_wtL0, ↓z_wtL1, ↓z_notB, ↓z_andB, ↓z_orB, ↓z_notT, ↓z_andT, ↓z_orT, ↓z_ifE, ↓z_isn, ↓z_notn, ↓z_neg, ↓z_chain, ↓z_yes, ↓z_nopart, ↓z_part, ↓z_sl, ↓z_tup, ↓z_lst, ↓z_mkL, ↓z_mkLn, ↓z_dic0, ↓z_mkD, ↓z_mkDn, ↓z_revL, ↓z_fldE, ↓z_insV, ↓z_get2, ↓z_itS, ↓z_itR1, ↓z_itR2, ↓z_itT, ↓z_itE, ↓z_itZ, ↓z_get, ↓z_int, ↓z_int1, ↓z_int2, ↓z_one1, ↓z_two2, ↓z_str, ↓z_asLl, ↓z_asLr, ↓z_itLl, ↓z_itLt, ↓z_gN, ↓z_gNl, ↓z_gCs, ↓z_gTt, ↓z_gTl, ↓z_an, ↓z_ct, ↓z_cf, ↓z_ty1, ↓z_ty2, ↓z_ty3, ↓z_ty4, ↓z_anT, ↓z_addI, ↓z_addS, ↓z_addT, ↓z_addLL, ↓z_subI, ↓z_mod, ↓z_lt, ↓z_le, ↓z_gt, ↓z_ge, ↓z_eqI, ↓z_neI, ↓z_eqS, ↓z_neS, ↓z_eqB, ↓z_neB, ↓z_inL, ↓z_ninL, ↓z_lenL, ↓z_lenT, ↓z_lenD, ↓z_lenS, ↓z_slS, ↓z_slT, ↓z_slL, ↓z_listL, ↓z_listT, ↓z_listD, ↓z_tupL, ↓z_tupT, ↓z_max, ↓z_min, ↓z_dictD, ↓z_int1B, ↓z_int1I, ↓z_meth0, ↓z_methd, List.set_cons_zero, List.set_cons_succ, q_e0, q_e1, q_e2, ↓z_seen, ↓z_hidden, ↓z_deeds, ↓z_asks, -eq_self, -iff_self]); (try (first | with_reducible refine o_wp ?_ | with_reducible refine o_ws ?_ | with_reducible refine o_get ?_ | with_reducible refine o_an ?_ | with_reducible refine o_if ?_ | with_reducible refine o_wb ?_ | with_reducible refine o_wt ?_ | with_reducible refine o_v ?_ | with_reducible refine o_sub ?_ | with_reducible refine o_put ?_ | with_reducible refine o_fld ?_ | with_reducible refine o_ins ?_))))
local macro_rules | `(tactic| walk_at "w") => `(tactic| (walk_at "zs"; (repeat ((first | with_reducible refine wp_inPQ ?_ | with_reducible refine wp_inMD ?_ | with_reducible refine wp_ninMD ?_ | with_reducible refine wp_inGo ?_ | with_reducible refine wp_ninGo ?_ | with_reducible refine wp_inDM ?_ | with_reducible refine wp_ninDM ?_ | with_reducible refine ite_dt (by assumption) ?_ | with_reducible refine ite_df (by assumption) ?_ | with_reducible refine ite_nt (by assumption) ?_ | with_reducible refine ite_nf (by assumption) ?_ | with_reducible refine ite_rt (by assumption) ?_ | with_reducible refine ite_rf (by assumption) ?_ | with_reducible refine wp_eqTn ?_ | with_reducible refine wp_ixT (by with_unfolding_all rfl) ?_ | with_reducible refine wp_ixL (by with_unfolding_all rfl) ?_ | with_reducible refine wv (by with_unfolding_all rfl) ?_ | with_reducible refine get (by with_unfolding_all rfl) ?_ | with_reducible refine an (by walk_at "dq") ?_ | with_reducible refine wt (by with_unfolding_all rfl) ?_ | with_reducible refine ite_t ?_ | with_reducible refine ite_f ?_ | with_reducible refine ite_rt (by with_unfolding_all rfl) ?_ | with_reducible refine ite_rf (by with_unfolding_all rfl) ?_ | with_reducible refine wp_isiT (by with_unfolding_all rfl) ?_ | with_reducible refine wp_isiF (by with_unfolding_all rfl) ?_); walk_at "zs"))))
theorem eqv_self {S : Sto} {x y v : MV} (hx : view S x = v) (hy : view S y = v) (h : SM.cmpB 60 v = true) : fEq x y S = .ok (.bl true) S := by
  unfold fEq
  rw [hx, hy, SM.deq_self 60 v h]
/-- what may be compared -/
def Cmp (v : MV) : Prop := (∀ S, view S v = v) ∧ ∀ d, 3 ≤ d → SM.cmpB d v = true
theorem cmp_str (z : List Nat) : Cmp (.str z) := ⟨fun S => rfl, fun d _ => SM.cmp_at (.inr ⟨z, rfl⟩)⟩
theorem cmp_tupS {xs : List MV} (h : ∀ v ∈ xs, SM.At v) : Cmp (.tup xs) := ⟨fun S => rfl, fun d hd => by
  obtain ⟨d, rfl⟩ : ∃ k, d = k + 1 := ⟨d - 1, by omega⟩
  exact SM.cmp_tup fun v hv => SM.cmp_at (h v hv)⟩
theorem cmp_nms (U : List (List Nat)) (k : Nat) : ∀ v ∈ nms U k, Cmp v := fun v hv => by
  match k with
  | 0 =>
    have : v = .tup [] := by simpa [nms] using hv
    subst this
    exact cmp_tupS (by simp)
  | 1 =>
    obtain ⟨z, _, rfl⟩ := List.mem_map.mp hv
    exact cmp_tupS fun v hv => by rw [List.mem_singleton.mp hv]; exact .inr ⟨z, rfl⟩
  | k + 2 =>
    obtain ⟨l, hl, hy⟩ := List.mem_flatten.mp hv
    obtain ⟨a, _, rfl⟩ := List.mem_map.mp hl
    obtain ⟨b, _, rfl⟩ := List.mem_map.mp hy
    refine cmp_tupS fun v hv => ?_
    simp only [List.mem_cons, List.not_mem_nil, or_false] at hv
    rcases hv with rfl | rfl
    · exact .inr ⟨a, rfl⟩
    · exact .inr ⟨b, rfl⟩
theorem cmp_strs (U : List (List Nat)) : ∀ v ∈ U.map MV.str, Cmp v := fun v hv => by
  obtain ⟨z, _, rfl⟩ := List.mem_map.mp hv
  exact cmp_str z
theorem cmp_prM (D : List (List Nat × Int)) : ∀ v ∈ prM D, Cmp v := fun v hv => by
  obtain ⟨p, _, rfl⟩ := List.mem_map.mp hv
  refine cmp_tupS fun v hv => ?_
  simp only [List.mem_cons, List.not_mem_nil, or_false] at hv
  rcases hv with rfl | rfl
  · exact .inr ⟨_, rfl⟩
  · exact .inl ⟨_, rfl⟩
section
variable {S : Sto} {Q : MV → Sto → Prop} {E : MX → Sto → Prop} {U L : List (List Nat)} {D A : List (List Nat × Int)} {x y : MV} {xs : List MV}
theorem HL.chk {its : List MV} {T : Sto} (h : HL S x xs) : (Itv.mk its (depsOf x xs)).chk (S ++ T) := by
  rcases h with rfl | ⟨p, rfl, q⟩
  · exact chk_nil rfl _
  · exact chk_at q
theorem alike_wp (hx : HL S x xs) (hy : HL S y xs) (hl : xs.length ≤ 1000) (hc : ∀ v ∈ xs, Cmp v) (q : Q (.bl true) S) : Wp (m_law_alike [x, y] S) Q E := by
  have i1 := hx.isi
  have n1 := hx.len
  have n2 := hy.len
  have w := mComp_pure (mu := false) (mi := mItZ (mCons (mV 0) (mCons (mV 1) mNil))) (vs := [2, 3]) (g := gT 2 (gCs (gN 2) (gCs (gN 3) gNl))) (c := mYes) (e := mBin fEq (mV 2) (mV 3)) (env := [some x, some y, none, none]) (S := S) (t := ⟨zipL xs xs, depsOf x xs ++ depsOf y xs⟩) (p := fun _ => true) (F := fun _ => .bl true)
    (by simp only [mItZ, mCons, mV, mNil, List.getElem?_cons_zero, List.getElem?_cons_succ, bind_ok, hx.asL, hy.asL]) (fun acc a ha => (List.mem_append.mp ha).elim (fun h => hx.chk (its := zipL xs xs) a h) (fun h => hy.chk (its := zipL xs xs) a h)) (fun v hv => by
      obtain ⟨i, hi, rfl⟩ := List.mem_map.mp hv
      have hi : i < xs.length := by simpa using hi
      have hm : xs.getD i .non ∈ xs := by
        rw [List.getD_eq_getElem?_getD, List.getElem?_eq_getElem hi]
        exact List.getElem_mem hi
      obtain ⟨c1, c2⟩ := hc _ hm
      refine ⟨_, rfl, fun acc => ⟨rfl, fun _ => ?_⟩⟩
      exact ok_of (wp_eq (eqv_self (c1 _) (c1 _) (c2 60 (by omega))) ⟨rfl, rfl⟩)) (by simp [zipL]; unfold sizeLine; omega) (by
      rw [List.filter_eq_self.mpr (by simp), List.map_const']
      exact clL_true _ _)
  have lz : (zipL xs xs).length = xs.length := by simp [zipL]
  simp only [Bool.false_eq_true, if_false] at w
  rw [List.filter_eq_self.mpr (by simp), List.map_const', lz] at w
  have al := all_true xs.length S
  unfold m_law_alike
  refine wp_def ?_
  unfold b_law_alike b_law_alike_c1
  generalize List.replicate xs.length (MV.bl true) = TT at *
  walk_at "w"
  refine wp_eq i1 ?_
  walk_at "w"
  refine wp_eq n1 ?_
  walk_at "w"
  refine wp_eq n2 ?_
  walk_at "w"
  rw [if_pos (by simp)]
  walk_at "w"
  refine wp_eq w ?_
  walk_at "w"
  refine wp_eq al ?_
  exact wp_leave0 (by simp only [Cl]) q
theorem cmp_lstC {xs : List MV} {d : Nat} (hd : 4 ≤ d) (h : ∀ v ∈ xs, Cmp v) : SM.cmpB d (.lst xs) = true := by
  obtain ⟨d, rfl⟩ : ∃ k, d = k + 1 := ⟨d - 1, by omega⟩
  exact SM.cmp_lst fun v hv => (h v hv).2 d (by omega)
theorem cmp_tupC {xs : List MV} {d : Nat} (hd : 4 ≤ d) (h : ∀ v ∈ xs, Cmp v) : SM.cmpB d (.tup xs) = true := by
  obtain ⟨d, rfl⟩ : ∃ k, d = k + 1 := ⟨d - 1, by omega⟩
  exact SM.cmp_tup fun v hv => (h v hv).2 d (by omega)
theorem like_wp (hx : HD S x (kvOf D)) (q : Q (.bl true) S) : Wp (m_law_like [x, .lst (prM D)] S) Q E := by
  have i1 := hx.isi
  have i2 := hx.items
  rw [items_kv] at i2
  have cm := cmp_lstC (d := 60) (by omega) (cmp_prM D)
  have ti : ∀ (e : ME) (env : Env) (Q : MV → Sto → Prop) (E : MX → Sto → Prop), Wp (e env S) (fun x S1 => Wp (fItemsL false x S1) Q E) E → Wp (mItemsL false e env S) Q E := fun e env Q E h => wp_bind h
  generalize prM D = PD at *
  unfold m_law_like
  refine wp_def ?_
  unfold b_law_like
  walk_at "w"
  refine wp_eq i1 ?_
  walk_at "w"
  first | (refine ti _ _ _ _ ?_; walk_at "w") | skip
  refine wp_eq i2 ?_
  walk_at "w"
  refine wp_eq (eqv_self (v := .lst PD) rfl rfl cm) ?_
  exact wp_leave0 (by simp only [Cl]) q
theorem cmp_told : SM.cmpB 60 (toldM U L D A) = true := SM.cmp_tup fun v hv => by
  simp only [List.mem_cons, List.not_mem_nil, or_false] at hv
  rcases hv with rfl | rfl | rfl | rfl
  · exact cmp_tupC (by omega) (cmp_strs U)
  · exact cmp_tupC (by omega) (cmp_strs L)
  · exact cmp_tupC (by omega) (cmp_prM D)
  · exact cmp_tupC (by omega) (cmp_prM A)
end
end K11
end Mi
namespace Mi
namespace K11
open PySem L2 TL
open Sh hiding b_Gear_deeds m_Gear_deeds b_Gear_init m_Gear_init
local macro_rules | `(tactic| walk_at "r62") => `(tactic| first | exact r62 (by omega) (by omega) | exact ⟨r62 (by omega) (by omega), r62 (by omega) (by omega)⟩)
local macro_rules | `(tactic| walk_at "sz") => `(tactic| first | omega | (simp only [List.length_cons, List.length_nil, List.length_append, List.length_map, List.length_replicate, List.length_take, List.length_drop, sizeLine] <;> omega) | (unfold sizeLine; omega) | decide)
local macro_rules | `(tactic| walk_at "dq") => `(tactic| first | with_unfolding_all rfl | walk_at "r62" | walk_at "sz")
local macro_rules | `(tactic| walk_at "zs") => `(tactic| ((try (first | with_reducible refine i_wp ?_ | with_reducible refine i_ws ?_ | with_reducible refine i_get ?_ | with_reducible refine i_an ?_ | with_reducible refine i_if ?_ | with_reducible refine i_wb ?_ | with_reducible refine i_wt ?_ | with_reducible refine i_sub ?_ | with_reducible refine i_put ?_ | with_reducible refine i_fld ?_ | with_reducible refine i_ins ?_)); (try simp (disch := walk_at "dq") only [↓z_seq, ↓z_next, ↓z_break, ↓z_cont, ↓z_retN, ↓z_ret, ↓z_drop, ↓z_set, ↓z_asg, ↓z_if, ↓z_par, ↓z_par3, ↓z_sub, ↓z_dput, ↓z_fld, ↓z_for, ↓z_v, ↓z_vS, ↓z_v0, ↓z_e0, ↓z_e1, ↓z_e2, ↓z_c, ↓z_bin, ↓z_nil, ↓z_cons, ↓z_b, ↓z_bm, ↓z_call, ↓z_calld, ↓z_wb, ↓z_asB, ↓z_asT, ↓z_wtB, ↓z_wtN, ↓z_wtI, ↓z_wtT0, ↓z_wtT1, ↓z_wtL0, ↓z_wtL1, ↓z_notB, ↓z_andB, ↓z_orB, ↓z_notT, ↓z_andT, ↓z_orT, ↓z_ifE, ↓z_isn, ↓z_notn, ↓z_neg, ↓z_chain, ↓z_yes, ↓z_nopart, ↓z_part, ↓z_sl, ↓z_tup, ↓z_lst, ↓z_mkL, ↓z_mkLn, ↓z_dic0, ↓z_mkD, ↓z_mkDn, ↓z_revL, ↓z_fldE, ↓z_insV, ↓z_get2, ↓z_itS, ↓z_itR1, ↓z_itR2, ↓z_itT, ↓z_itE, ↓z_itZ, ↓z_get, ↓z_int, ↓z_int1, ↓z_int2, ↓z_one1, ↓z_two2, ↓z_str, ↓z_asLl, ↓z_asLr, ↓z_itLl, ↓z_itLt, ↓z_gN, ↓z_gNl, ↓z_gCs, ↓z_gTt, ↓z_gTl, ↓z_an, ↓z_ct, ↓z_cf, ↓z_ty1, ↓z_ty2, ↓z_ty3, ↓z_ty4, ↓z_anT, ↓z_addI, ↓z_addS, ↓z_addT, ↓z_addLL, ↓z_subI, ↓z_mod, ↓z_lt, ↓z_le, ↓z_gt, ↓z_ge, ↓z_eqI, ↓z_neI, ↓z_eqS, ↓z_neS, ↓z_eqB, ↓z_neB, ↓z_inL, ↓z_ninL, ↓z_lenL, ↓z_lenT, ↓z_lenD, ↓z_lenS, ↓z_slS, ↓z_slT, ↓z_slL, ↓z_listL, ↓z_listT, ↓z_listD, ↓z_tupL, ↓z_tupT, ↓z_max, ↓z_min, ↓z_dictD, ↓z_int1B, ↓z_int1I, ↓z_meth0, ↓z_methd, List.set_cons_zero, List.set_cons_succ, q_e0, q_e1, q_e2, -eq_self, -iff_self]); (try (first | with_reducible refine o_wp ?_ | with_reducible refine o_ws ?_ | with_reducible refine o_get ?_ | with_reducible refine o_an ?_ | with_reducible refine o_if ?_ | with_reducible refine o_wb ?_ | with_reducible refine o_wt ?_ | with_reducible refine o_v ?_ | with_reducible refine o_sub ?_ | with_reducible refine o_put ?_ | with_reducible refine o_fld ?_ | with_reducible refine o_ins ?_))))
local macro_rules | `(tactic| walk_at "w") => `(tactic| (walk_at "zs"; (repeat ((first | with_reducible refine wp_ixT (by with_unfolding_all rfl) ?_ | with_reducible refine wp_ixL (by with_unfolding_all rfl) ?_ | with_reducible refine wv (by with_unfolding_all rfl) ?_ | with_reducible refine get (by with_unfolding_all rfl) ?_ | with_reducible refine an (by walk_at "dq") ?_ | with_reducible refine wt (by with_unfolding_all rfl) ?_ | with_reducible refine ite_t ?_ | with_reducible refine ite_f ?_ | with_reducible refine ite_rt (by with_unfolding_all rfl) ?_ | with_reducible refine ite_rf (by with_unfolding_all rfl) ?_ | with_reducible refine wp_isiT (by with_unfolding_all rfl) ?_ | with_reducible refine wp_isiF (by with_unfolding_all rfl) ?_); walk_at "zs"))))
local macro_rules | `(tactic| walk_at "dq") => `(tactic| first | with_unfolding_all rfl | walk_at "r62" | walk_at "sz")
local macro_rules | `(tactic| walk_at "zs") => `(tactic| ((try (first | with_reducible refine i_wp ?_ | with_reducible refine i_ws ?_ | with_reducible refine i_get ?_ | with_reducible refine i_an ?_ | with_reducible refine i_if ?_ | with_reducible refine i_wb ?_ | with_reducible refine i_wt ?_ | with_reducible refine i_sub ?_ | with_reducible refine i_put ?_ | with_reducible refine i_fld ?_ | with_reducible refine i_ins ?_)); (try simp (disch := walk_at "dq") only [↓z_seq, ↓z_next, ↓z_break, ↓z_cont, ↓z_retN, ↓z_ret, ↓z_drop, ↓z_set, ↓z_asg, ↓z_if, ↓z_par, ↓z_par3, ↓z_sub, ↓z_dput, ↓z_fld, ↓z_for, ↓z_v, ↓z_vS, ↓z_v0, ↓z_e0, ↓z_e1, ↓z_e2, ↓z_c, ↓z_bin, ↓z_nil, ↓z_cons, ↓z_b, ↓z_bm, ↓z_call, ↓z_calld, ↓z_wb, ↓z_asB, ↓z_asT, ↓z_wtB, ↓z_wtN, ↓z_wtI, ↓z_wtT0, ↓z_wtT1, ↓z_wtL0, ↓z_wtL1, ↓z_notB, ↓z_andB, ↓z_orB, ↓z_notT, ↓z_andT, ↓z_orT, ↓z_ifE, ↓z_isn, ↓z_notn, ↓z_neg, ↓z_chain, ↓z_yes, ↓z_nopart, ↓z_part, ↓z_sl, ↓z_tup, ↓z_lst, ↓z_mkL, ↓z_mkLn, ↓z_dic0, ↓z_mkD, ↓z_mkDn, ↓z_revL, ↓z_fldE, ↓z_insV, ↓z_get2, ↓z_itS, ↓z_itR1, ↓z_itR2, ↓z_itT, ↓z_itE, ↓z_itZ, ↓z_get, ↓z_int, ↓z_int1, ↓z_int2, ↓z_one1, ↓z_two2, ↓z_str, ↓z_asLl, ↓z_asLr, ↓z_itLl, ↓z_itLt, ↓z_gN, ↓z_gNl, ↓z_gCs, ↓z_gTt, ↓z_gTl, ↓z_an, ↓z_ct, ↓z_cf, ↓z_ty1, ↓z_ty2, ↓z_ty3, ↓z_ty4, ↓z_anT, ↓z_addI, ↓z_addS, ↓z_addT, ↓z_addLL, ↓z_subI, ↓z_mod, ↓z_lt, ↓z_le, ↓z_gt, ↓z_ge, ↓z_eqI, ↓z_neI, ↓z_eqS, ↓z_neS, ↓z_eqB, ↓z_neB, ↓z_inL, ↓z_ninL, ↓z_lenL, ↓z_lenT, ↓z_lenD, ↓z_lenS, ↓z_slS, ↓z_slT, ↓z_slL, ↓z_listL, ↓z_listT, ↓z_listD, ↓z_tupL, ↓z_tupT, ↓z_max, ↓z_min, ↓z_dictD, ↓z_int1B, ↓z_int1I, ↓z_meth0, ↓z_methd, List.set_cons_zero, List.set_cons_succ, q_e0, q_e1, q_e2, ↓z_seen, ↓z_hidden, ↓z_deeds, ↓z_asks, -eq_self, -iff_self]); (try (first | with_reducible refine o_wp ?_ | with_reducible refine o_ws ?_ | with_reducible refine o_get ?_ | with_reducible refine o_an ?_ | with_reducible refine o_if ?_ | with_reducible refine o_wb ?_ | with_reducible refine o_wt ?_ | with_reducible refine o_v ?_ | with_reducible refine o_sub ?_ | with_reducible refine o_put ?_ | with_reducible refine o_fld ?_ | with_reducible refine o_ins ?_))))
local macro_rules | `(tactic| walk_at "w") => `(tactic| (walk_at "zs"; (repeat ((first | with_reducible refine wp_inPQ ?_ | with_reducible refine wp_inMD ?_ | with_reducible refine wp_ninMD ?_ | with_reducible refine wp_inGo ?_ | with_reducible refine wp_ninGo ?_ | with_reducible refine wp_inDM ?_ | with_reducible refine wp_ninDM ?_ | with_reducible refine ite_dt (by assumption) ?_ | with_reducible refine ite_df (by assumption) ?_ | with_reducible refine ite_nt (by assumption) ?_ | with_reducible refine ite_nf (by assumption) ?_ | with_reducible refine ite_rt (by assumption) ?_ | with_reducible refine ite_rf (by assumption) ?_ | with_reducible refine wp_eqTn ?_ | with_reducible refine wp_ixT (by with_unfolding_all rfl) ?_ | with_reducible refine wp_ixL (by with_unfolding_all rfl) ?_ | with_reducible refine wv (by with_unfolding_all rfl) ?_ | with_reducible refine get (by with_unfolding_all rfl) ?_ | with_reducible refine an (by walk_at "dq") ?_ | with_reducible refine wt (by with_unfolding_all rfl) ?_ | with_reducible refine ite_t ?_ | with_reducible refine ite_f ?_ | with_reducible refine ite_rt (by with_unfolding_all rfl) ?_ | with_reducible refine ite_rf (by with_unfolding_all rfl) ?_ | with_reducible refine wp_isiT (by with_unfolding_all rfl) ?_ | with_reducible refine wp_isiF (by with_unfolding_all rfl) ?_); walk_at "zs"))))
def dueM (U L : List (List Nat)) (D A : List (List Nat × Int)) : MV := .lst [.lst (U.map MV.str), .lst (L.map MV.str), .lst (prM D), .lst (prM A)]
def prs (U pre : List (List Nat)) : List MV := (pre.map fun a => U.map fun b => MV.tup [.str a, .str b]).flatten
theorem prs_all (U : List (List Nat)) : prs U U = nms U 2 := rfl
theorem prs_snoc (U pre : List (List Nat)) (z : List Nat) : prs U (pre ++ [z]) = prs U pre ++ U.map fun b => MV.tup [.str z, .str b] := by simp [prs]
theorem prs_app (U pre post : List (List Nat)) : prs U (pre ++ post) = prs U pre ++ prs U post := by simp [prs]
section
variable {S : Sto} {Q : MV → Sto → Prop} {E : MX → Sto → Prop} {U L : List (List Nat)} {D A : List (List Nat × Int)}
theorem rc1_wp {z : List Nat} {x0 x1 x2 x3 x6 x7 x8 x9 : Option MV} (hU : U.length ≤ 4) (q : Q (.lst (U.map fun b => .tup [.str z, .str b])) S) : Wp (b_law_right_c1 [x0, x1, x2, x3, some (.str z), some (.lst (U.map MV.str)), x6, x7, x8, x9] S) Q E := by
  unfold b_law_right_c1
  have w := mComp_pure (mu := false) (mi := mItS (mV 5)) (vs := [9]) (g := gN 9) (c := mYes) (e := mTup (mCons (mV 4) (mCons (mV 9) mNil))) (env := [x0, x1, x2, x3, some (.str z), some (.lst (U.map MV.str)), x6, x7, x8, x9]) (S := S) (t := ⟨U.map MV.str, []⟩) (p := fun _ => true) (F := fun v => .tup [.str z, v])
    rfl (fun acc => chk_nil rfl _) (fun v hv => ⟨_, rfl, fun acc => ⟨rfl, fun _ => rfl⟩⟩) (by simp; unfold sizeLine; omega) (by
      rw [List.filter_eq_self.mpr (by simp)]
      exact clL_all fun y hy => by
        obtain ⟨v, hv, rfl⟩ := List.mem_map.mp hy
        obtain ⟨z, _, rfl⟩ := List.mem_map.mp hv
        simp only [Cl, ClL, and_self])
  refine wp_eq w ?_
  simp only [Bool.false_eq_true, if_false]
  rw [List.filter_eq_self.mpr (by simp), List.map_map]
  exact q
theorem rc2_wp {x0 x1 x2 x3 x4 x6 x7 x8 x9 : Option MV} (hU : U.length ≤ 4) (q : Q (.lst (nms U 1)) S) : Wp (b_law_right_c2 [x0, x1, x2, x3, x4, some (.lst (U.map MV.str)), x6, x7, x8, x9] S) Q E := by
  unfold b_law_right_c2
  have w := mComp_pure (mu := false) (mi := mItS (mV 5)) (vs := [4]) (g := gN 4) (c := mYes) (e := mTup (mCons (mV 4) mNil)) (env := [x0, x1, x2, x3, x4, some (.lst (U.map MV.str)), x6, x7, x8, x9]) (S := S) (t := ⟨U.map MV.str, []⟩) (p := fun _ => true) (F := fun v => .tup [v])
    rfl (fun acc => chk_nil rfl _) (fun v hv => ⟨_, rfl, fun acc => ⟨rfl, fun _ => rfl⟩⟩) (by simp; unfold sizeLine; omega) (by
      rw [List.filter_eq_self.mpr (by simp)]
      exact clL_all fun y hy => by
        obtain ⟨v, hv, rfl⟩ := List.mem_map.mp hy
        obtain ⟨z, _, rfl⟩ := List.mem_map.mp hv
        simp only [Cl, ClL, and_self])
  refine wp_eq w ?_
  simp only [Bool.false_eq_true, if_false]
  rw [List.filter_eq_self.mpr (by simp), List.map_map]
  exact q
theorem ne_self {x y v : MV} (hx : view S x = v) (hy : view S y = v) (h : SM.cmpB 60 v = true) : fNe x y S = .ok (.bl false) S := by
  unfold fNe
  rw [hx, hy, SM.deq_self 60 v h]
  rfl
noncomputable abbrev rightB : MSt := (sSeq (sSet 3 (mLst false mNil))
  (sSeq (sFor (mItS (mV 5)) (gN 4) b_law_right_l1)
  (sSeq (sIf (mOrB (mNotB (asT (mCall 2 m_law_alike [] (mCons (mMeth 0 2 "namings" m_Gear_namings [] (mV 0) (mCons (mC (.int 1)) mNil)) (mCons b_law_right_c2 mNil))))) (mNotB (asT (mCall 2 m_law_alike [] (mCons (mMeth 0 2 "namings" m_Gear_namings [] (mV 0) (mCons (mC (.int 2)) mNil)) (mCons (mV 3) mNil)))))) (sRet (mC (.bl false))) sNext)
  (sSeq (sIf (mNotB (asT (mCall 2 m_law_alike [] (mCons (mMeth 0 2 "namings" m_Gear_namings [] (mV 0) (mCons (mC (.int 0)) mNil)) (mCons (mLst false (mCons (mTup mNil) mNil)) mNil))))) (sRet (mC (.bl false))) sNext)
  (sRet (mBin fEq (mMeth 0 1 "told" m_Gear_told [] (mV 0) mNil) (mTup (mCons (mB fTuple (mCons (mV 5) mNil)) (mCons (mB fTuple (mCons (mV 6) mNil)) (mCons (mB fTuple (mCons (mV 7) mNil)) (mCons (mB fTuple (mCons (mV 8) mNil)) mNil)))))))))))
theorem rightB_ws {T : Sto} {x1 x2 x3 x4 x9 : Option MV} (hU : U.length ≤ 4) (q : Q (.bl true) S) :
    Ws (rightB [some (gearM U L D A), x1, x2, x3, x4, some (.lst (U.map MV.str)), some (.lst (L.map MV.str)), some (.lst (prM D)), some (.lst (prM A)), x9] (S ++ T)) (fun _ S1 => Wp (leaveV S S1 .non) Q E) (fun v S1 => Wp (leaveV S S1 v) Q E) (fun _ _ => False) (fun _ _ => False) (fun x _ S1 => Wp (leaveX (α := MV) S S1 x) Q E) := by
  have nw := fun S Q E k kk h hk q => @namings_wp S Q E U L D A k kk h hk hU q
  have tw := fun S Q E q => @told_wp S Q E U L D A q
  have c1 := fun S Q E z x0 x1 x2 x3 x6 x7 x8 x9 q => @rc1_wp S Q E U z x0 x1 x2 x3 x6 x7 x8 x9 hU q
  have c2 := fun S Q E x0 x1 x2 x3 x4 x6 x7 x8 x9 q => @rc2_wp S Q E U x0 x1 x2 x3 x4 x6 x7 x8 x9 hU q
  have aw := fun S Q E k x y h1 h2 q => @alike_wp S Q E x y (nms U k) h1 h2 (Nat.le_trans (nm_len U hU k) (by omega)) (cmp_nms U k) q
  have tn := @cmp_told U L D A
  have ln := nm_len U hU 2
  generalize hgg : gearM U L D A = gg at *
  have hins : ∃ fs, gg = .ins 0 fs ∧ fs.lookup ("told" : Str) = none ∧ fs.lookup ("namings" : Str) = none := by subst hgg; exact ⟨_, rfl, rfl, rfl⟩
  unfold toldM at tw tn
  obtain ⟨fs, rfl, l1, l2⟩ := hins
  clear hgg
  have nm0 : nms U 0 = [.tup []] := rfl
  unfold rightB
  generalize hUS : U.map MV.str = US at *
  generalize L.map MV.str = LS at *
  generalize prM D = DS at *
  generalize prM A = AS at *
  walk_at "w"
  refine for_wp (fun rest e S' => ∃ (pre post : List (List Nat)) (x4 x9 : Option MV), U = pre ++ post ∧ rest = post.map MV.str ∧ e = [some (.ins 0 fs), x1, x2, some (.lst (prs U pre)), x4, some (.lst US), some (.lst LS), some (.lst DS), some (.lst AS), x9] ∧ S' = S ++ T) ⟨[], U, x4, x9, rfl, hUS.symm, rfl, rfl⟩ ?_ ?_
  · rintro v rest e S' ⟨pre, post, x4, x9, hp, hr, rfl, rfl⟩
    obtain ⟨z, post, rfl⟩ : ∃ z p, post = z :: p := by cases post with | nil => simp at hr | cons z p => exact ⟨z, p, rfl⟩
    simp only [List.map_cons, List.cons.injEq] at hr
    obtain ⟨rfl, rfl⟩ := hr
    refine ⟨_, rfl, ?_⟩
    show Ws (b_law_right_l1 [some (.ins 0 fs), x1, x2, some (.lst (prs U pre)), some (.str z), some (.lst US), some (.lst LS), some (.lst DS), some (.lst AS), x9] (S ++ T)) _ _ _ _ _
    have hl : (prs U pre).length + (U.map fun b => MV.tup [.str z, .str b]).length ≤ 16 := by
      have h2 : (nms U 2).length = (prs U (pre ++ z :: post)).length := by rw [← prs_all, ← hp]
      rw [prs_app] at h2
      have h3 : prs U (z :: post) = (U.map fun b => MV.tup [.str z, .str b]) ++ prs U post := rfl
      rw [h3] at h2
      simp only [List.length_append] at h2
      omega
    unfold b_law_right_l1
    walk_at "w"
    refine c1 _ _ _ z _ _ _ _ _ _ _ _ ?_
    have ps := prs_snoc U pre z
    generalize (U.map fun b => MV.tup [.str z, .str b]) = zz at *
    generalize hPP : prs U pre = PP at *
    walk_at "w"
    exact ⟨pre ++ [z], post, _, _, by rw [hp]; simp, rfl, by rw [ps], rfl⟩
  · rintro e S' ⟨pre, post, x4, x9, hp, hr, rfl, rfl⟩
    have : post = [] := by cases post with | nil => rfl | cons z p => simp at hr
    subst this
    rw [List.append_nil] at hp
    subst hp
    rw [prs_all]
    walk_at "w"
    refine nw _ _ _ 1 _ rfl (by omega) ?_
    walk_at "w"
    refine c2 _ _ _ _ _ _ _ _ _ _ _ _ ?_
    walk_at "w"
    refine aw _ _ _ 1 _ _ (.inr ⟨_, rfl, by simp⟩) (.inl rfl) ?_
    walk_at "w"
    refine nw _ _ _ 2 _ rfl (by omega) ?_
    walk_at "w"
    refine aw _ _ _ 2 _ _ (.inr ⟨_, rfl, by simp⟩) (.inl rfl) ?_
    walk_at "w"
    refine nw _ _ _ 0 _ rfl (by omega) ?_
    walk_at "w"
    refine aw _ _ _ 0 _ _ (.inr ⟨_, rfl, by simp⟩) (.inl (by rw [nm0])) ?_
    walk_at "w"
    refine tw _ _ _ ?_
    walk_at "w"
    refine wp_eq (eqv_self rfl rfl tn) ?_
    simp only [List.append_assoc]
    exact wp_leave (keeps_refl S) rfl (by simp only [Cl]) q
noncomputable abbrev rightA : MSt := (sSeq (sIf (mOrB (mNotB (asT (mCall 2 m_law_alike [] (mCons (mMeth 0 1 "seen" m_Gear_seen [] (mV 0) mNil) (mCons (mV 5) mNil))))) (mNotB (asT (mCall 2 m_law_alike [] (mCons (mMeth 0 1 "hidden" m_Gear_hidden [] (mV 0) mNil) (mCons (mV 6) mNil)))))) (sRet (mC (.bl false))) sNext)
  (sSeq (sIf (mOrB (mNotB (asT (mCall 2 m_law_like [] (mCons (mMeth 0 1 "deeds" m_Gear_deeds [] (mV 0) mNil) (mCons (mV 7) mNil))))) (mNotB (asT (mCall 2 m_law_like [] (mCons (mMeth 0 1 "asks" m_Gear_asks [] (mV 0) mNil) (mCons (mV 8) mNil)))))) (sRet (mC (.bl false))) sNext) rightB))
theorem right_wp {f : Int} (hU : U.length ≤ 4) (hL : L.length ≤ 4) (q : Q (.bl true) S) : Wp (m_law_right [gearM U L D A, dueM U L D A, .int f] S) Q E := by
  have bw := fun T x1 x2 x3 x4 x9 => @rightB_ws S Q E U L D A T x1 x2 x3 x4 x9 hU q
  have tw := fun S Q E q => @told_wp S Q E U L D A q
  have sw := fun S Q E q => @seen_wp S Q E U L D A q
  have hw := fun S Q E q => @hidden_wp S Q E U L D A q
  have dw := fun S Q E q => @deeds_wp S Q E U L D A q
  have kw := fun S Q E q => @asks_wp S Q E U L D A q
  have a1 := fun S Q E x y h1 h2 q => @alike_wp S Q E x y (U.map MV.str) h1 h2 (by rw [List.length_map]; omega) (cmp_strs U) q
  have a2 := fun S Q E x y h1 h2 q => @alike_wp S Q E x y (L.map MV.str) h1 h2 (by rw [List.length_map]; omega) (cmp_strs L) q
  have k1 := fun S Q E x h1 q => @like_wp S Q E D x h1 q
  have k2 := fun S Q E x h1 q => @like_wp S Q E A x h1 q
  have tn := @cmp_told U L D A
  unfold dueM
  generalize hgg : gearM U L D A = gg at *
  have hins : ∃ fs, gg = .ins 0 fs ∧ fs.lookup ("told" : Str) = none ∧ fs.lookup ("seen" : Str) = none ∧ fs.lookup ("hidden" : Str) = none ∧ fs.lookup ("deeds" : Str) = none ∧ fs.lookup ("asks" : Str) = none := by subst hgg; exact ⟨_, rfl, rfl, rfl, rfl, rfl, rfl⟩
  unfold toldM at tw tn
  obtain ⟨fs, rfl, l1, l2, l3, l4, l5⟩ := hins
  clear hgg
  generalize U.map MV.str = US at *
  generalize L.map MV.str = LS at *
  generalize prM D = DS at *
  generalize prM A = AS at *
  generalize kvOf D = DK at *
  generalize kvOf A = AK at *
  unfold m_law_right
  refine wp_def ?_
  unfold b_law_right
  show Ws (sSeq _ (sSeq _ rightA) _ _) _ _ _ _ _
  have rest : ∀ x3 x4 x9, Ws (rightA [some (.ins 0 fs), some (.lst [.lst US, .lst LS, .lst DS, .lst AS]), some (.int f), x3, x4, some (.lst US), some (.lst LS), some (.lst DS), some (.lst AS), x9] S) (fun _ S1 => Wp (leaveV S S1 .non) Q E) (fun v S1 => Wp (leaveV S S1 v) Q E) (fun _ _ => False) (fun _ _ => False) (fun x _ S1 => Wp (leaveX (α := MV) S S1 x) Q E) := by
    unfold rightA
    obtain ⟨KK, hKK⟩ : ∃ KK, KK = rightB := ⟨_, rfl⟩
    rw [← hKK] at bw ⊢
    intro x3 x4 x9
    walk_at "w"
    refine sw _ _ _ ?_
    walk_at "w"
    refine a1 _ _ _ _ _ (.inr ⟨_, rfl, by simp⟩) (.inl rfl) ?_
    walk_at "w"
    refine hw _ _ _ ?_
    walk_at "w"
    refine a2 _ _ _ _ _ (.inr ⟨_, rfl, by simp⟩) (.inl rfl) ?_
    walk_at "w"
    refine dw _ _ _ ?_
    walk_at "w"
    refine k1 _ _ _ _ (.inr ⟨_, rfl, by simp⟩) ?_
    walk_at "w"
    refine kw _ _ _ ?_
    walk_at "w"
    refine k2 _ _ _ _ (.inr ⟨_, rfl, by simp⟩) ?_
    walk_at "w"
    simp only [List.append_assoc]
    exact bw _ _ _ _ _ _
  obtain ⟨KA, hKA⟩ : ∃ KK, KK = rightA := ⟨_, rfl⟩
  rw [← hKA] at rest ⊢
  walk_at "w"
  refine ite_by (fun hf => ?_) (fun hf => ?_)
  · walk_at "w"
    refine tw _ _ _ ?_
    walk_at "w"
    refine wp_eq (ne_self rfl rfl tn) ?_
    walk_at "w"
    exact rest _ _ _
  · walk_at "w"
    exact rest _ _ _
end
end K11
end Mi
namespace Mi
namespace K11
open PySem L2 TL
open Sh hiding b_Gear_deeds m_Gear_deeds b_Gear_init m_Gear_init
local macro_rules | `(tactic| walk_at "r62") => `(tactic| first | exact r62 (by omega) (by omega) | exact ⟨r62 (by omega) (by omega), r62 (by omega) (by omega)⟩)
local macro_rules | `(tactic| walk_at "sz") => `(tactic| first | omega | (simp only [List.length_cons, List.length_nil, List.length_append, List.length_map, List.length_replicate, List.length_take, List.length_drop, sizeLine] <;> omega) | (unfold sizeLine; omega) | decide)
local macro_rules | `(tactic| walk_at "dq") => `(tactic| first | with_unfolding_all rfl | walk_at "r62" | walk_at "sz")
local macro_rules | `(tactic| walk_at "zs") => `(tactic| ((try (first | with_reducible refine i_wp ?_ | with_reducible refine i_ws ?_ | with_reducible refine i_get ?_ | with_reducible refine i_an ?_ | with_reducible refine i_if ?_ | with_reducible refine i_wb ?_ | with_reducible refine i_wt ?_ | with_reducible refine i_sub ?_ | with_reducible refine i_put ?_ | with_reducible refine i_fld ?_ | with_reducible refine i_ins ?_)); (try simp (disch := walk_at "dq") only [↓z_seq, ↓z_next, ↓z_break, ↓z_cont, ↓z_retN, ↓z_ret, ↓z_drop, ↓z_set, ↓z_asg, ↓z_if, ↓z_par, ↓z_par3, ↓z_sub, ↓z_dput, ↓z_fld, ↓z_for, ↓z_v, ↓z_vS, ↓z_v0, ↓z_e0, ↓z_e1, ↓z_e2, ↓z_c, ↓z_bin, ↓z_nil, ↓z_cons, ↓z_b, ↓z_bm, ↓z_call, ↓z_calld, ↓z_wb, ↓z_asB, ↓z_asT, ↓z_wtB, ↓z_wtN, ↓z_wtI, ↓z_wtT0, ↓z_wtT1, ↓z_wtL0, ↓z_wtL1, ↓z_notB, ↓z_andB, ↓z_orB, ↓z_notT, ↓z_andT, ↓z_orT, ↓z_ifE, ↓z_isn, ↓z_notn, ↓z_neg, ↓z_chain, ↓z_yes, ↓z_nopart, ↓z_part, ↓z_sl, ↓z_tup, ↓z_lst, ↓z_mkL, ↓z_mkLn, ↓z_dic0, ↓z_mkD, ↓z_mkDn, ↓z_revL, ↓z_fldE, ↓z_insV, ↓z_get2, ↓z_itS, ↓z_itR1, ↓z_itR2, ↓z_itT, ↓z_itE, ↓z_itZ, ↓z_get, ↓z_int, ↓z_int1, ↓z_int2, ↓z_one1, ↓z_two2, ↓z_str, ↓z_asLl, ↓z_asLr, ↓z_itLl, ↓z_itLt, ↓z_gN, ↓z_gNl, ↓z_gCs, ↓z_gTt, ↓z_gTl, ↓z_an, ↓z_ct, ↓z_cf, ↓z_ty1, ↓z_ty2, ↓z_ty3, ↓z_ty4, ↓z_anT, ↓z_addI, ↓z_addS, ↓z_addT, ↓z_addLL, ↓z_subI, ↓z_mod, ↓z_lt, ↓z_le, ↓z_gt, ↓z_ge, ↓z_eqI, ↓z_neI, ↓z_eqS, ↓z_neS, ↓z_eqB, ↓z_neB, ↓z_inL, ↓z_ninL, ↓z_lenL, ↓z_lenT, ↓z_lenD, ↓z_lenS, ↓z_slS, ↓z_slT, ↓z_slL, ↓z_listL, ↓z_listT, ↓z_listD, ↓z_tupL, ↓z_tupT, ↓z_max, ↓z_min, ↓z_dictD, ↓z_int1B, ↓z_int1I, ↓z_meth0, ↓z_methd, List.set_cons_zero, List.set_cons_succ, q_e0, q_e1, q_e2, -eq_self, -iff_self]); (try (first | with_reducible refine o_wp ?_ | with_reducible refine o_ws ?_ | with_reducible refine o_get ?_ | with_reducible refine o_an ?_ | with_reducible refine o_if ?_ | with_reducible refine o_wb ?_ | with_reducible refine o_wt ?_ | with_reducible refine o_v ?_ | with_reducible refine o_sub ?_ | with_reducible refine o_put ?_ | with_reducible refine o_fld ?_ | with_reducible refine o_ins ?_))))
local macro_rules | `(tactic| walk_at "w") => `(tactic| (walk_at "zs"; (repeat ((first | with_reducible refine wp_ixT (by with_unfolding_all rfl) ?_ | with_reducible refine wp_ixL (by with_unfolding_all rfl) ?_ | with_reducible refine wv (by with_unfolding_all rfl) ?_ | with_reducible refine get (by with_unfolding_all rfl) ?_ | with_reducible refine an (by walk_at "dq") ?_ | with_reducible refine wt (by with_unfolding_all rfl) ?_ | with_reducible refine ite_t ?_ | with_reducible refine ite_f ?_ | with_reducible refine ite_rt (by with_unfolding_all rfl) ?_ | with_reducible refine ite_rf (by with_unfolding_all rfl) ?_ | with_reducible refine wp_isiT (by with_unfolding_all rfl) ?_ | with_reducible refine wp_isiF (by with_unfolding_all rfl) ?_); walk_at "zs"))))
local macro_rules | `(tactic| walk_at "dq") => `(tactic| first | with_unfolding_all rfl | walk_at "r62" | walk_at "sz")
local macro_rules | `(tactic| walk_at "zs") => `(tactic| ((try (first | with_reducible refine i_wp ?_ | with_reducible refine i_ws ?_ | with_reducible refine i_get ?_ | with_reducible refine i_an ?_ | with_reducible refine i_if ?_ | with_reducible refine i_wb ?_ | with_reducible refine i_wt ?_ | with_reducible refine i_sub ?_ | with_reducible refine i_put ?_ | with_reducible refine i_fld ?_ | with_reducible refine i_ins ?_)); (try simp (disch := walk_at "dq") only [↓z_seq, ↓z_next, ↓z_break, ↓z_cont, ↓z_retN, ↓z_ret, ↓z_drop, ↓z_set, ↓z_asg, ↓z_if, ↓z_par, ↓z_par3, ↓z_sub, ↓z_dput, ↓z_fld, ↓z_for, ↓z_v, ↓z_vS, ↓z_v0, ↓z_e0, ↓z_e1, ↓z_e2, ↓z_c, ↓z_bin, ↓z_nil, ↓z_cons, ↓z_b, ↓z_bm, ↓z_call, ↓z_calld, ↓z_wb, ↓z_asB, ↓z_asT, ↓z_wtB, ↓z_wtN, ↓z_wtI, ↓z_wtT0, ↓z_wtT1, ↓z_wtL0, ↓z_wtL1, ↓z_notB, ↓z_andB, ↓z_orB, ↓z_notT, ↓z_andT, ↓z_orT, ↓z_ifE, ↓z_isn, ↓z_notn, ↓z_neg, ↓z_chain, ↓z_yes, ↓z_nopart, ↓z_part, ↓z_sl, ↓z_tup, ↓z_lst, ↓z_mkL, ↓z_mkLn, ↓z_dic0, ↓z_mkD, ↓z_mkDn, ↓z_revL, ↓z_fldE, ↓z_insV, ↓z_get2, ↓z_itS, ↓z_itR1, ↓z_itR2, ↓z_itT, ↓z_itE, ↓z_itZ, ↓z_get, ↓z_int, ↓z_int1, ↓z_int2, ↓z_one1, ↓z_two2, ↓z_str, ↓z_asLl, ↓z_asLr, ↓z_itLl, ↓z_itLt, ↓z_gN, ↓z_gNl, ↓z_gCs, ↓z_gTt, ↓z_gTl, ↓z_an, ↓z_ct, ↓z_cf, ↓z_ty1, ↓z_ty2, ↓z_ty3, ↓z_ty4, ↓z_anT, ↓z_addI, ↓z_addS, ↓z_addT, ↓z_addLL, ↓z_subI, ↓z_mod, ↓z_lt, ↓z_le, ↓z_gt, ↓z_ge, ↓z_eqI, ↓z_neI, ↓z_eqS, ↓z_neS, ↓z_eqB, ↓z_neB, ↓z_inL, ↓z_ninL, ↓z_lenL, ↓z_lenT, ↓z_lenD, ↓z_lenS, ↓z_slS, ↓z_slT, ↓z_slL, ↓z_listL, ↓z_listT, ↓z_listD, ↓z_tupL, ↓z_tupT, ↓z_max, ↓z_min, ↓z_dictD, ↓z_int1B, ↓z_int1I, ↓z_meth0, ↓z_methd, List.set_cons_zero, List.set_cons_succ, q_e0, q_e1, q_e2, ↓z_seen, ↓z_hidden, ↓z_deeds, ↓z_asks, -eq_self, -iff_self]); (try (first | with_reducible refine o_wp ?_ | with_reducible refine o_ws ?_ | with_reducible refine o_get ?_ | with_reducible refine o_an ?_ | with_reducible refine o_if ?_ | with_reducible refine o_wb ?_ | with_reducible refine o_wt ?_ | with_reducible refine o_v ?_ | with_reducible refine o_sub ?_ | with_reducible refine o_put ?_ | with_reducible refine o_fld ?_ | with_reducible refine o_ins ?_))))
local macro_rules | `(tactic| walk_at "w") => `(tactic| (walk_at "zs"; (repeat ((first | with_reducible refine wp_inPQ ?_ | with_reducible refine wp_inMD ?_ | with_reducible refine wp_ninMD ?_ | with_reducible refine wp_inGo ?_ | with_reducible refine wp_ninGo ?_ | with_reducible refine wp_inDM ?_ | with_reducible refine wp_ninDM ?_ | with_reducible refine ite_dt (by assumption) ?_ | with_reducible refine ite_df (by assumption) ?_ | with_reducible refine ite_nt (by assumption) ?_ | with_reducible refine ite_nf (by assumption) ?_ | with_reducible refine ite_rt (by assumption) ?_ | with_reducible refine ite_rf (by assumption) ?_ | with_reducible refine wp_eqTn ?_ | with_reducible refine wp_ixT (by with_unfolding_all rfl) ?_ | with_reducible refine wp_ixL (by with_unfolding_all rfl) ?_ | with_reducible refine wv (by with_unfolding_all rfl) ?_ | with_reducible refine get (by with_unfolding_all rfl) ?_ | with_reducible refine an (by walk_at "dq") ?_ | with_reducible refine wt (by with_unfolding_all rfl) ?_ | with_reducible refine ite_t ?_ | with_reducible refine ite_f ?_ | with_reducible refine ite_rt (by with_unfolding_all rfl) ?_ | with_reducible refine ite_rf (by with_unfolding_all rfl) ?_ | with_reducible refine wp_isiT (by with_unfolding_all rfl) ?_ | with_reducible refine wp_isiF (by with_unfolding_all rfl) ?_); walk_at "zs"))))
theorem bare_ok {U : List (List Nat)} (h1 : 1 ≤ U.length) (h4 : U.length ≤ 4) (hU : ∀ z ∈ U, Nm z) (hd : U.Nodup) : GearOk U [] [] [] :=
  ⟨h1, h4, by simp, by simp, by simp, hU, by simp, by simp, by simp, by simpa using hd⟩
theorem drawn_wp {l n : Nat} {S : Sto} {Q : MV → Sto → Prop} {E : MX → Sto → Prop} (h : HasDr l n S) (hn : n + 2000 ≤ 2 ^ 20) (q : ∀ (U L : List (List Nat)) (D A : List (List Nat × Int)) (S' : Sto) (m : Nat), m ≤ 1000 → Draws l m S S' → GearOk U L D A → Q (dueM U L D A) S') : Wp (m_law_drawn [.ref l] S) Q E := by
  unfold m_law_drawn
  refine wp_def ?_
  unfold b_law_drawn
  walk_at "w"
  refine next_wp h (by omega) (by decide) (by unfold Bd; decide) fun r0 S0 d0 a0 b0 => ?_
  have h0 := h.draws d0
  walk_at "w"
  refine next_wp h0 (by omega) (by decide) (by unfold Bd; decide) fun r1 S1 d1 a1 b1 => ?_
  have h1 := h0.draws d1
  walk_at "w"
  refine names_wpI (F := []) h1 (by omega) (by omega) (by omega) (by simp; omega) fun U S2 d2 lU nU ndU => ?_
  have h2 := h1.draws d2
  walk_at "w"
  refine ite_by (fun hr => ?_) (fun hr => ?_)
  · walk_at "w"
    have dd := (d0.trans d1).trans d2
    have cl : Cl S.length (.lst [.lst (U.map MV.str), .lst [], .lst [], .lst []]) := by
      simp only [Cl, ClL, and_true]
      exact clL_strs _ _
    exact wp_leave1 dd.keeps dd.len cl (q U [] [] [] S2 _ (by omega) dd (bare_ok (by omega) (by omega) (fun z hz => (nU z hz).1) ndU))
  walk_at "w"
  refine next_wp h2 (by omega) (by decide) (by unfold Bd; decide) fun r2 S3 d3 a2 b2 => ?_
  have h3 := h2.draws d3
  walk_at "w"
  refine names_wpI (F := U) h3 (by omega) (by omega) (by omega) (by omega) fun L S4 d4 lL nL ndL => ?_
  have h4 := h3.draws d4
  walk_at "w"
  refine next_wp h4 (by omega) (by decide) (by unfold Bd; decide) fun r3 S5 d5 a3 b3 => ?_
  have h5 := h4.draws d5
  walk_at "w"
  rw [← List.map_append]
  refine names_wpI (F := U ++ L) h5 (by omega) (by omega) (by omega) (by simp only [List.length_append]; omega) fun Z S6 d6 lZ nZ ndZ => ?_
  have h6 := h5.draws d6
  walk_at "w"
  refine next_wp h6 (by omega) (by decide) (by unfold Bd; decide) fun r4 S7 d7 a4 b4 => ?_
  have h7 := h6.draws d7
  walk_at "w"
  rw [← List.map_append, ← List.map_append]
  refine names_wpI (F := U ++ L ++ Z) h7 (by omega) (by omega) (by omega) (by simp only [List.length_append]; omega) fun Y S8 d8 lY nY ndY => ?_
  have h8 := h7.draws d8
  walk_at "w"
  unfold b_law_drawn_c1
  refine pairs_draw (l := l) (zs := Z) (lo := 0) (hi := 2) (by rfl) h8 (by omega) (by omega) (fun w n S T Q hn hd q => ?_) fun D S9 d9 hD hD2 => ?_
  · walk_at "w"
    refine next_wpT hd (by omega) (by decide) (by unfold Bd; decide) fun r S' d r0 r1 => ?_
    walk_at "w"
    exact q _ S' d (by omega) (by omega)
  have h9 := h8.draws d9
  walk_at "w"
  unfold b_law_drawn_c2
  refine pairs_draw (l := l) (zs := Y) (lo := 1) (hi := 2) (by rfl) h9 (by omega) (by omega) (fun w n S T Q hn hd q => ?_) fun A S10 d10 hA hA2 => ?_
  · walk_at "w"
    refine next_wpT hd (by omega) (by decide) (by unfold Bd; decide) fun r S' d r0 r1 => ?_
    walk_at "w"
    exact q _ S' d (by omega) (by omega)
  walk_at "w"
  have lD : D.length = Z.length := by rw [← hD]; simp
  have lA : A.length = Y.length := by rw [← hA]; simp
  have dd := (((((((((d0.trans d1).trans d2).trans d3).trans d4).trans d5).trans d6).trans d7).trans d8).trans d9).trans d10
  have cl : Cl S.length (.lst [.lst (U.map MV.str), .lst (L.map MV.str), .lst (prM D), .lst (prM A)]) := by
    simp only [Cl, ClL, and_true]
    exact ⟨clL_strs _ _, clL_strs _ _, clL_prM _ _, clL_prM _ _⟩
  refine wp_leave1 dd.keeps dd.len cl (q U L D A S10 _ ?_ dd ?_)
  · omega
  · refine ⟨by omega, by omega, by omega, by omega, by omega, fun z hz => (nU z hz).1, fun z hz => (nL z hz).1, fun p hp => ⟨(nZ p.1 (by rw [← hD]; exact List.mem_map_of_mem hp)).1, by have := hD2 p hp; omega, (hD2 p hp).2⟩, fun p hp => ⟨(nY p.1 (by rw [← hA]; exact List.mem_map_of_mem hp)).1, hA2 p hp⟩, ?_⟩
    rw [hD, hA, List.nodup_append, List.nodup_append, List.nodup_append]
    refine ⟨⟨⟨ndU, ndL, fun a ha b hb e => (nL b hb).2 (by rw [← e]; exact ha)⟩, ndZ, fun a ha b hb e => (nZ b hb).2 (by rw [← e]; exact ha)⟩, ndY, fun a ha b hb e => (nY b hb).2 (by rw [← e]; exact ha)⟩
section
variable {S : Sto} {Q : MV → Sto → Prop} {E : MX → Sto → Prop} {U L : List (List Nat)} {D A : List (List Nat × Int)}
/-- what is handed in: four places -/
structure Hd (S : Sto) (U L : List (List Nat)) (D A : List (List Nat × Int)) (a b c d : Nat) : Prop where
  a : S[a]? = some (.lst (U.map MV.str))
  b : S[b]? = some (.lst (L.map MV.str))
  c : S[c]? = some (.dic (kvOf D))
  d : S[d]? = some (.dic (kvOf A))
theorem eq_lnil {b : Nat} {xs : List MV} (h : S[b]? = some (.lst xs)) : fEq (.ref b) (.lst []) S = .ok (.bl (decide (xs = []))) S := by
  have v : view S (.ref b) = .lst xs := by simp only [view, h]
  have e := SM.fEq_lnil xs S
  unfold fEq at e ⊢
  rw [v]
  have v2 : view S (.lst xs) = .lst xs := rfl
  rw [v2] at e
  rw [e]
  cases xs <;> rfl
theorem eq_dnil {b : Nat} {ks : List (MV × MV)} (h : S[b]? = some (.dic ks)) : fEqD (.ref b) (.dic []) S = .ok (.bl (decide (ks = []))) S := by
  have v : asD S (.ref b) = some ks := by simp only [asD, h]
  have v2 : asD S (.dic []) = some [] := rfl
  unfold fEqD
  simp only [v, v2]
  cases ks with
  | nil => rfl
  | cons k r => rfl
theorem made_wp {w : Int} {a b c d : Nat} {du : MV} (hG : GearOk U L D A) (hS : S.all okP = true) (h : Hd S U L D A a b c d) (q : Q (gearM U L D A) S) : Wp (m_law_made [du, .int w, .tup [.ref a, .ref b, .ref c, .ref d]] S) Q E := by
  have q' : Wp (leaveV S S (gearM U L D A)) Q E := wp_leave0 (by have := gear_cl U L D A S.length; simpa only [gearM, Cl, Clf] using this) q
  have e1 := eq_lnil h.b
  have e2 := eq_dnil h.c
  have e3 := eq_dnil h.d
  have n1 : (L.map MV.str = []) ↔ L = [] := by simp
  have n2 : (kvOf D = []) ↔ D = [] := by simp [kvOf]
  have n3 : (kvOf A = []) ↔ A = [] := by simp [kvOf]
  simp only [n1] at e1
  simp only [n2] at e2
  simp only [n3] at e3
  have hu : HL S (.ref a) (U.map MV.str) := .inr ⟨_, rfl, h.a⟩
  have hb : HL S (.ref b) (L.map MV.str) := .inr ⟨_, rfl, h.b⟩
  have hc : HD S (.ref c) (kvOf D) := .inr ⟨_, rfl, h.c⟩
  have hd : HD S (.ref d) (kvOf A) := .inr ⟨_, rfl, h.d⟩
  have mk := fun (env : Env) (as : MA) vs ms hi de ask (ha : as env S = .ok vs S) (hv : vs ++ ms = [.ref a, hi, de, ask]) (f1 : HL S hi (L.map MV.str) ∨ hi = .non ∧ L = []) f2 f3 => @make_wp S (fun v S1 => Wp (leaveV S S1 v) Q E) (fun x S1 => Wp (leaveX (α := MV) S S1 x) Q E) U L D A (.ref a) hi de ask env as vs ms S hG ha hv hS ⟨hu, f1, f2, f3⟩ q'
  have mkK := fun (env : Env) (as : MA) (ha : as env S = .ok [.ref d, .ref c, .ref b, .ref a] S) => @makeK_wp S (fun v S1 => Wp (leaveV S S1 v) Q E) (fun x S1 => Wp (leaveX (α := MV) S S1 x) Q E) U L D A (.ref a) (.ref b) (.ref c) (.ref d) env as S hG ha hS ⟨hu, .inl hb, .inl hc, .inl hd⟩ q'
  have i1 : ∀ (e : Env), e[5]? = some (some (.ref b)) → ∃ v, mIf (asB (mBin fEq (mV 5) (mLst false mNil))) (mC .non) (mV 5) e S = .ok v S ∧ (HL S v (L.map MV.str) ∨ v = .non ∧ L = []) := fun e he => by
    have m1 : mBin fEq (mV 5) (mLst false mNil) e S = .ok (.bl (decide (L = []))) S := by
      simp only [mBin, mV, he, bind_ok, mLst, mNil]
      exact e1
    by_cases hl : L = []
    · refine ⟨.non, ?_, .inr ⟨rfl, hl⟩⟩
      simp only [mIf, asB, m1, bind_ok, decide_eq_true hl]
      rfl
    · refine ⟨.ref b, ?_, .inl hb⟩
      simp only [mIf, asB, m1, bind_ok, decide_eq_false hl]
      simp only [mV, he]
      rfl
  have i2 : ∀ (e : Env), e[6]? = some (some (.ref c)) → ∃ v, mIf (asB (mBin fEqD (mV 6) (mDic0 false))) (mC .non) (mV 6) e S = .ok v S ∧ (HD S v (kvOf D) ∨ v = .non ∧ D = []) := fun e he => by
    have m1 : mBin fEqD (mV 6) (mDic0 false) e S = .ok (.bl (decide (D = []))) S := by
      simp only [mBin, mV, he, bind_ok, mDic0, mkD]
      exact e2
    by_cases hl : D = []
    · refine ⟨.non, ?_, .inr ⟨rfl, hl⟩⟩
      simp only [mIf, asB, m1, bind_ok, decide_eq_true hl]
      rfl
    · refine ⟨.ref c, ?_, .inl hc⟩
      simp only [mIf, asB, m1, bind_ok, decide_eq_false hl]
      simp only [mV, he]
      rfl
  unfold m_law_made
  refine wp_def ?_
  unfold b_law_made
  obtain ⟨g1, hg1⟩ : ∃ g, g = mMake false 0 5 m_Gear_init [] := ⟨_, rfl⟩
  obtain ⟨g2, hg2⟩ : ∃ g, g = mMakeK false 0 5 m_Gear_init 4 := ⟨_, rfl⟩
  obtain ⟨g3, hg3⟩ : ∃ g, g = mMake false 0 5 m_Gear_init [.non, .non, .non] := ⟨_, rfl⟩
  obtain ⟨g4, hg4⟩ : ∃ g, g = mMake false 0 5 m_Gear_init [.non] := ⟨_, rfl⟩
  obtain ⟨f5, hf5⟩ : ∃ g, g = mIf (asB (mBin fEq (mV 5) (mLst false mNil))) (mC .non) (mV 5) := ⟨_, rfl⟩
  obtain ⟨f6, hf6⟩ : ∃ g, g = mIf (asB (mBin fEqD (mV 6) (mDic0 false))) (mC .non) (mV 6) := ⟨_, rfl⟩
  rw [← hg1, ← hg2, ← hg3, ← hg4, ← hf5, ← hf6]
  rw [← hf5] at i1
  rw [← hf6] at i2
  walk_at "w"
  refine ite_by (fun hw => ?_) (fun hw => ?_)
  · walk_at "w"
    subst hg1
    exact mk _ _ _ _ _ _ _ rfl rfl (.inl hb) (.inl hc) (.inl hd)
  walk_at "w"
  refine ite_by (fun hw2 => ?_) (fun hw2 => ?_)
  · walk_at "w"
    subst hg2
    exact mkK _ _ rfl
  have last : ∀ x3, Ws ((sSeq (sSet 3 f5)
  (sSeq (sIf (asB (mBin fEqD (mV 7) (mDic0 false))) (sRet (g4 (mCons (mV 4) (mCons (mV 3) (mCons f6 mNil))))) sNext)
  (sRet (g1 (mCons (mV 4) (mCons (mV 3) (mCons f6 (mCons (mV 7) mNil)))))))) [some du, some (.int w), some (.tup [.ref a, .ref b, .ref c, .ref d]), x3, some (.ref a), some (.ref b), some (.ref c), some (.ref d)] S) (fun _ S1 => Wp (leaveV S S1 .non) Q E) (fun v S1 => Wp (leaveV S S1 v) Q E) (fun _ _ => False) (fun _ _ => False) (fun x _ S1 => Wp (leaveX (α := MV) S S1 x) Q E) := by
    intro x3
    obtain ⟨v5, p5, r5⟩ := i1 [some du, some (.int w), some (.tup [.ref a, .ref b, .ref c, .ref d]), x3, some (.ref a), some (.ref b), some (.ref c), some (.ref d)] rfl
    obtain ⟨v6, p6, r6⟩ := i2 [some du, some (.int w), some (.tup [.ref a, .ref b, .ref c, .ref d]), some v5, some (.ref a), some (.ref b), some (.ref c), some (.ref d)] rfl
    refine ws_seq (ws_set (wp_eq p5 ?_))
    simp only [List.set_cons_succ, List.set_cons_zero]
    walk_at "w"
    refine wp_eq e3 ?_
    walk_at "w"
    refine ite_by (fun hA => ?_) (fun hA => ?_)
    · walk_at "w"
      subst hg4
      refine mk _ _ [.ref a, v5, v6] _ v5 v6 .non ?_ rfl r5 r6 (.inr ⟨rfl, hA⟩)
      simp only [mCons, mV, mNil, List.getElem?_cons_zero, List.getElem?_cons_succ, bind_ok, p6]
    · walk_at "w"
      subst hg1
      refine mk _ _ [.ref a, v5, v6, .ref d] _ v5 v6 (.ref d) ?_ rfl r5 r6 (.inl hd)
      simp only [mCons, mV, mNil, List.getElem?_cons_zero, List.getElem?_cons_succ, bind_ok, p6]
  walk_at "w"
  refine wp_eq e1 ?_
  walk_at "w"
  refine ite_by (fun hl => ?_) (fun hl => ?_)
  · walk_at "w"
    refine wp_eq e2 ?_
    walk_at "w"
    refine ite_by (fun hl2 => ?_) (fun hl2 => ?_)
    · walk_at "w"
      refine wp_eq e3 ?_
      walk_at "w"
      refine ite_by (fun hl3 => ?_) (fun hl3 => ?_)
      · walk_at "w"
        subst hg3
        exact mk _ _ _ _ .non .non .non rfl rfl (.inr ⟨rfl, hl⟩) (.inr ⟨rfl, hl2⟩) (.inr ⟨rfl, hl3⟩)
      · exact last _
    · exact last _
  · exact last _
end
end K11
end Mi
namespace Mi
namespace K11
open PySem L2 TL
open Sh hiding b_Gear_deeds m_Gear_deeds b_Gear_init m_Gear_init
local macro_rules | `(tactic| walk_at "r62") => `(tactic| first | exact r62 (by omega) (by omega) | exact ⟨r62 (by omega) (by omega), r62 (by omega) (by omega)⟩)
local macro_rules | `(tactic| walk_at "sz") => `(tactic| first | omega | (simp only [List.length_cons, List.length_nil, List.length_append, List.length_map, List.length_replicate, List.length_take, List.length_drop, sizeLine] <;> omega) | (unfold sizeLine; omega) | decide)
local macro_rules | `(tactic| walk_at "dq") => `(tactic| first | with_unfolding_all rfl | walk_at "r62" | walk_at "sz")
local macro_rules | `(tactic| walk_at "zs") => `(tactic| ((try (first | with_reducible refine i_wp ?_ | with_reducible refine i_ws ?_ | with_reducible refine i_get ?_ | with_reducible refine i_an ?_ | with_reducible refine i_if ?_ | with_reducible refine i_wb ?_ | with_reducible refine i_wt ?_ | with_reducible refine i_sub ?_ | with_reducible refine i_put ?_ | with_reducible refine i_fld ?_ | with_reducible refine i_ins ?_)); (try simp (disch := walk_at "dq") only [↓z_seq, ↓z_next, ↓z_break, ↓z_cont, ↓z_retN, ↓z_ret, ↓z_drop, ↓z_set, ↓z_asg, ↓z_if, ↓z_par, ↓z_par3, ↓z_sub, ↓z_dput, ↓z_fld, ↓z_for, ↓z_v, ↓z_vS, ↓z_v0, ↓z_e0, ↓z_e1, ↓z_e2, ↓z_c, ↓z_bin, ↓z_nil, ↓z_cons, ↓z_b, ↓z_bm, ↓z_call, ↓z_calld, ↓z_wb, ↓z_asB, ↓z_asT, ↓z_wtB, ↓z_wtN, ↓z_wtI, ↓z_wtT0, ↓z_wtT1, ↓z_wtL0, ↓z_wtL1, ↓z_notB, ↓z_andB, ↓z_orB, ↓z_notT, ↓z_andT, ↓z_orT, ↓z_ifE, ↓z_isn, ↓z_notn, ↓z_neg, ↓z_chain, ↓z_yes, ↓z_nopart, ↓z_part, ↓z_sl, ↓z_tup, ↓z_lst, ↓z_mkL, ↓z_mkLn, ↓z_dic0, ↓z_mkD, ↓z_mkDn, ↓z_revL, ↓z_fldE, ↓z_insV, ↓z_get2, ↓z_itS, ↓z_itR1, ↓z_itR2, ↓z_itT, ↓z_itE, ↓z_itZ, ↓z_get, ↓z_int, ↓z_int1, ↓z_int2, ↓z_one1, ↓z_two2, ↓z_str, ↓z_asLl, ↓z_asLr, ↓z_itLl, ↓z_itLt, ↓z_gN, ↓z_gNl, ↓z_gCs, ↓z_gTt, ↓z_gTl, ↓z_an, ↓z_ct, ↓z_cf, ↓z_ty1, ↓z_ty2, ↓z_ty3, ↓z_ty4, ↓z_anT, ↓z_addI, ↓z_addS, ↓z_addT, ↓z_addLL, ↓z_subI, ↓z_mod, ↓z_lt, ↓z_le, ↓z_gt, ↓z_ge, ↓z_eqI, ↓z_neI, ↓z_eqS, ↓z_neS, ↓z_eqB, ↓z_neB, ↓z_inL, ↓z_ninL, ↓z_lenL, ↓z_lenT, ↓z_lenD, ↓z_lenS, ↓z_slS, ↓z_slT, ↓z_slL, ↓z_listL, ↓z_listT, ↓z_listD, ↓z_tupL, ↓z_tupT, ↓z_max, ↓z_min, ↓z_dictD, ↓z_int1B, ↓z_int1I, ↓z_meth0, ↓z_methd, List.set_cons_zero, List.set_cons_succ, q_e0, q_e1, q_e2, -eq_self, -iff_self]); (try (first | with_reducible refine o_wp ?_ | with_reducible refine o_ws ?_ | with_reducible refine o_get ?_ | with_reducible refine o_an ?_ | with_reducible refine o_if ?_ | with_reducible refine o_wb ?_ | with_reducible refine o_wt ?_ | with_reducible refine o_v ?_ | with_reducible refine o_sub ?_ | with_reducible refine o_put ?_ | with_reducible refine o_fld ?_ | with_reducible refine o_ins ?_))))
local macro_rules | `(tactic| walk_at "w") => `(tactic| (walk_at "zs"; (repeat ((first | with_reducible refine wp_ixT (by with_unfolding_all rfl) ?_ | with_reducible refine wp_ixL (by with_unfolding_all rfl) ?_ | with_reducible refine wv (by with_unfolding_all rfl) ?_ | with_reducible refine get (by with_unfolding_all rfl) ?_ | with_reducible refine an (by walk_at "dq") ?_ | with_reducible refine wt (by with_unfolding_all rfl) ?_ | with_reducible refine ite_t ?_ | with_reducible refine ite_f ?_ | with_reducible refine ite_rt (by with_unfolding_all rfl) ?_ | with_reducible refine ite_rf (by with_unfolding_all rfl) ?_ | with_reducible refine wp_isiT (by with_unfolding_all rfl) ?_ | with_reducible refine wp_isiF (by with_unfolding_all rfl) ?_); walk_at "zs"))))
local macro_rules | `(tactic| walk_at "dq") => `(tactic| first | with_unfolding_all rfl | walk_at "r62" | walk_at "sz")
local macro_rules | `(tactic| walk_at "zs") => `(tactic| ((try (first | with_reducible refine i_wp ?_ | with_reducible refine i_ws ?_ | with_reducible refine i_get ?_ | with_reducible refine i_an ?_ | with_reducible refine i_if ?_ | with_reducible refine i_wb ?_ | with_reducible refine i_wt ?_ | with_reducible refine i_sub ?_ | with_reducible refine i_put ?_ | with_reducible refine i_fld ?_ | with_reducible refine i_ins ?_)); (try simp (disch := walk_at "dq") only [↓z_seq, ↓z_next, ↓z_break, ↓z_cont, ↓z_retN, ↓z_ret, ↓z_drop, ↓z_set, ↓z_asg, ↓z_if, ↓z_par, ↓z_par3, ↓z_sub, ↓z_dput, ↓z_fld, ↓z_for, ↓z_v, ↓z_vS, ↓z_v0, ↓z_e0, ↓z_e1, ↓z_e2, ↓z_c, ↓z_bin, ↓z_nil, ↓z_cons, ↓z_b, ↓z_bm, ↓z_call, ↓z_calld, ↓z_wb, ↓z_asB, ↓z_asT, ↓z_wtB, ↓z_wtN, ↓z_wtI, ↓z_wtT0, ↓z_wtT1, ↓z_wtL0, ↓z_wtL1, ↓z_notB, ↓z_andB, ↓z_orB, ↓z_notT, ↓z_andT, ↓z_orT, ↓z_ifE, ↓z_isn, ↓z_notn, ↓z_neg, ↓z_chain, ↓z_yes, ↓z_nopart, ↓z_part, ↓z_sl, ↓z_tup, ↓z_lst, ↓z_mkL, ↓z_mkLn, ↓z_dic0, ↓z_mkD, ↓z_mkDn, ↓z_revL, ↓z_fldE, ↓z_insV, ↓z_get2, ↓z_itS, ↓z_itR1, ↓z_itR2, ↓z_itT, ↓z_itE, ↓z_itZ, ↓z_get, ↓z_int, ↓z_int1, ↓z_int2, ↓z_one1, ↓z_two2, ↓z_str, ↓z_asLl, ↓z_asLr, ↓z_itLl, ↓z_itLt, ↓z_gN, ↓z_gNl, ↓z_gCs, ↓z_gTt, ↓z_gTl, ↓z_an, ↓z_ct, ↓z_cf, ↓z_ty1, ↓z_ty2, ↓z_ty3, ↓z_ty4, ↓z_anT, ↓z_addI, ↓z_addS, ↓z_addT, ↓z_addLL, ↓z_subI, ↓z_mod, ↓z_lt, ↓z_le, ↓z_gt, ↓z_ge, ↓z_eqI, ↓z_neI, ↓z_eqS, ↓z_neS, ↓z_eqB, ↓z_neB, ↓z_inL, ↓z_ninL, ↓z_lenL, ↓z_lenT, ↓z_lenD, ↓z_lenS, ↓z_slS, ↓z_slT, ↓z_slL, ↓z_listL, ↓z_listT, ↓z_listD, ↓z_tupL, ↓z_tupT, ↓z_max, ↓z_min, ↓z_dictD, ↓z_int1B, ↓z_int1I, ↓z_meth0, ↓z_methd, List.set_cons_zero, List.set_cons_succ, q_e0, q_e1, q_e2, ↓z_seen, ↓z_hidden, ↓z_deeds, ↓z_asks, -eq_self, -iff_self]); (try (first | with_reducible refine o_wp ?_ | with_reducible refine o_ws ?_ | with_reducible refine o_get ?_ | with_reducible refine o_an ?_ | with_reducible refine o_if ?_ | with_reducible refine o_wb ?_ | with_reducible refine o_wt ?_ | with_reducible refine o_v ?_ | with_reducible refine o_sub ?_ | with_reducible refine o_put ?_ | with_reducible refine o_fld ?_ | with_reducible refine o_ins ?_))))
local macro_rules | `(tactic| walk_at "w") => `(tactic| (walk_at "zs"; (repeat ((first | with_reducible refine wp_inPQ ?_ | with_reducible refine wp_inMD ?_ | with_reducible refine wp_ninMD ?_ | with_reducible refine wp_inGo ?_ | with_reducible refine wp_ninGo ?_ | with_reducible refine wp_inDM ?_ | with_reducible refine wp_ninDM ?_ | with_reducible refine ite_dt (by assumption) ?_ | with_reducible refine ite_df (by assumption) ?_ | with_reducible refine ite_nt (by assumption) ?_ | with_reducible refine ite_nf (by assumption) ?_ | with_reducible refine ite_rt (by assumption) ?_ | with_reducible refine ite_rf (by assumption) ?_ | with_reducible refine wp_eqTn ?_ | with_reducible refine wp_ixT (by with_unfolding_all rfl) ?_ | with_reducible refine wp_ixL (by with_unfolding_all rfl) ?_ | with_reducible refine wv (by with_unfolding_all rfl) ?_ | with_reducible refine get (by with_unfolding_all rfl) ?_ | with_reducible refine an (by walk_at "dq") ?_ | with_reducible refine wt (by with_unfolding_all rfl) ?_ | with_reducible refine ite_t ?_ | with_reducible refine ite_f ?_ | with_reducible refine ite_rt (by with_unfolding_all rfl) ?_ | with_reducible refine ite_rf (by with_unfolding_all rfl) ?_ | with_reducible refine wp_isiT (by with_unfolding_all rfl) ?_ | with_reducible refine wp_isiF (by with_unfolding_all rfl) ?_); walk_at "zs"))))
/-- what a turn changes: only places that P names, and what is new -/
structure Ch (S S' : Sto) (P : Nat → Prop) : Prop where
  le : S.length ≤ S'.length
  at' : ∀ j, j < S.length → S'[j]? = S[j]? ∨ (P j ∧ ∃ o, S'[j]? = some o ∧ ClO S.length o ∧ okP o = true)
section
variable {S S' S0 : Sto} {Q : MV → Sto → Prop} {E : MX → Sto → Prop} {U L : List (List Nat)} {D A : List (List Nat × Int)} {P : Nat → Prop}
theorem Ch.keeps (h : Ch S S' P) : Keeps S S' := ⟨h.le, fun l hl => (h.at' l hl).imp id fun ⟨_, o, e, c, _⟩ => ⟨o, e, c⟩⟩
theorem Ch.refl (S : Sto) : Ch S S P := ⟨Nat.le_refl _, fun _ _ => .inl rfl⟩
theorem Ch.app {T : Sto} (h : Ch S S' P) : Ch S (S' ++ T) P := ⟨by rw [List.length_append]; have := h.le; omega, fun j hj => by
  rw [List.getElem?_append_left (by have := h.le; omega)]
  exact h.at' j hj⟩
theorem Ch.set {p : Nat} {o : MO} (h : Ch S S' P) (hp : p < S.length → P p ∧ ClO S.length o ∧ okP o = true) : Ch S (S'.set p o) P := ⟨by rw [List.length_set]; exact h.le, fun j hj => by
  by_cases e : p = j
  · subst e
    obtain ⟨a, b, c⟩ := hp hj
    refine .inr ⟨a, o, ?_, b, c⟩
    rw [List.getElem?_set_self (by have := h.le; omega)]
  · rw [List.getElem?_set_ne e]
    exact h.at' j hj⟩
/-- a list that may be turned about -/
def LsOk (S S' : Sto) (P : Nat → Prop) (b : Nat) (v : MV) : Prop := ∃ p xs, v = .ref p ∧ S'[p]? = some (.lst xs) ∧ xs.length + b ≤ 1000 ∧ (p < S.length → P p ∧ ClL S.length xs)
def DsOk (S S' : Sto) (P : Nat → Prop) (v : MV) : Prop := ∃ p ks, v = .ref p ∧ S'[p]? = some (.dic ks) ∧ (p < S.length → P p)
theorem get_lt {p : Nat} {o : MO} (h : S[p]? = some o) : p < S.length := (List.getElem?_eq_some_iff.mp h).1
theorem turn1 {x0 x1 : Option MV} {v : MV} {b : Nat} (h : LsOk S S' P (b + 1) v) (hc : Ch S S' P) (q : ∀ p xs, v = .ref p → S'[p]? = some (.lst xs) → xs.length + (b + 1) ≤ 1000 → Ch S (S'.set p (.lst (xs.reverse ++ [.str [122, 122]]))) P → (∀ u, LsOk S S' P (b + 1) u → LsOk S (S'.set p (.lst (xs.reverse ++ [.str [122, 122]]))) P b u) → (∀ u, DsOk S S' P u → DsOk S (S'.set p (.lst (xs.reverse ++ [.str [122, 122]]))) P u) → Q .non (S'.set p (.lst (xs.reverse ++ [.str [122, 122]])))) {R : MV → Sto → Prop} {B C : Env → Sto → Prop} {X : EE} :
    Ws (b_law_changed_l1 [x0, x1, some v] S') (fun e S1 => e = [x0, x1, some v] ∧ Q .non S1) R B C X := by
  obtain ⟨p, xs, rfl, hp, hl, hk⟩ := h
  have hlt := get_lt hp
  unfold b_law_changed_l1
  have ty1 : tyM "list" S' (.ref p) = true := by simp only [tyM, asL, hp]; rfl
  have hp2 : (S'.set p (.lst xs.reverse))[p]? = some (.lst xs.reverse) := by rw [List.getElem?_set_self hlt]
  have ty2 : tyM "list" (S'.set p (.lst xs.reverse)) (.ref p) = true := by simp only [tyM, asL, hp2]; rfl
  have rv : fReverse (.ref p) [] S' = .ok .non (S'.set p (.lst xs.reverse)) := by simp only [fReverse, onL, hp]
  walk_at "w"
  refine wp_eq rv ?_
  walk_at "w"
  refine wp_append hp2 ?_ (by rw [List.length_reverse]; unfold sizeLine; omega)
  rw [List.set_set]
  refine ⟨rfl, q p xs rfl hp hl ?_ ?_ ?_⟩
  · refine hc.set fun hq => ⟨(hk hq).1, ?_, rfl⟩
    simp only [ClO]
    refine clL_app ?_ (by simp only [ClL, Cl, and_self])
    exact clL_all fun y hy => clL_mem (hk hq).2 (List.mem_reverse.mp hy)
  · rintro u ⟨p2, ys, rfl, h1, h2, h3⟩
    by_cases e : p = p2
    · subst e
      rw [hp] at h1
      simp only [Option.some.injEq, MO.lst.injEq] at h1
      subst h1
      refine ⟨p, _, rfl, List.getElem?_set_self hlt, ?_, fun hq => ⟨(hk hq).1, ?_⟩⟩
      · simp; omega
      · refine clL_app ?_ (by simp only [ClL, Cl, and_self])
        exact clL_all fun y hy => clL_mem (hk hq).2 (List.mem_reverse.mp hy)
    · exact ⟨p2, ys, rfl, by rw [List.getElem?_set_ne e]; exact h1, by omega, h3⟩
  · rintro u ⟨p2, ys, rfl, h1, h3⟩
    have e : p ≠ p2 := fun e => by subst e; rw [hp] at h1; cases h1
    exact ⟨p2, ys, rfl, by rw [List.getElem?_set_ne e]; exact h1, h3⟩
theorem turn2 {x0 x1 : Option MV} {v : MV} (h : DsOk S S' P v) (hc : Ch S S' P) (q : ∀ p, Ch S (S'.set p (.dic [(.str [122, 122], .int 1)])) P → (∀ u, DsOk S S' P u → DsOk S (S'.set p (.dic [(.str [122, 122], .int 1)])) P u) → Q .non (S'.set p (.dic [(.str [122, 122], .int 1)]))) {R : MV → Sto → Prop} {B C : Env → Sto → Prop} {X : EE} :
    Ws (b_law_changed_l2 [x0, x1, some v] S') (fun e S1 => e = [x0, x1, some v] ∧ Q .non S1) R B C X := by
  obtain ⟨p, ks, rfl, hp, hk⟩ := h
  have hlt := get_lt hp
  unfold b_law_changed_l2
  have hp2 : (S'.set p (.dic []))[p]? = some (.dic []) := by rw [List.getElem?_set_self hlt]
  walk_at "w"
  refine SM.wp_clearM ?_
  walk_at "w"
  refine ⟨p, ks, rfl, hp, ?_⟩
  walk_at "w"
  refine put_ref hp2 rfl (by simp [sizeLine]) ?_
  rw [List.set_set]
  refine ⟨rfl, q p ?_ ?_⟩
  · refine hc.set fun hq => ⟨hk hq, ?_, rfl⟩
    simp only [ClO, Clk, Clp, Cl, and_self]
  · rintro u ⟨p2, ys, rfl, h1, h3⟩
    by_cases e : p = p2
    · subst e
      exact ⟨p, _, rfl, List.getElem?_set_self hlt, h3⟩
    · exact ⟨p2, ys, rfl, by rw [List.getElem?_set_ne e]; exact h1, h3⟩
theorem DsOk.app {T : Sto} {v : MV} (h : DsOk S S' P v) : DsOk S (S' ++ T) P v := by
  obtain ⟨p, ks, rfl, hp, hk⟩ := h
  exact ⟨p, ks, rfl, get_app hp, hk⟩
theorem changed_wp {a b c d : Nat} (hU : U.length ≤ 4) (hL : L.length ≤ 4) (h : Hd S U L D A a b c d) (q : ∀ S', S'.length = S.length → Ch S S' (fun j => j = a ∨ j = b ∨ j = c ∨ j = d) → Q .non S') : Wp (m_law_changed [.tup [.ref a, .ref b, .ref c, .ref d], gearM U L D A] S) Q E := by
  have sw := fun S Q E q => @seen_wp S Q E U L D A q
  have hw := fun S Q E q => @hidden_wp S Q E U L D A q
  have dw := fun S Q E q => @deeds_wp S Q E U L D A q
  have kw := fun S Q E q => @asks_wp S Q E U L D A q
  have nw := fun S Q E k kk h hk q => @namings_wp S Q E U L D A k kk h hk hU q
  have n1 := nm_len U hU 1
  have n2 := nm_len U hU 2
  obtain ⟨P, hP⟩ : ∃ P, P = fun j => j = a ∨ j = b ∨ j = c ∨ j = d := ⟨_, rfl⟩
  rw [← hP] at q
  have pa : P a := by rw [hP]; exact .inl rfl
  have pb : P b := by rw [hP]; exact .inr (.inl rfl)
  have pc : P c := by rw [hP]; exact .inr (.inr (.inl rfl))
  have pd : P d := by rw [hP]; exact .inr (.inr (.inr rfl))
  clear hP
  obtain ⟨ha, hb, hc, hd⟩ := h
  have lU : (U.map MV.str).length ≤ 4 := by rw [List.length_map]; omega
  have lL : (L.map MV.str).length ≤ 4 := by rw [List.length_map]; omega
  have cU := clL_strs S.length U
  have cL := clL_strs S.length L
  generalize hgg : gearM U L D A = gg at *
  have hins : ∃ fs, gg = .ins 0 fs ∧ fs.lookup ("seen" : Str) = none ∧ fs.lookup ("hidden" : Str) = none ∧ fs.lookup ("deeds" : Str) = none ∧ fs.lookup ("asks" : Str) = none ∧ fs.lookup ("namings" : Str) = none := by subst hgg; exact ⟨_, rfl, rfl, rfl, rfl, rfl, rfl⟩
  obtain ⟨fs, rfl, l1, l2, l3, l4, l5⟩ := hins
  clear hgg
  generalize U.map MV.str = US at *
  generalize L.map MV.str = LS at *
  generalize kvOf D = DK at *
  generalize kvOf A = AK at *
  unfold m_law_changed
  refine wp_def ?_
  unfold b_law_changed
  walk_at "w"
  refine sw _ _ _ ?_
  walk_at "w"
  refine hw _ _ _ ?_
  walk_at "w"
  refine nw _ _ _ 1 _ rfl (by omega) ?_
  walk_at "w"
  refine nw _ _ _ 2 _ rfl (by omega) ?_
  walk_at "w"
  generalize nms U 1 = N1 at *
  generalize nms U 2 = N2 at *
  refine for_wp (fun rest e S' => ∃ x2, e = [some (.tup [.ref a, .ref b, .ref c, .ref d]), some (.ins 0 fs), x2] ∧ Ch S S' P ∧ (∀ v ∈ rest, LsOk S S' P rest.length v) ∧ DsOk S S' P (.ref c) ∧ DsOk S S' P (.ref d)) ⟨none, rfl, (((Ch.refl S).app.app).app).app, ?_, ?_, ?_⟩ ?_ ?_
  · have nlt : ∀ {n : Nat} {p : Prop}, S.length ≤ n → (n < S.length → p) := fun h1 h2 => absurd h2 (by omega)
    intro v hv
    simp only [List.mem_cons, List.not_mem_nil, or_false] at hv
    show LsOk S _ P 6 v
    rcases hv with rfl | rfl | rfl | rfl | rfl | rfl
    · exact ⟨a, US, rfl, get_app (get_app (get_app (get_app ha))), by omega, fun _ => ⟨pa, cU⟩⟩
    · exact ⟨b, LS, rfl, get_app (get_app (get_app (get_app hb))), by omega, fun _ => ⟨pb, cL⟩⟩
    · exact ⟨_, US, rfl, by simp, by omega, nlt (Nat.le_refl _)⟩
    · exact ⟨_, LS, rfl, by simp, by omega, nlt (by simp)⟩
    · exact ⟨_, N1, rfl, by simp, by omega, nlt (by simp)⟩
    · exact ⟨_, N2, rfl, by simp, by omega, nlt (by simp)⟩
  · exact ⟨c, DK, rfl, get_app (get_app (get_app (get_app hc))), fun _ => pc⟩
  · exact ⟨d, AK, rfl, get_app (get_app (get_app (get_app hd))), fun _ => pd⟩
  · rintro v rest e S' ⟨x2, rfl, h1, h2, h3, h4⟩
    refine ⟨_, rfl, ?_⟩
    refine ws_mono (turn1 (R := fun _ _ => False) (B := fun _ _ => False) (C := fun _ _ => False) (X := fun _ _ _ => False) (Q := fun _ S1 => Ch S S1 P ∧ (∀ v ∈ rest, LsOk S S1 P rest.length v) ∧ DsOk S S1 P (.ref c) ∧ DsOk S S1 P (.ref d)) (h2 v (by simp)) h1 fun p xs _ _ _ g1 g2 g3 => ⟨g1, fun u hu => g2 u (h2 u (List.mem_cons_of_mem _ hu)), g3 _ h3, g3 _ h4⟩) ?_ (fun _ _ z => z.elim) (fun _ _ z => z.elim) (fun _ _ z => z.elim) (fun _ _ _ z => z.elim)
    rintro e S1 ⟨rfl, g⟩
    exact ⟨_, rfl, g⟩
  · rintro e S' ⟨x2, rfl, h1, -, h3, h4⟩
    walk_at "w"
    refine dw _ _ _ ?_
    walk_at "w"
    refine kw _ _ _ ?_
    walk_at "w"
    have lS := h1.le
    refine for_wp (fun rest e S1 => ∃ x2, e = [some (.tup [.ref a, .ref b, .ref c, .ref d]), some (.ins 0 fs), x2] ∧ Ch S S1 P ∧ (∀ v ∈ rest, DsOk S S1 P v)) ⟨x2, rfl, h1.app.app, ?_⟩ ?_ ?_
    · intro v hv
      simp only [List.mem_cons, List.not_mem_nil, or_false] at hv
      rcases hv with rfl | rfl | rfl | rfl
      · exact h3.app.app
      · exact h4.app.app
      · exact ⟨_, DK, rfl, by simp, fun h => by omega⟩
      · exact ⟨_, AK, rfl, by simp, fun h => by simp at h; omega⟩
    · rintro v rest e S1 ⟨x2, rfl, h1, h2⟩
      refine ⟨_, rfl, ?_⟩
      refine ws_mono (turn2 (R := fun _ _ => False) (B := fun _ _ => False) (C := fun _ _ => False) (X := fun _ _ _ => False) (Q := fun _ S2 => Ch S S2 P ∧ (∀ v ∈ rest, DsOk S S2 P v)) (h2 v (by simp)) h1 fun p g1 g2 => ⟨g1, fun u hu => g2 u (h2 u (List.mem_cons_of_mem _ hu))⟩) ?_ (fun _ _ z => z.elim) (fun _ _ z => z.elim) (fun _ _ z => z.elim) (fun _ _ _ z => z.elim)
      rintro e S1 ⟨rfl, g⟩
      exact ⟨_, rfl, g⟩
    · rintro e S1 ⟨x2, rfl, h1, -⟩
      refine wp_eq (leaveV_cl h1.keeps (by simp only [Cl])) (q _ ?_ ?_)
      · rw [List.length_take]; have := h1.le; omega
      · have := h1.le
        exact ⟨by rw [List.length_take]; omega, fun j hj => by
          rw [List.getElem?_take, if_pos hj]
          exact h1.at' j hj⟩
end
end K11
end Mi
namespace Mi
namespace K11
open PySem L2 TL
open Sh hiding b_Gear_deeds m_Gear_deeds b_Gear_init m_Gear_init
local macro_rules | `(tactic| walk_at "r62") => `(tactic| first | exact r62 (by omega) (by omega) | exact ⟨r62 (by omega) (by omega), r62 (by omega) (by omega)⟩)
local macro_rules | `(tactic| walk_at "sz") => `(tactic| first | omega | (simp only [List.length_cons, List.length_nil, List.length_append, List.length_map, List.length_replicate, List.length_take, List.length_drop, sizeLine] <;> omega) | (unfold sizeLine; omega) | decide)
local macro_rules | `(tactic| walk_at "dq") => `(tactic| first | with_unfolding_all rfl | walk_at "r62" | walk_at "sz")
local macro_rules | `(tactic| walk_at "zs") => `(tactic| ((try (first | with_reducible refine i_wp ?_ | with_reducible refine i_ws ?_ | with_reducible refine i_get ?_ | with_reducible refine i_an ?_ | with_reducible refine i_if ?_ | with_reducible refine i_wb ?_ | with_reducible refine i_wt ?_ | with_reducible refine i_sub ?_ | with_reducible refine i_put ?_ | with_reducible refine i_fld ?_ | with_reducible refine i_ins ?_)); (try simp (disch := walk_at "dq") only [↓z_seq, ↓z_next, ↓z_break, ↓z_cont, ↓z_retN, ↓z_ret, ↓z_drop, ↓z_set, ↓z_asg, ↓z_if, ↓z_par, ↓z_par3, ↓z_sub, ↓z_dput, ↓z_fld, ↓z_for, ↓z_v, ↓z_vS, ↓z_v0, ↓z_e0, ↓z_e1, ↓z_e2, ↓z_c, ↓z_bin, ↓z_nil, ↓z_cons, ↓z_b, ↓z_bm, ↓z_call, ↓z_calld, ↓z_wb, ↓z_asB, ↓z_asT, ↓z_wtB, ↓z_wtN, ↓z_wtI, ↓z_wtT0, ↓z_wtT1, ↓z_wtL0, ↓z_wtL1, ↓z_notB, ↓z_andB, ↓z_orB, ↓z_notT, ↓z_andT, ↓z_orT, ↓z_ifE, ↓z_isn, ↓z_notn, ↓z_neg, ↓z_chain, ↓z_yes, ↓z_nopart, ↓z_part, ↓z_sl, ↓z_tup, ↓z_lst, ↓z_mkL, ↓z_mkLn, ↓z_dic0, ↓z_mkD, ↓z_mkDn, ↓z_revL, ↓z_fldE, ↓z_insV, ↓z_get2, ↓z_itS, ↓z_itR1, ↓z_itR2, ↓z_itT, ↓z_itE, ↓z_itZ, ↓z_get, ↓z_int, ↓z_int1, ↓z_int2, ↓z_one1, ↓z_two2, ↓z_str, ↓z_asLl, ↓z_asLr, ↓z_itLl, ↓z_itLt, ↓z_gN, ↓z_gNl, ↓z_gCs, ↓z_gTt, ↓z_gTl, ↓z_an, ↓z_ct, ↓z_cf, ↓z_ty1, ↓z_ty2, ↓z_ty3, ↓z_ty4, ↓z_anT, ↓z_addI, ↓z_addS, ↓z_addT, ↓z_addLL, ↓z_subI, ↓z_mod, ↓z_lt, ↓z_le, ↓z_gt, ↓z_ge, ↓z_eqI, ↓z_neI, ↓z_eqS, ↓z_neS, ↓z_eqB, ↓z_neB, ↓z_inL, ↓z_ninL, ↓z_lenL, ↓z_lenT, ↓z_lenD, ↓z_lenS, ↓z_slS, ↓z_slT, ↓z_slL, ↓z_listL, ↓z_listT, ↓z_listD, ↓z_tupL, ↓z_tupT, ↓z_max, ↓z_min, ↓z_dictD, ↓z_int1B, ↓z_int1I, ↓z_meth0, ↓z_methd, List.set_cons_zero, List.set_cons_succ, q_e0, q_e1, q_e2, -eq_self, -iff_self]); (try (first | with_reducible refine o_wp ?_ | with_reducible refine o_ws ?_ | with_reducible refine o_get ?_ | with_reducible refine o_an ?_ | with_reducible refine o_if ?_ | with_reducible refine o_wb ?_ | with_reducible refine o_wt ?_ | with_reducible refine o_v ?_ | with_reducible refine o_sub ?_ | with_reducible refine o_put ?_ | with_reducible refine o_fld ?_ | with_reducible refine o_ins ?_))))
local macro_rules | `(tactic| walk_at "w") => `(tactic| (walk_at "zs"; (repeat ((first | with_reducible refine wp_ixT (by with_unfolding_all rfl) ?_ | with_reducible refine wp_ixL (by with_unfolding_all rfl) ?_ | with_reducible refine wv (by with_unfolding_all rfl) ?_ | with_reducible refine get (by with_unfolding_all rfl) ?_ | with_reducible refine an (by walk_at "dq") ?_ | with_reducible refine wt (by with_unfolding_all rfl) ?_ | with_reducible refine ite_t ?_ | with_reducible refine ite_f ?_ | with_reducible refine ite_rt (by with_unfolding_all rfl) ?_ | with_reducible refine ite_rf (by with_unfolding_all rfl) ?_ | with_reducible refine wp_isiT (by with_unfolding_all rfl) ?_ | with_reducible refine wp_isiF (by with_unfolding_all rfl) ?_); walk_at "zs"))))
local macro_rules | `(tactic| walk_at "dq") => `(tactic| first | with_unfolding_all rfl | walk_at "r62" | walk_at "sz")
local macro_rules | `(tactic| walk_at "zs") => `(tactic| ((try (first | with_reducible refine i_wp ?_ | with_reducible refine i_ws ?_ | with_reducible refine i_get ?_ | with_reducible refine i_an ?_ | with_reducible refine i_if ?_ | with_reducible refine i_wb ?_ | with_reducible refine i_wt ?_ | with_reducible refine i_sub ?_ | with_reducible refine i_put ?_ | with_reducible refine i_fld ?_ | with_reducible refine i_ins ?_)); (try simp (disch := walk_at "dq") only [↓z_seq, ↓z_next, ↓z_break, ↓z_cont, ↓z_retN, ↓z_ret, ↓z_drop, ↓z_set, ↓z_asg, ↓z_if, ↓z_par, ↓z_par3, ↓z_sub, ↓z_dput, ↓z_fld, ↓z_for, ↓z_v, ↓z_vS, ↓z_v0, ↓z_e0, ↓z_e1, ↓z_e2, ↓z_c, ↓z_bin, ↓z_nil, ↓z_cons, ↓z_b, ↓z_bm, ↓z_call, ↓z_calld, ↓z_wb, ↓z_asB, ↓z_asT, ↓z_wtB, ↓z_wtN, ↓z_wtI, ↓z_wtT0, ↓z_wtT1, ↓z_wtL0, ↓z_wtL1, ↓z_notB, ↓z_andB, ↓z_orB, ↓z_notT, ↓z_andT, ↓z_orT, ↓z_ifE, ↓z_isn, ↓z_notn, ↓z_neg, ↓z_chain, ↓z_yes, ↓z_nopart, ↓z_part, ↓z_sl, ↓z_tup, ↓z_lst, ↓z_mkL, ↓z_mkLn, ↓z_dic0, ↓z_mkD, ↓z_mkDn, ↓z_revL, ↓z_fldE, ↓z_insV, ↓z_get2, ↓z_itS, ↓z_itR1, ↓z_itR2, ↓z_itT, ↓z_itE, ↓z_itZ, ↓z_get, ↓z_int, ↓z_int1, ↓z_int2, ↓z_one1, ↓z_two2, ↓z_str, ↓z_asLl, ↓z_asLr, ↓z_itLl, ↓z_itLt, ↓z_gN, ↓z_gNl, ↓z_gCs, ↓z_gTt, ↓z_gTl, ↓z_an, ↓z_ct, ↓z_cf, ↓z_ty1, ↓z_ty2, ↓z_ty3, ↓z_ty4, ↓z_anT, ↓z_addI, ↓z_addS, ↓z_addT, ↓z_addLL, ↓z_subI, ↓z_mod, ↓z_lt, ↓z_le, ↓z_gt, ↓z_ge, ↓z_eqI, ↓z_neI, ↓z_eqS, ↓z_neS, ↓z_eqB, ↓z_neB, ↓z_inL, ↓z_ninL, ↓z_lenL, ↓z_lenT, ↓z_lenD, ↓z_lenS, ↓z_slS, ↓z_slT, ↓z_slL, ↓z_listL, ↓z_listT, ↓z_listD, ↓z_tupL, ↓z_tupT, ↓z_max, ↓z_min, ↓z_dictD, ↓z_int1B, ↓z_int1I, ↓z_meth0, ↓z_methd, List.set_cons_zero, List.set_cons_succ, q_e0, q_e1, q_e2, ↓z_seen, ↓z_hidden, ↓z_deeds, ↓z_asks, -eq_self, -iff_self]); (try (first | with_reducible refine o_wp ?_ | with_reducible refine o_ws ?_ | with_reducible refine o_get ?_ | with_reducible refine o_an ?_ | with_reducible refine o_if ?_ | with_reducible refine o_wb ?_ | with_reducible refine o_wt ?_ | with_reducible refine o_v ?_ | with_reducible refine o_sub ?_ | with_reducible refine o_put ?_ | with_reducible refine o_fld ?_ | with_reducible refine o_ins ?_))))
local macro_rules | `(tactic| walk_at "w") => `(tactic| (walk_at "zs"; (repeat ((first | with_reducible refine wp_inPQ ?_ | with_reducible refine wp_inMD ?_ | with_reducible refine wp_ninMD ?_ | with_reducible refine wp_inGo ?_ | with_reducible refine wp_ninGo ?_ | with_reducible refine wp_inDM ?_ | with_reducible refine wp_ninDM ?_ | with_reducible refine ite_dt (by assumption) ?_ | with_reducible refine ite_df (by assumption) ?_ | with_reducible refine ite_nt (by assumption) ?_ | with_reducible refine ite_nf (by assumption) ?_ | with_reducible refine ite_rt (by assumption) ?_ | with_reducible refine ite_rf (by assumption) ?_ | with_reducible refine wp_eqTn ?_ | with_reducible refine wp_ixT (by with_unfolding_all rfl) ?_ | with_reducible refine wp_ixL (by with_unfolding_all rfl) ?_ | with_reducible refine wv (by with_unfolding_all rfl) ?_ | with_reducible refine get (by with_unfolding_all rfl) ?_ | with_reducible refine an (by walk_at "dq") ?_ | with_reducible refine wt (by with_unfolding_all rfl) ?_ | with_reducible refine ite_t ?_ | with_reducible refine ite_f ?_ | with_reducible refine ite_rt (by with_unfolding_all rfl) ?_ | with_reducible refine ite_rf (by with_unfolding_all rfl) ?_ | with_reducible refine wp_isiT (by with_unfolding_all rfl) ?_ | with_reducible refine wp_isiF (by with_unfolding_all rfl) ?_); walk_at "zs"))))
def HeldV (v : MV) : Prop := ∃ U L D A, ∃ f : Int, v = .tup [gearM U L D A, dueM U L D A, .int f] ∧ U.length ≤ 4 ∧ L.length ≤ 4
section
variable {S : Sto} {Q : MV → Sto → Prop} {E : MX → Sto → Prop} {U L : List (List Nat)} {D A : List (List Nat × Int)} {its : List MV}
theorem right_ok {f : Int} (hU : U.length ≤ 4) (hL : L.length ≤ 4) : m_law_right [gearM U L D A, dueM U L D A, .int f] S = .ok (.bl true) S :=
  ok_of (right_wp hU hL ⟨rfl, rfl⟩)
theorem comp_rights {mi : Env → Sto → Res Itv} {i j k : Nat} {env : Env} {deps : List (Nat × List MV)} (hijk : i ≠ j ∧ i ≠ k ∧ j ≠ k ∧ i < env.length ∧ j < env.length ∧ k < env.length) (hi : mi env S = .ok ⟨its, deps⟩ S) (ht : ∀ acc, (Itv.mk its deps).chk (S ++ [.lst acc])) (hl : its.length ≤ 1000) (hv : ∀ v ∈ its, HeldV v) :
    mComp false mi [i, j, k] (gT 3 (gCs (gN i) (gCs (gN j) (gCs (gN k) gNl)))) mYes (mCall 3 m_law_right [] (mCons (mV i) (mCons (mV j) (mCons (mV k) mNil)))) env S = .ok (.lst (List.replicate its.length (.bl true))) S := by
  have w := mComp_pure (mu := false) (mi := mi) (vs := [i, j, k]) (g := gT 3 (gCs (gN i) (gCs (gN j) (gCs (gN k) gNl)))) (c := mYes) (e := mCall 3 m_law_right [] (mCons (mV i) (mCons (mV j) (mCons (mV k) mNil)))) (env := env) (S := S) (t := ⟨its, deps⟩) (p := fun _ => true) (F := fun _ => .bl true)
    hi ht (fun v hm => by
      obtain ⟨U, L, D, A, f, rfl, hU, hL⟩ := hv v hm
      have lw : (wipeE env [i, j, k]).length = env.length := by simp [wipeE]
      refine ⟨(((wipeE env [i, j, k]).set i (some (gearM U L D A))).set j (some (dueM U L D A))).set k (some (.int f)), rfl, fun acc => ⟨rfl, fun _ => ?_⟩⟩
      obtain ⟨h1, h2, h3, h4, h5, h6⟩ := hijk
      generalize wipeE env [i, j, k] = e0 at lw ⊢
      have g1 : (((e0.set i (some (gearM U L D A))).set j (some (dueM U L D A))).set k (some (.int f)))[i]? = some (some (gearM U L D A)) := by
        rw [List.getElem?_set_ne (Ne.symm h2), List.getElem?_set_ne (Ne.symm h1), List.getElem?_set_self (by omega)]
      have g2 : (((e0.set i (some (gearM U L D A))).set j (some (dueM U L D A))).set k (some (.int f)))[j]? = some (some (dueM U L D A)) := by
        rw [List.getElem?_set_ne (Ne.symm h3), List.getElem?_set_self (by rw [List.length_set]; omega)]
      have g3 : (((e0.set i (some (gearM U L D A))).set j (some (dueM U L D A))).set k (some (.int f)))[k]? = some (some (.int f)) := by
        rw [List.getElem?_set_self (by rw [List.length_set, List.length_set]; omega)]
      have rk := fun S => @right_ok S U L D A f hU hL
      simp only [mCall, mCons, mV, mNil, g1, g2, g3, bind_ok, List.append_nil, List.length_cons, List.length_nil, rk]
      rfl) (by simp only; unfold sizeLine; omega) (by
      rw [List.filter_eq_self.mpr (by simp), List.map_const']
      exact clL_true _ _)
  rw [w]
  simp only [Bool.false_eq_true, if_false]
  rw [List.filter_eq_self.mpr (by simp), List.map_const']
theorem deqD_kvOf (h : (D.map (·.1)).Nodup) : deqD (kvOf D) (kvOf D) = some true := by
  have e : kvOf D = SM.kvM (D.map fun p => (p.1, MV.int p.2)) := by simp [kvOf, SM.kvM]
  rw [e]
  refine SM.deqD_kvM ⟨?_, ?_⟩
  · rw [List.map_map]; exact h
  · intro p hp
    obtain ⟨q, _, rfl⟩ := List.mem_map.mp hp
    exact .inl ⟨_, rfl⟩
theorem handed_same {a b c d : Nat} (h1 : (D.map (·.1)).Nodup) (h2 : (A.map (·.1)).Nodup) (h : Hd S U L D A a b c d) : fNeP (.tup [.ref a, .ref b, .ref c, .ref d]) (.tup [.lst (U.map MV.str), .lst (L.map MV.str), .dic (kvOf D), .dic (kvOf A)]) S = .ok (.bl false) S := by
  have el : ∀ (p : Nat) (W : List (List Nat)), S[p]? = some (.lst (W.map MV.str)) → pEq S (.ref p) (.lst (W.map MV.str)) = some true := fun p W hp => by
    have a1 : asD S (.ref p) = none := by simp only [asD, hp]
    have v1 : view S (.ref p) = .lst (W.map MV.str) := by simp only [view, hp]
    have v2 : view S (.lst (W.map MV.str)) = .lst (W.map MV.str) := rfl
    simp only [pEq, a1, v1, v2]
    exact SM.deq_self 58 _ (cmp_lstC (by omega) (cmp_strs W))
  have ed : ∀ (p : Nat) (W : List (List Nat × Int)), (W.map (·.1)).Nodup → S[p]? = some (.dic (kvOf W)) → pEq S (.ref p) (.dic (kvOf W)) = some true := fun p W hW hp => by
    have a1 : asD S (.ref p) = some (kvOf W) := by simp only [asD, hp]
    have a2 : asD S (.dic (kvOf W)) = some (kvOf W) := rfl
    simp only [pEq, a1, a2, deqD_kvOf hW]
  simp only [fNeP, tEq, all2, el _ _ h.a, el _ _ h.b, ed _ _ h1 h.c, ed _ _ h2 h.d]
  rfl
theorem okP_draws {l n : Nat} {S' : Sto} (h : S.all okP = true) (d : Draws l n S S') : S'.all okP = true := by
  obtain ⟨a, b, c, a', c', _, rfl, _⟩ := d
  exact List.all_eq_true.mpr fun o ho => (List.mem_or_eq_of_mem_set ho).elim (fun h' => List.all_eq_true.mp h o h') fun e => by subst e; rfl
theorem okP_app {T : Sto} (h : S.all okP = true) (h2 : T.all okP = true) : (S ++ T).all okP = true := by rw [List.all_append, h, h2]; rfl
theorem okP_ch {P : Nat → Prop} {S' : Sto} (h : S.all okP = true) (hl : S'.length = S.length) (hc : Ch S S' P) : S'.all okP = true := List.all_eq_true.mpr fun o ho => by
  obtain ⟨j, hj⟩ := List.getElem?_of_mem ho
  have lt := get_lt hj
  rcases hc.at' j (by omega) with e | ⟨_, o2, e, _, k⟩
  · rw [hj] at e
    exact List.all_eq_true.mp h o (List.mem_of_getElem? e.symm)
  · rw [hj] at e
    cases e
    exact k
end
end K11
end Mi
namespace Mi
namespace K11
open PySem L2 TL
open Sh hiding b_Gear_deeds m_Gear_deeds b_Gear_init m_Gear_init
local macro_rules | `(tactic| walk_at "r62") => `(tactic| first | exact r62 (by omega) (by omega) | exact ⟨r62 (by omega) (by omega), r62 (by omega) (by omega)⟩)
local macro_rules | `(tactic| walk_at "sz") => `(tactic| first | omega | (simp only [List.length_cons, List.length_nil, List.length_append, List.length_map, List.length_replicate, List.length_take, List.length_drop, sizeLine] <;> omega) | (unfold sizeLine; omega) | decide)
local macro_rules | `(tactic| walk_at "dq") => `(tactic| first | with_unfolding_all rfl | walk_at "r62" | walk_at "sz")
local macro_rules | `(tactic| walk_at "zs") => `(tactic| ((try (first | with_reducible refine i_wp ?_ | with_reducible refine i_ws ?_ | with_reducible refine i_get ?_ | with_reducible refine i_an ?_ | with_reducible refine i_if ?_ | with_reducible refine i_wb ?_ | with_reducible refine i_wt ?_ | with_reducible refine i_sub ?_ | with_reducible refine i_put ?_ | with_reducible refine i_fld ?_ | with_reducible refine i_ins ?_)); (try simp (disch := walk_at "dq") only [↓z_seq, ↓z_next, ↓z_break, ↓z_cont, ↓z_retN, ↓z_ret, ↓z_drop, ↓z_set, ↓z_asg, ↓z_if, ↓z_par, ↓z_par3, ↓z_sub, ↓z_dput, ↓z_fld, ↓z_for, ↓z_v, ↓z_vS, ↓z_v0, ↓z_e0, ↓z_e1, ↓z_e2, ↓z_c, ↓z_bin, ↓z_nil, ↓z_cons, ↓z_b, ↓z_bm, ↓z_call, ↓z_calld, ↓z_wb, ↓z_asB, ↓z_asT, ↓z_wtB, ↓z_wtN, ↓z_wtI, ↓z_wtT0, ↓z_wtT1, ↓z_wtL0, ↓z_wtL1, ↓z_notB, ↓z_andB, ↓z_orB, ↓z_notT, ↓z_andT, ↓z_orT, ↓z_ifE, ↓z_isn, ↓z_notn, ↓z_neg, ↓z_chain, ↓z_yes, ↓z_nopart, ↓z_part, ↓z_sl, ↓z_tup, ↓z_lst, ↓z_mkL, ↓z_mkLn, ↓z_dic0, ↓z_mkD, ↓z_mkDn, ↓z_revL, ↓z_fldE, ↓z_insV, ↓z_get2, ↓z_itS, ↓z_itR1, ↓z_itR2, ↓z_itT, ↓z_itE, ↓z_itZ, ↓z_get, ↓z_int, ↓z_int1, ↓z_int2, ↓z_one1, ↓z_two2, ↓z_str, ↓z_asLl, ↓z_asLr, ↓z_itLl, ↓z_itLt, ↓z_gN, ↓z_gNl, ↓z_gCs, ↓z_gTt, ↓z_gTl, ↓z_an, ↓z_ct, ↓z_cf, ↓z_ty1, ↓z_ty2, ↓z_ty3, ↓z_ty4, ↓z_anT, ↓z_addI, ↓z_addS, ↓z_addT, ↓z_addLL, ↓z_subI, ↓z_mod, ↓z_lt, ↓z_le, ↓z_gt, ↓z_ge, ↓z_eqI, ↓z_neI, ↓z_eqS, ↓z_neS, ↓z_eqB, ↓z_neB, ↓z_inL, ↓z_ninL, ↓z_lenL, ↓z_lenT, ↓z_lenD, ↓z_lenS, ↓z_slS, ↓z_slT, ↓z_slL, ↓z_listL, ↓z_listT, ↓z_listD, ↓z_tupL, ↓z_tupT, ↓z_max, ↓z_min, ↓z_dictD, ↓z_int1B, ↓z_int1I, ↓z_meth0, ↓z_methd, List.set_cons_zero, List.set_cons_succ, q_e0, q_e1, q_e2, -eq_self, -iff_self]); (try (first | with_reducible refine o_wp ?_ | with_reducible refine o_ws ?_ | with_reducible refine o_get ?_ | with_reducible refine o_an ?_ | with_reducible refine o_if ?_ | with_reducible refine o_wb ?_ | with_reducible refine o_wt ?_ | with_reducible refine o_v ?_ | with_reducible refine o_sub ?_ | with_reducible refine o_put ?_ | with_reducible refine o_fld ?_ | with_reducible refine o_ins ?_))))
local macro_rules | `(tactic| walk_at "w") => `(tactic| (walk_at "zs"; (repeat ((first | with_reducible refine wp_ixT (by with_unfolding_all rfl) ?_ | with_reducible refine wp_ixL (by with_unfolding_all rfl) ?_ | with_reducible refine wv (by with_unfolding_all rfl) ?_ | with_reducible refine get (by with_unfolding_all rfl) ?_ | with_reducible refine an (by walk_at "dq") ?_ | with_reducible refine wt (by with_unfolding_all rfl) ?_ | with_reducible refine ite_t ?_ | with_reducible refine ite_f ?_ | with_reducible refine ite_rt (by with_unfolding_all rfl) ?_ | with_reducible refine ite_rf (by with_unfolding_all rfl) ?_ | with_reducible refine wp_isiT (by with_unfolding_all rfl) ?_ | with_reducible refine wp_isiF (by with_unfolding_all rfl) ?_); walk_at "zs"))))
local macro_rules | `(tactic| walk_at "dq") => `(tactic| first | with_unfolding_all rfl | walk_at "r62" | walk_at "sz")
local macro_rules | `(tactic| walk_at "zs") => `(tactic| ((try (first | with_reducible refine i_wp ?_ | with_reducible refine i_ws ?_ | with_reducible refine i_get ?_ | with_reducible refine i_an ?_ | with_reducible refine i_if ?_ | with_reducible refine i_wb ?_ | with_reducible refine i_wt ?_ | with_reducible refine i_sub ?_ | with_reducible refine i_put ?_ | with_reducible refine i_fld ?_ | with_reducible refine i_ins ?_)); (try simp (disch := walk_at "dq") only [↓z_seq, ↓z_next, ↓z_break, ↓z_cont, ↓z_retN, ↓z_ret, ↓z_drop, ↓z_set, ↓z_asg, ↓z_if, ↓z_par, ↓z_par3, ↓z_sub, ↓z_dput, ↓z_fld, ↓z_for, ↓z_v, ↓z_vS, ↓z_v0, ↓z_e0, ↓z_e1, ↓z_e2, ↓z_c, ↓z_bin, ↓z_nil, ↓z_cons, ↓z_b, ↓z_bm, ↓z_call, ↓z_calld, ↓z_wb, ↓z_asB, ↓z_asT, ↓z_wtB, ↓z_wtN, ↓z_wtI, ↓z_wtT0, ↓z_wtT1, ↓z_wtL0, ↓z_wtL1, ↓z_notB, ↓z_andB, ↓z_orB, ↓z_notT, ↓z_andT, ↓z_orT, ↓z_ifE, ↓z_isn, ↓z_notn, ↓z_neg, ↓z_chain, ↓z_yes, ↓z_nopart, ↓z_part, ↓z_sl, ↓z_tup, ↓z_lst, ↓z_mkL, ↓z_mkLn, ↓z_dic0, ↓z_mkD, ↓z_mkDn, ↓z_revL, ↓z_fldE, ↓z_insV, ↓z_get2, ↓z_itS, ↓z_itR1, ↓z_itR2, ↓z_itT, ↓z_itE, ↓z_itZ, ↓z_get, ↓z_int, ↓z_int1, ↓z_int2, ↓z_one1, ↓z_two2, ↓z_str, ↓z_asLl, ↓z_asLr, ↓z_itLl, ↓z_itLt, ↓z_gN, ↓z_gNl, ↓z_gCs, ↓z_gTt, ↓z_gTl, ↓z_an, ↓z_ct, ↓z_cf, ↓z_ty1, ↓z_ty2, ↓z_ty3, ↓z_ty4, ↓z_anT, ↓z_addI, ↓z_addS, ↓z_addT, ↓z_addLL, ↓z_subI, ↓z_mod, ↓z_lt, ↓z_le, ↓z_gt, ↓z_ge, ↓z_eqI, ↓z_neI, ↓z_eqS, ↓z_neS, ↓z_eqB, ↓z_neB, ↓z_inL, ↓z_ninL, ↓z_lenL, ↓z_lenT, ↓z_lenD, ↓z_lenS, ↓z_slS, ↓z_slT, ↓z_slL, ↓z_listL, ↓z_listT, ↓z_listD, ↓z_tupL, ↓z_tupT, ↓z_max, ↓z_min, ↓z_dictD, ↓z_int1B, ↓z_int1I, ↓z_meth0, ↓z_methd, List.set_cons_zero, List.set_cons_succ, q_e0, q_e1, q_e2, ↓z_seen, ↓z_hidden, ↓z_deeds, ↓z_asks, -eq_self, -iff_self]); (try (first | with_reducible refine o_wp ?_ | with_reducible refine o_ws ?_ | with_reducible refine o_get ?_ | with_reducible refine o_an ?_ | with_reducible refine o_if ?_ | with_reducible refine o_wb ?_ | with_reducible refine o_wt ?_ | with_reducible refine o_v ?_ | with_reducible refine o_sub ?_ | with_reducible refine o_put ?_ | with_reducible refine o_fld ?_ | with_reducible refine o_ins ?_))))
local macro_rules | `(tactic| walk_at "w") => `(tactic| (walk_at "zs"; (repeat ((first | with_reducible refine wp_inPQ ?_ | with_reducible refine wp_inMD ?_ | with_reducible refine wp_ninMD ?_ | with_reducible refine wp_inGo ?_ | with_reducible refine wp_ninGo ?_ | with_reducible refine wp_inDM ?_ | with_reducible refine wp_ninDM ?_ | with_reducible refine ite_dt (by assumption) ?_ | with_reducible refine ite_df (by assumption) ?_ | with_reducible refine ite_nt (by assumption) ?_ | with_reducible refine ite_nf (by assumption) ?_ | with_reducible refine ite_rt (by assumption) ?_ | with_reducible refine ite_rf (by assumption) ?_ | with_reducible refine wp_eqTn ?_ | with_reducible refine wp_ixT (by with_unfolding_all rfl) ?_ | with_reducible refine wp_ixL (by with_unfolding_all rfl) ?_ | with_reducible refine wv (by with_unfolding_all rfl) ?_ | with_reducible refine get (by with_unfolding_all rfl) ?_ | with_reducible refine an (by walk_at "dq") ?_ | with_reducible refine wt (by with_unfolding_all rfl) ?_ | with_reducible refine ite_t ?_ | with_reducible refine ite_f ?_ | with_reducible refine ite_rt (by with_unfolding_all rfl) ?_ | with_reducible refine ite_rf (by with_unfolding_all rfl) ?_ | with_reducible refine wp_isiT (by with_unfolding_all rfl) ?_ | with_reducible refine wp_isiF (by with_unfolding_all rfl) ?_); walk_at "zs"))))
def Kp (n : Nat) (e : Env) (S : Sto) : Prop := ∃ its, e.length = 13 ∧ e[1]? = some (some (.ref 0)) ∧ S[0]? = some (.lst its) ∧ its.length + n ≤ 12 ∧ (∀ v ∈ its, HeldV v) ∧ S.all okP = true
theorem env13 {e : Env} (h : e.length = 13) : ∃ x0 x1 x2 x3 x4 x5 x6 x7 x8 x9 x10 x11 x12, e = [x0, x1, x2, x3, x4, x5, x6, x7, x8, x9, x10, x11, x12] := by
  match e, h with
  | [x0, x1, x2, x3, x4, x5, x6, x7, x8, x9, x10, x11, x12], _ => exact ⟨x0, x1, x2, x3, x4, x5, x6, x7, x8, x9, x10, x11, x12, rfl⟩
noncomputable abbrev lastM : MSt := (sSeq (sDrop (mCall 2 m_law_changed [] (mCons (mV 6) (mCons (mV 7) mNil))))
    (sSeq (sDrop (mBM "list" fAppend (mV 1) (mCons (mTup (mCons (mV 7) (mCons (mV 5) (mCons (mBin fSub (mC (.int 1)) (mV 9)) mNil)))) mNil)))
    (sIf (mNotB (asT (mB fAll (mCons b_law_c1 mNil)))) (sRet (mC (.bl false))) sNext)))
section
variable {U L : List (List Nat)} {D A : List (List Nat × Int)}
theorem last_ws {S : Sto} {n a b c d : Nat} {its : List MV} {f : Int} {x0 x2 x3 x4 x8 x10 x11 x12 : Option MV} (hU : U.length ≤ 4) (hL : L.length ≤ 4) (h0 : S[0]? = some (.lst its)) (hn : its.length + (n + 1) ≤ 12) (hi : ∀ v ∈ its, HeldV v) (hS : S.all okP = true) (h : Hd S U L D A a b c d) (hp : 0 < a ∧ 0 < b ∧ 0 < c ∧ 0 < d) :
    Ws (lastM [x0, some (.ref 0), x2, x3, x4, some (dueM U L D A), some (.tup [.ref a, .ref b, .ref c, .ref d]), some (gearM U L D A), x8, some (.int f), x10, x11, x12] S) (Kp n) (fun _ _ => False) (fun _ _ => False) (Kp n) (fun _ _ _ => False) := by
  have cw := fun Q E q => @changed_wp S Q E U L D A a b c d hU hL h q
  have hv : HeldV (.tup [gearM U L D A, dueM U L D A, .int (1 - f)]) := ⟨U, L, D, A, _, rfl, hU, hL⟩
  generalize gearM U L D A = gg at *
  generalize dueM U L D A = du at *
  unfold lastM
  obtain ⟨C1, hC1⟩ : ∃ c, c = b_law_c1 := ⟨_, rfl⟩
  rw [← hC1]
  walk_at "w"
  refine cw _ _ fun S2 hl hc => ?_
  have z0 : S2[0]? = some (.lst its) := by
    rcases hc.at' 0 (get_lt h0) with e | ⟨p, _⟩
    · rw [e]; exact h0
    · omega
  have ok2 := okP_ch hS hl hc
  have ty : tyM "list" S2 (.ref 0) = true := by simp only [tyM, asL, z0]; rfl
  walk_at "w"
  refine wp_append z0 ?_ (by unfold sizeLine; omega)
  have lt2 := get_lt z0
  have z3 : (S2.set 0 (.lst (its ++ [.tup [gg, du, .int (1 - f)]])))[0]? = some (.lst (its ++ [.tup [gg, du, .int (1 - f)]])) := List.getElem?_set_self lt2
  have ok3 : (S2.set 0 (.lst (its ++ [.tup [gg, du, .int (1 - f)]]))).all okP = true := List.all_eq_true.mpr fun o ho => (List.mem_or_eq_of_mem_set ho).elim (fun h' => List.all_eq_true.mp ok2 o h') fun e => by subst e; rfl
  generalize S2.set 0 (.lst (its ++ [.tup [gg, du, .int (1 - f)]])) = S3 at *
  have hv3 : ∀ v ∈ its ++ [.tup [gg, du, .int (1 - f)]], HeldV v := fun v hm => (List.mem_append.mp hm).elim (hi v) fun h => by rw [List.mem_singleton.mp h]; exact hv
  have l3 : (its ++ [MV.tup [gg, du, .int (1 - f)]]).length = its.length + 1 := by simp
  have cc : ∃ m, b_law_c1 [x0, some (.ref 0), x2, x3, x4, some du, some (.tup [.ref a, .ref b, .ref c, .ref d]), some gg, x8, some (.int f), x10, x11, x12] S3 = .ok (.lst (List.replicate m (.bl true))) S3 := by
    refine ⟨(cutL (its ++ [.tup [gg, du, .int (1 - f)]]) (some (-3)) none).length, ?_⟩
    unfold b_law_c1
    have a0 : asL S3 (.ref 0) = some (its ++ [.tup [gg, du, .int (1 - f)]]) := by simp only [asL, z3]
    refine comp_rights (deps := []) ⟨by decide, by decide, by decide, by simp, by simp, by simp⟩ ?_ (fun acc => chk_nil rfl _) ?_ ?_
    · simp only [mItS, mSl, mV, mPart, mNeg, mC, mNoPart, List.getElem?_cons_zero, List.getElem?_cons_succ, bind_ok, fSl, a0, mkL, Bool.false_eq_true, if_false]
      rfl
    · have := cutL_le (its ++ [.tup [gg, du, .int (1 - f)]]) (some (-3)) none
      omega
    · intro v hm
      exact hv3 v (List.mem_of_mem_drop (List.mem_of_mem_take hm))
  obtain ⟨m, cc⟩ := cc
  rw [← hC1] at cc
  have al := all_true m S3
  generalize List.replicate m (MV.bl true) = TT at *
  walk_at "w"
  refine wp_eq cc ?_
  walk_at "w"
  refine wp_eq al ?_
  walk_at "w"
  exact ⟨_, rfl, rfl, z3, by omega, hv3, ok3⟩
theorem dict_new (h : (D.map (·.1)).Nodup) (S : Sto) : fDict true [.lst (prM D)] S = .ok (.ref S.length) (S ++ [.dic (kvOf D)]) := by
  have e := dict_prM h S
  simp only [fDict, asD, asL, Option.bind_some] at e ⊢
  cases hp : pairsOf (prM D) with
  | none => rw [hp] at e; cases e
  | some kvs =>
    rw [hp] at e
    simp only [mkD, Bool.false_eq_true, if_false, Res.ok.injEq, MV.dic.injEq, and_true] at e
    simp only [mkD, if_true, e]
theorem turn_wp {n : Nat} {i c : Int} {its : List MV} (hi : 0 ≤ i ∧ i < 12) (S : Sto) {x0 x4 x5 x6 x7 x8 x9 x10 x11 x12 : Option MV} (h0 : S[0]? = some (.lst its)) (hn : its.length + (n + 1) ≤ 12) (hv : ∀ v ∈ its, HeldV v) (hS : S.all okP = true) :
    Ws (b_law_l1 [x0, some (.ref 0), some (.int i), some (.int c), x4, x5, x6, x7, x8, x9, x10, x11, x12] S) (Kp n) (fun _ _ => False) (fun _ _ => False) (Kp n) (fun _ _ _ => False) := by
  unfold b_law_l1
  show Ws (sSeq _ (sSeq _ (sSeq _ (sSeq _ (sSeq _ (sSeq _ lastM))))) _ _) _ _ _ _ _
  have lw := @last_ws
  obtain ⟨K5, hK5⟩ : ∃ K5, K5 = lastM := ⟨_, rfl⟩
  rw [← hK5] at lw ⊢
  walk_at "w"
  refine begun_wp (by unfold Bd; omega) fun o hd => ?_
  have ok0 : (S ++ [o]).all okP = true := by
    obtain ⟨a, b, c, h, _⟩ := hd
    have : o = dr a b c := by simpa using h
    rw [this]
    exact okP_app hS rfl
  have z0 : (S ++ [o])[0]? = some (.lst its) := get_app h0
  have lp : 0 < S.length := get_lt h0
  generalize S ++ [o] = S0 at hd ok0 z0 ⊢
  generalize S.length = l at hd lp ⊢
  have dz : ∀ {S S' : Sto} {m : Nat}, S[0]? = some (.lst its) → Draws l m S S' → S'[0]? = some (.lst its) := fun h d => by
    obtain ⟨a, b, c, a', c', _, rfl, _⟩ := d
    rw [List.getElem?_set_ne (by omega)]
    exact h
  walk_at "w"
  refine next_wp hd (by omega) (by decide) (by unfold Bd; decide) fun w S1 d1 a1 b1 => ?_
  have hd1 := hd.draws d1
  have ok1 := okP_draws ok0 d1
  have z1 := dz z0 d1
  walk_at "w"
  refine next_wp hd1 (by omega) (by decide) (by unfold Bd; decide) fun f S2 d2 a2 b2 => ?_
  have hd2 := hd1.draws d2
  have ok2 := okP_draws ok1 d2
  have z2 := dz z1 d2
  walk_at "w"
  refine drawn_wp hd2 (by omega) fun U L D A S3 m hm d3 hG => ?_
  have ok3 := okP_draws ok2 d3
  have z3 := dz z2 d3
  have lt3 := get_lt z3
  have ndD : (D.map (·.1)).Nodup := (List.nodup_append.mp (List.nodup_append.mp hG.nd).1).2.1
  have ndT : (A.map (·.1)).Nodup := (List.nodup_append.mp hG.nd).2.1
  have e1 := dict_new ndD
  have e2 := dict_new ndT
  have e3 := dict_prM ndD
  have e4 := dict_prM ndT
  have hU := hG.u4
  have hL := hG.l4
  clear d1 d2 d3 hd hd1 hd2 ok0 ok1 ok2 z0 z1 z2
  have rw' := fun S Q E q => @right_wp S Q E U L D A f hU hL q
  have mw := fun S Q E w a b c d du => @made_wp S Q E U L D A w a b c d du hG
  have hs := fun S a b c d => @handed_same S U L D A a b c d ndD ndT
  have lw' := fun S n a b c d f x0 x2 x3 x4 x8 x10 x11 x12 => @lw U L D A S n a b c d its f x0 x2 x3 x4 x8 x10 x11 x12 hU hL
  have f0 : ∀ S, fIx (dueM U L D A) (.int 0) S = .ok (.lst (U.map MV.str)) S := fun S => rfl
  have f1 : ∀ S, fIx (dueM U L D A) (.int 1) S = .ok (.lst (L.map MV.str)) S := fun S => rfl
  have f2 : ∀ S, fIx (dueM U L D A) (.int 2) S = .ok (.lst (prM D)) S := fun S => rfl
  have f3 : ∀ S, fIx (dueM U L D A) (.int 3) S = .ok (.lst (prM A)) S := fun S => rfl
  have hh : ∀ S : Sto, Hd (S ++ [MO.lst (U.map MV.str)] ++ [MO.lst (L.map MV.str)] ++ [MO.dic (kvOf D)] ++ [MO.dic (kvOf A)]) U L D A S.length (S ++ [MO.lst (U.map MV.str)]).length (S ++ [MO.lst (U.map MV.str)] ++ [MO.lst (L.map MV.str)]).length (S ++ [MO.lst (U.map MV.str)] ++ [MO.lst (L.map MV.str)] ++ [MO.dic (kvOf D)]).length := fun S => ⟨get_app (get_app (get_app (List.getElem?_concat_length ..))), get_app (get_app (List.getElem?_concat_length ..)), get_app (List.getElem?_concat_length ..), List.getElem?_concat_length ..⟩
  have h4 := hh S3
  clear hh
  have ok4 : (S3 ++ [MO.lst (U.map MV.str)] ++ [MO.lst (L.map MV.str)] ++ [MO.dic (kvOf D)] ++ [MO.dic (kvOf A)]).all okP = true := okP_app (okP_app (okP_app (okP_app ok3 rfl) rfl) rfl) rfl
  have z4 : (S3 ++ [MO.lst (U.map MV.str)] ++ [MO.lst (L.map MV.str)] ++ [MO.dic (kvOf D)] ++ [MO.dic (kvOf A)])[0]? = some (.lst its) := get_app (get_app (get_app (get_app z3)))
  have p4 : 0 < S3.length ∧ 0 < (S3 ++ [MO.lst (U.map MV.str)]).length ∧ 0 < (S3 ++ [MO.lst (U.map MV.str)] ++ [MO.lst (L.map MV.str)]).length ∧ 0 < (S3 ++ [MO.lst (U.map MV.str)] ++ [MO.lst (L.map MV.str)] ++ [MO.dic (kvOf D)]).length := ⟨lt3, by simp, by simp, by simp⟩
  generalize gearM U L D A = gg at *
  generalize dueM U L D A = du at *
  walk_at "w"
  refine wp_eq (f0 _) ?_
  walk_at "w"
  refine wp_eq (f1 _) ?_
  walk_at "w"
  refine wp_eq (f2 _) ?_
  walk_at "w"
  refine wp_eq (e1 _) ?_
  walk_at "w"
  refine wp_eq (f3 _) ?_
  walk_at "w"
  refine wp_eq (e2 _) ?_
  generalize (S3 ++ [MO.lst (U.map MV.str)] ++ [MO.lst (L.map MV.str)] ++ [MO.dic (kvOf D)]).length = d at *
  generalize (S3 ++ [MO.lst (U.map MV.str)] ++ [MO.lst (L.map MV.str)]).length = c at *
  generalize (S3 ++ [MO.lst (U.map MV.str)]).length = b at *
  generalize S3.length = a at *
  generalize (S3 ++ [MO.lst (U.map MV.str)] ++ [MO.lst (L.map MV.str)] ++ [MO.dic (kvOf D)] ++ [MO.dic (kvOf A)]) = S4 at *
  have hs4 := hs _ _ _ _ _ h4
  walk_at "w"
  refine mw _ _ _ _ _ _ _ _ _ ok4 h4 ?_
  have e3 := e3 S4
  have e4 := e4 S4
  generalize hUS : U.map MV.str = US at *
  generalize hLS : L.map MV.str = LS at *
  generalize prM D = PD at *
  generalize prM A = PA at *
  walk_at "w"
  refine wp_eq (f0 _) ?_
  walk_at "w"
  refine wp_eq (f1 _) ?_
  walk_at "w"
  refine wp_eq (f2 _) ?_
  walk_at "w"
  refine wp_eq e3 ?_
  walk_at "w"
  refine wp_eq (f3 _) ?_
  walk_at "w"
  refine wp_eq e4 ?_
  walk_at "w"
  refine wp_eq hs4 ?_
  walk_at "w"
  refine rw' _ _ _ ?_
  walk_at "w"
  exact lw' _ _ _ _ _ _ _ _ _ _ _ _ _ _ _ z4 hn hv ok4 h4 p4
end
theorem law_true (ns : List Int) (hn : ns.length ≤ 63) : ∃ S, m_law [.rol (ns.map MV.int)] [] = .ok (.bl true) S := by
  refine law_top ?_
  unfold m_law
  refine wp_def ?_
  unfold b_law
  refine ws_seq ?_
  refine ws_set ?_
  refine wp_lst (wp_nil (an (by simp [sizeLine]) (wp_mkLn ?_)))
  refine ws_seq ?_
  refine for_cellsN (d := [5]) (k := 12) rfl rfl (by decide) Kp ⟨[], rfl, rfl, rfl, by simp, by simp, rfl⟩ (fun n i c e S he i0 i1 => ?_) (fun n e S he => ?_)
  · obtain ⟨its, h1, h2, h3, h4, h5, h6⟩ := he
    obtain ⟨x0, x1, x2, x3, x4, x5, x6, x7, x8, x9, x10, x11, x12, rfl⟩ := env13 h1
    simp only [List.getElem?_cons_zero, List.getElem?_cons_succ, Option.some.injEq] at h2
    subst h2
    exact ⟨_, rfl, turn_wp ⟨i0, i1⟩ S h3 h4 h5 h6⟩
  · obtain ⟨its, h1, h2, h3, h4, h5, h6⟩ := he
    have cc : b_law_c2 e S = .ok (.lst (List.replicate its.length (.bl true))) S := by
      unfold b_law_c2
      refine comp_rights (deps := depsOf (.ref 0) its) ⟨by decide, by decide, by decide, by omega, by omega, by omega⟩ ?_ (fun acc => chk_at h3) (by omega) h5
      have a0 : asL S (.ref 0) = some its := by simp only [asL, h3]
      simp only [mItS, mV, h2, bind_ok, itL, asU, a0, Option.map_some]
    have al := all_true its.length S
    refine ws_ret (wp_b (wp_cons (wp_eq cc (wp_nil (wp_eq al ?_)))))
    exact wp_leaveTop rfl
end K11
end Mi
open PySem PySem.W PyProof.Rows in
set_option maxRecDepth 100000 in
set_option maxHeartbeats 0 in
theorem PySem.Challenge.cw_underrows_k11_gears_told_holds : PySem.Challenge.rw_underrows_k11_gears_told.Holds := by
  refine head_of_row ?_
  k_fill
  refine Mi.law_walk (l := PySem.Challenge.rw_underrows_k11_gears_told) (k := 6) (x := "_law_script") rfl rfl ⟨rfl, by decide, by decide⟩ (fun w h Y => PySem.W.kIn_of Y) Mi.K11.law_true ?F
  case F =>
    intro w mg fa h KX G hmg
    refine' Mi.K11.all_mk KX G hmg ?ac0 ?a0 ?l0 ?c0 ?k0 ?a1 ?l1 ?c1 ?k1 ?a2 ?l2 ?c2 ?k2 ?a3 ?l3 ?c3 ?k3 ?a4 ?l4 ?c4 ?k4 ?a5 ?l5 ?c5 ?k5 ?a6 ?l6 ?c6 ?k6 ?a7 ?l7 ?c7 ?k7 ?a8 ?l8 ?c8 ?k8 ?a9 ?l9 ?c9 ?k9 ?a10 ?i10 ?l10 ?c10 ?k10 ?t10 ?a11 ?l11 ?c11 ?k11 ?a12 ?l12 ?c12 ?k12 ?a13 ?l13 ?c13 ?k13 ?a14 ?i14 ?l14 ?c14 ?k14 ?a15 ?i15 ?l15 ?c15 ?k15 ?a16 ?i16 ?l16 ?c16 ?k16 ?a17 ?i17 ?l17 ?c17 ?k17 ?a18 ?i18 ?l18 ?c18 ?k18 ?a19 ?i19 ?l19 ?c19 ?k19 ?a20 ?l20 ?c20 ?k20 ?a21 ?l21 ?c21 ?k21 ?a22 ?l22 ?c22 ?k22 ?pg0 ?hd0 ?po0 ?sa0 ?mk0 ?kc0 ?fl_upper ?fl_lower ?fl_makers ?fl_tellers ?zmax ?zlen ?zrange ?zstr ?zisinstance ?zall ?zlist ?zint ?zbool ?zdict ?zset ?zzip ?ztuple ?zenumerate
    (case ac0 => k_is)
    (case a0 => k_is)
    (case l0 => k_is)
    (case c0 => k_is)
    (case k0 => k_is)
    (case a1 => k_is)
    (case l1 => k_is)
    (case c1 => k_is)
    (case k1 => k_is)
    (case a2 => k_is)
    (case l2 => k_is)
    (case c2 => k_is)
    (case k2 => k_is)
    (case a3 => k_is)
    (case l3 => k_is)
    (case c3 => k_is)
    (case k3 => k_is)
    (case a4 => k_is)
    (case l4 => k_is)
    (case c4 => k_is)
    (case k4 => k_is)
    (case a5 => k_is)
    (case l5 => k_is)
    (case c5 => k_is)
    (case k5 => k_is)
    (case a6 => k_is)
    (case l6 => k_is)
    (case c6 => k_is)
    (case k6 => k_is)
    (case a7 => k_is)
    (case l7 => k_is)
    (case c7 => k_is)
    (case k7 => k_is)
    (case a8 => k_is)
    (case l8 => k_is)
    (case c8 => k_is)
    (case k8 => k_is)
    (case a9 => k_is)
    (case l9 => k_is)
    (case c9 => k_is)
    (case k9 => k_is)
    (case a10 => k_is)
    (case i10 => k_is)
    (case l10 => k_is)
    (case c10 => k_is)
    (case k10 => k_is)
    (case t10 => k_is)
    (case a11 => k_is)
    (case l11 => k_is)
    (case c11 => k_is)
    (case k11 => k_is)
    (case a12 => k_is)
    (case l12 => k_is)
    (case c12 => k_is)
    (case k12 => k_is)
    (case a13 => k_is)
    (case l13 => k_is)
    (case c13 => k_is)
    (case k13 => k_is)
    (case a14 => k_is)
    (case i14 => k_is)
    (case l14 => k_is)
    (case c14 => k_is)
    (case k14 => k_is)
    (case a15 => k_is)
    (case i15 => k_is)
    (case l15 => k_is)
    (case c15 => k_is)
    (case k15 => k_is)
    (case a16 => k_is)
    (case i16 => k_is)
    (case l16 => k_is)
    (case c16 => k_is)
    (case k16 => k_is)
    (case a17 => k_is)
    (case i17 => k_is)
    (case l17 => k_is)
    (case c17 => k_is)
    (case k17 => k_is)
    (case a18 => k_is)
    (case i18 => k_is)
    (case l18 => k_is)
    (case c18 => k_is)
    (case k18 => k_is)
    (case a19 => k_is)
    (case i19 => k_is)
    (case l19 => k_is)
    (case c19 => k_is)
    (case k19 => k_is)
    (case a20 => k_is)
    (case l20 => k_is)
    (case c20 => k_is)
    (case k20 => k_is)
    (case a21 => k_is)
    (case l21 => k_is)
    (case c21 => k_is)
    (case k21 => k_is)
    (case a22 => k_is)
    (case l22 => k_is)
    (case c22 => k_is)
    (case k22 => k_is)
    (case pg0 => k_is)
    (case hd0 => k_is)
    (case po0 => k_is)
    (case sa0 => k_is)
    (case mk0 => k_is)
    (case kc0 => k_is)
    (case fl_upper => k_is)
    (case fl_lower => k_is)
    (case fl_makers => k_is)
    (case fl_tellers => k_is)
    (case zmax => k_is)
    (case zlen => k_is)
    (case zrange => k_is)
    (case zstr => k_is)
    (case zisinstance => k_is)
    (case zall => k_is)
    (case zlist => k_is)
    (case zint => k_is)
    (case zbool => k_is)
    (case zdict => k_is)
    (case zset => k_is)
    (case zzip => k_is)
    (case ztuple => k_is)
    (case zenumerate => k_is)
