import PyProof.Rows.All
import Wide.All
import OpenK.AllK
import Wide.FinOn
import HandS.ForMost
import HandS.Exc
import HandS.IsInst
import HandS.TupAny
import HandS.EndBits
import PyProof.SumAnyB
import PyProof.ReprRoads
import PyProof.WalksMore
import HandS.Wide
import HandS.Lambda
import HandS.WideBits
import PyProof.NoPylong
import PyProof.ReprBulk
import HandS.Conv
import HandS.Zip
import KE.GoesMore
import KE.GoesEnum
import HandS.SetFor
import HandS.Strs
import HandS.SortInts
import HandS.HeadHook4
import HandS.TupMul
import PyProof.ListMulRoad
import KE.SortData
import KE.DataMinMax
import KE.KRevSl
import HandS.Style
import PyProof.EnumIter
import HandS.Dict
import HandS.Small
import HandS.More
import HandS.Star
import KE.KExcSuper
import HandS.ExcIs
import HandS.ExcField
import HandS.TryMany
import HandS.TryOnly
import KE.KExcIs
import KE.KUnpackStar
import KE.KUnpack
import PyProof.Rows.ReprOcc
import HandS.Nested
import KE.KNest
import KE.DataCmp
import HandS.MakeKw
import HandS.Property
import PyProof.InstNe
import HandS.OwnEq
import PyProof.NeKinds
import PyProof.EqKinds
import HandS.DictEq
import PyProof.StrOps2
import PySem.Challenge.RW_claimback_k71_maps_made_and_refused
set_option Elab.async false
set_option linter.all false
set_option maxRecDepth 100000
set_option maxHeartbeats 4000000
namespace GX
open PySem PySem.Spec PyProof.Rows L2

/-! ## data -/
/-- a lambda without captured names -/
structure LamD where
  q : Str
  params : Arguments
  body : Expr
  scope : Scope
/-- what is known of a lambda's object -/
def LamO (f : Addr) (L : LamD) (c' : Addr) : HO := .ext fun h => ∃ pm ctv : Value, h.get? f = some (PySem.W.kla_obj "<lambda>" L.q L.params L.body L.scope [] pm c' ctv)
/-- a function made in a def: its words, its cells, what they hold -/
structure Clo where
  name : Str
  qual : Str
  params : Arguments
  body : FuncBody
  scope : Scope
  cl : List (Str × Addr)
  c : Addr
  fr : List Str
  ws : List V
abbrev Clo.fd (F : Clo) (doc pm ctv : Value) : FuncData :=
  { name := F.name, qualname := F.qual, params := F.params, body := F.body, scope := F.scope, globals := mainGlobals, closure := F.cl, defaults := .none, kwdefaults := .none, doc, pyModule := pm, annotations := none, code := .ref F.c, closureTuple := ctv, builtins := builtinsNs }
/-- the object at f is the function F -/
def FnC (f : Addr) (F : Clo) : HO := .ext fun h => ∃ (od : Option Addr) (sl : Array (Option Value)) (doc pm ctv : Value), h.get? f = some (⟨.type "function", od, .func (F.fd doc pm ctv), sl⟩ : Obj)
/-- .. one of the module -/
def FnK (K : PySem.W.Frag) (f : Addr) (F : Clo) : Prop := F.cl = [] ∧ (∃ (oc : Value) (od : Option Addr) (sl : Array (Option Value)) (doc pm ctv : Value), K.lookup f = some ⟨oc, od, .func (F.fd doc pm ctv), sl⟩) ∧ PySem.W.codeIn K (.ref F.c) F.qual = true ∧ PySem.W.keepIn K (.ref f) = true
structure CloWf (F : Clo) : Prop where
  sub : ∀ y c, F.cl.lookup y = some c → y ∈ F.fr
  has : ∀ y ∈ F.fr, ∃ c, F.cl.lookup y = some c
  inj : ∀ x y c, F.cl.lookup x = some c → F.cl.lookup y = some c → x = y
  len : F.ws.length = F.fr.length
def FnHas (K : PySem.W.Frag) (H : Hp) (f : Addr) (F : Clo) : Prop := (H f = some (FnC f F) ∧ H F.c = some (LamX.CodeO F.c F.qual)) ∨ FnK K f F
inductive Da where
  | non | bl (b : Bool) | int (i : Int) | str (x : Str)
  | lst (xs : List Da) | tup (xs : List Da) | dct (ks : List (Key × Da))
  | ins (C : Addr) (fs : List (Str × Da)) | lm (L : LamD) | ty (n : String) | clo (F : Clo) (caps : List Da)

abbrev Sub (H H' : Hp) : Prop := ∀ a o, H a = some o → H' a = some o
theorem Sub.refl (H : Hp) : Sub H H := fun _ _ h => h
theorem Sub.trans {H H1 H2 : Hp} (a : Sub H H1) (b : Sub H1 H2) : Sub H H2 := fun x o h => b x o (a x o h)
theorem Sub.free {H H' : Hp} {p : Addr} (e : Sub H H') (h : H' p = none) : H p = none := by
  cases q : H p with
  | none => rfl
  | some o => rw [e p o q] at h; cases h
theorem Sub.upd0 {H H' : Hp} {p : Addr} {o : HO} (e : Sub H H') (h : H p = none) : Sub H (L2.upd H' p o) := fun a u ha => by
  rw [upd_ne (ne_of_none ha h)]; exact e a u ha
theorem Sub.upd {H H' : Hp} {p : Addr} {o : HO} (e : Sub H H') (h : H' p = none) : Sub H (L2.upd H' p o) := e.upd0 (e.free h)
theorem Sub.updB {H H' : Hp} {p : Addr} {o : HO} (e : Sub H H') : Sub (L2.upd H p o) (L2.upd H' p o) := fun a u ha => by
  by_cases c : a = p
  · subst c; rw [upd_same] at ha ⊢; exact ha
  · rw [upd_ne c] at ha ⊢; exact e a u ha
theorem Sub.rd {H H' : Hp} {a : Addr} {u : HO} (e : Sub H H') (h : Rd H a u) : Rd H' a u := by
  rcases h with h | ⟨o, h⟩
  · exact .inl (e a _ h)
  · exact .inr ⟨o, e a _ h⟩
theorem Sub.sl {K : PySem.W.Frag} {H H' : Hp} {a : Addr} {xs : List V} (e : Sub H H') (h : SqL K H a xs) : SqL K H' a xs := h.imp (e.rd ·) id
theorem Sub.st {K : PySem.W.Frag} {H H' : Hp} {a : Addr} {xs : List V} (e : Sub H H') (h : SqT K H a xs) : SqT K H' a xs := h.imp (e.rd ·) id

mutual
def Rep (K : PySem.W.Frag) (H : Hp) : Da → V → Prop
  | .non, v => v = .non
  | .bl b, v => v = .bl b
  | .int i, v => v = .int i
  | .str x, v => v = .str x
  | .ty n, v => v = .ty n
  | .lm L, v => ∃ f c', v = .ref f ∧ H f = some (LamO f L c') ∧ H c' = some (LamX.CodeO c' L.q)
  | .clo F caps, v => ∃ f, v = .ref f ∧ FnHas K H f F ∧ CloWf F ∧ Reps K H caps F.ws
  | .lst ds, v => ∃ a xs, v = .ref a ∧ SqL K H a xs ∧ Reps K H ds xs
  | .tup ds, v => ∃ a xs, v = .ref a ∧ SqT K H a xs ∧ Reps K H ds xs
  | .dct ks, v => ∃ a kvs, v = .ref a ∧ Rd H a (.dK kvs) ∧ RepK K H ks kvs
  | .ins C fs, v => ∃ a dx gs, v = .ref a ∧ H a = some (.ins C dx gs) ∧ RepF K H fs gs
def Reps (K : PySem.W.Frag) (H : Hp) : List Da → List V → Prop
  | [], xs => xs = []
  | d :: ds, xs => ∃ x r, xs = x :: r ∧ Rep K H d x ∧ Reps K H ds r
def RepK (K : PySem.W.Frag) (H : Hp) : List (Key × Da) → List (Key × V) → Prop
  | [], xs => xs = []
  | (k, d) :: ds, xs => ∃ x r, xs = (k, x) :: r ∧ Rep K H d x ∧ RepK K H ds r
def RepF (K : PySem.W.Frag) (H : Hp) : List (Str × Da) → List (Str × V) → Prop
  | [], xs => xs = []
  | (k, d) :: ds, xs => ∃ x r, xs = (k, x) :: r ∧ Rep K H d x ∧ RepF K H ds r
end
section
variable {K : PySem.W.Frag} {H H' : Hp}
mutual
theorem Rep.mono (e : Sub H H') : ∀ (d : Da) (v : V), Rep K H d v → Rep K H' d v
  | .non, _, h => h
  | .bl _, _, h => h
  | .int _, _, h => h
  | .str _, _, h => h
  | .ty _, _, h => h
  | .lm L, _, h => by
    unfold Rep at h ⊢
    obtain ⟨f, c', h1, h2, h3⟩ := h
    exact ⟨f, c', h1, e _ _ h2, e _ _ h3⟩
  | .clo F caps, _, h => by
    unfold Rep at h ⊢
    obtain ⟨f, h1, h2, hw, h3⟩ := h
    exact ⟨f, h1, h2.imp (fun z => ⟨e _ _ z.1, e _ _ z.2⟩) id, hw, Reps.mono e caps F.ws h3⟩
  | .lst ds, _, h => by
    unfold Rep at h ⊢
    obtain ⟨a, xs, h1, h2, h3⟩ := h
    exact ⟨a, xs, h1, e.sl h2, Reps.mono e ds xs h3⟩
  | .tup ds, _, h => by
    unfold Rep at h ⊢
    obtain ⟨a, xs, h1, h2, h3⟩ := h
    exact ⟨a, xs, h1, e.st h2, Reps.mono e ds xs h3⟩
  | .dct ks, _, h => by
    unfold Rep at h ⊢
    obtain ⟨a, xs, h1, h2, h3⟩ := h
    exact ⟨a, xs, h1, e.rd h2, RepK.mono e ks xs h3⟩
  | .ins C fs, _, h => by
    unfold Rep at h ⊢
    obtain ⟨a, dx, xs, h1, h2, h3⟩ := h
    exact ⟨a, dx, xs, h1, e _ _ h2, RepF.mono e fs xs h3⟩
theorem Reps.mono (e : Sub H H') : ∀ (ds : List Da) (vs : List V), Reps K H ds vs → Reps K H' ds vs
  | [], _, h => h
  | d :: ds, _, h => by
    unfold Reps at h ⊢
    obtain ⟨x, r, h1, h2, h3⟩ := h
    exact ⟨x, r, h1, Rep.mono e d x h2, Reps.mono e ds r h3⟩
theorem RepK.mono (e : Sub H H') : ∀ (ds : List (Key × Da)) (vs : List (Key × V)), RepK K H ds vs → RepK K H' ds vs
  | [], _, h => h
  | (k, d) :: ds, _, h => by
    unfold RepK at h ⊢
    obtain ⟨x, r, h1, h2, h3⟩ := h
    exact ⟨x, r, h1, Rep.mono e d x h2, RepK.mono e ds r h3⟩
theorem RepF.mono (e : Sub H H') : ∀ (ds : List (Str × Da)) (vs : List (Str × V)), RepF K H ds vs → RepF K H' ds vs
  | [], _, h => h
  | (k, d) :: ds, _, h => by
    unfold RepF at h ⊢
    obtain ⟨x, r, h1, h2, h3⟩ := h
    exact ⟨x, r, h1, Rep.mono e d x h2, RepF.mono e ds r h3⟩
end
end

/-! ## slots, states -/
/-- what a def owns: a list, a dict, an instance -/
inductive Kd where | l | d | o
inductive Slot where
  | no | dat (d : Da) | ow (p : Addr) (k : Kd) (I : List Da → Prop) | rf (a : Addr) | vd (d : Da) (v : V)
/-- a list of the def's own -/
abbrev Slot.inv (p : Addr) (I : List Da → Prop) : Slot := .ow p .l I
def Own (K : PySem.W.Frag) (Hf H : Hp) (p : Addr) (I : List Da → Prop) : Prop := Hf p = none ∧ ∃ vs xs, H p = some (.lst vs) ∧ Reps K Hf xs vs ∧ I xs
def OwnD (K : PySem.W.Frag) (Hf H : Hp) (p : Addr) (I : List Da → Prop) : Prop := Hf p = none ∧ ∃ kvs ks, H p = some (.dK kvs) ∧ RepK K Hf ks kvs ∧ I [.dct ks]
def OwnI (K : PySem.W.Frag) (Hf H : Hp) (p : Addr) (I : List Da → Prop) : Prop := Hf p = none ∧ ∃ C dx gs fs, H p = some (.ins C dx gs) ∧ RepF K Hf fs gs ∧ I [.ins C fs]
@[reducible] def OwnK (K : PySem.W.Frag) (Hf H : Hp) (p : Addr) : Kd → (List Da → Prop) → Prop
  | .l, I => Own K Hf H p I
  | .d, I => OwnD K Hf H p I
  | .o, I => OwnI K Hf H p I
def SlotOk (K : PySem.W.Frag) (Hf H : Hp) (x : Option V) : Slot → Prop
  | .no => True
  | .dat d => ∃ v, x = some v ∧ Rep K Hf d v
  | .ow p k I => x = some (.ref p) ∧ OwnK K Hf H p k I
  | .rf a => x = some (.ref a)
  | .vd d v => x = some v ∧ Rep K Hf d v
/-- what is wanted of an exception: its class, the fields of its own dict -/
abbrev Er := Value → Option (List (Str × Da)) → Prop
structure Sx where
  P : Program
  w : World
  K : PySem.W.Frag
  mg : Str → Option Value
  base : Heap
  N : List Str
  sc : Scope
  k : Nat
  F0 : Hp
  H0 : Hp
  op : List (Addr × Kd × (List Da → Prop))
  E : Er
  stor : Str → Bool := fun _ => true
  T : List (Addr × Str) := []
  cd : Value := .none
  ql : Str := ""
  calm : Bool := true
  xc : Option (Addr × Value × Option Addr × Option (List (Str × Da))) := none
  cel : List (Addr × V) := []
  ce : Option (List (Str × Addr)) := none
  top : Bool := false
/-! the tables of code objects: they grow, all else of the heap is seen without them -/
def strip (T : List (Addr × Str)) (H : Hp) : Hp := fun a => if a ∈ T.map (·.1) then none else H a
def TabF (T : List (Addr × Str)) (Hf H : Hp) : Prop := ∀ p ∈ T, ∃ ps, H p.1 = some (.tbl ps) ∧ TriplesOk ps.toList ∧ ∀ (pos : Pos) (cv : Value), codeAmong pos ps.toList = some cv → ∃ c, cv = .ref c ∧ Hf c = some (LamX.CodeO c p.2)
section
variable {T : List (Addr × Str)} {H H' Hf Hf' : Hp} {p : Addr} {o : HO}
theorem strip_sub : Sub (strip T H) H := fun a u h => by
  unfold strip at h
  split at h
  · cases h
  · exact h
theorem strip_nil : strip [] H = H := by
  funext q
  unfold strip
  exact if_neg List.not_mem_nil
theorem strip_none (h : H p = none) : strip T H p = none := by
  unfold strip
  split
  · rfl
  · exact h
theorem strip_in (h : strip T H p = some o) : p ∉ T.map (·.1) := fun m => by
  unfold strip at h
  rw [if_pos m] at h; cases h
theorem strip_at (n : p ∉ T.map (·.1)) : strip T H p = H p := by unfold strip; rw [if_neg n]
theorem strip_upd (n : p ∉ T.map (·.1)) : strip T (upd H p o) = upd (strip T H) p o := by
  funext q
  by_cases c : q = p
  · subst c; rw [strip_at n, upd_same, upd_same]
  · rw [upd_ne c]
    unfold strip
    split
    · rfl
    · rw [upd_ne c]
theorem TabF.out (t : TabF T Hf H) (h : H p = none) : p ∉ T.map (·.1) := fun m => by
  obtain ⟨q, h1, h2⟩ := List.mem_map.mp m
  obtain ⟨ps, e, _⟩ := t q h1
  rw [h2, h] at e; cases e
theorem TabF.mono (t : TabF T Hf H) (e : Sub Hf Hf') (h : ∀ p ∈ T, H' p.1 = H p.1) : TabF T Hf' H' := fun p hp => by
  obtain ⟨ps, h1, h2, h3⟩ := t p hp
  exact ⟨ps, by rw [h p hp]; exact h1, h2, fun pos cv hc => by
    obtain ⟨c, e1, e2⟩ := h3 pos cv hc
    exact ⟨c, e1, e _ _ e2⟩⟩
theorem TabF.upd (t : TabF T Hf H) (e : Sub Hf Hf') (n : p ∉ T.map (·.1)) : TabF T Hf' (upd H p o) := t.mono e fun q hq => upd_ne fun z => n (List.mem_map.mpr ⟨q, hq, z⟩)
theorem TabF.tabs (t : TabF T Hf H) (e : Sub Hf H) : LamX.Tabs T H := fun p hp => by
  obtain ⟨ps, h1, h2, h3⟩ := t p hp
  exact ⟨ps, h1, h2, fun pos cv hc => by
    obtain ⟨c, e1, e2⟩ := h3 pos cv hc
    exact ⟨c, e1, e _ _ e2⟩⟩
end
def Keep (H0 : Hp) (op : List (Addr × Kd × (List Da → Prop))) (H : Hp) : Prop := ∀ q o, H0 q = some o → q ∉ op.map (·.1) → H q = some o
def XRep (K : PySem.W.Frag) (Hf : Hp) : Option Addr → Option (List (Str × Da)) → Prop
  | none, none => True
  | some d, some fs => ∃ gs, Hf d = some (.xd gs) ∧ RepF K Hf fs gs
  | _, _ => False
def Sx.WX (S : Sx) : WX := fun cls d _ H => ∃ Hf fs, Sub S.F0 Hf ∧ Sub Hf (strip S.T H) ∧ (∀ p, Hf p ≠ none → S.F0 p = none → S.H0 p = none) ∧ Keep S.H0 S.op (strip S.T H) ∧ (∀ q ∈ S.op, OwnK S.K Hf (strip S.T H) q.1 q.2.1 q.2.2) ∧ XRep S.K Hf d fs ∧ S.E cls fs ∧ TabF S.T Hf H
structure Sx.Ok (S : Sx) (X : Cx) : Prop where
  P : X.prog = S.P
  w : X.w = S.w
  K : X.K = S.K
  mg : X.mg = S.mg
  base : X.base = S.base
  N : X.N = S.N
  sc : X.env.scope = S.sc
  calm : S.calm = true → X.calm = true
  room : S.calm = true → Room S.k X.A
  un : X.A.units + 200 < cLine
  gd : X.A.guards = some []
  nd : S.N.Nodup
  tk : Takes X S.WX
  po : PassesOwn (model X.prog X.w) X.A X.env X.xe
  fn : ∀ x, S.stor x = true → X.fn x = true ∨ X.env.scope.names.lookup x = some .local
  cd : S.cd ≠ .none → X.env.code = S.cd
  ql : S.cd ≠ .none → X.env.qual = S.ql
  cel : ∀ p ∈ S.cel, X.H_0 p.1 = none ∧ p.1 ∉ X.fs ∧ p.1 ∉ X.ex ∧ ∃ u, RelV p.2 u ∧ X.s_0.heap.IsCell p.1 (some u)
  ce : ∀ l, S.ce = some l → X.env.cells = l
  top : S.top = true → X.stack = X.env :: X.outer ∧ X.env.frame = some X.env.locals ∧ ∀ x, X.fn x = true
  xc : ∀ a cls d fs, S.xc = some (a, cls, d, fs) → ∃ X0 oe pn, X = Cx.suite X0 a ((a, oe) :: pn) ∧ Zc cls d oe ∧ (∃ vs, oe.data = .fields vs) ∧ XRep S.K S.F0 d fs
theorem Sx.Ok.units {S : Sx} {X : Cx} (ok : S.Ok X) : X.A.units + 64 < cLine := by have := ok.un; omega
/-- a name of the module, or a built-in one -/
def GlS (S : Sx) (x : Str) : Prop := S.sc.names.lookup x = some .globalImplicit
theorem GlS.gl {S : Sx} {X : Cx} {x : Str} (h : GlS S x) (ok : S.Ok X) : Gl X x := by
  show X.env.scope.names.lookup x = _
  rw [ok.sc]; exact h
structure Stt0 (S : Sx) (PX : Hp) (Γ : List Slot) (Hf H : Hp) (σ : L2.St) : Prop where
  len : σ.length = Γ.length
  ex0 : Sub S.F0 Hf
  ex : Sub Hf H
  keep : Keep S.H0 S.op H
  ops : ∀ q ∈ S.op, H q.1 ≠ none
  at_ : ∀ (i : Nat) s, Γ[i]? = some s → SlotOk S.K Hf H (σ[i]?).join s
  new : ∀ (i : Nat) p k I, Γ[i]? = some (.ow p k I) → p ∈ S.op.map (·.1) ∨ S.H0 p = none
  fr : ∀ p, Hf p ≠ none → S.F0 p = none → S.H0 p = none
  px : Sub PX H
  pf : ∀ p, PX p ≠ none → Hf p = none
  pi : ∀ (i : Nat) p k I, Γ[i]? = some (.ow p k I) → PX p = none
  sep : ∀ (i j : Nat) p k l I J, Γ[i]? = some (.ow p k I) → Γ[j]? = some (.ow p l J) → i = j
structure Stt (S : Sx) (PX : Hp) (Γ : List Slot) (Hf H : Hp) (σ : L2.St) : Prop where
  z : Stt0 S PX Γ Hf (strip S.T H) σ
  tb : TabF S.T Hf H
section
variable {K : PySem.W.Frag} {Hf Hf' H H' : Hp} {p q : Addr} {I : List Da → Prop} {o : HO} {S : Sx} {PX : Hp} {Γ : List Slot} {σ : L2.St} {x : Option V} {s : Slot}
theorem Stt0.fresh0 (st : Stt0 S PX Γ Hf H σ) (hp : H p = none) : S.H0 p = none := by
  cases e : S.H0 p with
  | none => rfl
  | some u =>
    by_cases c : p ∈ S.op.map (·.1)
    · obtain ⟨q, h1, h2⟩ := List.mem_map.mp c
      exact absurd (h2 ▸ hp) (st.ops q h1)
    · rw [st.keep p u e c] at hp; cases hp
theorem Own.more (e : Sub Hf Hf') (hp : Hf' p = none) (eH : H' p = H p) (h : Own K Hf H p I) : Own K Hf' H' p I := by
  obtain ⟨_, vs, xs, h1, h2, h3⟩ := h
  exact ⟨hp, vs, xs, eH.trans h1, Reps.mono e _ _ h2, h3⟩
theorem OwnK.free {k : Kd} (h : OwnK K Hf H p k I) : Hf p = none := by cases k <;> exact h.1
theorem OwnK.at {k : Kd} (h : OwnK K Hf H p k I) : ∃ o, H p = some o := by
  cases k with
  | l => obtain ⟨_, _, _, e, _⟩ := h; exact ⟨_, e⟩
  | d => obtain ⟨_, _, _, e, _⟩ := h; exact ⟨_, e⟩
  | o => obtain ⟨_, _, _, _, _, e, _⟩ := h; exact ⟨_, e⟩
theorem OwnK.more {k : Kd} (e : Sub Hf Hf') (hp : Hf' p = none) (eH : H' p = H p) (h : OwnK K Hf H p k I) : OwnK K Hf' H' p k I := by
  cases k with
  | l => exact Own.more e hp eH h
  | d =>
    obtain ⟨_, vs, xs, h1, h2, h3⟩ := h
    exact ⟨hp, vs, xs, eH.trans h1, RepK.mono e _ _ h2, h3⟩
  | o =>
    obtain ⟨_, C, dx, gs, fs, h1, h2, h3⟩ := h
    exact ⟨hp, C, dx, gs, fs, eH.trans h1, RepF.mono e _ _ h2, h3⟩
theorem OwnK.imp {k : Kd} {J : List Da → Prop} (h : OwnK K Hf H p k I) (q : ∀ ds, I ds → J ds) : OwnK K Hf H p k J := by
  cases k with
  | l => obtain ⟨a, vs, xs, h1, h2, h3⟩ := h; exact ⟨a, vs, xs, h1, h2, q _ h3⟩
  | d => obtain ⟨a, vs, xs, h1, h2, h3⟩ := h; exact ⟨a, vs, xs, h1, h2, q _ h3⟩
  | o => obtain ⟨a, C, dx, gs, fs, h1, h2, h3⟩ := h; exact ⟨a, C, dx, gs, fs, h1, h2, q _ h3⟩
theorem OwnK.eq {k : Kd} (eH : H' p = H p) (h : OwnK K Hf H p k I) : OwnK K Hf H' p k I := h.more (Sub.refl _) h.free eH
theorem SlotOk.more (e : Sub Hf Hf') (h1 : ∀ p k I, s = .ow p k I → Hf' p = none ∧ H' p = H p) (h : SlotOk K Hf H x s) : SlotOk K Hf' H' x s := by
  cases s with
  | no => trivial
  | dat d =>
    obtain ⟨v, a, b⟩ := h
    exact ⟨v, a, Rep.mono e _ _ b⟩
  | ow p k I =>
    obtain ⟨a, b⟩ := h
    obtain ⟨c, d⟩ := h1 p k I rfl
    exact ⟨a, b.more e c d⟩
  | rf a => exact h
  | vd d v => exact ⟨h.1, Rep.mono e _ _ h.2⟩
theorem Stt0.own (st : Stt0 S PX Γ Hf H σ) {i : Nat} (h : Γ[i]? = some (.inv p I)) : (σ[i]?).join = some (V.ref p) ∧ Own S.K Hf H p I := st.at_ i _ h
theorem Stt0.ownK (st : Stt0 S PX Γ Hf H σ) {i : Nat} {k : Kd} (h : Γ[i]? = some (.ow p k I)) : (σ[i]?).join = some (V.ref p) ∧ OwnK S.K Hf H p k I := st.at_ i _ h
theorem Stt0.ownH (st : Stt0 S PX Γ Hf H σ) {i : Nat} {k : Kd} (h : Γ[i]? = some (.ow p k I)) : H p ≠ none := by
  obtain ⟨o, e⟩ := (st.ownK h).2.at
  rw [e]; exact fun z => nomatch z
/-- a new object, frozen at once -/
theorem Stt0.alloc (st : Stt0 S PX Γ Hf H σ) (hp : H p = none) : Stt0 S PX Γ (upd Hf p o) (upd H p o) σ ∧ Sub Hf (upd Hf p o) := by
  have e : Sub Hf (upd Hf p o) := Sub.upd0 (Sub.refl _) (st.ex.free hp)
  refine ⟨⟨st.len, st.ex0.trans e, st.ex.updB, fun q u h1 h2 => ?_, fun q h => ?_, fun i s h => ?_, st.new, fun q h h2 => ?_, st.px.upd hp, fun q h => ?_, st.pi, st.sep⟩, e⟩
  rotate_right
  · have n : q ≠ p := fun c => h (by rw [c]; exact st.px.free hp)
    rw [upd_ne n]; exact st.pf q h
  · have z := st.keep q u h1 h2
    rw [upd_ne (ne_of_none z hp)]; exact z
  · have z := st.ops q h
    rw [upd_ne (fun c : q.1 = p => z (by rw [c]; exact hp))]; exact z
  · refine (st.at_ i s h).more e fun p' k' I' es => ?_
    subst es
    have n : p' ≠ p := fun c => st.ownH h (c ▸ hp)
    rw [upd_ne n, upd_ne n]
    exact ⟨(st.ownK h).2.free, rfl⟩
  · by_cases c : q = p
    · subst c; exact st.fresh0 hp
    · rw [upd_ne c] at h; exact st.fr q h h2
/-- what is tracked beside the owned lists is as it was -/
theorem Stt0.grow (st : Stt0 S PX Γ Hf H σ) (e : Sub Hf Hf') (eH : Sub Hf' H') (k : Sub H H') (hn : ∀ p, Hf' p ≠ none → Hf p = none → H p = none) : Stt0 S PX Γ Hf' H' σ := by
  refine ⟨st.len, st.ex0.trans e, eH, fun q u h1 h2 => k _ _ (st.keep q u h1 h2), fun q h z => st.ops q h (Sub.free k z), fun i s h => ?_, st.new, fun q h h2 => ?_, st.px.trans k, fun q h => ?_, st.pi, st.sep⟩
  rotate_right
  · cases c : Hf' q with
    | none => rfl
    | some u => exact absurd (st.px.free (hn q (by rw [c]; exact fun z => nomatch z) (st.pf q h))) h
  rotate_left
  · by_cases c : Hf q = none
    · exact st.fresh0 (hn q h c)
    · exact st.fr q c h2
  refine (st.at_ i s h).more e fun p' k' I' es => ?_
  subst es
  have z := st.ownH h
  have f := (st.ownK h).2.free
  refine ⟨?_, ?_⟩
  · cases c : Hf' p' with
    | none => rfl
    | some u => exact absurd (hn p' (by rw [c]; exact fun z => nomatch z) f) z
  · cases c : H p' with
    | none => exact absurd c z
    | some u => exact k _ _ c

end
section
variable {S S' : Sx} {PX PX' Hf Hf' H H' : Hp} {Γ Γ' : List Slot} {σ σ' : L2.St} {p D A : Addr} {o o' : HO} {I I' : List Da → Prop} {i : Nat} {s : Slot} {d : Da} {v : V} {vs : List V} {ds xs : List Da}
theorem SlotOk.strip {T : List (Addr × Str)} {K : PySem.W.Frag} {x : Option V} (h : SlotOk K Hf (GX.strip T H) x s) : SlotOk K Hf H x s := by
  cases s with
  | no => trivial
  | dat d => exact h
  | ow p k I =>
    obtain ⟨a, b⟩ := h
    obtain ⟨o, c⟩ := b.at
    exact ⟨a, b.eq ((strip_sub _ _ c).trans c.symm)⟩
  | rf a => exact h
  | vd d v => exact h
theorem Own.real {T : List (Addr × Str)} {K : PySem.W.Frag} (h : Own K Hf (strip T H) p I) : Own K Hf H p I := by
  obtain ⟨b, vs, xs, c, d⟩ := h
  exact ⟨b, vs, xs, strip_sub _ _ c, d⟩
theorem Stt.len (st : Stt S PX Γ Hf H σ) : σ.length = Γ.length := st.z.len
theorem Stt.ex0 (st : Stt S PX Γ Hf H σ) : Sub S.F0 Hf := st.z.ex0
theorem Stt.ex (st : Stt S PX Γ Hf H σ) : Sub Hf H := st.z.ex.trans strip_sub
theorem Stt.px (st : Stt S PX Γ Hf H σ) : Sub PX H := st.z.px.trans strip_sub
theorem Stt.at_ (st : Stt S PX Γ Hf H σ) (i : Nat) (s : Slot) (h : Γ[i]? = some s) : SlotOk S.K Hf H (σ[i]?).join s := (st.z.at_ i s h).strip
theorem Stt.own (st : Stt S PX Γ Hf H σ) (h : Γ[i]? = some (.inv p I)) : (σ[i]?).join = some (V.ref p) ∧ Own S.K Hf H p I := ⟨(st.z.own h).1, (st.z.own h).2.real⟩
theorem Stt.ownK {k : Kd} (st : Stt S PX Γ Hf H σ) (h : Γ[i]? = some (.ow p k I)) : (σ[i]?).join = some (V.ref p) ∧ OwnK S.K Hf H p k I := st.at_ i _ h
theorem Stt.ownH {k : Kd} (st : Stt S PX Γ Hf H σ) (h : Γ[i]? = some (.ow p k I)) : H p ≠ none := fun z => st.z.ownH h (strip_none z)
theorem Stt.ownT {k : Kd} (st : Stt S PX Γ Hf H σ) (h : Γ[i]? = some (.ow p k I)) : p ∉ S.T.map (·.1) := by
  obtain ⟨_, e⟩ := (st.z.ownK h).2.at
  exact strip_in e
theorem Stt.fresh0 (st : Stt S PX Γ Hf H σ) (hp : H p = none) : S.H0 p = none := st.z.fresh0 (strip_none hp)
theorem Stt.alloc (st : Stt S PX Γ Hf H σ) (hp : H p = none) : Stt S PX Γ (upd Hf p o) (upd H p o) σ ∧ Sub Hf (upd Hf p o) := by
  have n := st.tb.out hp
  obtain ⟨a, b⟩ := st.z.alloc (o := o) (strip_none hp)
  exact ⟨⟨by rw [strip_upd n]; exact a, st.tb.upd b n⟩, b⟩
theorem Stt.grow (st : Stt S PX Γ Hf H σ) (e : Sub Hf Hf') (eH : Sub Hf' (GX.strip S.T H')) (k : Sub (GX.strip S.T H) (GX.strip S.T H')) (hn : ∀ p, Hf' p ≠ none → Hf p = none → GX.strip S.T H p = none) (t : TabF S.T Hf' H') : Stt S PX Γ Hf' H' σ := ⟨st.z.grow e eH k hn, t⟩
end

/-! ## judgements -/
def tU (S : Sx) (e : Expr) : TE := fun σ H Q => ∃ t : TE, (∀ X, S.Ok X → PE X e t) ∧ t σ H Q
def tUT (S : Sx) (e : Expr) : TT := fun σ H Q => ∃ t : TT, (∀ X, S.Ok X → PT X e t) ∧ t σ H Q
def tUA (S : Sx) (es : List Expr) : TA := fun σ H Q => ∃ t : TA, (∀ X, S.Ok X → PA X es t) ∧ t σ H Q
def tUK (S : Sx) (es : List Keyword) : TA := fun σ H Q => ∃ t : TA, (∀ X, S.Ok X → PK X es t) ∧ t σ H Q
def tUS (S : Sx) (st : Stmt) : TS := fun D σ H => ∃ t : TS, (∀ X, S.Ok X → PS X st t) ∧ t D σ H
def tUB (S : Sx) (st : List Stmt) : TS := fun D σ H => ∃ t : TS, (∀ X, S.Ok X → PSs X st t) ∧ t D σ H
def tUG (S : Sx) (e : Expr) : TG := fun v σ H Q => ∃ t : TG, (∀ X, S.Ok X → PG X e t) ∧ t v σ H Q
section
variable {S : Sx} {X : Cx} {e : Expr} {es : List Expr} {ks : List Keyword} {st : Stmt} {sts : List Stmt}
theorem pu (ok : S.Ok X) : PE X e (tU S e) := ⟨fun pins s σ H Q I ⟨_, h, q⟩ => (h X ok).run pins s σ H Q I q⟩
theorem puT (ok : S.Ok X) : PT X e (tUT S e) := ⟨fun pins s σ H Q I ⟨_, h, q⟩ => (h X ok).run pins s σ H Q I q⟩
theorem puA (ok : S.Ok X) : PA X es (tUA S es) := ⟨fun pos pins s σ H Q I ⟨_, h, q⟩ => (h X ok).run pos pins s σ H Q I q⟩
theorem puK (ok : S.Ok X) : PK X ks (tUK S ks) := ⟨fun pos pins s σ H Q I ⟨_, h, q⟩ => (h X ok).run pos pins s σ H Q I q⟩
theorem puS (ok : S.Ok X) : PS X st (tUS S st) := ⟨fun pins s σ H D I ⟨_, h, q⟩ => (h X ok).run pins s σ H D I q⟩
theorem puB (ok : S.Ok X) : PSs X sts (tUB S sts) := ⟨fun pins s σ H D I ⟨_, h, q⟩ => (h X ok).run pins s σ H D I q⟩
theorem puG (ok : S.Ok X) : PG X e (tUG S e) := ⟨fun pins s σ H v u Q I r ⟨_, h, q⟩ => (h X ok).run pins s σ H v u Q I r q⟩
end

def EvE (S : Sx) (Γ : List Slot) (e : Expr) (Q : Da → Prop) : Prop := ∀ PX σ H Hf k, Stt S PX Γ Hf H σ →
  (∀ d v Hf' H', Sub Hf Hf' → Stt S PX Γ Hf' H' σ → Rep S.K Hf' d v → Q d → k v H') → tU S e σ H k
def EvT (S : Sx) (Γ : List Slot) (e : Expr) (Q : Bool → Prop) : Prop := ∀ PX σ H Hf k, Stt S PX Γ Hf H σ →
  (∀ b Hf' H', Sub Hf Hf' → Stt S PX Γ Hf' H' σ → Q b → k b H') → tUT S e σ H k
def EvA (S : Sx) (Γ : List Slot) (es : List Expr) (Q : List Da → Prop) : Prop := ∀ PX σ H Hf k, Stt S PX Γ Hf H σ →
  (∀ ds vs Hf' H', Sub Hf Hf' → Stt S PX Γ Hf' H' σ → Reps S.K Hf' ds vs → Q ds → k vs H') → tUA S es σ H k
def EvK (S : Sx) (Γ : List Slot) (es : List Keyword) (Q : List Da → Prop) : Prop := ∀ PX σ H Hf k, Stt S PX Γ Hf H σ →
  (∀ ds vs Hf' H', Sub Hf Hf' → Stt S PX Γ Hf' H' σ → Reps S.K Hf' ds vs → Q ds → k vs H') → tUK S es σ H k
structure EnG where
  nx : List Slot → Prop
  rt : Da → Prop
  bk : List Slot → Prop := fun _ => False
  ct : List Slot → Prop := fun _ => False
  rr : List Da → Prop := fun _ => False
def OpsIn (S : Sx) (Γ : List Slot) : Prop := ∀ q ∈ S.op, ∃ I, Slot.ow q.1 q.2.1 I ∈ Γ ∧ ∀ ds, I ds → q.2.2 ds
structure EnOk (S : Sx) (PX Hf : Hp) (D : EnG) (D' : Ends) : Prop where
  nx : ∀ Γ σ Hf' H', Sub Hf Hf' → Stt S PX Γ Hf' H' σ → D.nx Γ → D'.nx σ H'
  rt : ∀ d v Γ σ Hf' H', Sub Hf Hf' → Stt S PX Γ Hf' H' σ → OpsIn S Γ → Rep S.K Hf' d v → D.rt d → D'.rt v H'
  bk : ∀ Γ σ Hf' H', Sub Hf Hf' → Stt S PX Γ Hf' H' σ → D.bk Γ → D'.bk σ H'
  ct : ∀ Γ σ Hf' H', Sub Hf Hf' → Stt S PX Γ Hf' H' σ → D.ct Γ → D'.ct σ H'
  rr : ∀ p ds vs Γ σ Hf' H', Sub Hf Hf' → Stt S (upd PX p (.lst vs)) Γ Hf' H' σ → PX p = none → S.H0 p = none → OpsIn S Γ → Reps S.K Hf' ds vs → D.rr ds → D'.rt (.ref p) H'
theorem EnOk.mono {S : Sx} {PX Hf Hf' : Hp} {D : EnG} {D' : Ends} (e : Sub Hf Hf') (h : EnOk S PX Hf D D') : EnOk S PX Hf' D D' :=
  ⟨fun Γ σ a b c => h.nx Γ σ a b (e.trans c), fun d v Γ σ a b c => h.rt d v Γ σ a b (e.trans c), fun Γ σ a b c => h.bk Γ σ a b (e.trans c), fun Γ σ a b c => h.ct Γ σ a b (e.trans c), fun p ds vs Γ σ a b c => h.rr p ds vs Γ σ a b (e.trans c)⟩
def EvS (S : Sx) (Γ : List Slot) (st : Stmt) (D : EnG) : Prop := ∀ PX σ H Hf D', Stt S PX Γ Hf H σ → EnOk S PX Hf D D' → tUS S st D' σ H
def EvB (S : Sx) (Γ : List Slot) (st : List Stmt) (D : EnG) : Prop := ∀ PX σ H Hf D', Stt S PX Γ Hf H σ → EnOk S PX Hf D D' → tUB S st D' σ H
/-- a target takes a value -/
structure Alt (W : Nat → Bool) (Γ : List Slot) (σ : L2.St) (Γ' : List Slot) (σ' : L2.St) : Prop where
  len : σ'.length = σ.length
  s : ∀ j : Nat, W j = false → σ'[j]? = σ[j]?
  g : ∀ j : Nat, W j = false → Γ'[j]? = Γ[j]?
theorem Alt.refl {W : Nat → Bool} {Γ : List Slot} {σ : L2.St} : Alt W Γ σ Γ σ := ⟨rfl, fun _ _ => rfl, fun _ _ => rfl⟩
theorem Alt.trans {W : Nat → Bool} {Γ Γ1 Γ2 : List Slot} {σ σ1 σ2 : L2.St} (a : Alt W Γ σ Γ1 σ1) (b : Alt W Γ1 σ1 Γ2 σ2) : Alt W Γ σ Γ2 σ2 := ⟨b.len.trans a.len, fun j h => (b.s j h).trans (a.s j h), fun j h => (b.g j h).trans (a.g j h)⟩
theorem Alt.set {W : Nat → Bool} {Γ : List Slot} {σ : L2.St} {i : Nat} {x : Option V} {y : Slot} (h : W i = true) : Alt W Γ σ (Γ.set i y) (σ.set i x) :=
  ⟨List.length_set .., fun j hj => List.getElem?_set_ne (fun e => by rw [e, hj] at h; cases h), fun j hj => List.getElem?_set_ne (fun e => by rw [e, hj] at h; cases h)⟩
abbrev anyW : Nat → Bool := fun _ => true
def EvG (S : Sx) (W : Nat → Bool) (Γ : List Slot) (e : Expr) (d : Da) (Q : List Slot → Prop) : Prop := ∀ PX v σ H Hf k, Stt S PX Γ Hf H σ → Rep S.K Hf d v →
  (∀ Γ' σ' Hf' H', Sub Hf Hf' → Stt S PX Γ' Hf' H' σ' → Alt W Γ σ Γ' σ' → Q Γ' → k σ' H') → tUG S e v σ H k

/-! ### kinds of data -/
@[reducible] def asInt (d : Da) (k : Int → Prop) : Prop := match d with | .int i => k i | _ => False
@[reducible] def asBl (d : Da) (k : Bool → Prop) : Prop := match d with | .bl i => k i | _ => False
@[reducible] def asStr (d : Da) (k : Str → Prop) : Prop := match d with | .str i => k i | _ => False
@[reducible] def asTup (d : Da) (k : List Da → Prop) : Prop := match d with | .tup i => k i | _ => False
@[reducible] def asLst (d : Da) (k : List Da → Prop) : Prop := match d with | .lst i => k i | _ => False
@[reducible] def asSeq (d : Da) (k : List Da → Prop) : Prop := match d with | .lst i => k i | .tup i => k i | _ => False
theorem asInt_ {d : Da} {k : Int → Prop} (h : asInt d k) : ∃ i, d = .int i ∧ k i := by cases d <;> first | exact ⟨_, rfl, h⟩ | exact h.elim
theorem asBl_ {d : Da} {k : Bool → Prop} (h : asBl d k) : ∃ i, d = .bl i ∧ k i := by cases d <;> first | exact ⟨_, rfl, h⟩ | exact h.elim
theorem asStr_ {d : Da} {k : Str → Prop} (h : asStr d k) : ∃ i, d = .str i ∧ k i := by cases d <;> first | exact ⟨_, rfl, h⟩ | exact h.elim
theorem asTup_ {d : Da} {k : List Da → Prop} (h : asTup d k) : ∃ i, d = .tup i ∧ k i := by cases d <;> first | exact ⟨_, rfl, h⟩ | exact h.elim
theorem asLst_ {d : Da} {k : List Da → Prop} (h : asLst d k) : ∃ i, d = .lst i ∧ k i := by cases d <;> first | exact ⟨_, rfl, h⟩ | exact h.elim
theorem asSeq_ {d : Da} {k : List Da → Prop} (h : asSeq d k) : ∃ i, (d = .lst i ∨ d = .tup i) ∧ k i := by cases d <;> first | exact ⟨_, .inl rfl, h⟩ | exact ⟨_, .inr rfl, h⟩ | exact h.elim

section
variable {S : Sx} {Γ : List Slot} {e a b c : Expr} {es : List Expr} {Q : Da → Prop} {pos : Pos}
theorem EvE.imp {Q' : Da → Prop} (h : EvE S Γ e Q) (q : ∀ d, Q d → Q' d) : EvE S Γ e Q' := fun PX σ H Hf k st hk => h PX σ H Hf k st fun d v Hf' H' a b c z => hk d v Hf' H' a b c (q d z)
theorem EvT.imp {Q Q' : Bool → Prop} (h : EvT S Γ e Q) (q : ∀ d, Q d → Q' d) : EvT S Γ e Q' := fun PX σ H Hf k st hk => h PX σ H Hf k st fun d Hf' H' a b z => hk d Hf' H' a b (q d z)
theorem ev_of {t : TE} (h : ∀ X, S.Ok X → PE X e t) (q : ∀ PX σ H Hf k, Stt S PX Γ Hf H σ → (∀ d v Hf' H', Sub Hf Hf' → Stt S PX Γ Hf' H' σ → Rep S.K Hf' d v → Q d → k v H') → t σ H k) : EvE S Γ e Q :=
  fun PX σ H Hf k st hk => ⟨t, h, q PX σ H Hf k st hk⟩
/-! ### names, constants -/
theorem ev_var {i : Nat} {x : Str} {d : Da} (hN : S.N[i]? = some x) (hv : Vis S.sc x) (hΓ : Γ[i]? = some (.dat d)) (q : Q d)
    (hd : (x == ("__debug__" : Str)) = false := by decide) (hcd : (x == ("__classdict__" : Str)) = false := by decide) : EvE S Γ (.Name x pos) Q :=
  ev_of (fun X ok => pe_var (i := i) (by rw [ok.N]; exact hN) (by rw [ok.sc]; exact hv) hd hcd) fun PX σ H Hf k st hk => by
    obtain ⟨v, e, r⟩ := st.at_ i _ hΓ
    refine ⟨v, ?_, hk d v Hf H (Sub.refl _) st r q⟩
    cases z : σ[i]? with
    | none => rw [z] at e; cases e
    | some o => rw [z] at e; exact congrArg some e
theorem ev_const {d : Da} {v : V} (h : ∀ X, S.Ok X → PE X e (tC v)) (r : ∀ H, Rep S.K H d v) (q : Q d) : EvE S Γ e Q := ev_of h fun PX σ H Hf k st hk => hk d v Hf H (Sub.refl _) st (r _) q
theorem ev_int {i : Int} {j} (q : Q (.int i)) : EvE S Γ (.Constant (.int i) j pos) Q := ev_const (d := .int i) (v := .int i) (fun _ _ => pe_int) (fun _ => rfl) q
theorem ev_bl {i : Bool} {j} (q : Q (.bl i)) : EvE S Γ (.Constant (.bool i) j pos) Q := ev_const (d := .bl i) (v := .bl i) (fun _ _ => pe_bl) (fun _ => rfl) q
theorem ev_non {j} (q : Q .non) : EvE S Γ (.Constant .none j pos) Q := ev_const (d := .non) (v := .non) (fun _ _ => pe_non) (fun _ => rfl) q
theorem ev_str {i : Str} {j} (q : Q (.str i)) : EvE S Γ (.Constant (.str i) j pos) Q := ev_const (d := .str i) (v := .str i) (fun _ _ => pe_str) (fun _ => rfl) q
/-- a constant of the module -/
theorem ev_glob {x : Str} {d : Da} {v : V} {u : Value} (hg : GlS S x) (hm : S.mg x = some u) (rv : RelV v u) (r : ∀ H, Rep S.K H d v) (q : Q d) (hd : (x == ("__debug__" : Str)) = false := by decide) : EvE S Γ (.Name x pos) Q :=
  ev_const (v := v) (fun X ok => pe_glob (hg.gl ok) (by rw [ok.mg]; exact hm) rv hd) r q

/-! ### operators -/
structure OpG (S : Sx) (f : Value → Value → Sem Value) (r : Da → Da → (Da → Prop) → Prop) : Prop where
  ex : ∃ rr : R2, (∀ X, S.Ok X → OpR X f rr) ∧ ∀ PX Γ σ Hf H x y v u (Q : Da → Prop) k, Stt S PX Γ Hf H σ → Rep S.K Hf x v → Rep S.K Hf y u → r x y Q →
    (∀ d v Hf' H', Sub Hf Hf' → Stt S PX Γ Hf' H' σ → Rep S.K Hf' d v → Q d → k v H') → rr v u H k
theorem OpG.pure {f : Value → Value → Sem Value} {r : Da → Da → (Da → Prop) → Prop} (rr : R2) (h : ∀ X, S.Ok X → OpR X f rr)
    (q : ∀ Hf H x y v u Q k, Sub Hf H → Rep S.K Hf x v → Rep S.K Hf y u → r x y Q → (∀ d v, Rep S.K Hf d v → Q d → k v H) → rr v u H k) : OpG S f r :=
  ⟨rr, h, fun PX Γ σ Hf H x y v u Q k st rx ry hr hk => q Hf H x y v u Q k st.ex rx ry hr fun d v a b => hk d v Hf H (Sub.refl _) st a b⟩
theorem two {r : Da → Da → (Da → Prop) → Prop} {f : Value → Value → Sem Value} (ho : OpG S f r) {t : TE} {rr : R2} (hrr : ho.ex.choose = rr) (h : EvE S Γ a fun x => EvE S Γ b fun y => r x y Q) :
    ∀ PX σ H Hf k, Stt S PX Γ Hf H σ → (∀ d v Hf' H', Sub Hf Hf' → Stt S PX Γ Hf' H' σ → Rep S.K Hf' d v → Q d → k v H') → tOp rr (tU S a) (tU S b) σ H k := by
  subst hrr
  intro PX σ H Hf k st hk
  refine h PX σ H Hf _ st fun x v Hf1 H1 e1 st1 r1 q1 => ?_
  refine q1 PX σ H1 Hf1 _ st1 fun y u Hf2 H2 e2 st2 r2 q2 => ?_
  exact ho.ex.choose_spec.2 PX Γ σ Hf2 H2 x y v u Q k st2 (Rep.mono e2 _ _ r1) r2 q2 fun d v Hf' H' e => hk d v Hf' H' ((e1.trans e2).trans e)
theorem ev_op {op : Operator} {r : Da → Da → (Da → Prop) → Prop} (ho : OpG S (binaryOp op) r) (h : EvE S Γ a fun x => EvE S Γ b fun y => r x y Q) : EvE S Γ (.BinOp a op b pos) Q :=
  ev_of (fun X ok => pe_op (ho.ex.choose_spec.1 X ok) (pu ok) (pu ok)) (two (t := tU S a) ho rfl h)
theorem ev_cmp {op : CmpOp} {r : Da → Da → (Da → Prop) → Prop} (ho : OpG S (compareOp op) r) (h : EvE S Γ a fun x => EvE S Γ b fun y => r x y Q) (hm : behindInMarks op b = false := by first | exact nomark _ | rfl) : EvE S Γ (.Compare a [op] [b] pos) Q :=
  ev_of (fun X ok => pe_cmpR (ho.ex.choose_spec.1 X ok) (pu ok) (pu ok) hm) (two (t := tU S a) ho rfl h)
theorem et_cmp {op : CmpOp} {r : Da → Da → (Da → Prop) → Prop} {Q : Bool → Prop} (ho : OpG S (compareOp op) r) (h : EvE S Γ a fun x => EvE S Γ b fun y => r x y fun d => asBl d Q) (hm : behindInMarks op b = false := by first | exact nomark _ | rfl) : EvT S Γ (.Compare a [op] [b] pos) Q :=
  fun PX σ H Hf k st hk => ⟨_, fun X ok => pt_cmpR (ho.ex.choose_spec.1 X ok) (pu ok) (pu ok) hm, two (t := tU S a) ho rfl h PX σ H Hf _ st fun d v Hf' H' e st' r q => by
    obtain ⟨i, rfl, q⟩ := asBl_ q
    exact ⟨i, r, hk i Hf' H' e st' q⟩⟩

variable {f : Value → Value → Sem Value}
theorem og_I {g : Int → Int → Da} {g' : Int → Int → V} (ho : ∀ X, S.Ok X → OpR X f (rI0 g')) (hg : ∀ i j H, Rep S.K H (g i j) (g' i j)) : OpG S f fun x y Q => asInt x fun i => asInt y fun j => Q (g i j) :=
  .pure _ ho fun Hf H x y v u Q k _ rx ry hr hk => by
    obtain ⟨i, rfl, h1⟩ := asInt_ hr
    obtain ⟨j, rfl, h2⟩ := asInt_ h1
    exact ⟨i, j, rx, ry, hk _ _ (hg i j _) h2⟩
theorem og_IC {C : Int → Int → Prop} {g : Int → Int → Da} {g' : Int → Int → V} (ho : ∀ X, S.Ok X → OpR X f (rI C g')) (hg : ∀ i j H, Rep S.K H (g i j) (g' i j)) : OpG S f fun x y Q => asInt x fun i => asInt y fun j => C i j ∧ Q (g i j) :=
  .pure _ ho fun Hf H x y v u Q k _ rx ry hr hk => by
    obtain ⟨i, rfl, h1⟩ := asInt_ hr
    obtain ⟨j, rfl, h2⟩ := asInt_ h1
    exact ⟨i, j, rx, ry, h2.1, hk _ _ (hg i j _) h2.2⟩
theorem g_add : OpG S (binaryOp .Add) fun x y Q => asInt x fun i => asInt y fun j => Q (.int (i + j)) := og_I (fun _ _ => op_add) fun _ _ _ => rfl
theorem g_sub : OpG S (binaryOp .Sub) fun x y Q => asInt x fun i => asInt y fun j => Q (.int (i - j)) := og_I (fun _ _ => op_sub) fun _ _ _ => rfl
theorem g_mul : OpG S (binaryOp .Mult) fun x y Q => asInt x fun i => asInt y fun j => CMul i j ∧ Q (.int (i * j)) := og_IC (fun _ _ => op_mul) fun _ _ _ => rfl
theorem g_mod : OpG S (binaryOp .Mod) fun x y Q => asInt x fun i => asInt y fun j => 0 < j ∧ Q (.int (i % j)) := og_IC (fun _ _ => op_mod) fun _ _ _ => rfl
/-- what a divisor must be -/
abbrev Dv (j : Int) : Prop := 0 < j ∧ j < 18446744073709551616
theorem Dv.lg {j : Int} (h : Dv j) : j.natAbs.log2 < 9000 := Nat.lt_of_lt_of_le (PySem.Flt.log2_lt_of (k := 64) (by decide) (by have := h.1; have := h.2; omega)) (by decide)
theorem Dv.w {i j : Int} (h : Dv j) : CDivW i j := ⟨h.1, h.lg⟩
theorem Dv.p {i j : Int} (h : Dv j) : CDivP i j := ⟨h.1, PyProof.noPylong_of_log2 h.lg⟩
theorem g_div : OpG S (binaryOp .FloorDiv) fun x y Q => asInt x fun i => asInt y fun j => Dv j ∧ Q (.int (i / j)) :=
  .pure _ (fun _ _ => op_fdivW) fun Hf H x y v u Q k _ rx ry hr hk => by
    obtain ⟨i, rfl, h1⟩ := asInt_ hr
    obtain ⟨j, rfl, h2⟩ := asInt_ h1
    exact ⟨i, j, rx, ry, h2.1.w, hk (.int (i / j)) _ rfl h2.2⟩
theorem g_Pow : OpG S (binaryOp .Pow) fun x y Q => asInt x fun i => asInt y fun j => CPow i j ∧ Q (.int (i ^ j.toNat)) := og_IC (fun _ _ => op_pow) fun _ _ _ => rfl
theorem g_lt : OpG S (compareOp .Lt) fun x y Q => asInt x fun i => asInt y fun j => Q (.bl (decide (i < j))) := og_I (fun _ _ => op_lt) fun _ _ _ => rfl
theorem g_le : OpG S (compareOp .LtE) fun x y Q => asInt x fun i => asInt y fun j => Q (.bl (decide (i ≤ j))) := og_I (fun _ _ => op_le) fun _ _ _ => rfl
theorem g_gt : OpG S (compareOp .Gt) fun x y Q => asInt x fun i => asInt y fun j => Q (.bl (decide (j < i))) := og_I (fun _ _ => op_gt) fun _ _ _ => rfl
theorem g_ge : OpG S (compareOp .GtE) fun x y Q => asInt x fun i => asInt y fun j => Q (.bl (decide (j ≤ i))) := og_I (fun _ _ => op_ge) fun _ _ _ => rfl
end

section
variable {S : Sx} {Γ : List Slot} {e a b c : Expr} {es : List Expr} {Q : Da → Prop} {B : Bool → Prop} {pos : Pos}
/-! ### tests -/
@[reducible] def cond (b : Bool) (p q : Prop) : Prop := match b with | true => p | false => q
theorem cond_ite {b : Bool} {p q : Prop} (h : cond b p q) : if b = true then p else q := by cases b <;> first | exact iteT h | exact iteF h
theorem et_val (h : EvE S Γ e fun d => asBl d B) (he : ∀ env whole, isTrue e env whole = (do let v ← whole; standAt e.pos; holding [v] (truthy v)) := by intro _ _; rfl) : EvT S Γ e B :=
  fun PX σ H Hf k st hk => ⟨_, fun X ok => pt_val (pu ok) (he X.env), h PX σ H Hf _ st fun d v Hf' H' e' st' r q => by
    obtain ⟨i, rfl, q⟩ := asBl_ q
    exact ⟨i, r, hk i Hf' H' e' st' q⟩⟩
theorem et_not (h : EvT S Γ a fun c => B (!c)) : EvT S Γ (.UnaryOp .Not a pos) B :=
  fun PX σ H Hf k st hk => ⟨_, fun X ok => pt_not (puT ok), h PX σ H Hf _ st fun c Hf' H' e' st' q => hk (!c) Hf' H' e' st' q⟩
def EvW (S : Sx) (Γ : List Slot) (e : Expr) (Q : Bool → Prop) : Prop := ∀ PX σ H Hf k, Stt S PX Γ Hf H σ →
  (∀ b Hf' H', Sub Hf Hf' → Stt S PX Γ Hf' H' σ → Q b → k b H') → ∃ t : TT, (∀ X, S.Ok X → PW X e t) ∧ t σ H k
def tUW (S : Sx) (e : Expr) : TT := fun σ H Q => ∃ t : TT, (∀ X, S.Ok X → PW X e t) ∧ t σ H Q
theorem puW {X : Cx} (ok : S.Ok X) : PW X e (tUW S e) := ⟨fun wh pins s σ H Q I ⟨_, h, q⟩ => (h X ok).run wh pins s σ H Q I q⟩
theorem et_w (h : EvW S Γ e B) : EvT S Γ e B := fun PX σ H Hf k st hk => by
  obtain ⟨t, h1, h2⟩ := h PX σ H Hf k st hk
  exact ⟨t, fun X ok => (h1 X ok).pt, h2⟩
theorem ew_and1 (h : EvT S Γ a B) : EvW S Γ (.BoolOp .And [a] pos) B := fun PX σ H Hf k st hk => ⟨_, fun X ok => pw_and1 (puT ok), h PX σ H Hf k st hk⟩
theorem ew_or1 (h : EvT S Γ a B) : EvW S Γ (.BoolOp .Or [a] pos) B := fun PX σ H Hf k st hk => ⟨_, fun X ok => pw_or1 (puT ok), h PX σ H Hf k st hk⟩
theorem ew_and (h : EvT S Γ a fun c => cond c (EvW S Γ (.BoolOp .And (b :: es) pos) B) (B false)) : EvW S Γ (.BoolOp .And (a :: b :: es) pos) B :=
  fun PX σ H Hf k st hk => ⟨_, fun X ok => pw_and (puT ok) (puW ok), h PX σ H Hf _ st fun c Hf1 H1 e1 st1 q => cond_ite (by
    cases c with
    | true => exact q PX σ H1 Hf1 k st1 fun b Hf' H' e => hk b Hf' H' (e1.trans e)
    | false => exact hk false Hf1 H1 e1 st1 q)⟩
theorem ew_or (h : EvT S Γ a fun c => cond c (B true) (EvW S Γ (.BoolOp .Or (b :: es) pos) B)) : EvW S Γ (.BoolOp .Or (a :: b :: es) pos) B :=
  fun PX σ H Hf k st hk => ⟨_, fun X ok => pw_or (puT ok) (puW ok), h PX σ H Hf _ st fun c Hf1 H1 e1 st1 q => cond_ite (by
    cases c with
    | false => exact q PX σ H1 Hf1 k st1 fun b Hf' H' e => hk b Hf' H' (e1.trans e)
    | true => exact hk true Hf1 H1 e1 st1 q)⟩
/-! ### and, or, not, if as values -/
theorem ev_one {op} (h : EvE S Γ a Q) : EvE S Γ (.BoolOp op [a] pos) Q := ev_of (fun X ok => pe_one (pu ok)) h
theorem ev_and (h : EvE S Γ a fun d => asBl d fun c => cond c (EvE S Γ (.BoolOp .And (b :: es) pos) Q) (Q (.bl false))) : EvE S Γ (.BoolOp .And (a :: b :: es) pos) Q :=
  ev_of (fun X ok => pe_and (pu ok) (pu ok)) fun PX σ H Hf k st hk => h PX σ H Hf _ st fun d v Hf1 H1 e1 st1 r q => by
    obtain ⟨c, rfl, q⟩ := asBl_ q
    refine ⟨c, r, cond_ite ?_⟩
    cases c with
    | true => exact q PX σ H1 Hf1 k st1 fun d v Hf' H' e => hk d v Hf' H' (e1.trans e)
    | false => exact hk (.bl false) _ Hf1 H1 e1 st1 rfl q
theorem ev_or (h : EvE S Γ a fun d => asBl d fun c => cond c (Q (.bl true)) (EvE S Γ (.BoolOp .Or (b :: es) pos) Q)) : EvE S Γ (.BoolOp .Or (a :: b :: es) pos) Q :=
  ev_of (fun X ok => pe_or (pu ok) (pu ok)) fun PX σ H Hf k st hk => h PX σ H Hf _ st fun d v Hf1 H1 e1 st1 r q => by
    obtain ⟨c, rfl, q⟩ := asBl_ q
    refine ⟨c, r, cond_ite ?_⟩
    cases c with
    | false => exact q PX σ H1 Hf1 k st1 fun d v Hf' H' e => hk d v Hf' H' (e1.trans e)
    | true => exact hk (.bl true) _ Hf1 H1 e1 st1 rfl q
theorem ev_not (h : EvE S Γ a fun d => asBl d fun c => Q (.bl (!c))) : EvE S Γ (.UnaryOp .Not a pos) Q :=
  ev_of (fun X ok => pe_not (pu ok)) fun PX σ H Hf k st hk => h PX σ H Hf _ st fun d v Hf1 H1 e1 st1 r q => by
    obtain ⟨c, rfl, q⟩ := asBl_ q
    exact ⟨c, r, hk (.bl (!c)) _ Hf1 H1 e1 st1 rfl q⟩
theorem ev_ifx (h : EvT S Γ c fun t => cond t (EvE S Γ a Q) (EvE S Γ b Q)) : EvE S Γ (.IfExp c a b pos) Q :=
  ev_of (fun X ok => pe_ifExp (puT ok) (pu ok) (pu ok)) fun PX σ H Hf k st hk => h PX σ H Hf _ st fun t Hf1 H1 e1 st1 q => cond_ite (by
    cases t with
    | true => exact q PX σ H1 Hf1 k st1 fun d v Hf' H' e => hk d v Hf' H' (e1.trans e)
    | false => exact q PX σ H1 Hf1 k st1 fun d v Hf' H' e => hk d v Hf' H' (e1.trans e))
theorem ev_neg (h : EvE S Γ a fun d => asInt d fun i => Q (.int (-i))) : EvE S Γ (.UnaryOp .USub a pos) Q :=
  ev_of (fun X ok => pe_un un_neg (pu ok)) fun PX σ H Hf k st hk => h PX σ H Hf _ st fun d v Hf1 H1 e1 st1 r q => by
    obtain ⟨c, rfl, q⟩ := asInt_ q
    exact ⟨c, r, hk (.int (-c)) _ Hf1 H1 e1 st1 rfl q⟩
/-- is None -/
@[reducible] def isNon (d : Da) : Bool := match d with | .non => true | _ => false
theorem Rep.non_iff {K : PySem.W.Frag} {H : Hp} {d : Da} {v : V} (r : Rep K H d v) : decide (v = V.non) = isNon d := by
  cases d <;> unfold Rep at r
  case non => subst r; rfl
  case bl => subst r; rfl
  case int => subst r; rfl
  case str => subst r; rfl
  case ty => subst r; rfl
  case lm => obtain ⟨_, _, rfl, _⟩ := r; rfl
  case clo => obtain ⟨_, rfl, _⟩ := r; rfl
  case lst => obtain ⟨_, _, rfl, _⟩ := r; rfl
  case tup => obtain ⟨_, _, rfl, _⟩ := r; rfl
  case dct => obtain ⟨_, _, rfl, _⟩ := r; rfl
  case ins => obtain ⟨_, _, _, rfl, _⟩ := r; rfl
theorem g_is : OpG S (compareOp .Is) fun x y Q => y = .non ∧ Q (.bl (isNon x)) :=
  .pure _ (fun _ _ => op_isN) fun Hf H x y v u Q k _ rx ry hr hk => by
    obtain ⟨rfl, q⟩ := hr
    exact ⟨ry, hk (.bl (isNon x)) _ (by rw [Rep.non_iff rx]; rfl) q⟩
theorem g_isnot : OpG S (compareOp .IsNot) fun x y Q => y = .non ∧ Q (.bl (!isNon x)) :=
  .pure _ (fun _ _ => op_notN) fun Hf H x y v u Q k _ rx ry hr hk => by
    obtain ⟨rfl, q⟩ := hr
    exact ⟨ry, hk (.bl (!isNon x)) _ (by rw [Rep.non_iff rx]; rfl) q⟩

/-! ### argument lists, displays -/
theorem ea_nil {Q : List Da → Prop} (q : Q []) : EvA S Γ [] Q := fun PX σ H Hf k st hk => ⟨_, fun X _ => pa_nil, hk [] [] Hf H (Sub.refl _) st rfl q⟩
theorem ea_cons {Q : List Da → Prop} (h : EvE S Γ e fun d => EvA S Γ es fun ds => Q (d :: ds)) (hs : ∀ env, starEach (e :: es) env = (false, eval e env) :: starEach es env := by intro _; rfl) : EvA S Γ (e :: es) Q :=
  fun PX σ H Hf k st hk => ⟨_, fun X ok => pa_cons (pu ok) (puA ok) (hs _), h PX σ H Hf _ st fun d v Hf1 H1 e1 st1 r1 q1 => q1 PX σ H1 Hf1 _ st1 fun ds vs Hf2 H2 e2 st2 r2 q2 =>
    hk (d :: ds) (v :: vs) Hf2 H2 (e1.trans e2) st2 ⟨v, vs, rfl, Rep.mono e2 _ _ r1, r2⟩ q2⟩
theorem ek_nil {Q : List Da → Prop} (q : Q []) : EvK S Γ [] Q := fun PX σ H Hf k st hk => ⟨_, fun X _ => pk_nil, hk [] [] Hf H (Sub.refl _) st rfl q⟩
theorem ek_cons {Q : List Da → Prop} {nm : Option Str} {kpos : Pos} {ks : List Keyword} (h : EvE S Γ e fun d => EvK S Γ ks fun ds => Q (d :: ds)) : EvK S Γ (⟨nm, e, kpos⟩ :: ks) Q :=
  fun PX σ H Hf k st hk => ⟨_, fun X ok => pk_cons (pu ok) (puK ok), h PX σ H Hf _ st fun d v Hf1 H1 e1 st1 r1 q1 => q1 PX σ H1 Hf1 _ st1 fun ds vs Hf2 H2 e2 st2 r2 q2 =>
    hk (d :: ds) (v :: vs) Hf2 H2 (e1.trans e2) st2 ⟨v, vs, rfl, Rep.mono e2 _ _ r1, r2⟩ q2⟩
theorem Reps.len {K : PySem.W.Frag} {H : Hp} : ∀ {ds : List Da} {vs : List V}, Reps K H ds vs → vs.length = ds.length
  | [], _, h => by unfold Reps at h; subst h; rfl
  | d :: ds, _, h => by
    unfold Reps at h
    obtain ⟨x, r, rfl, _, h⟩ := h
    rw [List.length_cons, List.length_cons, Reps.len h]
abbrev Sz (n : Nat) : Prop := n ≤ 100000
theorem Sz.ok {n : Nat} (h : Sz n) : n ≤ sizeLine := Nat.le_trans h (by decide)
theorem ev_tup {x1} (h : EvA S Γ es fun ds => Sz ds.length ∧ Q (.tup ds)) : EvE S Γ (.Tuple es x1 pos) Q :=
  ev_of (fun X ok => pe_tup (puA ok)) fun PX σ H Hf k st hk => h PX σ H Hf _ st fun ds vs Hf1 H1 e1 st1 r1 q1 => ⟨by rw [r1.len]; exact q1.1.ok, fun p hp => by
    obtain ⟨st2, e2⟩ := st1.alloc (o := .tup vs) hp
    exact hk (.tup ds) _ _ _ (e1.trans e2) st2 ⟨p, vs, rfl, SqT.of upd_same, Reps.mono e2 _ _ r1⟩ q1.2⟩
theorem ev_lst (h : EvA S Γ es fun ds => Sz ds.length ∧ Q (.lst ds)) : EvE S Γ (.List es pos) Q :=
  ev_of (fun X ok => pe_lst (puA ok)) fun PX σ H Hf k st hk => h PX σ H Hf _ st fun ds vs Hf1 H1 e1 st1 r1 q1 => ⟨by rw [r1.len]; exact q1.1.ok, fun p hp => by
    obtain ⟨st2, e2⟩ := st1.alloc (o := .lst vs) hp
    exact hk (.lst ds) _ _ _ (e1.trans e2) st2 ⟨p, vs, rfl, SqL.of upd_same, Reps.mono e2 _ _ r1⟩ q1.2⟩
end

/-! ## defs -/
/-- what becomes of the frozen part and of the heap -/
structure Gr (Hf H Hf' H' : Hp) : Prop where
  f : Sub Hf Hf'
  e : Sub Hf' H'
  n : ∀ p, Hf' p ≠ none → Hf p = none → H p = none
abbrev Fd := List Da → (Da → Prop) → Er → Prop
def SpD (K : PySem.W.Frag) (T : List (Addr × Str)) (f : Fd) : Sp := fun vs H Q E => ∃ ds Hf q er, Sub Hf (strip T H) ∧ TabF T Hf H ∧ Reps K Hf ds vs ∧ f ds q er ∧
  (∀ d v Hf' H', Gr Hf (strip T H) Hf' (strip T H') → Sub (strip T H) (strip T H') → TabF T Hf' H' → Rep K Hf' d v → q d → Q v H') ∧
  (∀ cls x fs Hf' H', Gr Hf (strip T H) Hf' (strip T H') → Sub (strip T H) (strip T H') → TabF T Hf' H' → XRep K Hf' x fs → er cls fs → E cls x H')
/-- the first argument is a list of the caller's that may change within I -/
def SpO (K : PySem.W.Frag) (T : List (Addr × Str)) (I : List Da → Prop) (f : Fd) : Sp := fun vs H Q E => ∃ p us ds Hf q er, vs = .ref p :: us ∧ Sub Hf (strip T H) ∧ TabF T Hf H ∧ Own K Hf (strip T H) p I ∧ Reps K Hf ds us ∧ f ds q er ∧
  (∀ d v Hf' H', Gr Hf (strip T H) Hf' (strip T H') → (∀ a o, a ≠ p → strip T H a = some o → strip T H' a = some o) → TabF T Hf' H' → Own K Hf' (strip T H') p I → Rep K Hf' d v → q d → Q v H') ∧
  (∀ cls x fs Hf' H', Gr Hf (strip T H) Hf' (strip T H') → (∀ a o, a ≠ p → strip T H a = some o → strip T H' a = some o) → TabF T Hf' H' → Own K Hf' (strip T H') p I → XRep K Hf' x fs → er cls fs → E cls x H')
/-- a def keeps its promise, where no repr is under way -/
structure FnG (P : Program) (w : World) (K : PySem.W.Frag) (mg : Str → Option Value) (base : Heap) (k : Nat) (f : Addr) (fd : FuncData) (ps : List Str) (sp : Sp) : Prop where
  len : ∀ vs H Q E, sp vs H Q E → vs.length = ps.length
  run : ∀ (A : Around) (outer : List Env) (s : Shared) (H : Hp) (args : Args) (us : List Value) (vs : List V) (Q : VK) (E : XK), Room k A → A.guards = some [] →
    Env0 P w K mg base A outer s H → BindsTo s fd args (ps.zip us) → Vals vs us → sp vs H Q E → codeAny (model P w) A (.call (.ref f) args) (CR (L2.CX P w) outer P w H s Q E) s
theorem FnG.mono {P : Program} {w : World} {K : PySem.W.Frag} {mg : Str → Option Value} {base : Heap} {j k : Nat} {f : Addr} {fd : FuncData} {ps : List Str} {sp : Sp} (F : FnG P w K mg base j f fd ps sp) (h : j ≤ k) :
    FnG P w K mg base k f fd ps sp := { len := F.len, run := fun A outer s H args us vs Q E hr => F.run A outer s H args us vs Q E (hr.mono h) }

section
variable {S : Sx} {X : Cx} {k : Nat} {f : Addr} {fd : FuncData} {ps : List Str} {sp : Sp} {E : XK} {x : Str} {p pos : Pos} {e : Expr} {es : List Expr} {kws : List Keyword} {t tk : TA}
/-- the callee runs: its arguments in whatever way they bind -/
theorem runG {pins : List (Addr × Obj)} {σ : L2.St} {H : Hp} {s : Shared} {Q : VK} {args : Args} {us : List Value} {vs : List V} (F : FnG X.prog X.w X.K X.mg X.base k f fd ps sp) (hr : Room k X.A) (hgd : X.A.guards = some []) (hx : Passes (L2.CX X.prog X.w) X E)
    (I : Inv X pins σ H s) (hb : BindsTo s fd args (ps.zip us)) (r : Vals vs us) (h : sp vs H Q E) : wpAny (model X.prog X.w) X.A (call (.ref f) args.pos args.kw) (EP X pins σ Q) X.xe s := by
  refine wpAny_call (codeAny_mono (F.run X.A X.stack s H args us vs Q E hr hgd I.env0 hb r h) fun res s' hq => ?_)
  match res, hq with
  | .error e, hq => exact hx pins σ H s e s' I hq
  | .ok (.ret u), hq => exact I.after hq
  | .ok .next, hq => exact False.elim hq
  | .ok .brk, hq => exact False.elim hq
  | .ok .cont, hq => exact False.elim hq
def BindP (fd : FuncData) (ps : List Str) : Prop := ∀ us : List Value, us.length = ps.length → bindArgs fd ⟨us, []⟩ = pure (ps.zip us)
/-- positional values, keywords' values: how they come in the parameters' order, by places -/
def perm {α : Type} (pm : List Nat) (us ws : List α) : List α := pm.filterMap fun i => (us ++ ws)[i]?
def BindK (fd : FuncData) (ps : List Str) (n : Nat) (ks : List Str) (pm : List Nat) : Prop :=
  ∀ us ws : List Value, us.length = n → ws.length = ks.length → bindArgs fd ⟨us, ks.zip ws⟩ = pure (ps.zip (perm pm us ws))
theorem peG (F : FnG X.prog X.w X.K X.mg X.base k f fd ps sp) (hr : Room k X.A) (hgd : X.A.guards = some []) (hg : Gl X x) (hm : X.mg x = some (.ref f)) (hk : PySem.W.keepIn X.K (.ref f) = true) (hb : BindP fd ps) (hx : Passes (L2.CX X.prog X.w) X E)
    (ha : PA X (e :: es) t) (hd : (x == ("__debug__" : Str)) = false) (he : starEach (e :: es) X.env = (false, eval e X.env) :: starEach es X.env) (hpl : (backTo pos (starEach es X.env)).any (·.1) = false) :
    PE X (.Call (.Name x p) (e :: es) [] pos) (tCall sp [] E t) := by
  refine ⟨fun pins s σ H Q I h => wpAny_Call_Name_kw (ld_glob I hg hm ?_ hd)⟩
  refine PySem.W.callWith_K (h₀ := X.base) I.ok.mod.kin hk (thn (ha.run pos pins s σ H _ I h) fun us s1 hh => ?_) he hpl
  obtain ⟨vs, H1, I1, r, q⟩ := hh
  rw [List.append_nil] at q
  exact ⟨I1.kIn, runG (args := ⟨us, []⟩) F hr hgd hx I1 (.of_eq (hb us (by rw [← r.length]; exact F.len _ _ _ _ q))) r q⟩
theorem peG0 (F : FnG X.prog X.w X.K X.mg X.base k f fd ps sp) (hr : Room k X.A) (hgd : X.A.guards = some []) (hg : Gl X x) (hm : X.mg x = some (.ref f)) (hk : PySem.W.keepIn X.K (.ref f) = true) (hb : BindP fd ps) (hx : Passes (L2.CX X.prog X.w) X E)
    (hd : (x == ("__debug__" : Str)) = false) : PE X (.Call (.Name x p) [] [] pos) (tCall sp [] E tNil) := by
  refine ⟨fun pins s σ H Q I h => wpAny_Call_Name_kw (ld_glob I hg hm ?_ hd)⟩
  have h : sp [] H Q E := h
  exact PySem.W.callWith_K0 I.kIn hk (runG (args := ⟨[], []⟩) (us := []) F hr hgd hx I (.of_eq (hb [] (F.len _ _ _ _ h))) .nil h)
def tCallP (sp : Sp) (pm : List Nat) (n m : Nat) (E : XK) (t tk : TA) : TE := fun σ H Q => t σ H fun vs H1 => tk σ H1 fun zs H2 => vs.length = n ∧ zs.length = m ∧ sp (perm pm vs zs) H2 Q E
theorem Vals.perm {pm : List Nat} {vs zs : List V} {us ws : List Value} (r : Vals vs us) (rz : Vals zs ws) : Vals (perm pm vs zs) (perm pm us ws) := by
  have ra := r.append rz
  induction pm with
  | nil => exact .nil
  | cons i pm ih =>
    unfold GX.perm at ih ⊢
    rw [List.filterMap_cons, List.filterMap_cons]
    cases q : (vs ++ zs)[i]? with
    | none => rw [ra.none_of q]; exact ih
    | some v =>
      obtain ⟨u, h1, h2⟩ := ra.get q
      rw [h1]
      exact .cons h2 ih
theorem peGK0 {ks : List Str} {pm : List Nat} (F : FnG X.prog X.w X.K X.mg X.base k f fd ps sp) (hr : Room k X.A) (hgd : X.A.guards = some []) (hg : Gl X x) (hm : X.mg x = some (.ref f)) (hk : PySem.W.keepIn X.K (.ref f) = true)
    (hb : BindK fd ps 0 ks pm) (hx : Passes (L2.CX X.prog X.w) X E) (hkw : PK X kws tk)
    (hall : (backToKw pos (keywordEach kws X.env)).all (·.1.isSome) = true) (hks : (backToKw pos (keywordEach kws X.env)).filterMap (·.1) = ks)
    (hd : (x == ("__debug__" : Str)) = false) (hpl : (backToKw pos (keywordEach kws X.env)).any (·.1.isNone) = false) : PE X (.Call (.Name x p) [] kws pos) (tCallP sp pm 0 ks.length E tNil tk) := by
  refine ⟨fun pins s σ H Q I h => wpAny_Call_Name_kw (ld_glob I hg hm ?_ hd)⟩
  refine PySem.W.callWith_KW0 (h₀ := X.base) I.ok.mod.kin hk hall (thn (hkw.run pos pins s σ H _ I h) fun ws s2 hh => ?_) hpl
  obtain ⟨zs, H2, I2, rz, _, hl, q2⟩ := hh
  rw [hks]
  exact ⟨I2.kIn, runG (args := ⟨[], ks.zip ws⟩) F hr hgd hx I2 (.of_eq (hb [] ws rfl (by rw [← rz.length]; exact hl))) (Vals.perm .nil rz) q2⟩
theorem peGK {n : Nat} {ks : List Str} {pm : List Nat} (F : FnG X.prog X.w X.K X.mg X.base k f fd ps sp) (hr : Room k X.A) (hgd : X.A.guards = some []) (hg : Gl X x) (hm : X.mg x = some (.ref f)) (hk : PySem.W.keepIn X.K (.ref f) = true)
    (hb : BindK fd ps n ks pm) (hx : Passes (L2.CX X.prog X.w) X E) (ha : PA X (e :: es) t) (hkw : PK X kws tk)
    (hall : (backToKw pos (keywordEach kws X.env)).all (·.1.isSome) = true) (hks : (backToKw pos (keywordEach kws X.env)).filterMap (·.1) = ks)
    (hd : (x == ("__debug__" : Str)) = false) (he : starEach (e :: es) X.env = (false, eval e X.env) :: starEach es X.env)
    (hpl : ((backTo pos (starEach (e :: es) X.env)).any (·.1) || (backToKw pos (keywordEach kws X.env)).any (·.1.isNone)) = false) : PE X (.Call (.Name x p) (e :: es) kws pos) (tCallP sp pm n ks.length E t tk) := by
  refine ⟨fun pins s σ H Q I h => wpAny_Call_Name_kw (ld_glob I hg hm ?_ hd)⟩
  refine PySem.W.callWith_KW (h₀ := X.base) I.ok.mod.kin hk hall (thn (ha.run pos pins s σ H _ I h) fun us s1 hh => ?_) hpl he
  obtain ⟨vs, H1, I1, r, q⟩ := hh
  refine thn (hkw.run pos pins s1 σ H1 _ I1 q) fun ws s2 hh => ?_
  obtain ⟨zs, H2, I2, rz, hl1, hl, q2⟩ := hh
  rw [hks]
  exact ⟨I2.kIn, runG (args := ⟨us, ks.zip ws⟩) F hr hgd hx I2 (.of_eq (hb us ws (by rw [← r.length]; exact hl1) (by rw [← rz.length]; exact hl))) (Vals.perm r rz) q2⟩
end
/-! ## a def by its body -/
section
variable {Tq : List (Addr × Str)} {P : Program} {w : World} {K : PySem.W.Frag} {mg : Str → Option Value} {base : Heap} {k : Nat} {f : Addr} {fd : FuncData} {x qual : Str} {st : Stmt} {N ps : List Str} {sp : Sp}
def CdIs (K : PySem.W.Frag) (x qual : Str) (st : Stmt) (f : Addr) (cdv : Value) : Prop := ∃ oc od kV doc pm an ct osl, K.lookup f = some ⟨oc, od, .func (PySem.W.fnOf x qual (defArgs st) (defBody st) (defScope st) .none kV doc pm an cdv ct), osl⟩
theorem Fun.okG (F : Fun K x qual st f fd) (C : FnScope N ps (defScope st)) (len : ∀ vs H Q E, sp vs H Q E → vs.length = ps.length)
    (hbody : ∀ (cdv : Value), CdIs K x qual st f cdv → ∀ (A : Around) (outer : List Env) (s : Shared) (H : Hp) (vs : List V) (Q : VK) (E : XK), Room k (A.deeper (envOfC qual (defScope st) s.heap.objs.size f cdv)) → A.guards = some [] → sp vs H Q E →
      ∃ t, PSs (cxOf (L2.CX P w) P w K mg base N qual (defScope st) f cdv A outer s H E) (defBody st) t ∧ t { nx := fun _ H' => Q .non H', rt := Q } (L2.start N vs) H) :
    FnG P w K mg base (k + 1) f fd ps sp := by
  obtain ⟨oc, od, kV, doc, pm, an, cdv, ct, osl, rfl, lk, hcd⟩ := F.ex
  refine ⟨len, fun A outer s H args us vs Q E hr hgd e0 hb r hsp => ?_⟩
  have hl := len _ _ _ _ hsp
  have KX : K.In s.heap := e0.mod.kin.keeps fun b o e => (e0.bs b o e).1
  have lim : s.heap.NoLimit := e0.mod.nolimit.keeps fun b o e => (e0.bs b o e).1
  refine codeAny_call_function hr.depth (KX _ _ lk) rfl C.co C.gen rfl (PySem.W.codeRec_of KX hcd) (hb _ _ _ _ ?_)
  refine wpAny_newFunctionEnv_cells C.kind (fun y hy => ?_) fun env he s1 z => ?_
  · rcases C.par y.1 (List.of_mem_zip (a := y.1) (b := y.2) hy).1 with q | q
    · exact .inl q
    · exact .inr ⟨q, PySem.W.cellsFrom_some _ _ _ (.inl q)⟩
  subst he
  refine ⟨lim.keeps z.toInCall.keep, codeAny_func ?_⟩
  obtain ⟨t, ht, hq⟩ := hbody cdv ⟨_, _, _, _, _, _, _, _, lk⟩ A outer s H vs Q E (hr.deeper _) hgd hsp
  refine wpAny_mono (ht.run [] s1 (L2.start N vs) H _ (inv_start C hr.hd e0 hl r z) hq) (fun fl s' hs => ?_) fun e s' hs => hs
  match fl, hs with
  | .ret u, ⟨v, _, H', J, rv, q⟩ => exact ⟨v, H', J.os, J.bare, J.base, J.hok, rv, q⟩
  | .next, ⟨_, H', J, q⟩ => exact ⟨V.non, H', J.os, J.bare, J.base, J.hok, rfl, q⟩
  | .brk, ⟨_, _, _, q⟩ => exact False.elim q
  | .cont, ⟨_, _, _, q⟩ => exact False.elim q

def mkS (Tq : List (Addr × Str)) (P : Program) (w : World) (K : PySem.W.Frag) (mg : Str → Option Value) (base : Heap) (N : List Str) (sc : Scope) (k : Nat) (F0 H0 : Hp) (op : List (Addr × Kd × (List Da → Prop))) (E : Er) (cd : Value) (ql : Str) : Sx := ⟨P, w, K, mg, base, N, sc, k, F0, H0, op, E, fun _ => true, Tq, cd, ql, true, none, [], none, true⟩
def qlOf (qual : Str) (sc : Scope) : Str := (envOfC qual sc 0 0 .none).qual
theorem ok_body {cdv : Value} {A : Around} {outer : List Env} {s : Shared} {H F0 H0 : Hp} {op : List (Addr × Kd × (List Da → Prop))} {E : XK} {er : Er} (hr : Room k (A.deeper (envOfC qual (defScope st) s.heap.objs.size f cdv))) (hgd : A.guards = some []) (nd : N.Nodup)
    (hE : ∀ cls d σ H', (mkS Tq P w K mg base N (defScope st) k F0 H0 op er cdv (qlOf qual (defScope st))).WX cls d σ H' → E cls d H') :
    (mkS Tq P w K mg base N (defScope st) k F0 H0 op er cdv (qlOf qual (defScope st))).Ok (cxOf (L2.CX P w) P w K mg base N qual (defScope st) f cdv A outer s H E) where
  P := rfl
  w := rfl
  K := rfl
  mg := rfl
  base := rfl
  N := rfl
  sc := rfl
  calm := fun _ => rfl
  room := fun _ => hr
  un := Nat.lt_of_le_of_lt (Nat.add_le_add_right (Nat.le_add_right _ (16 * k)) 200) hr.un
  cel := fun _ z => nomatch z
  ce := fun _ z => nomatch z
  top := fun _ => ⟨rfl, rfl, fun _ => rfl⟩
  xc := fun _ _ _ _ z => nomatch z
  gd := hgd
  nd := nd
  tk := (takes_of (E := E) rfl rfl rfl rfl).imp fun c d σ H' h => hE c d σ H' h
  po := passes_of rfl
  fn := fun _ _ => .inl rfl
  cd := fun _ => rfl
  ql := fun _ => rfl
theorem start_get {N : List Str} {vs : List V} {i : Nat} {v : V} (h : vs[i]? = some v) : (L2.start N vs)[i]? = some (some v) := by
  unfold L2.start
  have hi : i < vs.length := (List.getElem?_eq_some_iff.mp h).1
  rw [List.getElem?_append_left (by simpa using hi), List.getElem?_map, h]; rfl
theorem Reps.get {H : Hp} : ∀ {ds : List Da} {vs : List V} {i : Nat} {d : Da}, Reps K H ds vs → ds[i]? = some d → ∃ v, vs[i]? = some v ∧ Rep K H d v
  | [], _, _, _, _, h => by simp at h
  | c :: ds, _, 0, d, r, h => by
    unfold Reps at r
    obtain ⟨x, l, rfl, r1, _⟩ := r
    simp at h; subst h
    exact ⟨x, rfl, r1⟩
  | c :: ds, _, i + 1, d, r, h => by
    unfold Reps at r
    obtain ⟨x, l, rfl, _, r2⟩ := r
    obtain ⟨v, h1, h2⟩ := Reps.get (i := i) r2 (by simpa using h)
    exact ⟨v, by simpa using h1, h2⟩
/-- the slots at a def's entry -/
def st0 (ds : List Da) (n : Nat) : List Slot := ds.map .dat ++ List.replicate (n - ds.length) .no
theorem st0_get {ds : List Da} {n i : Nat} {s : Slot} (h : (st0 ds n)[i]? = some s) : (∃ d, ds[i]? = some d ∧ s = .dat d) ∨ s = .no := by
  unfold st0 at h
  by_cases hi : i < ds.length
  · rw [List.getElem?_append_left (by simpa using hi), List.getElem?_map] at h
    cases e : ds[i]? with
    | none => rw [e] at h; cases h
    | some d => rw [e] at h; cases h; exact .inl ⟨d, rfl, rfl⟩
  · rw [List.getElem?_append_right (by simpa using hi), List.getElem?_replicate] at h
    split at h <;> cases h
    exact .inr rfl
theorem fnD {F : Fun K x qual st f fd} {spec : Fd} (C : FnScope N ps (defScope st)) (len : ∀ ds q er, spec ds q er → ds.length = ps.length)
    (body : ∀ (cdv : Value), CdIs K x qual st f cdv → ∀ (F0 H0 : Hp) ds q er, spec ds q er → EvB (mkS Tq P w K mg base N (defScope st) k F0 H0 [] er cdv (qlOf qual (defScope st))) (st0 ds N.length) (defBody st) { nx := fun _ => q .non, rt := q }) :
    FnG P w K mg base (k + 1) f fd ps (SpD K Tq spec) := by
  refine Fun.okG F C (fun vs H Q E h => ?_) fun cdv hcdv A outer s H vs Q E hr hgd h => ?_
  · obtain ⟨ds, Hf, q, er, _, _, r, h, _⟩ := h
    rw [r.len]; exact len ds q er h
  · obtain ⟨ds, Hf, q, er, e, tb, r, h, hQ, hE⟩ := h
    have hl := len ds q er h
    have hb := body cdv hcdv Hf (strip Tq H) ds q er h
    have hps : ps.length ≤ N.length := by
      have z := congrArg List.length C.pre
      rw [List.length_take] at z; omega
    have st0' : Stt (mkS Tq P w K mg base N (defScope st) k Hf (strip Tq H) [] er cdv (qlOf qual (defScope st))) (fun _ => none) (st0 ds N.length) Hf H (L2.start N vs) := by
      refine ⟨?_, tb⟩
      refine ⟨?_, Sub.refl _, e, fun q o h _ => h, fun q h => (nomatch h), fun i s h => ?_, fun i p k I h => ?_, fun p h1 h2 => absurd h2 h1, fun _ _ z => (nomatch z), fun p h => absurd rfl h, fun _ _ _ _ _ => rfl, fun i j p k l I J h => ?_⟩
      · unfold L2.start st0
        rw [List.length_append, List.length_map, List.length_replicate, List.length_append, List.length_map, List.length_replicate, r.len]
      · rcases st0_get h with ⟨d, h1, rfl⟩ | rfl
        · obtain ⟨v, h2, h3⟩ := r.get h1
          exact ⟨v, by rw [start_get h2]; rfl, h3⟩
        · trivial
      · rcases st0_get h with ⟨d, h1, z⟩ | z <;> cases z
      · rcases st0_get h with ⟨d, h1, z⟩ | z <;> cases z
    have gr : ∀ {Γ σ Hf' H'}, Stt (mkS Tq P w K mg base N (defScope st) k Hf (strip Tq H) [] er cdv (qlOf qual (defScope st))) (fun _ => none) Γ Hf' H' σ → (Gr Hf (strip Tq H) Hf' (strip Tq H') ∧ Sub (strip Tq H) (strip Tq H')) ∧ TabF Tq Hf' H' := fun z => ⟨⟨⟨z.z.ex0, z.z.ex, z.z.fr⟩, fun a o h => z.z.keep a o h (by exact List.not_mem_nil)⟩, z.tb⟩
    obtain ⟨t, h1, h2⟩ := hb (fun _ => none) (L2.start N vs) H Hf { nx := fun _ H' => Q .non H', rt := Q } st0' ⟨fun Γ σ Hf' H' _ z q => hQ .non .non Hf' H' (gr z).1.1 (gr z).1.2 (gr z).2 rfl q, fun d v Γ σ Hf' H' _ z _ rr q => hQ d v Hf' H' (gr z).1.1 (gr z).1.2 (gr z).2 rr q, fun _ _ _ _ _ _ z => z, fun _ _ _ _ _ _ z => z, fun _ _ _ _ _ _ _ _ _ _ _ _ _ z => z.elim⟩
    refine ⟨t, h1 _ (ok_body hr hgd C.nd fun cls d σ H' hw => ?_), h2⟩
    obtain ⟨Hf', fs, a1, a2, a4, a3, _, a5, a6, a7⟩ := hw
    exact hE cls d fs Hf' H' ⟨a1, a2, a4⟩ (fun a o h => a3 a o h (by exact List.not_mem_nil)) a7 a5 a6
theorem fnO {I : List Da → Prop} {F : Fun K x qual st f fd} {spec : Fd} (C : FnScope N ps (defScope st)) (len : ∀ ds q er, spec ds q er → ds.length + 1 = ps.length)
    (body : ∀ (cdv : Value), CdIs K x qual st f cdv → ∀ (F0 H0 : Hp) (p : Addr) ds q er, spec ds q er → EvB (mkS Tq P w K mg base N (defScope st) k F0 H0 [(p, .l, I)] er cdv (qlOf qual (defScope st))) (.inv p I :: st0 ds (N.length - 1)) (defBody st) { nx := fun Γ => Slot.inv p I ∈ Γ ∧ q .non, rt := q }) :
    FnG P w K mg base (k + 1) f fd ps (SpO K Tq I spec) := by
  refine Fun.okG F C (fun vs H Q E h => ?_) fun cdv hcdv A outer s H vs Q E hr hgd h => ?_
  · obtain ⟨p, us, ds, Hf, q, er, rfl, _, _, _, r, h, _⟩ := h
    rw [List.length_cons, r.len]; exact len ds q er h
  · obtain ⟨p, us, ds, Hf, q, er, rfl, e, tb, ow, r, h, hQ, hE⟩ := h
    have hl := len ds q er h
    have hb := body cdv hcdv Hf (strip Tq H) p ds q er h
    have hps : ps.length ≤ N.length := by
      have z := congrArg List.length C.pre
      rw [List.length_take] at z; omega
    have hN : N.length - us.length - 1 = N.length - 1 - us.length := by omega
    have es : L2.start N (V.ref p :: us) = some (V.ref p) :: (us.map some ++ List.replicate (N.length - 1 - us.length) none) := by
      unfold L2.start
      rw [List.map_cons, List.cons_append, List.length_cons, show N.length - (us.length + 1) = N.length - 1 - us.length by omega]
    have hsp : strip Tq H p ≠ none := by
      obtain ⟨_, _, _, z, _⟩ := ow
      rw [z]; exact fun z => nomatch z
    have st0' : Stt (mkS Tq P w K mg base N (defScope st) k Hf (strip Tq H) [(p, .l, I)] er cdv (qlOf qual (defScope st))) (fun _ => none) (.inv p I :: st0 ds (N.length - 1)) Hf H (L2.start N (V.ref p :: us)) := by
      refine ⟨?_, tb⟩
      refine ⟨?_, Sub.refl _, e, fun q o h _ => h, fun q h => ?_, fun i s h => ?_, fun i p' k' I' h => ?_, fun p h1 h2 => absurd h2 h1, fun _ _ z => (nomatch z), fun p h => absurd rfl h, fun _ _ _ _ _ => rfl, fun i j p' k' l' I' J h1 h2 => ?_⟩
      · rw [es, List.length_cons, List.length_cons]
        unfold st0
        rw [List.length_append, List.length_map, List.length_replicate, List.length_append, List.length_map, List.length_replicate, r.len]
      · rw [List.mem_singleton.mp h]; exact hsp
      · cases i with
        | zero =>
          cases h
          exact ⟨by rw [es]; rfl, ow⟩
        | succ i =>
          rcases st0_get (show (st0 ds (N.length - 1))[i]? = some s from h) with ⟨d, h1, rfl⟩ | rfl
          · obtain ⟨v, h2, h3⟩ := r.get h1
            refine ⟨v, ?_, h3⟩
            have hi : i < us.length := (List.getElem?_eq_some_iff.mp h2).1
            rw [es, List.getElem?_cons_succ, List.getElem?_append_left (by simpa using hi), List.getElem?_map, h2]; rfl
          · trivial
      · cases i with
        | zero => cases h; exact .inl (by exact List.mem_singleton.mpr rfl)
        | succ i => rcases st0_get (show (st0 ds (N.length - 1))[i]? = _ from h) with ⟨d, h1, z⟩ | z <;> cases z
      · cases i with
        | succ i => rcases st0_get (show (st0 ds (N.length - 1))[i]? = _ from h1) with ⟨d, h1, z⟩ | z <;> cases z
        | zero =>
          cases j with
          | zero => rfl
          | succ j => rcases st0_get (show (st0 ds (N.length - 1))[j]? = _ from h2) with ⟨d, h1, z⟩ | z <;> cases z
    have gr : ∀ {Γ σ Hf' H'}, Stt (mkS Tq P w K mg base N (defScope st) k Hf (strip Tq H) [(p, .l, I)] er cdv (qlOf qual (defScope st))) (fun _ => none) Γ Hf' H' σ → (Gr Hf (strip Tq H) Hf' (strip Tq H') ∧ (∀ a o, a ≠ p → strip Tq H a = some o → strip Tq H' a = some o)) ∧ TabF Tq Hf' H' :=
      fun z => ⟨⟨⟨z.z.ex0, z.z.ex, z.z.fr⟩, fun a o n h => z.z.keep a o h (fun m => n (List.mem_singleton.mp m))⟩, z.tb⟩
    have own : ∀ {Γ σ Hf' H'}, Stt (mkS Tq P w K mg base N (defScope st) k Hf (strip Tq H) [(p, .l, I)] er cdv (qlOf qual (defScope st))) (fun _ => none) Γ Hf' H' σ → (∃ I', Slot.inv p I' ∈ Γ ∧ ∀ ds, I' ds → I ds) → Own K Hf' (strip Tq H') p I := fun z ⟨I', m, hI⟩ => by
      obtain ⟨i, hi⟩ := List.mem_iff_getElem?.mp m
      exact (z.z.ownK hi).2.imp hI
    obtain ⟨t, h1, h2⟩ := hb (fun _ => none) (L2.start N (V.ref p :: us)) H Hf { nx := fun _ H' => Q .non H', rt := Q } st0' ⟨fun Γ σ Hf' H' _ z q => hQ .non .non Hf' H' (gr z).1.1 (gr z).1.2 (gr z).2 (own z ⟨I, q.1, fun _ z => z⟩) rfl q.2,
      fun d v Γ σ Hf' H' _ z oi rr q => hQ d v Hf' H' (gr z).1.1 (gr z).1.2 (gr z).2 (own z (oi (p, .l, I) (List.mem_singleton.mpr rfl))) rr q, fun _ _ _ _ _ _ z => z, fun _ _ _ _ _ _ z => z, fun _ _ _ _ _ _ _ _ _ _ _ _ _ z => z.elim⟩
    refine ⟨t, h1 _ (ok_body hr hgd C.nd fun cls d σ H' hw => ?_), h2⟩
    obtain ⟨Hf', fs, a1, a2, a4, a3, ao, a5, a6, a7⟩ := hw
    exact hE cls d fs Hf' H' ⟨a1, a2, a4⟩ (fun a o n h => a3 a o h (fun m => n (List.mem_singleton.mp m))) a7 (ao (p, .l, I) (List.mem_singleton.mpr rfl)) a5 a6
end

/-! ## calls of defs -/
/-- a def of the module that keeps a promise -/
structure Cal (P : Program) (w : World) (K : PySem.W.Frag) (mg : Str → Option Value) (base : Heap) (x qual : Str) (st : Stmt) (k : Nat) (ps : List Str) (sp : Sp) : Prop where
  ex : ∃ f fd, Fun K x qual st f fd ∧ mg x = some (.ref f) ∧ FnG P w K mg base k f fd ps sp
  bp : ∀ (kV doc pm : Value) (an : Option Addr) (cdv ct : Value) (us : List Value), us.length = ps.length → bindArgs (PySem.W.fnOf x qual (defArgs st) (defBody st) (defScope st) .none kV doc pm an cdv ct) ⟨us, []⟩ = pure (ps.zip us)
def BK (x qual : Str) (st : Stmt) (ps : List Str) (n : Nat) (ks : List Str) (pm : List Nat) : Prop :=
  ∀ (kV doc pm' : Value) (an : Option Addr) (cdv ct : Value) (us ws : List Value), us.length = n → ws.length = ks.length → bindArgs (PySem.W.fnOf x qual (defArgs st) (defBody st) (defScope st) .none kV doc pm' an cdv ct) ⟨us, ks.zip ws⟩ = pure (ps.zip (perm pm us ws))
theorem Cal.bind {P : Program} {w : World} {K : PySem.W.Frag} {mg : Str → Option Value} {base : Heap} {x qual : Str} {st : Stmt} {k : Nat} {ps : List Str} {sp : Sp} (c : Cal P w K mg base x qual st k ps sp) {f : Addr} {fd : FuncData} (F : Fun K x qual st f fd) : BindP fd ps := by
  obtain ⟨oc, od, kV, doc, pm, an, cdv, ct, osl, rfl, lk, hcd⟩ := F.ex
  exact fun us h => c.bp kV doc pm an cdv ct us h
theorem BK.bind {K : PySem.W.Frag} {x qual : Str} {st : Stmt} {ps : List Str} {n : Nat} {ks : List Str} {pm : List Nat} (c : BK x qual st ps n ks pm) {f : Addr} {fd : FuncData} (F : Fun K x qual st f fd) : BindK fd ps n ks pm := by
  obtain ⟨oc, od, kV, doc, pm, an, cdv, ct, osl, rfl, lk, hcd⟩ := F.ex
  exact fun us ws h1 h2 => c kV doc pm an cdv ct us ws h1 h2
section
variable {S : Sx} {Γ : List Slot} {e : Expr} {es : List Expr} {kws : List Keyword} {Q : Da → Prop} {p pos : Pos} {x qual : Str} {st : Stmt} {k : Nat} {ps : List Str} {spec : Fd} {I : List Da → Prop}
theorem Sx.Ok.passes {X : Cx} (ok : S.Ok X) : Passes (L2.CX X.prog X.w) X (fun cls d H => S.WX cls d [] H) := passes_call ok.tk fun _ _ _ _ h => h
theorem Stt.wx {PX Hf H : Hp} {σ : L2.St} (st : Stt S PX Γ Hf H σ) (hO : OpsIn S Γ) {cls : Value} {d : Option Addr} {fs : Option (List (Str × Da))} (xr : XRep S.K Hf d fs) (er : S.E cls fs) (σ' : L2.St) : S.WX cls d σ' H :=
  ⟨Hf, fs, st.ex0, st.z.ex, st.z.fr, st.z.keep, fun q hq => by
    obtain ⟨I', hm, hI⟩ := hO q hq
    obtain ⟨i, hi⟩ := List.mem_iff_getElem?.mp hm
    exact (st.z.ownK hi).2.imp hI, xr, er, st.tb⟩
theorem Stt0.growO {PX Hf H Hf' H' : Hp} {σ : L2.St} {i : Nat} {p : Addr} {kd : Kd} (st : Stt0 S PX Γ Hf H σ) (hi : Γ[i]? = some (.ow p kd I)) (g : Gr Hf H Hf' H') (k : ∀ a o, a ≠ p → H a = some o → H' a = some o) (ow : OwnK S.K Hf' H' p kd I) : Stt0 S PX Γ Hf' H' σ := by
  have np : ∀ q o, S.H0 q = some o → q ∉ S.op.map (·.1) → q ≠ p := fun q o h1 h2 z => by
    subst z
    rcases st.new i _ _ _ hi with c | c
    · exact h2 c
    · rw [h1] at c; cases c
  have npx : ∀ q, PX q ≠ none → q ≠ p := fun q h z => h (by rw [z]; exact st.pi i p _ I hi)
  refine ⟨st.len, st.ex0.trans g.f, g.e, fun q u h1 h2 => k _ _ (np q u h1 h2) (st.keep q u h1 h2), fun q h z => ?_, fun j s h => ?_, st.new, fun q h h2 => ?_, fun a o h => k a o (npx a (by rw [h]; exact fun z => nomatch z)) (st.px a o h), fun q h => ?_, st.pi, st.sep⟩
  rotate_right
  · cases c : Hf' q with
    | none => rfl
    | some u => exact absurd (st.px.free (g.n q (by rw [c]; exact fun z => nomatch z) (st.pf q h))) h
  · by_cases c : q.1 = p
    · obtain ⟨_, y⟩ := ow.at
      rw [c, y] at z; cases z
    · cases y : H q.1 with
      | none => exact st.ops q h y
      | some o => rw [k _ _ c y] at z; cases z
  · cases s with
    | no => trivial
    | dat d => exact (st.at_ j _ h).more g.f fun _ _ _ z => nomatch z
    | ow p' k' I' =>
      by_cases c : p' = p
      · subst c
        have z := st.sep j i _ _ _ _ _ h hi
        subst z
        rw [hi] at h; cases h
        exact ⟨(st.ownK hi).1, ow⟩
      · refine (st.at_ j _ h).more g.f fun p'' k'' I'' z => ?_
        cases z
        have z := st.ownH h
        refine ⟨?_, ?_⟩
        · cases y : Hf' p' with
          | none => rfl
          | some u => exact absurd (g.n p' (by rw [y]; exact fun z => nomatch z) (st.ownK h).2.free) z
        · cases y : H p' with
          | none => exact absurd y z
          | some u => exact k _ _ c y
    | rf a => exact st.at_ j _ h
    | vd d v => exact (st.at_ j _ h).more g.f fun _ _ _ z => nomatch z
  · by_cases c : Hf q = none
    · exact st.fresh0 (g.n q h c)
    · exact st.fr q c h2
theorem Stt.growO {PX Hf H Hf' H' : Hp} {σ : L2.St} {i : Nat} {p : Addr} {kd : Kd} (st : Stt S PX Γ Hf H σ) (hi : Γ[i]? = some (.ow p kd I)) (g : Gr Hf (strip S.T H) Hf' (strip S.T H')) (k : ∀ a o, a ≠ p → strip S.T H a = some o → strip S.T H' a = some o) (ow : OwnK S.K Hf' (strip S.T H') p kd I) (t : TabF S.T Hf' H') : Stt S PX Γ Hf' H' σ := ⟨st.z.growO hi g k ow, t⟩
theorem sp_call {σ : L2.St} {PX Hf H : Hp} {ds : List Da} {vs : List V} {k : VK} (st1 : Stt S PX Γ Hf H σ) (hO : OpsIn S Γ) (r : Reps S.K Hf ds vs) (q : spec ds Q S.E)
    (hk : ∀ d v Hf' H', Sub Hf Hf' → Stt S PX Γ Hf' H' σ → Rep S.K Hf' d v → Q d → k v H') : SpD S.K S.T spec vs H k (fun cls d H => S.WX cls d [] H) :=
  ⟨ds, Hf, Q, S.E, st1.z.ex, st1.tb, r, q, fun d v Hf' H' g kp t rr qq => hk d v Hf' H' g.f (st1.grow g.f g.e kp g.n t) rr qq, fun cls x fs Hf' H' g kp t xr er => (st1.grow g.f g.e kp g.n t).wx hO xr er []⟩
theorem ev_call (c : Cal S.P S.w S.K S.mg S.base x qual st k ps (SpD S.K S.T spec)) (hk : k ≤ S.k) (hg : GlS S x) (hO : OpsIn S Γ) (h : EvA S Γ (e :: es) fun ds => spec ds Q S.E)
    (hd : (x == ("__debug__" : Str)) = false := by decide) (he : ∀ env, starEach (e :: es) env = (false, eval e env) :: starEach es env := by intro _; rfl) (hpl : ∀ env, (backTo pos (starEach es env)).any (·.1) = false := by intro _; rfl) (hc : S.calm = true := by rfl) :
    EvE S Γ (.Call (.Name x p) (e :: es) [] pos) Q := by
  obtain ⟨f, fd, F, hm, G⟩ := c.ex
  refine ev_of (fun X ok => peG (sp := SpD S.K S.T spec) (E := fun cls d H => S.WX cls d [] H) (by rw [ok.P, ok.w, ok.K, ok.mg, ok.base]; exact G) ((ok.room hc).mono hk) ok.gd (hg.gl ok) (by rw [ok.mg]; exact hm) (by rw [ok.K]; exact F.kp) (c.bind F) ok.passes (puA ok) hd (he _) (hpl _)) ?_
  intro PX σ H Hf k st hk
  refine h PX σ H Hf _ st fun ds vs Hf1 H1 e1 st1 r1 q1 => ?_
  show SpD S.K S.T spec (vs ++ []) H1 k _
  rw [List.append_nil]
  exact sp_call st1 hO r1 q1 fun d v Hf' H' e2 => hk d v Hf' H' (e1.trans e2)
theorem ev_call0 (c : Cal S.P S.w S.K S.mg S.base x qual st k ps (SpD S.K S.T spec)) (hk : k ≤ S.k) (hg : GlS S x) (hO : OpsIn S Γ) (h : spec [] Q S.E)
    (hd : (x == ("__debug__" : Str)) = false := by decide) (hc : S.calm = true := by rfl) : EvE S Γ (.Call (.Name x p) [] [] pos) Q := by
  obtain ⟨f, fd, F, hm, G⟩ := c.ex
  refine ev_of (fun X ok => peG0 (sp := SpD S.K S.T spec) (E := fun cls d H => S.WX cls d [] H) (by rw [ok.P, ok.w, ok.K, ok.mg, ok.base]; exact G) ((ok.room hc).mono hk) ok.gd (hg.gl ok) (by rw [ok.mg]; exact hm) (by rw [ok.K]; exact F.kp) (c.bind F) ok.passes hd) ?_
  intro PX σ H Hf k st hk
  exact sp_call (ds := []) (vs := []) st hO rfl h fun d v Hf' H' e2 => hk d v Hf' H' e2
theorem Reps.app {K : PySem.W.Frag} {H : Hp} {zs : List Da} {ws : List V} (r2 : Reps K H zs ws) : ∀ {ds : List Da} {vs : List V}, Reps K H ds vs → Reps K H (ds ++ zs) (vs ++ ws)
  | [], _, r => by unfold Reps at r; subst r; exact r2
  | d :: ds, _, r => by
    unfold Reps at r
    obtain ⟨v, l, rfl, a, b⟩ := r
    exact ⟨v, l ++ ws, rfl, a, Reps.app r2 b⟩
theorem Reps.perm {K : PySem.W.Frag} {H : Hp} {pm : List Nat} {ds zs : List Da} {vs ws : List V} (r : Reps K H ds vs) (r2 : Reps K H zs ws) : Reps K H (perm pm ds zs) (perm pm vs ws) := by
  have ra : Reps K H (ds ++ zs) (vs ++ ws) := r2.app r
  induction pm with
  | nil => rfl
  | cons i pm ih =>
    unfold GX.perm at ih ⊢
    rw [List.filterMap_cons, List.filterMap_cons]
    cases q : (ds ++ zs)[i]? with
    | none =>
      have z := ra.len
      have y := List.getElem?_eq_none_iff.mp q
      rw [List.getElem?_eq_none_iff.mpr (by omega)]; exact ih
    | some d =>
      obtain ⟨v, h1, h2⟩ := ra.get q
      rw [h1]
      exact ⟨v, _, rfl, h2, ih⟩
/-- keywords alone, and behind positional arguments -/
theorem ev_callK0 {ks : List Str} {pm : List Nat} (c : Cal S.P S.w S.K S.mg S.base x qual st k ps (SpD S.K S.T spec)) (hb : BK x qual st ps 0 ks pm) (hk : k ≤ S.k) (hg : GlS S x) (hO : OpsIn S Γ)
    (h : EvK S Γ kws fun zs => zs.length = ks.length ∧ spec (perm pm [] zs) Q S.E)
    (hall : ∀ env, (backToKw pos (keywordEach kws env)).all (·.1.isSome) = true := by intro _; rfl) (hks : ∀ env, (backToKw pos (keywordEach kws env)).filterMap (·.1) = ks := by intro _; rfl)
    (hd : (x == ("__debug__" : Str)) = false := by decide) (hpl : ∀ env, (backToKw pos (keywordEach kws env)).any (·.1.isNone) = false := by intro _; rfl) (hc : S.calm = true := by rfl) : EvE S Γ (.Call (.Name x p) [] kws pos) Q := by
  obtain ⟨f, fd, F, hm, G⟩ := c.ex
  refine ev_of (fun X ok => peGK0 (sp := SpD S.K S.T spec) (E := fun cls d H => S.WX cls d [] H) (by rw [ok.P, ok.w, ok.K, ok.mg, ok.base]; exact G) ((ok.room hc).mono hk) ok.gd (hg.gl ok) (by rw [ok.mg]; exact hm) (by rw [ok.K]; exact F.kp) (hb.bind F) ok.passes (puK ok) (hall _) (hks _) hd (hpl _)) ?_
  intro PX σ H Hf k st hk
  show tUK S kws σ H fun zs H2 => _
  refine h PX σ H Hf _ st fun ds vs Hf1 H1 e1 st1 r1 q1 => ⟨rfl, by rw [r1.len]; exact q1.1, ?_⟩
  exact sp_call st1 hO (Reps.perm (ds := []) (vs := []) rfl r1) q1.2 fun d v Hf' H' e2 => hk d v Hf' H' (e1.trans e2)
theorem ev_callK {n : Nat} {ks : List Str} {pm : List Nat} (c : Cal S.P S.w S.K S.mg S.base x qual st k ps (SpD S.K S.T spec)) (hb : BK x qual st ps n ks pm) (hk : k ≤ S.k) (hg : GlS S x) (hO : OpsIn S Γ)
    (h : EvA S Γ (e :: es) fun ds => EvK S Γ kws fun zs => ds.length = n ∧ zs.length = ks.length ∧ spec (perm pm ds zs) Q S.E)
    (hall : ∀ env, (backToKw pos (keywordEach kws env)).all (·.1.isSome) = true := by intro _; rfl) (hks : ∀ env, (backToKw pos (keywordEach kws env)).filterMap (·.1) = ks := by intro _; rfl)
    (hd : (x == ("__debug__" : Str)) = false := by decide) (he : ∀ env, starEach (e :: es) env = (false, eval e env) :: starEach es env := by intro _; rfl)
    (hpl : ∀ env, ((backTo pos (starEach (e :: es) env)).any (·.1) || (backToKw pos (keywordEach kws env)).any (·.1.isNone)) = false := by intro _; rfl) (hc : S.calm = true := by rfl) : EvE S Γ (.Call (.Name x p) (e :: es) kws pos) Q := by
  obtain ⟨f, fd, F, hm, G⟩ := c.ex
  refine ev_of (fun X ok => peGK (sp := SpD S.K S.T spec) (E := fun cls d H => S.WX cls d [] H) (by rw [ok.P, ok.w, ok.K, ok.mg, ok.base]; exact G) ((ok.room hc).mono hk) ok.gd (hg.gl ok) (by rw [ok.mg]; exact hm) (by rw [ok.K]; exact F.kp) (hb.bind F) ok.passes (puA ok) (puK ok) (hall _) (hks _) hd (he _) (hpl _)) ?_
  intro PX σ H Hf k st hk
  refine h PX σ H Hf _ st fun ds vs Hf1 H1 e1 st1 r1 q1 => q1 PX σ H1 Hf1 _ st1 fun zs ws Hf2 H2 e2 st2 r2 q2 => ⟨by rw [r1.len]; exact q2.1, by rw [r2.len]; exact q2.2.1, ?_⟩
  exact sp_call st2 hO (Reps.perm (Reps.mono e2 _ _ r1) r2) q2.2.2 fun d v Hf' H' e3 => hk d v Hf' H' ((e1.trans e2).trans e3)
/-- f(own, ..): a list of the def's own is handed on, it may change within I -/
theorem ev_callO {i : Nat} {y : Str} {py : Pos} {a : Addr} (c : Cal S.P S.w S.K S.mg S.base x qual st k ps (SpO S.K S.T I spec)) (hk : k ≤ S.k) (hg : GlS S x) (hO : OpsIn S Γ)
    (hN : S.N[i]? = some y) (hv : Vis S.sc y) (hΓ : Γ[i]? = some (.inv a I)) (h : EvA S Γ es fun ds => spec ds Q S.E)
    (hd : (x == ("__debug__" : Str)) = false := by decide) (hd' : (y == ("__debug__" : Str)) = false := by decide) (hcd : (y == ("__classdict__" : Str)) = false := by decide) (hpl : ∀ env, (backTo pos (starEach es env)).any (·.1) = false := by intro _; rfl) (hc : S.calm = true := by rfl) :
    EvE S Γ (.Call (.Name x p) (.Name y py :: es) [] pos) Q := by
  obtain ⟨f, fd, F, hm, G⟩ := c.ex
  refine ev_of (fun X ok => peG (sp := SpO S.K S.T I spec) (E := fun cls d H => S.WX cls d [] H) (by rw [ok.P, ok.w, ok.K, ok.mg, ok.base]; exact G) ((ok.room hc).mono hk) ok.gd (hg.gl ok) (by rw [ok.mg]; exact hm) (by rw [ok.K]; exact F.kp) (c.bind F) ok.passes
    (pa_cons (pe_var (i := i) (by rw [ok.N]; exact hN) (by rw [ok.sc]; exact hv) hd' hcd) (puA ok)) hd rfl (hpl _)) ?_
  intro PX σ H Hf k st hk
  have o1 := (st.own hΓ).1
  refine ⟨.ref a, ?_, ?_⟩
  · cases z : σ[i]? with
    | none => rw [z] at o1; cases o1
    | some o => rw [z] at o1; exact congrArg some o1
  refine h PX σ H Hf _ st fun ds vs Hf1 H1 e1 st1 r1 q1 => ?_
  show SpO S.K S.T I spec ((.ref a :: vs) ++ []) H1 k _
  rw [List.append_nil]
  refine ⟨a, vs, ds, Hf1, Q, S.E, rfl, st1.z.ex, st1.tb, (st1.z.own hΓ).2, r1, q1, fun d v Hf' H' g kp t ow rr qq => ?_, fun cls x fs Hf' H' g kp t ow xr er => ?_⟩
  · exact hk d v Hf' H' (e1.trans g.f) (st1.growO hΓ g kp ow t) rr qq
  · exact (st1.growO hΓ g kp ow t).wx hO xr er []
end

/-! ## targets, statements -/
section
variable {S : Sx} {Γ : List Slot} {e a b c : Expr} {es : List Expr} {sts body orelse : List Stmt} {st : Stmt} {D : EnG} {Q : List Slot → Prop} {p pos spos : Pos} {x : Str} {i : Nat} {d : Da} {W : Nat → Bool}
/-- a slot is stored -/
theorem Stt0.set {PX Hf H : Hp} {σ : L2.St} {v : V} (st : Stt0 S PX Γ Hf H σ) (r : Rep S.K Hf d v) (i : Nat) : Stt0 S PX (Γ.set i (.dat d)) Hf H (σ.set i (some v)) := by
  refine ⟨by rw [List.length_set, List.length_set]; exact st.len, st.ex0, st.ex, st.keep, st.ops, fun j s h => ?_, fun j q k I h => ?_, st.fr, st.px, st.pf, fun j q k I h => ?_, fun j l q k k' I J h1 h2 => ?_⟩
  · by_cases hj : i = j
    · subst hj
      have hi : i < Γ.length := by
        have z := (List.getElem?_eq_some_iff.mp h).1
        rwa [List.length_set] at z
      rw [List.getElem?_set_self hi] at h
      cases h
      exact ⟨v, by rw [List.getElem?_set_self (by rw [st.len]; exact hi)]; rfl, r⟩
    · rw [List.getElem?_set_ne hj] at h ⊢
      exact st.at_ j s h
  · by_cases hj : i = j
    · subst hj
      have hi : i < Γ.length := by
        have z := (List.getElem?_eq_some_iff.mp h).1
        rwa [List.length_set] at z
      rw [List.getElem?_set_self hi] at h; cases h
    · rw [List.getElem?_set_ne hj] at h
      exact st.new j q k I h
  · by_cases hj : i = j
    · subst hj
      have hi : i < Γ.length := by
        have z := (List.getElem?_eq_some_iff.mp h).1
        rwa [List.length_set] at z
      rw [List.getElem?_set_self hi] at h; cases h
    · rw [List.getElem?_set_ne hj] at h
      exact st.pi j q k I h
  · have ne : ∀ j k I, (Γ.set i (.dat d))[j]? = some (Slot.ow q k I) → Γ[j]? = some (Slot.ow q k I) := fun j k I h => by
      by_cases hj : i = j
      · subst hj
        have hi : i < Γ.length := by
          have z := (List.getElem?_eq_some_iff.mp h).1
          rwa [List.length_set] at z
        rw [List.getElem?_set_self hi] at h; cases h
      · rwa [List.getElem?_set_ne hj] at h
    exact st.sep j l q k k' I J (ne j k I h1) (ne l k' J h2)
theorem Stt.set {PX Hf H : Hp} {σ : L2.St} {v : V} (st : Stt S PX Γ Hf H σ) (r : Rep S.K Hf d v) (i : Nat) : Stt S PX (Γ.set i (.dat d)) Hf H (σ.set i (some v)) := ⟨st.z.set r i, st.tb⟩
theorem eg_name (hN : S.N[i]? = some x) (hx : Loc S.sc x) (q : Q (Γ.set i (.dat d))) (hst : S.stor x = true := by rfl) (hW : W i = true := by rfl) : EvG S W Γ (.Name x p) d Q := fun PX v σ H Hf k st r hk =>
  ⟨gName i, fun X ok => pg_name (by rw [ok.N]; exact ok.nd) (by rw [ok.N]; exact hN) (by rw [ok.sc]; exact hx) (ok.fn x hst), hk _ _ Hf H (Sub.refl _) (st.set r i) (.set hW) q⟩
/-- several targets, one after another -/
def EvGs (S : Sx) (W : Nat → Bool) (Γ : List Slot) (es : List Expr) (ds : List Da) (Q : List Slot → Prop) : Prop := ∀ PX vs σ H Hf k, Stt S PX Γ Hf H σ → Reps S.K Hf ds vs →
  (∀ Γ' σ' Hf' H', Sub Hf Hf' → Stt S PX Γ' Hf' H' σ' → Alt W Γ σ Γ' σ' → Q Γ' → k σ' H') → ∃ t : TGs, (∀ X, S.Ok X → PGs X es t) ∧ t vs σ H k
def tUGs (S : Sx) (es : List Expr) : TGs := fun vs σ H Q => ∃ t : TGs, (∀ X, S.Ok X → PGs X es t) ∧ t vs σ H Q
theorem puGs {X : Cx} (ok : S.Ok X) : PGs X es (tUGs S es) := ⟨fun pins s σ H vs us Q I r ⟨_, h, q⟩ => (h X ok).run pins s σ H vs us Q I r q⟩
theorem egs_nil (q : Q Γ) : EvGs S W Γ [] [] Q := fun PX vs σ H Hf k st r hk => ⟨_, fun _ _ => pgs_nil, r, hk Γ σ Hf H (Sub.refl _) st .refl q⟩
theorem egs_cons {ds : List Da} (h : EvG S W Γ e d fun Γ' => EvGs S W Γ' es ds Q) (hs : ∀ env, (assignEach (e :: es) env).map (·.2) = assign e env :: (assignEach es env).map (·.2) := by intro _; rfl) : EvGs S W Γ (e :: es) (d :: ds) Q := fun PX vs σ H Hf k st r hk => by
  unfold Reps at r
  obtain ⟨v, l, rfl, r1, r2⟩ := r
  refine ⟨_, fun X ok => pgs_cons (puG ok) (puGs ok) (hs _), v, l, rfl, h PX v σ H Hf _ st r1 fun Γ1 σ1 Hf1 H1 e1 st1 a1 q1 => ?_⟩
  exact q1 PX l σ1 H1 Hf1 k st1 (Reps.mono e1 _ _ r2) fun Γ' σ' Hf' H' e2 s2 a2 => hk Γ' σ' Hf' H' (e1.trans e2) s2 (a1.trans a2)

theorem eg_tup {ds : List Da} {kk : Nat} (h : EvGs S W Γ es ds Q) (hn : ∀ env, (assignEach es env).length = ds.length := by intro _; rfl) (hst : ∀ env, (assignEach es env).findIdx? (·.1) = none := by intro _; rfl) (hc : S.calm = true := by rfl) : EvG S W Γ (.Tuple es kk pos) (.tup ds) Q := fun PX v σ H Hf k st r hk => by
  unfold Rep at r
  obtain ⟨a, xs, rfl, r1, r2⟩ := r
  refine ⟨gTup S.K ds.length (tUGs S es), fun X ok => ?_, a, xs, rfl, st.ex.st r1, r2.len, h PX xs σ H Hf k st r2 hk⟩
  have z := pg_tup (pos := pos) (k := kk) (ok.calm hc) (puGs (es := es) ok) (hn X.env) (hst X.env)
  rw [ok.K] at z; exact z
theorem es_of {t : TS} (h : ∀ X, S.Ok X → PS X st t) (q : ∀ PX σ H Hf D', Stt S PX Γ Hf H σ → EnOk S PX Hf D D' → t D' σ H) : EvS S Γ st D := fun PX σ H Hf D' s k => ⟨t, h, q PX σ H Hf D' s k⟩
theorem eb_nil (q : D.nx Γ) : EvB S Γ [] D := fun PX σ H Hf D' s k => ⟨_, fun _ _ => pss_nil, k.nx Γ σ Hf H (Sub.refl _) s q⟩
theorem eb_cons (h : EvS S Γ st { D with nx := fun Γ' => EvB S Γ' sts D }) : EvB S Γ (st :: sts) D := fun PX σ H Hf D' s k =>
  ⟨_, fun X ok => pss_cons (puS ok) (puB ok), h PX σ H Hf { D' with nx := tUB S sts D' } s ⟨fun Γ' σ' Hf' H' e s' q => q PX σ' H' Hf' D' s' (k.mono e), k.rt, k.bk, k.ct, k.rr⟩⟩
/-- the way joins -/
theorem EvS.cut (G : List Slot → Prop) (h : EvS S Γ st { D with nx := G }) (q : ∀ Γ', G Γ' → D.nx Γ') : EvS S Γ st D := fun PX σ H Hf D' s k =>
  h PX σ H Hf D' s ⟨fun Γ' σ' Hf' H' e s' g => k.nx Γ' σ' Hf' H' e s' (q Γ' g), k.rt, k.bk, k.ct, k.rr⟩
theorem es_pass (q : D.nx Γ) : EvS S Γ (.Pass pos) D := es_of (fun _ _ => ps_pass) fun PX σ H Hf D' s k => k.nx Γ σ Hf H (Sub.refl _) s q
theorem es_break (q : D.bk Γ) : EvS S Γ (.Break pos) D := es_of (fun _ _ => ps_break) fun PX σ H Hf D' s k => k.bk Γ σ Hf H (Sub.refl _) s q
theorem es_cont (q : D.ct Γ) : EvS S Γ (.Continue pos) D := es_of (fun _ _ => ps_continue) fun PX σ H Hf D' s k => k.ct Γ σ Hf H (Sub.refl _) s q
theorem es_expr (h : EvE S Γ e fun _ => D.nx Γ) (hs : ∀ env, swapsWith e none pos.line env = pure false := by intro _; rfl) : EvS S Γ (.Expr e pos) D :=
  es_of (fun X ok => ps_expr (pu ok) (hs _)) fun PX σ H Hf D' s k => h PX σ H Hf _ s fun d v Hf' H' e s' _ q => k.nx Γ σ Hf' H' e s' q
theorem es_ret (hO : OpsIn S Γ) (h : EvE S Γ e D.rt) : EvS S Γ (.Return (some e) pos) D :=
  es_of (fun X ok => ps_ret (pu ok)) fun PX σ H Hf D' s k => h PX σ H Hf _ s fun d v Hf' H' e s' r q => k.rt d v Γ σ Hf' H' e s' hO r q
theorem es_retN (hO : OpsIn S Γ) (q : D.rt .non) : EvS S Γ (.Return none pos) D :=
  es_of (fun X ok => ps_retN) fun PX σ H Hf D' s k => k.rt .non .non Γ σ Hf H (Sub.refl _) s hO rfl q
theorem es_if (h : EvT S Γ c fun t => cond t (EvB S Γ body D) (EvB S Γ orelse D)) : EvS S Γ (.If c body orelse pos) D :=
  es_of (fun X ok => ps_if (puT ok) (puB ok) (puB ok)) fun PX σ H Hf D' s k => h PX σ H Hf _ s fun t Hf1 H1 e1 s1 q => cond_ite (by
    cases t with
    | true => exact q PX σ H1 Hf1 D' s1 (k.mono e1)
    | false => exact q PX σ H1 Hf1 D' s1 (k.mono e1))
theorem es_asg (h : EvE S Γ e fun d => EvG S anyW Γ a d D.nx) (hs : ∀ env, swapsWithSole [a] e spos.line env = pure false := by intro _; rfl) (hw : ∀ env : Env, env.scope = S.sc → swappedStores [a] e env = pure none := by intro _ _; rfl) (h1 : ∀ env, (assignEach [a] env).map (·.2) = [assign a env] := by intro _; rfl) : EvS S Γ (.Assign [a] e spos) D :=
  es_of (fun X ok => ps_asg (pu ok) (puG ok) (hs _) (hw _ ok.sc) (h1 _)) fun PX σ H Hf D' s k => h PX σ H Hf _ s fun d v Hf1 H1 e1 s1 r q => q PX v σ H1 Hf1 _ s1 r fun Γ' σ' Hf' H' e2 s2 _ g => k.nx Γ' σ' Hf' H' (e1.trans e2) s2 g
theorem es_set (hN : S.N[i]? = some x) (hx : Loc S.sc x) (h : EvE S Γ e fun d => D.nx (Γ.set i (.dat d))) (hs : ∀ env, swapsWith e (some (.Name x p)) spos.line env = pure false := by intro _; rfl) (hst : S.stor x = true := by rfl) : EvS S Γ (.Assign [.Name x p] e spos) D :=
  es_of (fun X ok => ps_set (i := i) (by rw [ok.N]; exact ok.nd) (by rw [ok.N]; exact hN) (by rw [ok.sc]; exact hx) (pu ok) (hs _) (ok.fn x hst)) fun PX σ H Hf D' s k => h PX σ H Hf _ s fun d v Hf1 H1 e1 s1 r q =>
    k.nx _ _ Hf1 H1 e1 (s1.set r i) q
/-- two plain names at once -/
theorem es_par {j : Nat} {y : Str} {py pt pt2 : Pos} {kt k2} (hN : S.N[i]? = some x) (hM : S.N[j]? = some y) (hij : i ≠ j) (hx : S.sc.names.lookup x = some .local) (hy : S.sc.names.lookup y = some .local) (hxy : x ≠ y)
    (hw : ∀ env : Env, env.scope = S.sc → swappedStores [.Tuple [.Name x p, .Name y py] kt pt] (.Tuple [a, b] k2 pt2) env = pure (some [x, y]))
    (h : EvE S Γ a fun d => EvE S Γ b fun d' => D.nx ((Γ.set i (.dat d)).set j (.dat d')))
    (he : ∀ env, starEach [a, b] env = (false, eval a env) :: starEach [b] env := by intro _; rfl) (he2 : ∀ env, starEach [b] env = (false, eval b env) :: starEach [] env := by intro _; rfl)
    (hs : ∀ env, swapsWithSole [.Tuple [.Name x p, .Name y py] kt pt] (.Tuple [a, b] k2 pt2) spos.line env = pure false := by intro _; rfl) (hc : S.calm = true := by rfl) :
    EvS S Γ (.Assign [.Tuple [.Name x p, .Name y py] kt pt] (.Tuple [a, b] k2 pt2) spos) D :=
  es_of (fun X ok => ps_par (ok.calm hc) (by rw [ok.N]; exact ok.nd) (by rw [ok.N]; exact hN) (by rw [ok.N]; exact hM) hij (by rw [ok.sc]; exact hx) (by rw [ok.sc]; exact hy)
    (pa_cons (pu ok) (pa_cons (pu ok) pa_nil (he2 _)) (he _)) (hw _ ok.sc) (hs _)) fun PX σ H Hf D' s k => h PX σ H Hf _ s fun d v Hf1 H1 e1 s1 r q => q PX σ H1 Hf1 _ s1 fun d' v' Hf2 H2 e2 s2 r2 q2 =>
      ⟨v, v', rfl, k.nx _ _ Hf2 H2 (e1.trans e2) ((s2.set (Rep.mono e2 _ _ r) i).set r2 j) q2⟩
/-- x op= e of a name -/
theorem es_aug {op : Operator} {r : Da → Da → (Da → Prop) → Prop} (ho : ∃ rr : TIp, (∀ X, S.Ok X → PIp X op rr) ∧ ∀ PX Γ σ Hf H x y v u (Q : Da → Prop) k, Stt S PX Γ Hf H σ → Rep S.K Hf x v → Rep S.K Hf y u → r x y Q →
      (∀ d v Hf' H', Sub Hf Hf' → Stt S PX Γ Hf' H' σ → Rep S.K Hf' d v → Q d → k v H') → rr v u H k) (hN : S.N[i]? = some x) (hx : Loc S.sc x) (hΓ : Γ[i]? = some (.dat d))
    (h : EvE S Γ e fun d' => r d d' fun d2 => D.nx (Γ.set i (.dat d2))) (hst : S.stor x = true := by rfl) : EvS S Γ (.AugAssign (.Name x p) op e spos) D := by
  obtain ⟨rr, h1, h2⟩ := ho
  refine es_of (fun X ok => ps_aug (i := i) (by rw [ok.N]; exact ok.nd) (by rw [ok.N]; exact hN) (by rw [ok.sc]; exact hx) (pu ok) (h1 X ok) (ok.fn x hst)) fun PX σ H Hf D' s k => ?_
  obtain ⟨v, ev, rv⟩ := s.at_ i _ hΓ
  refine ⟨v, ?_, h PX σ H Hf _ s fun d' v' Hf1 H1 e1 s1 r1 q1 => ?_⟩
  · cases z : σ[i]? with
    | none => rw [z] at ev; cases ev
    | some o => rw [z] at ev; exact congrArg some ev
  · exact h2 PX Γ σ Hf1 H1 d d' v v' _ _ s1 (Rep.mono e1 _ _ rv) r1 q1 fun d2 v2 Hf2 H2 e2 s2 r2 q2 => k.nx _ _ Hf2 H2 (e1.trans e2) (s2.set r2 i) q2
theorem ipg {op : Operator} {f : Int → Int → Int} (ho : ∀ X : Cx, PIp X op (ipI f)) : ∃ rr : TIp, (∀ X, S.Ok X → PIp X op rr) ∧ ∀ PX Γ σ Hf H x y v u (Q : Da → Prop) k, Stt S PX Γ Hf H σ → Rep S.K Hf x v → Rep S.K Hf y u → (asInt x fun i => asInt y fun j => Q (.int (f i j))) →
      (∀ d v Hf' H', Sub Hf Hf' → Stt S PX Γ Hf' H' σ → Rep S.K Hf' d v → Q d → k v H') → rr v u H k :=
  ⟨_, fun X _ => ho X, fun PX Γ σ Hf H x y v u Q k s rx ry h hk => by
    obtain ⟨i, rfl, h1⟩ := asInt_ h
    obtain ⟨j, rfl, h2⟩ := asInt_ h1
    exact ⟨i, j, rx, ry, hk (.int (f i j)) _ Hf H (Sub.refl _) s rfl h2⟩⟩
theorem es_add (hN : S.N[i]? = some x) (hx : Loc S.sc x) (hΓ : Γ[i]? = some (.dat d)) (h : EvE S Γ e fun d' => asInt d fun i' => asInt d' fun j => D.nx (Γ.set i (.dat (.int (i' + j))))) (hst : S.stor x = true := by rfl) : EvS S Γ (.AugAssign (.Name x p) .Add e spos) D :=
  es_aug (ipg fun _ => ip_add) hN hx hΓ h hst
theorem es_sub (hN : S.N[i]? = some x) (hx : Loc S.sc x) (hΓ : Γ[i]? = some (.dat d)) (h : EvE S Γ e fun d' => asInt d fun i' => asInt d' fun j => D.nx (Γ.set i (.dat (.int (i' - j))))) (hst : S.stor x = true := by rfl) : EvS S Γ (.AugAssign (.Name x p) .Sub e spos) D :=
  es_aug (ipg fun _ => ip_sub) hN hx hΓ h hst
end

/-! ## what is walked -/
/-- the iterator gives the items ds, one a turn -/
structure Yld (S : Sx) (J : It) (ds : List Da) (Hf : Hp) : Prop where
  go : ∀ i Hf' H', Sub Hf Hf' → Sub Hf' H' → i < ds.length → J.go i H'
  stop : ∀ i Hf' H', Sub Hf Hf' → Sub Hf' H' → ds.length ≤ i → J.stop i H'
  yld : ∀ PX i x Γ σ Hf' H' H'', Sub Hf Hf' → Stt S PX Γ Hf' H' σ → i < ds.length → J.yld i H' x H'' → ∃ Hf'' d, Sub Hf' Hf'' ∧ Stt S PX Γ Hf'' H'' σ ∧ ds[i]? = some d ∧ Rep S.K Hf'' d x
def EvI (S : Sx) (Γ : List Slot) (tg it : Expr) (Q : List Da → Prop) : Prop := ∀ PX σ H Hf k, Stt S PX Γ Hf H σ →
  (∀ ds J Hf' H', Sub Hf Hf' → Stt S PX Γ Hf' H' σ → Yld S J ds Hf' → Q ds → k J H') → ∃ w : TI, (∀ X, S.Ok X → PI X tg it w) ∧ w σ H k
def tUI (S : Sx) (tg it : Expr) : TI := fun σ H R => ∃ w : TI, (∀ X, S.Ok X → PI X tg it w) ∧ w σ H R
theorem puI {S : Sx} {X : Cx} {tg it : Expr} (ok : S.Ok X) : PI X tg it (tUI S tg it) := ⟨fun pins s σ H R I ⟨_, h, q⟩ => (h X ok).run pins s σ H R I q⟩
theorem Yld.mono {S : Sx} {J : It} {ds : List Da} {Hf Hf' : Hp} (h : Yld S J ds Hf) (e : Sub Hf Hf') : Yld S J ds Hf' :=
  ⟨fun i a b c => h.go i a b (e.trans c), fun i a b c => h.stop i a b (e.trans c), fun PX i x Γ σ a b c d => h.yld PX i x Γ σ a b c (e.trans d)⟩
theorem Reps.at {K : PySem.W.Frag} {H : Hp} {ds : List Da} {vs : List V} {i : Nat} (r : Reps K H ds vs) (hi : i < ds.length) : ∃ d v, ds[i]? = some d ∧ vs[i]? = some v ∧ Rep K H d v := by
  have e := List.getElem?_eq_getElem hi
  obtain ⟨v, h1, h2⟩ := r.get e
  exact ⟨_, v, e, h1, h2⟩
section
variable {S : Sx} {Γ : List Slot} {e a b c tg it elt : Expr} {es : List Expr} {sts body orelse : List Stmt} {st : Stmt} {D : EnG} {p pos spos : Pos} {x : Str} {i : Nat} {d : Da}
theorem ei_seq {Q : List Da → Prop} (h : EvE S Γ e fun d => asLst d Q) : EvI S Γ tg e Q := fun PX σ H Hf k st hk => ⟨iList S.K (tU S e), fun X ok => by
    have z := pi_list (tg := tg) (pu (e := e) ok)
    rw [ok.K] at z; exact z, h PX σ H Hf _ st fun d v Hf1 H1 e1 st1 r q => by
  obtain ⟨ds, rfl, q⟩ := asLst_ q
  unfold Rep at r
  obtain ⟨a, xs, rfl, r1, r2⟩ := r
  refine ⟨a, rfl, ⟨xs, st1.ex.sl r1⟩, hk ds _ Hf1 H1 e1 st1 ⟨fun i Hf' H' e e' hi => ?_, fun i Hf' H' e e' hi => ⟨xs, e'.sl (e.sl r1), by rw [r2.len]; exact hi⟩, fun PX i x Γ σ Hf' H' H'' e s hi y => ?_⟩ q⟩
  · obtain ⟨d, v, h1, h2, h3⟩ := r2.at hi
    exact ⟨xs, v, e'.sl (e.sl r1), h2⟩
  · obtain ⟨rfl, y⟩ := y
    obtain ⟨d, v, h1, h2, h3⟩ := r2.at hi
    have z := (y xs (s.ex.sl (e.sl r1))).symm.trans h2
    cases z
    exact ⟨Hf', d, Sub.refl _, s, h1, Rep.mono e _ _ h3⟩⟩
theorem ei_tup {Q : List Da → Prop} (h : EvE S Γ e fun d => asTup d Q) : EvI S Γ tg e Q := fun PX σ H Hf k st hk => ⟨iTup S.K (tU S e), fun X ok => by
    have z := pi_tup (tg := tg) (pu (e := e) ok)
    rw [ok.K] at z; exact z, h PX σ H Hf _ st fun d v Hf1 H1 e1 st1 r q => by
  obtain ⟨ds, rfl, q⟩ := asTup_ q
  unfold Rep at r
  obtain ⟨a, xs, rfl, r1, r2⟩ := r
  refine ⟨a, rfl, ⟨xs, st1.ex.st r1⟩, hk ds _ Hf1 H1 e1 st1 ⟨fun i Hf' H' e e' hi => ?_, fun i Hf' H' e e' hi => ⟨xs, e'.st (e.st r1), by rw [r2.len]; exact hi⟩, fun PX i x Γ σ Hf' H' H'' e s hi y => ?_⟩ q⟩
  · obtain ⟨d, v, h1, h2, h3⟩ := r2.at hi
    exact ⟨xs, v, e'.st (e.st r1), h2⟩
  · obtain ⟨rfl, y⟩ := y
    obtain ⟨d, v, h1, h2, h3⟩ := r2.at hi
    have z := (y xs (s.ex.st (e.st r1))).symm.trans h2
    cases z
    exact ⟨Hf', d, Sub.refl _, s, h1, Rep.mono e _ _ h3⟩⟩
def rngD (lo : Int) (n : Nat) : List Da := (List.range n).map fun i : Nat => Da.int (lo + (i : Int))
theorem rngD_len {lo : Int} {n : Nat} : (rngD lo n).length = n := by unfold rngD; rw [List.length_map, List.length_range]
theorem rngD_get {lo : Int} {n i : Nat} (h : i < n) : (rngD lo n)[i]? = some (.int (lo + (i : Int))) := by
  unfold rngD; rw [List.getElem?_map, List.getElem?_range h]; rfl
theorem yld_r {Hf : Hp} {lo : Int} {n : Nat} : Yld S (Itr lo n) (rngD lo n) Hf := by
  refine ⟨fun i Hf' H' _ _ hi => by rw [rngD_len] at hi; exact hi, fun i Hf' H' _ _ hi => by rw [rngD_len] at hi; exact hi, fun PX i x Γ σ Hf' H' H'' _ s hi y => ?_⟩
  obtain ⟨rfl, rfl⟩ := y
  rw [rngD_len] at hi
  exact ⟨Hf', _, Sub.refl _, s, rngD_get hi, rfl⟩
abbrev Rg (j : Int) : Prop := -(2 ^ 62) ≤ j ∧ j < 2 ^ 62
theorem ei_range1 {Q : List Da → Prop} {q : Pos} (hg : GlS S "range") (hm : S.mg "range" = none) (h : EvE S Γ a fun d => asInt d fun j => Rg j ∧ Q (rngD 0 j.toNat))
    (hs : ∀ env, starEach [a] env = (false, eval a env) :: starEach [] env := by intro _; rfl) : EvI S Γ tg (.Call (.Name "range" p) [a] [] q) Q := fun PX σ H Hf k st hk =>
  ⟨iRng1 (tCons (tU S a) tNil), fun X ok => pi_range1 (hg.gl ok) (by rw [ok.mg]; exact hm) (pa_cons (pu ok) pa_nil (hs _)) (hs _), h PX σ H Hf _ st fun d v Hf1 H1 e1 st1 r q => by
    obtain ⟨j, rfl, q⟩ := asInt_ q
    exact ⟨j, congrArg (· :: []) r, q.1.1, q.1.2, hk _ _ Hf1 H1 e1 st1 yld_r q.2⟩⟩
theorem ei_range2 {Q : List Da → Prop} {q : Pos} (hg : GlS S "range") (hm : S.mg "range" = none) (h : EvE S Γ a fun d => EvE S Γ b fun d' => asInt d fun i => asInt d' fun j => Rg i ∧ Rg j ∧ Q (rngD i (j - i).toNat))
    (hs : ∀ env, starEach [a, b] env = (false, eval a env) :: starEach [b] env := by intro _; rfl) (hs2 : ∀ env, starEach [b] env = (false, eval b env) :: starEach [] env := by intro _; rfl) : EvI S Γ tg (.Call (.Name "range" p) [a, b] [] q) Q := fun PX σ H Hf k st hk =>
  ⟨iRng2 (tCons (tU S a) (tCons (tU S b) tNil)), fun X ok => pi_range2 (hg.gl ok) (by rw [ok.mg]; exact hm) (pa_cons (pu ok) (pa_cons (pu ok) pa_nil (hs2 _)) (hs _)) (by rw [hs, hs2]; rfl) (by rw [hs2]; rfl),
    h PX σ H Hf _ st fun d v Hf1 H1 e1 st1 r q => q PX σ H1 Hf1 _ st1 fun d' v' Hf2 H2 e2 st2 r' q => by
    obtain ⟨i, rfl, q1⟩ := asInt_ q
    obtain ⟨j, rfl, q2⟩ := asInt_ q1
    have r1 : v = .int i := r
    have r2 : v' = .int j := r'
    subst r1; subst r2
    exact ⟨i, j, rfl, ⟨q2.1.1, q2.1.2, q2.2.1.1, q2.2.1.2⟩, hk _ _ Hf2 H2 (e1.trans e2) st2 yld_r q2.2.2⟩⟩

/-! ## for -/
def forG (step : Da → List Slot → (List Slot → Prop) → Prop) : List Da → List Slot → (List Slot → Prop) → Prop
  | [], Γ, K => K Γ
  | d :: ds, Γ, K => step d Γ fun Γ' => forG step ds Γ' K
theorem forG_drop {step : Da → List Slot → (List Slot → Prop) → Prop} {ds : List Da} {i : Nat} {d : Da} {Γ : List Slot} {K : List Slot → Prop} (h : ds[i]? = some d) (q : forG step (ds.drop i) Γ K) : step d Γ fun Γ' => forG step (ds.drop (i + 1)) Γ' K := by
  obtain ⟨hi, e⟩ := List.getElem?_eq_some_iff.mp h
  rw [List.drop_eq_getElem_cons hi, e] at q
  exact q
/-- an invariant by the turn -/
theorem forG_inv {step : Da → List Slot → (List Slot → Prop) → Prop} {ds : List Da} {Γ : List Slot} {K : List Slot → Prop} (G : Nat → List Slot → Prop) (h0 : G 0 Γ)
    (hs : ∀ i d Γ (k : List Slot → Prop), ds[i]? = some d → G i Γ → (∀ Γ', G (i + 1) Γ' → k Γ') → step d Γ k) (hd : ∀ Γ, G ds.length Γ → K Γ) : forG step ds Γ K := by
  have main : ∀ (n i : Nat) (Γ : List Slot), n + i = ds.length → G i Γ → forG step (ds.drop i) Γ K := by
    intro n
    induction n with
    | zero =>
      intro i Γ hi g
      rw [List.drop_eq_nil_of_le (by omega)]
      have e : i = ds.length := by omega
      subst e
      exact hd Γ g
    | succ n ih =>
      intro i Γ hi g
      have hl : i < ds.length := by omega
      rw [List.drop_eq_getElem_cons hl]
      exact hs i _ Γ _ (List.getElem?_eq_getElem hl) g fun Γ' g' => ih (i + 1) Γ' (by omega) g'
  have z := main ds.length 0 Γ (by omega) h0
  rwa [List.drop_zero] at z
theorem es_for (h : EvI S Γ tg it fun ds => forG (fun d Γ K => EvG S anyW Γ tg d fun Γ' => EvB S Γ' body { D with nx := K, ct := K, bk := D.nx }) ds Γ D.nx)
    (hs : ∀ env x, foldedSetIterable it env x = pure x := by intro _ _; rfl) (hc : S.calm = true := by rfl) : EvS S Γ (.For tg it body [] pos) D :=
  es_of (fun X ok => ps_for ok.po (ok.calm hc) (puI ok) (puG ok) (puB ok) (hs _)) fun PX σ H Hf D' s k => by
    show tUI S tg it σ H _
    refine h PX σ H Hf _ s fun ds J Hf1 H1 e1 s1 y q => ?_
    let step := fun d Γ (K : List Slot → Prop) => EvG S anyW Γ tg d fun Γ' => EvB S Γ' body { D with nx := K, ct := K, bk := D.nx }
    refine ⟨fun i m σ' H' => ∃ Γ' Hf', Sub Hf1 Hf' ∧ Stt S PX Γ' Hf' H' σ' ∧ m = ds.length - i ∧ i ≤ ds.length ∧ forG step (ds.drop i) Γ' D.nx, ⟨ds.length, Γ, Hf1, Sub.refl _, s1, by simp, Nat.zero_le _, by rw [List.drop_zero]; exact q⟩, ?_⟩
    rintro i m σ' H' ⟨Γ', Hf', e2, s2, rfl, hi, f⟩
    by_cases hl : i < ds.length
    · refine .inr ⟨y.go i Hf' H' e2 s2.ex hl, fun σ3 H3 => ∃ Γ3 Hf3, Sub Hf1 Hf3 ∧ Stt S PX Γ3 Hf3 H3 σ3 ∧ forG step (ds.drop (i + 1)) Γ3 D.nx, fun σ3 H3 ⟨Γ3, Hf3, a, b, c⟩ => ⟨ds.length - (i + 1), by omega, Γ3, Hf3, a, b, rfl, hl, c⟩, fun x H3 hy => ?_⟩
      obtain ⟨Hf3, d, e3, s3, hd, r⟩ := y.yld PX i x Γ' σ' Hf' H' H3 e2 s2 hl hy
      refine forG_drop hd f PX x σ' H3 Hf3 _ s3 r fun Γ4 σ4 Hf4 H4 e4 s4 _ q4 => ?_
      refine q4 PX σ4 H4 Hf4 _ s4 ⟨fun Γ5 σ5 Hf5 H5 e5 s5 q5 => ⟨Γ5, Hf5, ((e2.trans e3).trans e4).trans e5, s5, q5⟩, fun d v Γ5 σ5 Hf5 H5 e5 => k.rt d v Γ5 σ5 Hf5 H5 ((((e1.trans e2).trans e3).trans e4).trans e5),
        fun Γ5 σ5 Hf5 H5 e5 => k.nx Γ5 σ5 Hf5 H5 ((((e1.trans e2).trans e3).trans e4).trans e5), fun Γ5 σ5 Hf5 H5 e5 s5 q5 => ⟨Γ5, Hf5, ((e2.trans e3).trans e4).trans e5, s5, q5⟩, fun p ds vs Γ5 σ5 Hf5 H5 e5 => k.rr p ds vs Γ5 σ5 Hf5 H5 ((((e1.trans e2).trans e3).trans e4).trans e5)⟩
    · refine .inl ⟨y.stop i Hf' H' e2 s2.ex (by omega), ?_⟩
      rw [List.drop_eq_nil_of_le (by omega)] at f
      exact k.nx Γ' σ' Hf' H' (e1.trans e2) s2 f
end

/-! ## comprehensions -/
def Sx.blk (S : Sx) (scope : Scope) : Sx := { S with sc := relS scope S.sc, E := fun _ _ => False, xc := none, cel := [], ce := none, top := false, stor := fun x => match scope.names.lookup x with | some .local => true | some .cell => true | _ => false }
theorem Sx.Ok.blk {S : Sx} {X : Cx} (ok : S.Ok X) (s : Shared) (H : Hp) (scope : Scope) (C : Addr) (cl : List (Str × Addr)) (fp : List Addr) : (S.blk scope).Ok (X.blk s H scope (compEnvC scope cl C X.env) fp) where
  P := ok.P
  w := ok.w
  K := ok.K
  mg := ok.mg
  base := ok.base
  N := ok.N
  sc := show relS scope X.env.scope = relS scope S.sc by rw [ok.sc]
  calm := ok.calm
  room := ok.room
  un := ok.un
  cel := fun _ z => nomatch z
  ce := fun _ z => nomatch z
  top := fun z => nomatch z
  xc := fun _ _ _ _ z => nomatch z
  gd := ok.gd
  nd := ok.nd
  tk := fun u s' z => by
    obtain ⟨_, _, _, _, _, _, _, _, _, _, _, _, _, _, _, _, _, _, _, _, _, _, _, _, z⟩ := z
    exact z.1
  po := PassesOwn.never
  cd := ok.cd
  ql := ok.ql
  fn := fun x h => by
    cases e : scope.names.lookup x with
    | none => unfold Sx.blk at h; simp only [e] at h; cases h
    | some kd =>
      cases kd with
      | «local» =>
        refine .inr ?_
        show (relS scope X.env.scope).names.lookup x = _
        unfold relS
        exact lookup_relS_keep (by decide) e
      | cell =>
        refine .inl ?_
        show (scope.names.lookup x == some .cell) = true
        rw [e]; rfl
      | _ => unfold Sx.blk at h; simp only [e] at h; cases h
def wipeG (Γ : List Slot) : List Nat → List Slot
  | [] => Γ
  | v :: vs => (wipeG Γ vs).set v .no
theorem wipeG_out {Γ : List Slot} {i : Nat} : ∀ {vs : List Nat}, i ∉ vs → (wipeG Γ vs)[i]? = Γ[i]?
  | [], _ => rfl
  | v :: vs, h => by
    unfold wipeG
    rw [List.getElem?_set_ne (fun e => h (by rw [e]; exact List.mem_cons_self))]
    exact wipeG_out fun m => h (List.mem_cons_of_mem _ m)
theorem wipe_in {σ : L2.St} {i : Nat} : ∀ {vs : List Nat}, i ∈ vs → i < σ.length → (wipe σ vs)[i]? = some none
  | v :: vs, h, hi => by
    unfold wipe
    by_cases e : v = i
    · subst e; rw [List.getElem?_set_self (by rw [wipe_length]; exact hi)]
    · rw [List.getElem?_set_ne e]
      exact wipe_in (by rcases List.mem_cons.mp h with z | z; exact absurd z.symm e; exact z) hi
theorem wipe_eq {σ σ' : L2.St} {vs : List Nat} (hl : σ'.length = σ.length) (h : ∀ j : Nat, j ∉ vs → σ'[j]? = σ[j]?) : wipe σ' vs = wipe σ vs := by
  refine List.ext_getElem? fun j => ?_
  by_cases m : j ∈ vs
  · by_cases hj : j < σ.length
    · rw [wipe_in m hj, wipe_in m (by rw [hl]; exact hj)]
    · rw [List.getElem?_eq_none (by rw [wipe_length]; omega), List.getElem?_eq_none (by rw [wipe_length]; omega)]
  · rw [wipe_out m, wipe_out m]; exact h j m
section
variable {S : Sx} {PX Hf Hf' H H' : Hp} {Γ Γ' : List Slot} {σ σ' : L2.St} {D : Addr} {o o' : HO}
theorem Stt0.no (st : Stt0 S PX Γ Hf H σ) (i : Nat) : Stt0 S PX (Γ.set i .no) Hf H (σ.set i none) := by
  have ne : ∀ (j : Nat) s, (Γ.set i .no)[j]? = some s → s = .no ∨ (i ≠ j ∧ Γ[j]? = some s) := fun j s h => by
    by_cases hj : i = j
    · subst hj
      have hi : i < Γ.length := by
        have z := (List.getElem?_eq_some_iff.mp h).1
        rwa [List.length_set] at z
      rw [List.getElem?_set_self hi] at h
      cases h; exact .inl rfl
    · rw [List.getElem?_set_ne hj] at h; exact .inr ⟨hj, h⟩
  have nv : ∀ (j : Nat) p k I, (Γ.set i .no)[j]? = some (Slot.ow p k I) → Γ[j]? = some (Slot.ow p k I) := fun j p k I h => by
    rcases ne j _ h with z | z
    · cases z
    · exact z.2
  refine ⟨by rw [List.length_set, List.length_set]; exact st.len, st.ex0, st.ex, st.keep, st.ops, fun j s h => ?_, fun j q k I h => st.new j q k I (nv j q k I h), st.fr, st.px, st.pf, fun j q k I h => st.pi j q k I (nv j q k I h), fun j l q k k' I J h1 h2 => st.sep j l q k k' I J (nv j q k I h1) (nv l q k' J h2)⟩
  rcases ne j s h with rfl | ⟨z, h⟩
  · trivial
  · rw [List.getElem?_set_ne z]; exact st.at_ j s h
theorem Stt0.wipe (st : Stt0 S PX Γ Hf H σ) : ∀ vs : List Nat, Stt0 S PX (wipeG Γ vs) Hf H (L2.wipe σ vs)
  | [] => st
  | v :: vs => (st.wipe vs).no v
theorem Stt0.toBlk (st : Stt0 S PX Γ Hf H σ) (scope : Scope) : Stt0 (S.blk scope) PX Γ Hf H σ := ⟨st.len, st.ex0, st.ex, st.keep, st.ops, st.at_, st.new, st.fr, st.px, st.pf, st.pi, st.sep⟩
/-- a new object that is held apart -/
theorem Stt0.frame (st : Stt0 S PX Γ Hf H σ) (hD : H D = none) : Stt0 S (upd PX D o) Γ Hf (upd H D o) σ := by
  have hn : ∀ (i : Nat) p k I, Γ[i]? = some (.ow p k I) → p ≠ D := fun i p k I h z => st.ownH h (z ▸ hD)
  refine ⟨st.len, st.ex0, st.ex.upd hD, fun q u h1 h2 => ?_, fun q h => ?_, fun i s h => ?_, st.new, st.fr, st.px.updB, fun q h => ?_, fun i p k I h => ?_, st.sep⟩
  · have z := st.keep q u h1 h2
    rw [upd_ne (ne_of_none z hD)]; exact z
  · have z := st.ops q h
    rw [upd_ne (fun c : q.1 = D => z (by rw [c]; exact hD))]; exact z
  · refine (st.at_ i s h).more (Sub.refl _) fun p k I e => ?_
    subst e
    rw [upd_ne (hn i p k I h)]
    exact ⟨(st.ownK h).2.free, rfl⟩
  · by_cases c : q = D
    · subst c; exact st.ex.free hD
    · rw [upd_ne c] at h; exact st.pf q h
  · rw [upd_ne (hn i p k I h)]; exact st.pi i p k I h
/-- what is held apart is changed -/
theorem Stt0.reframe (st : Stt0 S (upd PX D o) Γ Hf H σ) (h0 : S.H0 D = none) : Stt0 S (upd PX D o') Γ Hf (upd H D o') σ := by
  have hn : ∀ (i : Nat) p k I, Γ[i]? = some (.ow p k I) → p ≠ D := fun i p k I h z => by
    have y := st.pi i p k I h
    rw [z, upd_same] at y; cases y
  have hf : Hf D = none := st.pf D (by rw [upd_same]; exact fun z => nomatch z)
  refine ⟨st.len, st.ex0, fun a u h => ?_, fun q u h1 h2 => ?_, fun q h => ?_, fun i s h => ?_, st.new, st.fr, fun a u h => ?_, fun q h => ?_, fun i p k I h => ?_, st.sep⟩
  · rw [upd_ne (ne_of_none h hf)]; exact st.ex a u h
  · rw [upd_ne (ne_of_none h1 h0)]; exact st.keep q u h1 h2
  · by_cases c : q.1 = D
    · rw [c, upd_same]; exact fun z => nomatch z
    · rw [upd_ne c]; exact st.ops q h
  · refine (st.at_ i s h).more (Sub.refl _) fun p k I e => ?_
    subst e
    rw [upd_ne (hn i p k I h)]
    exact ⟨(st.ownK h).2.free, rfl⟩
  · by_cases c : a = D
    · subst c; rw [upd_same] at h ⊢; exact h
    · rw [upd_ne c] at h ⊢
      exact st.px a u (by rw [upd_ne c]; exact h)
  · by_cases c : q = D
    · subst c; exact hf
    · rw [upd_ne c] at h; exact st.pf q (by rw [upd_ne c]; exact h)
  · have y := st.pi i p k I h
    rw [upd_ne (hn i p k I h)] at y ⊢; exact y
/-- what was held apart is frozen -/
theorem Stt0.freeze (st : Stt0 S (upd PX D o) Γ Hf H σ) (hP : PX D = none) (h0 : S.H0 D = none) : Stt0 S PX Γ (upd Hf D o) H σ ∧ Sub Hf (upd Hf D o) := by
  have hn : ∀ (i : Nat) p k I, Γ[i]? = some (.ow p k I) → p ≠ D := fun i p k I h z => by
    have y := st.pi i p k I h
    rw [z, upd_same] at y; cases y
  have hf : Hf D = none := st.pf D (by rw [upd_same]; exact fun z => nomatch z)
  have e : Sub Hf (upd Hf D o) := Sub.upd0 (Sub.refl _) hf
  have hD : H D = some o := st.px D o upd_same
  have pn : ∀ q, PX q ≠ none → q ≠ D := fun q h c => h (by rw [c]; exact hP)
  refine ⟨⟨st.len, st.ex0.trans e, fun a u h => ?_, st.keep, st.ops, fun i s h => ?_, st.new, fun q h h2 => ?_, fun a u h => ?_, fun q h => ?_, fun i p k I h => ?_, st.sep⟩, e⟩
  · by_cases c : a = D
    · subst c; rw [upd_same] at h; rw [hD]; exact h
    · rw [upd_ne c] at h; exact st.ex a u h
  · refine (st.at_ i s h).more e fun p k I e => ?_
    subst e
    rw [upd_ne (hn i p k I h)]
    exact ⟨(st.ownK h).2.free, rfl⟩
  · by_cases c : q = D
    · subst c; exact h0
    · rw [upd_ne c] at h; exact st.fr q h h2
  · exact st.px a u (by rw [upd_ne (pn a (by rw [h]; exact fun z => nomatch z))]; exact h)
  · rw [upd_ne (pn q h)]
    exact st.pf q (by rw [upd_ne (pn q h)]; exact h)
  · have y := st.pi i p k I h
    rw [upd_ne (hn i p k I h)] at y; exact y
/-- back at the outer slots -/
theorem Stt0.back {S' : Sx} {PX' : Hp} (st : Stt0 S PX Γ Hf H σ) (s2 : Stt0 S' PX' Γ' Hf' H' σ') (hS : S'.K = S.K ∧ S'.F0 = S.F0 ∧ S'.H0 = S.H0 ∧ S'.op = S.op) (e : Sub Hf Hf') (hi : ∀ (i : Nat) p k I, Γ[i]? = some (.ow p k I) → ∃ j : Nat, Γ'[j]? = some (.ow p k I)) : Stt0 S PX' Γ Hf' H' σ := by
  obtain ⟨k1, k2, k3, k4⟩ := hS
  refine ⟨st.len, st.ex0.trans e, s2.ex, by rw [← k3, ← k4]; exact s2.keep, by rw [← k4]; exact s2.ops, fun i s h => ?_, st.new, by rw [← k2, ← k3]; exact s2.fr, s2.px, s2.pf, fun i p k I h => ?_, st.sep⟩
  · cases s with
    | no => trivial
    | dat d => exact (st.at_ i _ h).more e fun _ _ _ z => nomatch z
    | ow p k I =>
      obtain ⟨j, hj⟩ := hi i p k I h
      exact ⟨(st.ownK h).1, by rw [← k1]; exact (s2.ownK hj).2⟩
    | rf a => exact st.at_ i _ h
    | vd d v => exact (st.at_ i _ h).more e fun _ _ _ z => nomatch z
  · obtain ⟨j, hj⟩ := hi i p k I h
    exact s2.pi j p k I hj

end
section
variable {S S' : Sx} {PX PX' Hf Hf' H H' : Hp} {Γ Γ' : List Slot} {σ σ' : L2.St} {p D A : Addr} {o o' : HO} {I I' : List Da → Prop} {i : Nat} {s : Slot} {d : Da} {v : V} {vs : List V} {ds xs : List Da}
theorem Stt.wipe (st : Stt S PX Γ Hf H σ) (vs : List Nat) : Stt S PX (wipeG Γ vs) Hf H (L2.wipe σ vs) := ⟨st.z.wipe vs, st.tb⟩
theorem Stt.toBlk (st : Stt S PX Γ Hf H σ) (scope : Scope) : Stt (S.blk scope) PX Γ Hf H σ := ⟨st.z.toBlk scope, st.tb⟩
theorem Stt.heldT (st : Stt S (upd PX D o) Γ Hf H σ) : D ∉ S.T.map (·.1) := strip_in (st.z.px D o upd_same)
theorem Stt.frame (st : Stt S PX Γ Hf H σ) (hD : H D = none) : Stt S (upd PX D o) Γ Hf (upd H D o) σ := by
  have n := st.tb.out hD
  exact ⟨by rw [strip_upd n]; exact st.z.frame (strip_none hD), st.tb.upd (Sub.refl _) n⟩
theorem Stt.reframe (st : Stt S (upd PX D o) Γ Hf H σ) (h0 : S.H0 D = none) : Stt S (upd PX D o') Γ Hf (upd H D o') σ := by
  have n := st.heldT
  exact ⟨by rw [strip_upd n]; exact st.z.reframe h0, st.tb.upd (Sub.refl _) n⟩
theorem Stt.freeze (st : Stt S (upd PX D o) Γ Hf H σ) (hP : PX D = none) (h0 : S.H0 D = none) : Stt S PX Γ (upd Hf D o) H σ ∧ Sub Hf (upd Hf D o) := by
  obtain ⟨a, b⟩ := st.z.freeze hP h0
  exact ⟨⟨a, st.tb.mono b fun _ _ => rfl⟩, b⟩
theorem Stt.back (st : Stt S PX Γ Hf H σ) (s2 : Stt S' PX' Γ' Hf' H' σ') (hS : (S'.K = S.K ∧ S'.F0 = S.F0 ∧ S'.H0 = S.H0 ∧ S'.op = S.op) ∧ S'.T = S.T) (e : Sub Hf Hf') (hi : ∀ (i : Nat) p k I, Γ[i]? = some (.ow p k I) → ∃ j : Nat, Γ'[j]? = some (.ow p k I)) : Stt S PX' Γ Hf' H' σ := by
  obtain ⟨h1, h2⟩ := hS
  have a := s2.z
  have b := s2.tb
  rw [h2] at a b
  exact ⟨st.z.back a h1 e hi, b⟩
end
def EvTs (S : Sx) (Γ : List Slot) (ifs : List Expr) (Q : Bool → Prop) : Prop := ∀ PX σ H Hf k, Stt S PX Γ Hf H σ →
  (∀ b Hf' H', Sub Hf Hf' → Stt S PX Γ Hf' H' σ → Q b → k b H') → ∃ t : TT, (∀ X, S.Ok X → PTs X ifs t) ∧ t σ H k
def tUTs (S : Sx) (ifs : List Expr) : TT := fun σ H Q => ∃ t : TT, (∀ X, S.Ok X → PTs X ifs t) ∧ t σ H Q
theorem puTs {S : Sx} {X : Cx} {ifs : List Expr} (ok : S.Ok X) : PTs X ifs (tUTs S ifs) := ⟨fun pins s σ H Q I ⟨_, h, q⟩ => (h X ok).run pins s σ H Q I q⟩
theorem ets_nil {S : Sx} {Γ : List Slot} {Q : Bool → Prop} (q : Q true) : EvTs S Γ [] Q := fun PX σ H Hf k st hk => ⟨_, fun _ _ => pts_nil, hk true Hf H (Sub.refl _) st q⟩
theorem ets_one {S : Sx} {Γ : List Slot} {c : Expr} {Q : Bool → Prop} (h : EvT S Γ c Q) : EvTs S Γ [c] Q := fun PX σ H Hf k st hk => ⟨_, fun X ok => pts_one (puT ok), h PX σ H Hf k st hk⟩
def lcG (step : Da → List Da → (List Da → Prop) → Prop) : List Da → List Da → (List Da → Prop) → Prop
  | [], acc, Q => Q acc
  | d :: ds, acc, Q => step d acc fun acc' => lcG step ds acc' Q
theorem lcG_drop {step : Da → List Da → (List Da → Prop) → Prop} {ds acc : List Da} {i : Nat} {d : Da} {Q : List Da → Prop} (h : ds[i]? = some d) (q : lcG step (ds.drop i) acc Q) : step d acc fun acc' => lcG step (ds.drop (i + 1)) acc' Q := by
  obtain ⟨hi, e⟩ := List.getElem?_eq_some_iff.mp h
  rw [List.drop_eq_getElem_cons hi, e] at q
  exact q
/-- each item gives one -/
theorem lcG_map {step : Da → List Da → (List Da → Prop) → Prop} {f : Da → Da} {Q : List Da → Prop} : ∀ {ds acc : List Da}, (∀ d acc (k : List Da → Prop), d ∈ ds → k (acc ++ [f d]) → step d acc k) → Q (acc ++ ds.map f) → lcG step ds acc Q
  | [], acc, _, q => by rw [List.map_nil, List.append_nil] at q; exact q
  | d :: ds, acc, h, q => h d acc _ List.mem_cons_self (lcG_map (fun d' acc' k hd hk => h d' acc' k (List.mem_cons_of_mem _ hd) hk) (by rw [List.map_cons] at q; rw [List.append_assoc]; exact q))
/-- each item is kept or not -/
theorem lcG_filter {step : Da → List Da → (List Da → Prop) → Prop} {p : Da → Bool} {f : Da → Da} {Q : List Da → Prop} : ∀ {ds acc : List Da}, (∀ d acc (k : List Da → Prop), d ∈ ds → k (if p d then acc ++ [f d] else acc) → step d acc k) → Q (acc ++ (ds.filter p).map f) → lcG step ds acc Q
  | [], acc, _, q => by rw [List.filter_nil, List.map_nil, List.append_nil] at q; exact q
  | d :: ds, acc, h, q => h d acc _ List.mem_cons_self (lcG_filter (fun d' acc' k hd hk => h d' acc' k (List.mem_cons_of_mem _ hd) hk) (by
    rw [List.filter_cons] at q
    split at q <;> rename_i c
    · rw [if_pos c, List.append_assoc]; rw [List.map_cons] at q; exact q
    · rw [if_neg c]; exact q))
def noInv (Γ : List Slot) (vs : List Nat) : Prop := ∀ i ∈ vs, ∀ p k I, Γ[i]? ≠ some (.ow p k I)
/-! ## built-ins -/
mutual
def Da.pure : Da → Bool
  | .non | .bl _ | .int _ | .str _ => true
  | .lst xs | .tup xs => Da.pures xs
  | _ => false
def Da.pures : List Da → Bool
  | [] => true
  | x :: xs => x.pure && Da.pures xs
end
mutual
def Da.py : Da → PyData
  | .bl b => .bool b
  | .int i => .int i
  | .str x => .str x
  | .lst xs => .list (Da.pys xs)
  | .tup xs => .tuple (Da.pys xs)
  | _ => .none
def Da.pys : List Da → List PyData
  | [] => []
  | x :: xs => x.py :: Da.pys xs
end
mutual
theorem Rep.dp {K : PySem.W.Frag} {H : Hp} : ∀ (d : Da) (v : V), d.pure = true → Rep K H d v → Dp K H v d.py
  | .non, v, _, r => by unfold Rep at r; subst r; unfold Da.py; exact .non
  | .bl b, v, _, r => by unfold Rep at r; subst r; unfold Da.py; exact .bl b
  | .int b, v, _, r => by unfold Rep at r; subst r; unfold Da.py; exact .int b
  | .str b, v, _, r => by unfold Rep at r; subst r; unfold Da.py; exact .str b
  | .lst ds, v, h, r => by
    unfold Rep at r
    obtain ⟨a, xs, rfl, r1, r2⟩ := r
    unfold Da.pure at h
    unfold Da.py
    exact .lst r1 (Reps.dp ds xs h r2)
  | .tup ds, v, h, r => by
    unfold Rep at r
    obtain ⟨a, xs, rfl, r1, r2⟩ := r
    unfold Da.pure at h
    unfold Da.py
    exact .tup r1 (Reps.dp ds xs h r2)
  | .dct _, _, h, _ => by unfold Da.pure at h; cases h
  | .ins _ _, _, h, _ => by unfold Da.pure at h; cases h
  | .lm _, _, h, _ => by unfold Da.pure at h; cases h
  | .clo _ _, _, h, _ => by unfold Da.pure at h; cases h
  | .ty _, _, h, _ => by unfold Da.pure at h; cases h
theorem Reps.dp {K : PySem.W.Frag} {H : Hp} : ∀ (ds : List Da) (vs : List V), Da.pures ds = true → Reps K H ds vs → DpAll K H vs (Da.pys ds)
  | [], vs, _, r => by unfold Reps at r; subst r; unfold Da.pys; exact .nil
  | d :: ds, vs, h, r => by
    unfold Reps at r
    obtain ⟨x, l, rfl, r1, r2⟩ := r
    unfold Da.pures at h
    rw [Bool.and_eq_true] at h
    unfold Da.pys
    exact .cons (Rep.dp d x h.1 r1) (Reps.dp ds l h.2 r2)
end
structure CallG (S : Sx) (f : Value) (r : List Da → (Da → Prop) → Prop) : Prop where
  ex : ∃ rr : List V → Hp → VK → Prop, (∀ X, S.Ok X → CallR X f rr) ∧ ∀ PX Γ σ Hf H ds vs (Q : Da → Prop) k, Stt S PX Γ Hf H σ → Reps S.K Hf ds vs → r ds Q →
    (∀ d v Hf' H', Sub Hf Hf' → Stt S PX Γ Hf' H' σ → Rep S.K Hf' d v → Q d → k v H') → rr vs H k
theorem CallG.keep {S : Sx} {f : Value} {r : List Da → (Da → Prop) → Prop} (rr : List V → Hp → VK → Prop) (h : ∀ X, S.Ok X → CallR X f rr)
    (q : ∀ Hf H ds vs (Q : Da → Prop) k, Sub Hf H → Reps S.K Hf ds vs → r ds Q → (∀ d v, Rep S.K Hf d v → Q d → k v H) → rr vs H k) : CallG S f r :=
  ⟨rr, h, fun PX Γ σ Hf H ds vs Q k st rx hr hk => q Hf H ds vs Q k st.ex rx hr fun d v a b => hk d v Hf H (Sub.refl _) st a b⟩
section
variable {S : Sx} {Γ : List Slot} {e a b c : Expr} {es : List Expr} {Q : Da → Prop} {p pos : Pos} {x : Str} {id T : String} {r : List Da → (Da → Prop) → Prop}
theorem ev_callB (ho : CallG S (.builtin id) r) (hg : GlS S x) (hm : S.mg x = none) (hv : bootBuiltins x = some (.builtin id)) (h : EvA S Γ (e :: es) fun ds => r ds Q) (hn : x ≠ "__name__" := by decide) (hdb : (x == ("__debug__" : Str)) = false := by decide)
    (he : ∀ env, starEach (e :: es) env = (false, eval e env) :: starEach es env := by intro _; rfl) (hpl : ∀ env, (backTo pos (starEach es env)).any (·.1) = false := by intro _; rfl) : EvE S Γ (.Call (.Name x p) (e :: es) [] pos) Q := by
  obtain ⟨rr, h1, h2⟩ := ho.ex
  exact ev_of (fun X ok => pe_callB (h1 X ok) (hg.gl ok) (by rw [ok.mg]; exact hm) hv (puA ok) hn hdb (he _) (hpl _)) fun PX σ H Hf k st hk => h PX σ H Hf _ st fun ds vs Hf1 H1 e1 st1 r1 q1 =>
    h2 PX Γ σ Hf1 H1 ds vs Q k st1 r1 q1 fun d v Hf' H' e2 => hk d v Hf' H' (e1.trans e2)
theorem ev_callTy (ho : CallG S (.type T) r) (hg : GlS S x) (hm : S.mg x = none) (hv : bootBuiltins x = some (.type T)) (h : EvA S Γ (e :: es) fun ds => r ds Q) (hn : x ≠ "__name__" := by decide) (hdb : (x == ("__debug__" : Str)) = false := by decide)
    (he : ∀ env, starEach (e :: es) env = (false, eval e env) :: starEach es env := by intro _; rfl) (hpl : ∀ env, (backTo pos (starEach es env)).any (·.1) = false := by intro _; rfl) : EvE S Γ (.Call (.Name x p) (e :: es) [] pos) Q := by
  obtain ⟨rr, h1, h2⟩ := ho.ex
  exact ev_of (fun X ok => pe_callTy (h1 X ok) (hg.gl ok) (by rw [ok.mg]; exact hm) hv (puA ok) hn hdb (he _) (hpl _)) fun PX σ H Hf k st hk => h PX σ H Hf _ st fun ds vs Hf1 H1 e1 st1 r1 q1 =>
    h2 PX Γ σ Hf1 H1 ds vs Q k st1 r1 q1 fun d v Hf' H' e2 => hk d v Hf' H' (e1.trans e2)
@[reducible] def as1 (ds : List Da) (k : Da → Prop) : Prop := match ds with | [d] => k d | _ => False
@[reducible] def as2 (ds : List Da) (k : Da → Da → Prop) : Prop := match ds with | [d, e] => k d e | _ => False
theorem as1_ {ds : List Da} {k : Da → Prop} (h : as1 ds k) : ∃ d, ds = [d] ∧ k d := by
  match ds, h with
  | [d], h => exact ⟨d, rfl, h⟩
theorem as2_ {ds : List Da} {k : Da → Da → Prop} (h : as2 ds k) : ∃ d e, ds = [d, e] ∧ k d e := by
  match ds, h with
  | [d, e], h => exact ⟨d, e, rfl, h⟩
theorem Reps.one {K : PySem.W.Frag} {H : Hp} {d : Da} {vs : List V} (r : Reps K H [d] vs) : ∃ v, vs = [v] ∧ Rep K H d v := by
  obtain ⟨v, l, rfl, r1, r2⟩ := r
  unfold Reps at r2; subst r2
  exact ⟨v, rfl, r1⟩
theorem Reps.two {K : PySem.W.Frag} {H : Hp} {d e : Da} {vs : List V} (r : Reps K H [d, e] vs) : ∃ v u, vs = [v, u] ∧ Rep K H d v ∧ Rep K H e u := by
  obtain ⟨v, l, rfl, r1, r2⟩ := r
  obtain ⟨u, rfl, r3⟩ := r2.one
  exact ⟨v, u, rfl, r1, r3⟩
theorem c_abs : CallG S (.builtin "abs") fun ds Q => as1 ds fun d => asInt d fun i => Q (.int (if i < 0 then -i else i)) := .keep _ (fun _ _ => call_abs) fun Hf H ds vs Q k _ r h hk => by
  obtain ⟨d, rfl, h⟩ := as1_ h
  obtain ⟨i, rfl, h⟩ := asInt_ h
  obtain ⟨v, rfl, r1⟩ := r.one
  exact ⟨i, congrArg (· :: []) r1, hk (.int (if i < 0 then -i else i)) _ rfl h⟩
theorem c_max2 (hc : S.calm = true := by rfl) : CallG S (.builtin "max") fun ds Q => as2 ds fun d e => asInt d fun i => asInt e fun j => Q (.int (if j > i then j else i)) := .keep _ (fun X ok => call_max2 (ok.calm hc)) fun Hf H ds vs Q k _ r h hk => by
  obtain ⟨d, e, rfl, h⟩ := as2_ h
  obtain ⟨i, rfl, h⟩ := asInt_ h
  obtain ⟨j, rfl, h⟩ := asInt_ h
  obtain ⟨v, u, rfl, r1, r2⟩ := r.two
  have e1 : v = .int i := r1
  have e2 : u = .int j := r2
  subst e1; subst e2
  exact ⟨i, j, rfl, hk (.int (if j > i then j else i)) _ rfl h⟩
theorem c_min2 (hc : S.calm = true := by rfl) : CallG S (.builtin "min") fun ds Q => as2 ds fun d e => asInt d fun i => asInt e fun j => Q (.int (if j < i then j else i)) := .keep _ (fun X ok => call_min2 (ok.calm hc)) fun Hf H ds vs Q k _ r h hk => by
  obtain ⟨d, e, rfl, h⟩ := as2_ h
  obtain ⟨i, rfl, h⟩ := asInt_ h
  obtain ⟨j, rfl, h⟩ := asInt_ h
  obtain ⟨v, u, rfl, r1, r2⟩ := r.two
  have e1 : v = .int i := r1
  have e2 : u = .int j := r2
  subst e1; subst e2
  exact ⟨i, j, rfl, hk (.int (if j < i then j else i)) _ rfl h⟩
theorem c_int : CallG S (.type "int") fun ds Q => as1 ds fun d => asInt d fun i => Q (.int i) := .keep _ (fun _ _ => call_int1) fun Hf H ds vs Q k _ r h hk => by
  obtain ⟨d, rfl, h⟩ := as1_ h
  obtain ⟨i, rfl, h⟩ := asInt_ h
  obtain ⟨v, rfl, r1⟩ := r.one
  exact .inl ⟨i, congrArg (· :: []) r1, hk (.int i) _ rfl h⟩
theorem Rep.seq {K : PySem.W.Frag} {H : Hp} {d : Da} {v : V} {Q : List Da → Prop} (h : asSeq d Q) (r : Rep K H d v) : ∃ ds a xs, v = .ref a ∧ (SqL K H a xs ∨ SqT K H a xs) ∧ Reps K H ds xs ∧ Q ds := by
  obtain ⟨ds, rfl | rfl, q⟩ := asSeq_ h
  · obtain ⟨a, xs, e, r1, r2⟩ := r
    exact ⟨ds, a, xs, e, .inl r1, r2, q⟩
  · obtain ⟨a, xs, e, r1, r2⟩ := r
    exact ⟨ds, a, xs, e, .inr r1, r2, q⟩
theorem c_len : CallG S (.builtin "len") fun ds Q => as1 ds fun d => asSeq d fun xs => Q (.int (xs.length : Int)) :=
  .keep (fun xs H Q => ∃ p ys, xs = [.ref p] ∧ (SqL S.K H p ys ∨ SqT S.K H p ys) ∧ Q (.int ys.length) H) (fun X ok => by have z := call_len_seq (X := X); rw [ok.K] at z; exact z) fun Hf H ds vs Q k e r h hk => by
  obtain ⟨d, rfl, h⟩ := as1_ h
  obtain ⟨v, rfl, r1⟩ := r.one
  obtain ⟨ys, a, xs, rfl, hs, r2, q⟩ := r1.seq h
  exact ⟨a, xs, rfl, hs.imp e.sl e.st, hk _ _ (by rw [r2.len]; rfl) q⟩
theorem c_divmod : CallG S (.builtin "divmod") fun ds Q => as2 ds fun d e => asInt d fun i => asInt e fun j => Dv j ∧ Q (.tup [.int (i / j), .int (i % j)]) :=
  ⟨_, fun _ _ => call_divmodW, fun PX Γ σ Hf H ds vs Q k st r h hk => by
    obtain ⟨d, e, rfl, h⟩ := as2_ h
    obtain ⟨i, rfl, h⟩ := asInt_ h
    obtain ⟨j, rfl, h⟩ := asInt_ h
    obtain ⟨v, u, rfl, r1, r2⟩ := r.two
    have e1 : v = .int i := r1
    have e2 : u = .int j := r2
    subst e1; subst e2
    refine ⟨i, j, rfl, h.1.p, fun p hp => ?_⟩
    obtain ⟨st2, e2⟩ := st.alloc (o := .tup [.int (i / j), .int (i % j)]) hp
    exact hk (.tup [.int (i / j), .int (i % j)]) _ _ _ e2 st2 ⟨p, _, rfl, SqT.of upd_same, _, _, rfl, rfl, _, _, rfl, rfl, rfl⟩ h.2⟩
/-! sums of numbers and truths -/
def numV : V → Int
  | .int i => i
  | .bl b => if b = true then 1 else 0
  | _ => 0
def isNumV : V → Bool
  | .int _ => true
  | .bl _ => true
  | _ => false
def Da.num : Da → Int
  | .int i => i
  | .bl b => if b = true then 1 else 0
  | _ => 0
def Da.isNum : Da → Bool
  | .int _ => true
  | .bl _ => true
  | _ => false
theorem num_of {v : V} {u : Value} (r : RelV v u) (h : isNumV v = true) : NumOf (numV v) u := by
  cases v with
  | int i => obtain ⟨t, rfl⟩ := r; exact .inl ⟨t, rfl⟩
  | bl b => cases r; exact .inr ⟨b, rfl, rfl⟩
  | _ => cases h
theorem preSum_vals (val : Nat → Int) : ∀ n, preSum val n = ((List.range n).map val).sum
  | 0 => rfl
  | n + 1 => by
    show preSum val n + val n = _
    rw [preSum_vals val n, List.range_succ, List.map_append, List.sum_append, List.map_cons, List.map_nil, List.sum_cons, List.sum_nil]; omega
theorem range_getD {xs : List Int} : (List.range xs.length).map (fun i => xs.getD i 0) = xs := by
  refine List.ext_getElem? fun i => ?_
  rw [List.getElem?_map]
  by_cases h : i < xs.length
  · rw [List.getElem?_range h, List.getElem?_eq_getElem h]
    show some (xs.getD i 0) = _
    rw [List.getD_eq_getElem?_getD, List.getElem?_eq_getElem h]; rfl
  · rw [List.getElem?_eq_none (by rw [List.length_range]; omega), List.getElem?_eq_none (by omega)]; rfl
theorem sum_seq {X : Cx} (hc : X.calm = true) : CallR X (.builtin "sum") (fun vs H Q => ∃ a xs, vs = [V.ref a] ∧ (SqL X.K H a xs ∨ SqT X.K H a xs) ∧ xs.all isNumV = true ∧ Q (.int (xs.map numV).sum) H) := by
  intro pins s σ H vs us Q I r h
  obtain ⟨a, xs, rfl, hs, hn, q⟩ := h
  rw [Vals.ref1 r]
  have hh := I.ok.hd hc
  have val : ∀ (its : List Value), Vals xs its → ∀ i v, its.toArray[i]? = some v → NumOf ((xs.map numV).getD i 0) v := fun its rv i v e => by
    have e' : its[i]? = some v := by simpa using e
    have hi : i < xs.length := by rw [rv.length]; exact (List.getElem?_eq_some_iff.mp e').1
    obtain ⟨u, h1, h2⟩ := rv.get (List.getElem?_eq_getElem hi)
    rw [e'] at h1; cases h1
    rw [List.getD_eq_getElem?_getD, List.getElem?_map, List.getElem?_eq_getElem hi]
    exact num_of h2 (List.all_eq_true.mp hn _ (List.getElem_mem hi))
  have sm : ∀ (its : List Value), Vals xs its → preSum (fun i => (xs.map numV).getD i 0) its.toArray.size = (xs.map numV).sum := fun its rv => by
    rw [preSum_vals, List.size_toArray, ← rv.length, ← List.length_map (f := numV) (as := xs), range_getD]
  have fin : ∀ (ob : Obj) (n : Nat) (s' : Shared), n = (xs.map numV).sum.toNat ∨ True → Moved [s.heap.objs.size] (fun a b => b = a) { s with heap := s.heap.push ob } s' → Inv X pins σ H s' := fun ob n s' _ m => by
    obtain ⟨h2, g2, d2, t2, o2⟩ := s'
    have e1 : g2 = s.gens := m.gens
    have e2 : d2 = s.drawn := m.drawn
    have e3 : o2 = s.os := m.os
    subst e1; subst e2; subst e3
    exact I.kept (h' := h2) (t' := t2) fun b u e => m.heap b u (by simp only [List.mem_singleton]; exact Nat.ne_of_lt (Heap.lt_size e)) (Heap.get?_push_of_some _ e)
  rcases hs with hs | hs
  · obtain ⟨its, rv, hl, _⟩ := I.list hs
    have ha : a < s.heap.objs.size := by
      obtain ⟨o, n, e, _⟩ := hl
      exact Heap.lt_size e
    refine call_sum_walkAnyB (wpAny_pyIter_list hl.isList ?_)
    refine ⟨s.heap.objs.size, [s.heap.objs.size, a], [s.heap.objs.size], _, _, _, _, _, rfl, (Walks.list (A := X.A.in1) hh s.heap.objs.size a (Nat.ne_of_lt ha) its.toArray).toS, ?_, ?_, val its rv, fun s' t' m => ?_⟩
    · exact ⟨⟨_, Heap.get?_push_size _ rfl, rfl, rfl⟩, hl.isList.at fun o e => Heap.get?_push_of_some _ e⟩
    · intro b hb
      rcases List.mem_cons.mp hb with rfl | hb
      · rw [Heap.size_push]; exact Nat.lt_succ_self _
      · rw [List.mem_singleton.mp hb, Heap.size_push]; exact Nat.lt_succ_of_lt ha
    · rw [sm its rv]
      exact ⟨.int _, H, fin _ 0 s' (.inr trivial) m, ⟨_, rfl⟩, q⟩
  · obtain ⟨its, rv, hl, _⟩ := I.tuple hs
    have ha : a < s.heap.objs.size := hl.lt
    refine call_sum_walkAnyB (wpAny_pyIter_tuple hl ?_)
    refine ⟨s.heap.objs.size, [s.heap.objs.size, a], [s.heap.objs.size], _, _, _, _, _, rfl, (Walks.tuple (A := X.A.in1) hh s.heap.objs.size a (Nat.ne_of_lt ha) its.toArray).toS, ?_, ?_, val its rv, fun s' t' m => ?_⟩
    · exact ⟨⟨_, Heap.get?_push_size _ rfl, rfl, rfl⟩, (show s.heap.IsTuple a its.toArray from hl).at fun o e => Heap.get?_push_of_some _ e⟩
    · intro b hb
      rcases List.mem_cons.mp hb with rfl | hb
      · rw [Heap.size_push]; exact Nat.lt_succ_self _
      · rw [List.mem_singleton.mp hb, Heap.size_push]; exact Nat.lt_succ_of_lt ha
    · rw [sm its rv]
      exact ⟨.int _, H, fin _ 0 s' (.inr trivial) m, ⟨_, rfl⟩, q⟩
theorem Reps.nums {K : PySem.W.Frag} {H : Hp} : ∀ {ds : List Da} {vs : List V}, Reps K H ds vs → ds.all Da.isNum = true → vs.all isNumV = true ∧ vs.map numV = ds.map Da.num
  | [], _, r, _ => by unfold Reps at r; subst r; exact ⟨rfl, rfl⟩
  | d :: ds, _, r, h => by
    obtain ⟨v, l, rfl, r1, r2⟩ := r
    rw [List.all_cons, Bool.and_eq_true] at h
    obtain ⟨h1, h2⟩ := Reps.nums r2 h.2
    have z : isNumV v = true ∧ numV v = d.num := by
      cases d with
      | int i => have e : v = .int i := r1; subst e; exact ⟨rfl, rfl⟩
      | bl i => have e : v = .bl i := r1; subst e; exact ⟨rfl, rfl⟩
      | _ => cases h.1
    rw [List.all_cons, List.map_cons, List.map_cons, z.1, h1, h2, z.2]
    exact ⟨rfl, rfl⟩
theorem c_sum (hc : S.calm = true := by rfl) : CallG S (.builtin "sum") fun ds Q => as1 ds fun d => asSeq d fun xs => xs.all Da.isNum = true ∧ Q (.int (xs.map Da.num).sum) :=
  .keep (fun vs H Q => ∃ a xs, vs = [V.ref a] ∧ (SqL S.K H a xs ∨ SqT S.K H a xs) ∧ xs.all isNumV = true ∧ Q (.int (xs.map numV).sum) H) (fun X ok => by have z := sum_seq (X := X) (ok.calm hc); rw [ok.K] at z; exact z) fun Hf H ds vs Q k e r h hk => by
  obtain ⟨d, rfl, h⟩ := as1_ h
  obtain ⟨v, rfl, r1⟩ := r.one
  obtain ⟨ys, a, xs, rfl, hs, r2, q⟩ := r1.seq h
  obtain ⟨z1, z2⟩ := r2.nums q.1
  exact ⟨a, xs, rfl, hs.imp e.sl e.st, z1, hk (.int (ys.map Da.num).sum) _ (by rw [z2]; rfl) q.2⟩
/-! repr -/
theorem repr_any {X : Cx} (hg : X.A.guards = some []) (hu : X.A.units + 64 < cLine) : CallR X (.builtin "repr") (fun vs H Q => ∃ v d, vs = [v] ∧ Dp X.K H v d ∧ d.showable = true ∧ d.hasDict = false ∧ d.depth ≤ 60 ∧ d.shown.length ≤ sizeLine ∧ Q (.str d.shown) H) := by
  intro pins s σ H vs us Q I r h
  obtain ⟨v, d, rfl, hd, h1, h2, h3, h4, q⟩ := h
  obtain ⟨u, rfl, ru⟩ := vals1 r
  cases hd with
  | non => cases ru; exact PySem.P.repr_of_none ⟨.str _, H, I.tok _, ⟨_, rfl⟩, q⟩
  | bl b => cases ru; exact PySem.P.repr_of_bool ⟨.str _, H, I.tok _, ⟨_, rfl⟩, q⟩
  | int i =>
    obtain ⟨t, rfl⟩ := ru
    exact PySem.P.repr_of_int (of_decide_eq_true h1) ⟨.str _, H, I.tok _, ⟨_, rfl⟩, q⟩
  | str x =>
    obtain ⟨t, rfl⟩ := ru
    exact PySem.P.repr_of_str ⟨.str _, H, I.tok _, ⟨_, rfl⟩, q⟩ h4
  | lst hs ha =>
    obtain ⟨as, rd⟩ := Dp.reads I _ _ _ (.lst hs ha) ru
    cases ru
    exact repr_of_reads' rd h1 (PyData.noDict_hsm h2) hg (by omega) (fun _ _ e => e) (fun h' u tk hk => ⟨.str _, H, I.kept hk, ⟨_, rfl⟩, q⟩) h4
  | tup hs ha =>
    obtain ⟨as, rd⟩ := Dp.reads I _ _ _ (.tup hs ha) ru
    cases ru
    exact repr_of_reads' rd h1 (PyData.noDict_hsm h2) hg (by omega) (fun _ _ e => e) (fun h' u tk hk => ⟨.str _, H, I.kept hk, ⟨_, rfl⟩, q⟩) h4
mutual
theorem Da.py_noDict : ∀ d : Da, d.py.hasDict = false
  | .bl _ => by unfold Da.py PyData.hasDict; rfl
  | .int _ => by unfold Da.py PyData.hasDict; rfl
  | .str _ => by unfold Da.py PyData.hasDict; rfl
  | .lst xs => by unfold Da.py PyData.hasDict; exact Da.pys_noDict xs
  | .tup xs => by unfold Da.py PyData.hasDict; exact Da.pys_noDict xs
  | .non => by unfold Da.py PyData.hasDict; rfl
  | .dct _ => by unfold Da.py PyData.hasDict; rfl
  | .ins _ _ => by unfold Da.py PyData.hasDict; rfl
  | .lm _ => by unfold Da.py PyData.hasDict; rfl
  | .clo _ _ => by unfold Da.py PyData.hasDict; rfl
  | .ty _ => by unfold Da.py PyData.hasDict; rfl
theorem Da.pys_noDict : ∀ ds : List Da, PyData.hasDictAll (Da.pys ds) = false
  | [] => by unfold Da.pys PyData.hasDictAll; rfl
  | d :: ds => by unfold Da.pys PyData.hasDictAll; rw [Da.py_noDict d, Da.pys_noDict ds]; rfl
end
/-- data whose repr is asked -/
structure Shw (d : Da) : Prop where
  p : d.pure = true
  s : d.py.showable = true
  dp : d.py.depth ≤ 60
  l : d.py.shown.length ≤ 1000000
theorem c_repr : CallG S (.builtin "repr") fun ds Q => as1 ds fun d => Shw d ∧ Q (.str d.py.shown) :=
  .keep (fun vs H Q => ∃ v d, vs = [v] ∧ Dp S.K H v d ∧ d.showable = true ∧ d.hasDict = false ∧ d.depth ≤ 60 ∧ d.shown.length ≤ sizeLine ∧ Q (.str d.shown) H) (fun X ok => by have z := repr_any (X := X) ok.gd ok.units; rw [ok.K] at z; exact z) fun Hf H ds vs Q k e r h hk => by
  obtain ⟨d, rfl, h, q⟩ := as1_ h
  obtain ⟨v, rfl, r1⟩ := r.one
  exact ⟨v, d.py, rfl, Rep.dp d v h.p (Rep.mono e _ _ r1), h.s, d.py_noDict, h.dp, Nat.le_trans h.l (by decide : 1000000 ≤ sizeLine), hk (.str d.py.shown) _ rfl q⟩
/-! == of data -/
structure EqOk (d : Da) : Prop where
  p : d.pure = true
  s : SeqAt.shaped d.py = true
@[reducible] def eqQ (x y : Da) (k : Bool → Prop) : Prop := match x, y with
  | .int i, .int j => k (decide (i = j))
  | .str i, .str j => k (decide (i = j))
  | .bl i, .bl j => k (decide (i = j))
  | x, y => EqOk x ∧ EqOk y ∧ k (PyData.eqv x.py y.py)
theorem eq_any {f : Value → Value → Sem Value} {g : Bool → Bool} (h1 : ∀ X, S.Ok X → OpR X f (fun x y H Q => scal x y = true ∧ Q (.bl (g (decide (x = y)))) H)) (h2 : ∀ X, S.Ok X → OpR X f (fun x y H Q => ∃ d e, Dp S.K H x d ∧ Dp S.K H y e ∧ SeqAt.shaped d = true ∧ SeqAt.shaped e = true ∧ Q (.bl (g (PyData.eqv d e))) H)) :
    OpG S f fun x y Q => eqQ x y fun b => Q (.bl (g b)) :=
  .pure _ (fun X ok => (h1 X ok).or (h2 X ok)) fun Hf H x y v u Q k e rx ry hr hk => by
    unfold eqQ at hr
    split at hr
    · rename_i i j
      have e1 : v = .int i := rx
      have e2 : u = .int j := ry
      subst e1; subst e2
      exact .inl ⟨rfl, hk (.bl (g (decide (i = j)))) _ (by rw [show decide (V.int i = V.int j) = decide (i = j) by rw [Bool.eq_iff_iff]; simp]; rfl) hr⟩
    · rename_i i j
      have e1 : v = .str i := rx
      have e2 : u = .str j := ry
      subst e1; subst e2
      exact .inl ⟨rfl, hk (.bl (g (decide (i = j)))) _ (by rw [show decide (V.str i = V.str j) = decide (i = j) by rw [Bool.eq_iff_iff]; simp]; rfl) hr⟩
    · rename_i i j
      have e1 : v = .bl i := rx
      have e2 : u = .bl j := ry
      subst e1; subst e2
      exact .inl ⟨rfl, hk (.bl (g (decide (i = j)))) _ (by rw [show decide (V.bl i = V.bl j) = decide (i = j) by rw [Bool.eq_iff_iff]; simp]; rfl) hr⟩
    · obtain ⟨a, b, q⟩ := hr
      exact .inr ⟨x.py, y.py, Rep.dp x v a.p (Rep.mono e _ _ rx), Rep.dp y u b.p (Rep.mono e _ _ ry), a.s, b.s, hk (.bl (g (PyData.eqv x.py y.py))) _ rfl q⟩
theorem g_eq : OpG S (compareOp .Eq) fun x y Q => eqQ x y fun b => Q (.bl b) := eq_any (g := fun b => b) (fun _ _ => op_eq) fun X ok => by have z := op_eqD (X := X) ok.units; unfold rEqD at z; rw [ok.K] at z; exact z
theorem g_ne : OpG S (compareOp .NotEq) fun x y Q => eqQ x y fun b => Q (.bl (!b)) := eq_any (g := fun b => !b) (fun _ _ => op_ne) fun X ok => by have z := op_neD (X := X) ok.units; unfold rNeD at z; rw [ok.K] at z; exact z
end

/-! ## items, slices, stores, methods -/
def cutD {α : Type} (xs : List α) (lo hi : Option Int) : List α := (xs.drop (HT.sIx xs.length 0 lo)).take (HT.sIx xs.length xs.length hi - HT.sIx xs.length 0 lo)
theorem Reps.drop {K : PySem.W.Frag} {H : Hp} : ∀ {ds : List Da} {vs : List V} (n : Nat), Reps K H ds vs → Reps K H (ds.drop n) (vs.drop n)
  | _, _, 0, r => r
  | [], _, n + 1, r => by unfold Reps at r; subst r; exact rfl
  | d :: ds, _, n + 1, r => by
    obtain ⟨v, l, rfl, r1, r2⟩ := r
    exact Reps.drop n r2
theorem Reps.take {K : PySem.W.Frag} {H : Hp} : ∀ {ds : List Da} {vs : List V} (n : Nat), Reps K H ds vs → Reps K H (ds.take n) (vs.take n)
  | ds, vs, 0, r => by rw [List.take_zero, List.take_zero]; exact rfl
  | [], _, n + 1, r => by unfold Reps at r; subst r; exact rfl
  | d :: ds, _, n + 1, r => by
    obtain ⟨v, l, rfl, r1, r2⟩ := r
    exact ⟨v, _, rfl, r1, Reps.take n r2⟩
theorem Reps.cut {K : PySem.W.Frag} {H : Hp} {ds : List Da} {vs : List V} (lo hi : Option Int) (r : Reps K H ds vs) : Reps K H (cutD ds lo hi) (cutV vs lo hi) := by
  unfold cutD cutV
  rw [r.len]
  exact (r.drop _).take _
theorem Reps.set {K : PySem.W.Frag} {H : Hp} {d : Da} {v : V} (rd : Rep K H d v) : ∀ {ds : List Da} {vs : List V} (n : Nat), Reps K H ds vs → Reps K H (ds.set n d) (vs.set n v)
  | [], _, n, r => by unfold Reps at r; subst r; exact rfl
  | e :: ds, _, 0, r => by
    obtain ⟨u, l, rfl, r1, r2⟩ := r
    exact ⟨v, l, rfl, rd, r2⟩
  | e :: ds, _, n + 1, r => by
    obtain ⟨u, l, rfl, r1, r2⟩ := r
    exact ⟨u, _, rfl, r1, Reps.set rd n r2⟩
theorem atI_rep {K : PySem.W.Frag} {H : Hp} {ds : List Da} {vs : List V} {i : Int} {d : Da} (r : Reps K H ds vs) (h : atI ds i = some d) : ∃ v, atI vs i = some v ∧ Rep K H d v := by
  unfold atI at h ⊢
  rw [r.len]
  cases e : ixN ds.length i with
  | none => rw [e] at h; cases h
  | some j =>
    rw [e] at h
    exact r.get h
section
variable {S : Sx} {Γ : List Slot} {e a b c o : Expr} {es : List Expr} {lo hi : Option Expr} {Q : Da → Prop} {p pos p2 apos : Pos} {x : Str} {i : Nat} {A : Addr} {I : List Da → Prop}
/-- x[i], x a list, a tuple -/
theorem ev_ix (h : EvE S Γ a fun d => EvE S Γ b fun j => asSeq d fun ds => asInt j fun i => ∃ d, atI ds i = some d ∧ Q d) (hs : ∀ o i, subscripted b false o i = operate [o, i] (getItem o i) := by intro _ _; rfl) : EvE S Γ (.Subscript a b pos) Q :=
  ev_of (t := tOp (rIx S.K) (tU S a) (tU S b)) (fun X ok => by have z := pe_ix (pos := pos) ix_seq (pu (e := a) ok) (pu (e := b) ok) hs; rw [ok.K] at z; exact z) fun PX σ H Hf k st hk => h PX σ H Hf _ st fun d v Hf1 H1 e1 st1 r1 q => q PX σ H1 Hf1 _ st1 fun j u Hf2 H2 e2 st2 r2 q2 => by
    obtain ⟨ds, P, xs, rfl, hq, rr, q3⟩ := (Rep.mono e2 _ _ r1).seq q2
    obtain ⟨i, rfl, dd, hi, q4⟩ := asInt_ q3
    obtain ⟨w, h1, h2⟩ := atI_rep rr hi
    have e' : u = .int i := r2
    subst e'
    rcases hq with hq | hq
    · exact .inl ⟨P, xs, i, w, rfl, rfl, st2.ex.sl hq, h1, hk dd w Hf2 H2 (e1.trans e2) st2 h2 q4⟩
    · exact .inr (.inl ⟨P, xs, i, w, rfl, rfl, st2.ex.st hq, h1, hk dd w Hf2 H2 (e1.trans e2) st2 h2 q4⟩)
/-- a sign of a text -/
theorem ev_ixS (h : EvE S Γ a fun d => EvE S Γ b fun j => asStr d fun z => asInt j fun i => z.length ≤ 1000000 ∧ ∃ c, atI z.cps.toList i = some c ∧ Q (.str ⟨#[c]⟩)) (hs : ∀ o i, subscripted b false o i = operate [o, i] (getItem o i) := by intro _ _; rfl) : EvE S Γ (.Subscript a b pos) Q :=
  ev_of (t := tOp rIxS (tU S a) (tU S b)) (fun X ok => pe_ix (pos := pos) ix_str (pu (e := a) ok) (pu (e := b) ok) hs) fun PX σ H Hf k st hk => h PX σ H Hf _ st fun d v Hf1 H1 e1 st1 r1 q => q PX σ H1 Hf1 _ st1 fun j u Hf2 H2 e2 st2 r2 q2 => by
    obtain ⟨z, rfl, q3⟩ := asStr_ q2
    obtain ⟨i, rfl, hz, c, hi, q4⟩ := asInt_ q3
    have e' : u = .int i := r2
    have e'' : v = .str z := r1
    subst e'; subst e''
    exact ⟨z, i, c, rfl, rfl, Nat.le_trans hz (by decide : 1000000 ≤ sizeLine), hi, hk (.str ⟨#[c]⟩) _ Hf2 H2 (e1.trans e2) st2 rfl q4⟩
theorem slot_of {kd : Kd} {σ : L2.St} {PX Hf H : Hp} (st : Stt S PX Γ Hf H σ) (hΓ : Γ[i]? = some (.ow A kd I)) : σ[i]? = some (some (.ref A)) := by
  have o1 := (st.ownK hΓ).1
  cases z : σ[i]? with
  | none => rw [z] at o1; cases o1
  | some o => rw [z] at o1; exact congrArg some o1
/-- an item of a list of the def's own -/
theorem ev_ixO (hN : S.N[i]? = some x) (hv : Vis S.sc x) (hΓ : Γ[i]? = some (.inv A I)) (h : EvE S Γ b fun j => asInt j fun j => ∀ ds, I ds → ∃ d, atI ds j = some d ∧ Q d) (hs : ∀ o i, subscripted b false o i = operate [o, i] (getItem o i) := by intro _ _; rfl)
    (hd : (x == ("__debug__" : Str)) = false := by decide) (hcd : (x == ("__classdict__" : Str)) = false := by decide) : EvE S Γ (.Subscript (.Name x p) b pos) Q :=
  ev_of (t := tOp (rIxL S.K) (tVar i) (tU S b)) (fun X ok => by have z := pe_ix (pos := pos) ix_list (pe_var (pos := p) (i := i) (by rw [ok.N]; exact hN) (by rw [ok.sc]; exact hv) hd hcd) (pu (e := b) ok) hs; rw [ok.K] at z; exact z) fun PX σ H Hf k st hk => by
    refine ⟨.ref A, slot_of st hΓ, h PX σ H Hf _ st fun j u Hf2 H2 e2 st2 r2 q2 => ?_⟩
    obtain ⟨i, rfl, q3⟩ := asInt_ q2
    obtain ⟨_, _, vs, ds, hA, rr, hI⟩ := st2.own hΓ
    obtain ⟨d, hi, q4⟩ := q3 ds hI
    obtain ⟨w, h1, h2⟩ := atI_rep rr hi
    have e' : u = .int i := r2
    subst e'
    exact ⟨A, vs, i, w, rfl, rfl, SqL.of hA, h1, hk d w Hf2 H2 e2 st2 h2 q4⟩
def EvO (S : Sx) (Γ : List Slot) (e : Option Expr) (Q : Option Int → Prop) : Prop := ∀ PX σ H Hf k, Stt S PX Γ Hf H σ →
  (∀ b Hf' H', Sub Hf Hf' → Stt S PX Γ Hf' H' σ → Q b → k b H') → ∃ t : TO, (∀ X, S.Ok X → PO X e t) ∧ t σ H k
def tUO (S : Sx) (e : Option Expr) : TO := fun σ H Q => ∃ t : TO, (∀ X, S.Ok X → PO X e t) ∧ t σ H Q
theorem puO {X : Cx} (ok : S.Ok X) : PO X lo (tUO S lo) := ⟨fun pins s σ H Q I ⟨_, h, q⟩ => (h X ok).run pins s σ H Q I q⟩
theorem eo_none {Q : Option Int → Prop} (q : Q none) : EvO S Γ none Q := fun PX σ H Hf k st hk => ⟨_, fun _ _ => po_none, hk none Hf H (Sub.refl _) st q⟩
theorem eo_some {Q : Option Int → Prop} (h : EvE S Γ e fun d => asInt d fun i => Q (some i)) : EvO S Γ (some e) Q := fun PX σ H Hf k st hk => ⟨_, fun X ok => po_some (pu ok), h PX σ H Hf _ st fun d v Hf1 H1 e1 st1 r q => by
  obtain ⟨i, rfl, q⟩ := asInt_ q
  exact ⟨i, r, hk (some i) Hf1 H1 e1 st1 q⟩⟩
theorem ev_slL (h : EvE S Γ a fun d => EvO S Γ lo fun l => EvO S Γ hi fun u => asLst d fun ds => Q (.lst (cutD ds l u))) : EvE S Γ (.Subscript a (.Slice lo hi none p2) pos) Q :=
  ev_of (t := tSl (rSlL S.K) (tU S a) (tUO S lo) (tUO S hi)) (fun X ok => by have z := pe_slice (pos := pos) (p2 := p2) sl_list (pu (e := a) ok) (puO (lo := lo) ok) (puO (lo := hi) ok); rw [ok.K] at z; exact z) fun PX σ H Hf k st hk =>
    h PX σ H Hf _ st fun d v Hf1 H1 e1 st1 r1 q => q PX σ H1 Hf1 _ st1 fun l Hf2 H2 e2 st2 q2 => q2 PX σ H2 Hf2 _ st2 fun u Hf3 H3 e3 st3 q3 => by
    obtain ⟨ds, rfl, q4⟩ := asLst_ q3
    obtain ⟨P, xs, rfl, hq, rr⟩ := Rep.mono (e2.trans e3) _ _ r1
    refine ⟨P, xs, rfl, st3.ex.sl hq, fun p hp => ?_⟩
    obtain ⟨st4, e4⟩ := st3.alloc (o := .lst (cutV xs l u)) hp
    exact hk (.lst (cutD ds l u)) _ _ _ (((e1.trans e2).trans e3).trans e4) st4 ⟨p, _, rfl, SqL.of upd_same, Reps.mono e4 _ _ (rr.cut l u)⟩ q4
theorem cutV_all {xs : List V} {lo hi : Option Int} (h : HT.sIx xs.length 0 lo = 0 ∧ HT.sIx xs.length xs.length hi = xs.length) : cutV xs lo hi = xs := by
  unfold cutV
  rw [h.1, h.2, List.drop_zero, Nat.sub_zero, List.take_length]
theorem ev_slT (h : EvE S Γ a fun d => EvO S Γ lo fun l => EvO S Γ hi fun u => asTup d fun ds => Q (.tup (cutD ds l u))) : EvE S Γ (.Subscript a (.Slice lo hi none p2) pos) Q :=
  ev_of (t := tSl (rSlA S.K) (tU S a) (tUO S lo) (tUO S hi)) (fun X ok => by have z := pe_slice (pos := pos) (p2 := p2) sl_tupA (pu (e := a) ok) (puO (lo := lo) ok) (puO (lo := hi) ok); rw [ok.K] at z; exact z) fun PX σ H Hf k st hk =>
    h PX σ H Hf _ st fun d v Hf1 H1 e1 st1 r1 q => q PX σ H1 Hf1 _ st1 fun l Hf2 H2 e2 st2 q2 => q2 PX σ H2 Hf2 _ st2 fun u Hf3 H3 e3 st3 q3 => by
    obtain ⟨ds, rfl, q4⟩ := asTup_ q3
    obtain ⟨P, xs, rfl, hq, rr⟩ := Rep.mono (e2.trans e3) _ _ r1
    refine ⟨P, xs, rfl, st3.ex.st hq, fun w => ?_, fun w p hp => ?_⟩
    · have z := rr.cut l u
      rw [cutV_all w] at z
      exact hk (.tup (cutD ds l u)) _ _ _ ((e1.trans e2).trans e3) st3 ⟨P, xs, rfl, hq, z⟩ q4
    · obtain ⟨st4, e4⟩ := st3.alloc (o := .tup (cutV xs l u)) hp
      exact hk (.tup (cutD ds l u)) _ _ _ (((e1.trans e2).trans e3).trans e4) st4 ⟨p, _, rfl, SqT.of upd_same, Reps.mono e4 _ _ (rr.cut l u)⟩ q4
/-- a list of the def's own is changed -/
theorem Stt0.putK {kd kd' : Kd} {PX Hf H : Hp} {σ : L2.St} (st : Stt0 S PX Γ Hf H σ) (hΓ : Γ[i]? = some (.ow A kd I)) {I' : List Da → Prop} {o : HO} (r : OwnK S.K Hf (upd H A o) A kd' I') : Stt0 S PX (Γ.set i (.ow A kd' I')) Hf (upd H A o) σ := by
  have hi : i < Γ.length := (List.getElem?_eq_some_iff.mp hΓ).1
  have get : ∀ (j : Nat) s, (Γ.set i (.ow A kd' I'))[j]? = some s → (j = i ∧ s = .ow A kd' I') ∨ (i ≠ j ∧ Γ[j]? = some s) := fun j s h => by
    by_cases c : i = j
    · subst c
      rw [List.getElem?_set_self hi] at h; cases h
      exact .inl ⟨rfl, rfl⟩
    · rw [List.getElem?_set_ne c] at h; exact .inr ⟨c, h⟩
  have ap : ∀ (j : Nat) p k J, i ≠ j → Γ[j]? = some (Slot.ow p k J) → p ≠ A := fun j p k J c h z => by
    subst z; exact c (st.sep i j _ _ _ _ _ hΓ h)
  have fA := (st.ownK hΓ).2.free
  have pA := st.pi i A _ I hΓ
  refine ⟨by rw [List.length_set]; exact st.len, st.ex0, fun a u h => ?_, fun q u h1 h2 => ?_, fun q h => ?_, fun j s h => ?_, fun j p k J h => ?_, st.fr, fun a u h => ?_, st.pf, fun j p k J h => ?_, fun j l p k1 k2 J1 J2 h1 h2 => ?_⟩
  · rw [upd_ne (ne_of_none h fA)]; exact st.ex a u h
  · rw [upd_ne (fun z => ?_)]; exact st.keep q u h1 h2
    subst z
    rcases st.new i _ _ _ hΓ with c | c
    · exact h2 c
    · rw [h1] at c; cases c
  · by_cases c : q.1 = A
    · rw [c, upd_same]; exact fun z => nomatch z
    · rw [upd_ne c]; exact st.ops q h
  · rcases get j s h with ⟨rfl, rfl⟩ | ⟨c, h⟩
    · exact ⟨(st.ownK hΓ).1, r⟩
    · refine (st.at_ j s h).more (Sub.refl _) fun p k J e => ?_
      subst e
      rw [upd_ne (ap j p _ J c h)]
      exact ⟨(st.ownK h).2.free, rfl⟩
  · rcases get j _ h with ⟨rfl, e⟩ | ⟨c, h⟩
    · cases e; exact st.new _ _ _ _ hΓ
    · exact st.new j p k J h
  · rw [upd_ne (ne_of_none h pA)]; exact st.px a u h
  · rcases get j _ h with ⟨rfl, e⟩ | ⟨c, h⟩
    · cases e; exact pA
    · exact st.pi j p k J h
  · rcases get j _ h1 with ⟨rfl, e⟩ | ⟨c, h4⟩
    · cases e
      rcases get l _ h2 with ⟨rfl, e⟩ | ⟨c, h3⟩
      · rfl
      · exact absurd rfl (ap l _ _ _ c h3)
    · rcases get l _ h2 with ⟨rfl, e⟩ | ⟨c2, h3⟩
      · cases e; exact absurd rfl (ap j _ _ _ c h4)
      · exact st.sep j l p _ _ _ _ h4 h3
theorem Stt.putK {kd kd' : Kd} {PX Hf H : Hp} {σ : L2.St} (st : Stt S PX Γ Hf H σ) (hΓ : Γ[i]? = some (.ow A kd I)) {I' : List Da → Prop} {o : HO} (r : OwnK S.K Hf (upd H A o) A kd' I') : Stt S PX (Γ.set i (.ow A kd' I')) Hf (upd H A o) σ := by
  have n := st.ownT hΓ
  exact ⟨by rw [strip_upd n]; exact st.z.putK hΓ (r.eq (by rw [upd_same, upd_same])), st.tb.upd (Sub.refl _) n⟩
theorem Stt0.put {PX Hf H : Hp} {σ : L2.St} (st : Stt0 S PX Γ Hf H σ) (hΓ : Γ[i]? = some (.inv A I)) {I' : List Da → Prop} {vs : List V} {xs : List Da} (r : Reps S.K Hf xs vs) (hI : I' xs) : Stt0 S PX (Γ.set i (.inv A I')) Hf (upd H A (.lst vs)) σ :=
  st.putK (kd' := .l) hΓ ⟨(st.own hΓ).2.1, vs, xs, upd_same, r, hI⟩
theorem Stt.put {PX Hf H : Hp} {σ : L2.St} (st : Stt S PX Γ Hf H σ) (hΓ : Γ[i]? = some (.inv A I)) {I' : List Da → Prop} {vs : List V} {xs : List Da} (r : Reps S.K Hf xs vs) (hI : I' xs) : Stt S PX (Γ.set i (.inv A I')) Hf (upd H A (.lst vs)) σ := by
  have n := st.ownT hΓ
  exact ⟨by rw [strip_upd n]; exact st.z.put hΓ r hI, st.tb.upd (Sub.refl _) n⟩
/-- x[i] = v, x a list of the def's own -/
theorem eg_sub {W : Nat → Bool} {d : Da} {Q : List Slot → Prop} {I' : List Da → Prop} (hN : S.N[i]? = some x) (hv : Vis S.sc x) (hΓ : Γ[i]? = some (.inv A I)) (h : EvE S Γ b fun j => asInt j fun j => (∀ ds, I ds → ∃ n, ixN ds.length j = some n ∧ I' (ds.set n d)) ∧ Q (Γ.set i (.inv A I')))
    (hW : W i = true := by rfl) (hd : (x == ("__debug__" : Str)) = false := by decide) (hcd : (x == ("__classdict__" : Str)) = false := by decide)
    (ha : ∀ env v, assign (.Subscript (.Name x p) b pos) env v = (do
      let ov ← holding [v] (eval (.Name x p) env)
      let iv ← holding [v, ov] (eval b env)
      standAt pos
      holding [v, ov, iv] (setItem ov iv v)
      release [v, ov, iv] []) := by intro _ _; rfl) : EvG S W Γ (.Subscript (.Name x p) b pos) d Q := by
  intro PX v σ H Hf k st r hk
  refine ⟨gSub (tVar i) (tU S b) rSetL, fun X ok => pg_sub (pe_var (pos := p) (i := i) (by rw [ok.N]; exact hN) (by rw [ok.sc]; exact hv) hd hcd) (pu ok) set_list (ha _), .ref A, slot_of st hΓ, ?_⟩
  refine h PX σ H Hf _ st fun j u Hf2 H2 e2 st2 r2 q2 => ?_
  obtain ⟨i', rfl, q3, q4⟩ := asInt_ q2
  obtain ⟨_, _, vs, ds, hA, rr, hI⟩ := st2.own hΓ
  obtain ⟨n, h1, h2⟩ := q3 ds hI
  have e' : u = .int i' := r2
  subst e'
  refine ⟨A, vs, i', n, rfl, rfl, hA, by rw [rr.len]; exact h1, ?_⟩
  exact hk _ _ Hf2 _ e2 (st2.put hΓ (Reps.set (Rep.mono e2 _ _ r) n rr) h2) ⟨rfl, fun _ _ => rfl, (Alt.set (σ := σ) (x := none) hW).g⟩ q4
/-- what becomes data when it is frozen -/
@[reducible] def IceD (K : PySem.W.Frag) (Hf : Hp) (A : Addr) (I : List Da → Prop) (d : Da) : Kd → HO → Prop
  | .l, o => ∃ ds vs, d = .lst ds ∧ o = .lst vs ∧ Reps K Hf ds vs ∧ I ds
  | .d, o => ∃ ks kvs, d = .dct ks ∧ o = .dK kvs ∧ RepK K Hf ks kvs ∧ I [.dct ks]
  | .o, o => ∃ C dx fs gs, d = .ins C fs ∧ o = .ins C dx gs ∧ RepF K Hf fs gs ∧ I [.ins C fs]
theorem iceD_of {kd : Kd} {K : PySem.W.Frag} {Hf H : Hp} (h : OwnK K Hf H A kd I) : ∃ d o, H A = some o ∧ IceD K Hf A I d kd o := by
  cases kd with
  | l => obtain ⟨_, vs, xs, a, b, c⟩ := h; exact ⟨_, _, a, xs, vs, rfl, rfl, b, c⟩
  | d => obtain ⟨_, vs, xs, a, b, c⟩ := h; exact ⟨_, _, a, xs, vs, rfl, rfl, b, c⟩
  | o => obtain ⟨_, C, dx, gs, fs, a, b, c⟩ := h; exact ⟨_, _, a, C, dx, fs, gs, rfl, rfl, b, c⟩
theorem iceD_rep {kd : Kd} {K : PySem.W.Frag} {Hf Hf' : Hp} {d : Da} {o : HO} (h : IceD K Hf A I d kd o) (e : Sub Hf Hf') (e2 : Hf' A = some o) : Rep K Hf' d (.ref A) := by
  cases kd with
  | l => obtain ⟨ds, vs, rfl, rfl, r, _⟩ := h; exact ⟨A, vs, rfl, SqL.of e2, Reps.mono e _ _ r⟩
  | d => obtain ⟨ds, vs, rfl, rfl, r, _⟩ := h; exact ⟨A, vs, rfl, .inl e2, RepK.mono e _ _ r⟩
  | o => obtain ⟨C, dx, fs, gs, rfl, rfl, r, _⟩ := h; exact ⟨A, dx, gs, rfl, e2, RepF.mono e _ _ r⟩
theorem Stt0.iceK {kd : Kd} {PX Hf H : Hp} {σ : L2.St} (st : Stt0 S PX Γ Hf H σ) (hΓ : Γ[i]? = some (.ow A kd I)) (hop : A ∉ S.op.map (·.1)) : ∃ d o, IceD S.K Hf A I d kd o ∧ Sub Hf (upd Hf A o) ∧ Stt0 S PX (Γ.set i (.dat d)) (upd Hf A o) H σ := by
  obtain ⟨d, o, hA, hD⟩ := iceD_of (st.ownK hΓ).2
  have fA := (st.ownK hΓ).2.free
  have hi : i < Γ.length := (List.getElem?_eq_some_iff.mp hΓ).1
  have e : Sub Hf (upd Hf A o) := Sub.upd0 (Sub.refl _) fA
  have pA := st.pi i A _ I hΓ
  have pn : ∀ q, PX q ≠ none → q ≠ A := fun q h c => h (by rw [c]; exact pA)
  have h0 : S.H0 A = none := (st.new i _ _ _ hΓ).resolve_left hop
  have get : ∀ (j : Nat) s, (Γ.set i (.dat d))[j]? = some s → (j = i ∧ s = .dat d) ∨ (i ≠ j ∧ Γ[j]? = some s) := fun j s h => by
    by_cases c : i = j
    · subst c
      rw [List.getElem?_set_self hi] at h; cases h
      exact .inl ⟨rfl, rfl⟩
    · rw [List.getElem?_set_ne c] at h; exact .inr ⟨c, h⟩
  have old : ∀ (j : Nat) p k J, (Γ.set i (.dat d))[j]? = some (Slot.ow p k J) → i ≠ j ∧ Γ[j]? = some (Slot.ow p k J) := fun j p k J h => by
    rcases get j _ h with ⟨_, z⟩ | z
    · cases z
    · exact z
  refine ⟨d, o, hD, e, by rw [List.length_set]; exact st.len, st.ex0.trans e, fun a u h => ?_, st.keep, st.ops, fun j s h => ?_, fun j p k J h => st.new j p k J (old j p k J h).2, fun q h h2 => ?_, st.px, fun q h => ?_, fun j p k J h => st.pi j p k J (old j p k J h).2, fun j l p k1 k2 J1 J2 h1 h2 => st.sep j l p k1 k2 J1 J2 (old j p k1 J1 h1).2 (old l p k2 J2 h2).2⟩
  · by_cases c : a = A
    · subst c; rw [upd_same] at h; rw [hA]; exact h
    · rw [upd_ne c] at h; exact st.ex a u h
  · rcases get j s h with ⟨rfl, rfl⟩ | ⟨c, h⟩
    · exact ⟨.ref A, (st.ownK hΓ).1, iceD_rep hD e upd_same⟩
    · refine (st.at_ j s h).more e fun p k J es => ?_
      subst es
      have n : p ≠ A := fun z => by subst z; exact c (st.sep i j _ _ _ _ _ hΓ h)
      rw [upd_ne n]
      exact ⟨(st.ownK h).2.free, rfl⟩
  · by_cases c : q = A
    · subst c; exact h0
    · rw [upd_ne c] at h; exact st.fr q h h2
  · rw [upd_ne (pn q h)]; exact st.pf q h
theorem Stt.iceK {kd : Kd} {PX Hf H : Hp} {σ : L2.St} (st : Stt S PX Γ Hf H σ) (hΓ : Γ[i]? = some (.ow A kd I)) (hop : A ∉ S.op.map (·.1)) : ∃ d o, IceD S.K Hf A I d kd o ∧ Sub Hf (upd Hf A o) ∧ Stt S PX (Γ.set i (.dat d)) (upd Hf A o) H σ := by
  obtain ⟨d, o, a, b, c⟩ := st.z.iceK hΓ hop
  exact ⟨d, o, a, b, c, st.tb.mono b fun _ _ => rfl⟩
theorem Stt.ice {PX Hf H : Hp} {σ : L2.St} (st : Stt S PX Γ Hf H σ) (hΓ : Γ[i]? = some (.inv A I)) (hop : A ∉ S.op.map (·.1)) : ∃ ds vs, I ds ∧ Sub Hf (upd Hf A (.lst vs)) ∧ Stt S PX (Γ.set i (.dat (.lst ds))) (upd Hf A (.lst vs)) H σ := by
  obtain ⟨d, o, ⟨ds, vs, rfl, rfl, _, hI⟩, b, c⟩ := st.iceK hΓ hop
  exact ⟨ds, vs, hI, b, c⟩
/-- a dict of the def's own is frozen -/
theorem eb_freezeD {sts : List Stmt} {D : EnG} (hΓ : Γ[i]? = some (.ow A .d I)) (hop : A ∉ S.op.map (·.1)) (h : ∀ ks, I [.dct ks] → EvB S (Γ.set i (.dat (.dct ks))) sts D) : EvB S Γ sts D := fun PX σ H Hf D' s k => by
  obtain ⟨d, o, ⟨ks, kvs, rfl, rfl, _, hI⟩, e, s2⟩ := s.iceK hΓ hop
  exact h ks hI PX σ H _ D' s2 (k.mono e)
/-- a list of the def's own is read as it is (frozen from here on) -/
theorem eb_freeze {sts : List Stmt} {D : EnG} (hΓ : Γ[i]? = some (.inv A I)) (hop : A ∉ S.op.map (·.1)) (h : ∀ ds, I ds → EvB S (Γ.set i (.dat (.lst ds))) sts D) : EvB S Γ sts D := fun PX σ H Hf D' s k => by
  obtain ⟨ds, vs, hI, e, s2⟩ := s.ice hΓ hop
  exact h ds hI PX σ H _ D' s2 (k.mono e)
theorem eb_weak {sts : List Stmt} {D : EnG} {I' : List Da → Prop} (hΓ : Γ[i]? = some (.inv A I)) (hI : ∀ ds, I ds → I' ds) (h : EvB S (Γ.set i (.inv A I')) sts D) : EvB S Γ sts D := fun PX σ H Hf D' s k => by
  obtain ⟨_, _, vs, ds, hA, rr, hi⟩ := s.own hΓ
  have z := s.put hΓ rr (hI ds hi)
  have e : upd H A (.lst vs) = H := by
    funext q
    by_cases c : q = A
    · subst c; rw [upd_same, hA]
    · rw [upd_ne c]
  rw [e] at z
  exact h PX σ H Hf D' z k
theorem eb_open {sts : List Stmt} {D : EnG} (hΓ : Γ[i]? = some (.inv A I)) (h : ∀ ds, I ds → EvB S (Γ.set i (.inv A fun ys => ys = ds)) sts D) : EvB S Γ sts D := fun PX σ H Hf D' s k => by
  obtain ⟨_, _, vs, ds, hA, rr, hi⟩ := s.own hΓ
  have z := s.put (I' := fun ys => ys = ds) hΓ rr rfl
  have e : upd H A (.lst vs) = H := by
    funext q
    by_cases c : q = A
    · subst c; rw [upd_same, hA]
    · rw [upd_ne c]
  rw [e] at z
  exact h ds hi PX σ H Hf D' z k
end

/-! isinstance; names of built-in types; all, any -/
@[reducible] def isI (d : Da) : Bool := match d with | .int _ => true | .bl _ => true | _ => false
@[reducible] def isB (d : Da) : Bool := match d with | .bl _ => true | _ => false
@[reducible] def isSt (d : Da) : Bool := match d with | .str _ => true | _ => false
@[reducible] def isTu (d : Da) : Bool := match d with | .tup _ => true | _ => false
@[reducible] def isLs (d : Da) : Bool := match d with | .lst _ => true | _ => false
@[reducible] def isDc (d : Da) : Bool := match d with | .dct _ => true | _ => false
/-- data of a built-in kind -/
@[reducible] def Da.known (d : Da) : Bool := match d with | .ins _ _ => false | .lm _ => false | .ty _ => false | .clo _ _ => false | _ => true
def Da.tyn (d : Da) : String := match d with | .non => "NoneType" | .bl _ => "bool" | .int _ => "int" | .str _ => "str" | .lst _ => "list" | .tup _ => "tuple" | .dct _ => "dict" | _ => ""
theorem Rep.tyx {K : PySem.W.Frag} {H : Hp} {d : Da} {v : V} (h : d.known = true) (r : Rep K H d v) : TyX K H v (.type d.tyn) := by
  cases d with
  | non => have e : v = .non := r; subst e; exact .base .non
  | bl b => have e : v = .bl b := r; subst e; exact .base (.bl b)
  | int b => have e : v = .int b := r; subst e; exact .base (.int b)
  | str b => have e : v = .str b := r; subst e; exact .base (.str b)
  | lst ds =>
    obtain ⟨a, xs, rfl, h1, _⟩ := r
    rcases h1 with (h1 | ⟨o, h1⟩) | ⟨o, _, _, h1, h2, _⟩
    · exact .base (.lst h1)
    · exact .base (.frz h1)
    · exact .kList h1 h2
  | tup ds =>
    obtain ⟨a, xs, rfl, h1, _⟩ := r
    rcases h1 with (h1 | ⟨o, h1⟩) | ⟨o, _, _, h1, h2, _⟩
    · exact .base (.tup h1)
    · exact .fTuple h1
    · exact .kTuple h1 h2
  | dct ds =>
    obtain ⟨a, xs, rfl, h1, _⟩ := r
    rcases h1 with h1 | ⟨o, h1⟩
    · exact .base (.dK h1)
    · exact .fDict h1
  | _ => cases h
section
variable {S : Sx} {Γ : List Slot} {e : Expr} {Q : Da → Prop} {p pos : Pos} {x : Str}
theorem ev_bltn {n : String} (hg : GlS S x) (hm : S.mg x = none) (hv : bootBuiltins x = some (.type n)) (q : Q (.ty n)) (hn : x ≠ "__name__" := by decide) (hd : (x == ("__debug__" : Str)) = false := by decide) : EvE S Γ (.Name x p) Q :=
  ev_const (d := .ty n) (v := .ty n) (fun X ok => pe_bltn (hg.gl ok) (by rw [ok.mg]; exact hm) hv rfl hn hd) (fun _ => rfl) q
theorem c_isi {n : String} {f : Da → Bool} (hf : ∀ d : Da, d.known = true → kitB d.tyn n = some (f d)) : CallG S (.builtin "isinstance") fun ds Q => as2 ds fun d c => c = .ty n ∧ d.known = true ∧ Q (.bl (f d)) :=
  .keep (rIsi S.K) (fun X ok => by have z := call_isi (X := X); rw [ok.K] at z; exact z) fun Hf H ds vs Q k e r h hk => by
  obtain ⟨d, c, rfl, rfl, hd, q⟩ := as2_ h
  obtain ⟨v, u, rfl, r1, r2⟩ := r.two
  have e2 : u = .ty n := r2
  subst e2
  exact ⟨v, .ty n, _, _, f d, rfl, .ty n, Rep.tyx hd (Rep.mono e _ _ r1), kit_ty (hf d hd), hk (.bl (f d)) _ rfl q⟩
theorem c_isInt : CallG S (.builtin "isinstance") fun ds Q => as2 ds fun d c => c = .ty "int" ∧ d.known = true ∧ Q (.bl (isI d)) := c_isi fun d h => by
  cases d with
  | non => exact (by decide +kernel : kitB "NoneType" "int" = some false)
  | bl _ => exact (by decide +kernel : kitB "bool" "int" = some true)
  | int _ => exact (by decide +kernel : kitB "int" "int" = some true)
  | str _ => exact (by decide +kernel : kitB "str" "int" = some false)
  | lst _ => exact (by decide +kernel : kitB "list" "int" = some false)
  | tup _ => exact (by decide +kernel : kitB "tuple" "int" = some false)
  | dct _ => exact (by decide +kernel : kitB "dict" "int" = some false)
  | _ => cases h
theorem c_isBool : CallG S (.builtin "isinstance") fun ds Q => as2 ds fun d c => c = .ty "bool" ∧ d.known = true ∧ Q (.bl (isB d)) := c_isi fun d h => by
  cases d with
  | non => exact (by decide +kernel : kitB "NoneType" "bool" = some false)
  | bl _ => exact (by decide +kernel : kitB "bool" "bool" = some true)
  | int _ => exact (by decide +kernel : kitB "int" "bool" = some false)
  | str _ => exact (by decide +kernel : kitB "str" "bool" = some false)
  | lst _ => exact (by decide +kernel : kitB "list" "bool" = some false)
  | tup _ => exact (by decide +kernel : kitB "tuple" "bool" = some false)
  | dct _ => exact (by decide +kernel : kitB "dict" "bool" = some false)
  | _ => cases h
theorem c_isStr : CallG S (.builtin "isinstance") fun ds Q => as2 ds fun d c => c = .ty "str" ∧ d.known = true ∧ Q (.bl (isSt d)) := c_isi fun d h => by
  cases d with
  | non => exact (by decide +kernel : kitB "NoneType" "str" = some false)
  | bl _ => exact (by decide +kernel : kitB "bool" "str" = some false)
  | int _ => exact (by decide +kernel : kitB "int" "str" = some false)
  | str _ => exact (by decide +kernel : kitB "str" "str" = some true)
  | lst _ => exact (by decide +kernel : kitB "list" "str" = some false)
  | tup _ => exact (by decide +kernel : kitB "tuple" "str" = some false)
  | dct _ => exact (by decide +kernel : kitB "dict" "str" = some false)
  | _ => cases h
theorem c_isTuple : CallG S (.builtin "isinstance") fun ds Q => as2 ds fun d c => c = .ty "tuple" ∧ d.known = true ∧ Q (.bl (isTu d)) := c_isi fun d h => by
  cases d with
  | non => exact (by decide +kernel : kitB "NoneType" "tuple" = some false)
  | bl _ => exact (by decide +kernel : kitB "bool" "tuple" = some false)
  | int _ => exact (by decide +kernel : kitB "int" "tuple" = some false)
  | str _ => exact (by decide +kernel : kitB "str" "tuple" = some false)
  | lst _ => exact (by decide +kernel : kitB "list" "tuple" = some false)
  | tup _ => exact (by decide +kernel : kitB "tuple" "tuple" = some true)
  | dct _ => exact (by decide +kernel : kitB "dict" "tuple" = some false)
  | _ => cases h
theorem c_isList : CallG S (.builtin "isinstance") fun ds Q => as2 ds fun d c => c = .ty "list" ∧ d.known = true ∧ Q (.bl (isLs d)) := c_isi fun d h => by
  cases d with
  | non => exact (by decide +kernel : kitB "NoneType" "list" = some false)
  | bl _ => exact (by decide +kernel : kitB "bool" "list" = some false)
  | int _ => exact (by decide +kernel : kitB "int" "list" = some false)
  | str _ => exact (by decide +kernel : kitB "str" "list" = some false)
  | lst _ => exact (by decide +kernel : kitB "list" "list" = some true)
  | tup _ => exact (by decide +kernel : kitB "tuple" "list" = some false)
  | dct _ => exact (by decide +kernel : kitB "dict" "list" = some false)
  | _ => cases h
theorem reps_bls {K : PySem.W.Frag} {H : Hp} : ∀ {bs : List Bool} {vs : List V}, Reps K H (bs.map Da.bl) vs → vs = bs.map V.bl
  | [], _, r => r
  | b :: bs, _, r => by
    obtain ⟨v, l, rfl, r1, r2⟩ := r
    have e : v = .bl b := r1
    rw [e, reps_bls r2]; rfl
theorem c_all (hc : S.calm = true := by rfl) : CallG S (.builtin "all") fun ds Q => as1 ds fun d => asLst d fun xs => ∃ bs : List Bool, xs = bs.map Da.bl ∧ Q (.bl (bs.all id)) :=
  .keep (rAll S.K) (fun X ok => by have z := cr_all (X := X) (ok.calm hc); rw [ok.K] at z; exact z) fun Hf H ds vs Q k e r h hk => by
  obtain ⟨d, rfl, h⟩ := as1_ h
  obtain ⟨xs, rfl, bs, rfl, q⟩ := asLst_ h
  obtain ⟨v, rfl, a, xs, rfl, r1, r2⟩ := r.one
  rw [reps_bls r2] at r1
  exact ⟨a, bs, rfl, e.sl r1, hk (.bl (bs.all id)) _ rfl q⟩
theorem c_any (hc : S.calm = true := by rfl) : CallG S (.builtin "any") fun ds Q => as1 ds fun d => asLst d fun xs => ∃ bs : List Bool, xs = bs.map Da.bl ∧ Q (.bl (bs.any id)) :=
  .keep (rAny S.K) (fun X ok => by have z := cr_any (X := X) (ok.calm hc); rw [ok.K] at z; exact z) fun Hf H ds vs Q k e r h hk => by
  obtain ⟨d, rfl, h⟩ := as1_ h
  obtain ⟨xs, rfl, bs, rfl, q⟩ := asLst_ h
  obtain ⟨v, rfl, a, xs, rfl, r1, r2⟩ := r.one
  rw [reps_bls r2] at r1
  exact ⟨a, bs, rfl, e.sl r1, hk (.bl (bs.any id)) _ rfl q⟩
end
/-! ## a def's own facts -/
section
variable {Tq : List (Addr × Str)} {P : Program} {w : World} {K : PySem.W.Frag} {mg : Str → Option Value} {base : Heap} {x qual : Str} {st : Stmt} {k : Nat} {N ps : List Str} {spec : Fd} {I : List Da → Prop}
def Def (K : PySem.W.Frag) (mg : Str → Option Value) (x : Str) (st : Stmt) : Prop := ∃ f fd, Fun K x x st f fd ∧ mg x = some (.ref f)
theorem calD (h : Def K mg x st) (C : FnScope N ps (defScope st))
    (bp : ∀ (kV doc pm : Value) (an : Option Addr) (cdv ct : Value) (us : List Value), us.length = ps.length → bindArgs (PySem.W.fnOf x x (defArgs st) (defBody st) (defScope st) .none kV doc pm an cdv ct) ⟨us, []⟩ = pure (ps.zip us))
    (len : ∀ ds q er, spec ds q er → ds.length = ps.length)
    (body : ∀ (cdv : Value), (∃ f, mg x = some (.ref f) ∧ CdIs K x x st f cdv) → ∀ (F0 H0 : Hp) ds q er, spec ds q er → EvB (mkS Tq P w K mg base N (defScope st) k F0 H0 [] er cdv (qlOf x (defScope st))) (st0 ds N.length) (defBody st) { nx := fun _ => q .non, rt := q }) :
    Cal P w K mg base x x st (k + 1) ps (SpD K Tq spec) := by
  obtain ⟨f, fd, F, hm⟩ := h
  exact ⟨⟨f, fd, F, hm, fnD (F := F) C len fun cdv h => body cdv ⟨f, hm, h⟩⟩, bp⟩
theorem calO (h : Def K mg x st) (C : FnScope N ps (defScope st))
    (bp : ∀ (kV doc pm : Value) (an : Option Addr) (cdv ct : Value) (us : List Value), us.length = ps.length → bindArgs (PySem.W.fnOf x x (defArgs st) (defBody st) (defScope st) .none kV doc pm an cdv ct) ⟨us, []⟩ = pure (ps.zip us))
    (len : ∀ ds q er, spec ds q er → ds.length + 1 = ps.length)
    (body : ∀ (cdv : Value), (∃ f, mg x = some (.ref f) ∧ CdIs K x x st f cdv) → ∀ (F0 H0 : Hp) (p : Addr) ds q er, spec ds q er → EvB (mkS Tq P w K mg base N (defScope st) k F0 H0 [(p, .l, I)] er cdv (qlOf x (defScope st))) (.inv p I :: st0 ds (N.length - 1)) (defBody st) { nx := fun Γ => Slot.inv p I ∈ Γ ∧ q .non, rt := q }) :
    Cal P w K mg base x x st (k + 1) ps (SpO K Tq I spec) := by
  obtain ⟨f, fd, F, hm⟩ := h
  exact ⟨⟨f, fd, F, hm, fnO (F := F) C len fun cdv h => body cdv ⟨f, hm, h⟩⟩, bp⟩
theorem ops0 {S : Sx} {Γ : List Slot} (h : S.op = []) : OpsIn S Γ := fun q hq => by rw [h] at hq; cases hq
theorem ops1 {S : Sx} {Γ : List Slot} {p : Addr} (i : Nat) (h : S.op = [(p, .l, I)]) (hi : Γ[i]? = some (.inv p I)) : OpsIn S Γ := fun q hq => by
  rw [h] at hq
  rw [List.mem_singleton.mp hq]
  exact ⟨I, List.mem_iff_getElem?.mpr ⟨i, hi⟩, fun _ z => z⟩
end
/-! ## the law -/
theorem vals_of_script : ∀ {us : List Value} {ns : List Int}, IntsAre us ns → Vals (ns.map V.int) us
  | _, _, .nil => .nil
  | _, _, .cons n t r => .cons ⟨t, rfl⟩ (vals_of_script r)
theorem reps_ints {K : PySem.W.Frag} {H : Hp} : ∀ ns : List Int, Reps K H (ns.map Da.int) (ns.map V.int)
  | [] => rfl
  | n :: ns => ⟨.int n, _, rfl, rfl, reps_ints ns⟩
section
variable {P : Program} {w : World} {K : PySem.W.Frag} {mg mb : Str → Option Value} {k : Nat} {fa a : Addr} {fd : FuncData} {x : Str} {spec : Fd} {s1 : Shared} {us : List Value} {ns : List Int}
/-- one abstract heap H over the state behind the top, the script alone tracked in it (or nothing) -/
theorem law_over (H : Hp) (hH : ∀ b, H b = none ∨ (b = a ∧ K.lookup a = none ∧ ∃ o xs, H b = some (.frz o (.lst xs)))) (hS : SqL K H a (ns.map V.int)) (hok : HOk P w H s1.heap)
    (KX : K.In s1.heap) (hns : s1.heap.Ns mainGlobals mg) (hb : s1.heap.Ns builtinsNs mb) (hbb : ∀ x : Str, x ≠ "__name__" → mb x = bootBuiltins x) (hlim : s1.heap.NoLimit) (hg : s1.gens = #[])
    (ha : s1.heap.get? a = some { cls := .type "list", data := .seq us.toArray }) (hr : Room k callerA)
    (F : ∀ base : Heap, K.In base → base.Ns mainGlobals mg → FnG P w K mg base k fa fd [x] (SpD K [] spec)) (hbind : ∀ (s : Shared) (u : Value), BindsTo s fd ⟨[u], []⟩ [(x, u)])
    (hsp : spec [.lst (ns.map Da.int)] (fun d => d = .bl true) fun _ _ => False) :
    codeAny (model P w) callerA (.call (.ref fa) ⟨[.ref a], []⟩) (fun r s' => r = .ok (.ret (.bool true)) ∧ PySem.OldK s1.heap s'.heap ∧ s'.os = s1.os ∧ AllBare s'.gens) s1 := by
  have dict_free : ∀ {b : Addr} {o : Obj} {es : Array DictEntry} {ep : Nat}, s1.heap.get? b = some o → o.data = .dict es ep → H b = none := fun {b o es ep} e d => by
    rcases hH b with z | ⟨rfl, _⟩
    · exact z
    · rw [ha] at e
      cases e
      exact (nomatch d)
  have low : ∀ {b : Addr} {m : Str → Option Value}, s1.heap.Ns b m → (hidT s1.heap H).Ns b m := fun {b m} z => by
    obtain ⟨o, es, ep, e, d, r⟩ := z
    exact ⟨o, es, ep, hidT_get e (dict_free e d), d, r⟩
  have kin : K.In (hidT s1.heap H) := fun b o e => by
    refine hidT_get (KX b o e) ?_
    rcases hH b with z | ⟨rfl, z, _⟩
    · exact z
    · rw [z] at e; cases e
  have md : Mod K mg (hidT s1.heap H) := ⟨kin, low hns, ⟨mb, low hb, hbb⟩, by
    obtain ⟨mc, h1, h2⟩ := hlim
    exact ⟨mc, low h1, h2⟩⟩
  have e0 : Env0 P w K mg (hidT s1.heap H) callerA [] s1 H := { frames := rfl, mod := md, bs := fun b o e => of_hidT e, bsz := Nat.le_of_eq (hidT_size _ _), funs := trivial, frf := fun b z => (nomatch z), hok := hok, bare := .of_eq hg }
  refine codeAny_mono ((F _ kin (low hns)).run callerA [] s1 H ⟨[.ref a], []⟩ [.ref a] [.ref a] (fun v _ => v = .bl true) (fun _ _ _ => False) hr rfl e0 (hbind s1 (.ref a)) (.cons rfl .nil) ?_) fun r s' h => ?_
  · refine ⟨[.lst (ns.map Da.int)], H, _, _, by rw [strip_nil]; exact Sub.refl _, (fun _ h => nomatch h), ⟨.ref a, [], rfl, ⟨a, _, rfl, hS, reps_ints ns⟩, rfl⟩, hsp, fun d v Hf' H' _ _ _ r q => ?_, fun _ _ _ _ _ _ _ _ _ z => z⟩
    subst q
    exact r
  · match r, h with
    | .error e, h =>
      obtain ⟨_, _, _, _, _, _, _, _, _, _, _, _, z⟩ := h
      exact z.elim
    | .ok (.ret u), ⟨v, H', os, bare, un, hok', r', q⟩ =>
      subst q
      have eu : u = Value.bool true := r'
      subst eu
      refine ⟨rfl, PySem.OldK.of_keep fun b o e => ?_, os, bare⟩
      rcases hH b with z | ⟨_, _, ob, xs, z⟩
      · exact un.keep b o e z (fun z => nomatch z) (fun z => nomatch z)
      · have e1 := (hok b _ z).1
        have e2 := (hok' b _ (un.frzs b ob _ z)).1
        rw [e] at e1
        rw [e2, ← e1]
    | .ok .next, h => exact h.elim
    | .ok .brk, h => exact h.elim
    | .ok .cont, h => exact h.elim
theorem law_G (KX : K.In s1.heap) (hns : s1.heap.Ns mainGlobals mg) (hb : s1.heap.Ns builtinsNs mb) (hbb : ∀ x : Str, x ≠ "__name__" → mb x = bootBuiltins x) (hlim : s1.heap.NoLimit) (hg : s1.gens = #[])
    (ha : s1.heap.get? a = some { cls := .type "list", data := .seq us.toArray }) (hi : IntsAre us ns) (hl : ns.length ≤ sizeLine) (hr : Room k callerA)
    (F : ∀ base : Heap, K.In base → base.Ns mainGlobals mg → FnG P w K mg base k fa fd [x] (SpD K [] spec)) (hbind : ∀ (s : Shared) (u : Value), BindsTo s fd ⟨[u], []⟩ [(x, u)])
    (hsp : spec [.lst (ns.map Da.int)] (fun d => d = .bl true) fun _ _ => False) :
    codeAny (model P w) callerA (.call (.ref fa) ⟨[.ref a], []⟩) (fun r s' => r = .ok (.ret (.bool true)) ∧ PySem.OldK s1.heap s'.heap ∧ s'.os = s1.os ∧ AllBare s'.gens) s1 := by
  have rv := vals_of_script hi
  cases hk : K.lookup a with
  | some o =>
    have e := KX a o hk
    rw [ha] at e
    have e' := (Option.some.inj e).symm
    subst e'
    exact law_over (a := a) (fun _ => none) (fun _ => .inl rfl) (.inr ⟨_, us.toArray, _, hk, rfl, rfl, rfl, by rw [List.size_toArray, hi.length]; exact hl, by simpa using rv⟩) (fun b u z => by cases z) KX hns hb hbb hlim hg ha hr F hbind hsp
  | none =>
    have at_ : ∀ b, (upd (fun _ => none) a (.frz { cls := .type "list", data := .seq us.toArray } (.lst (ns.map V.int))) : Hp) b = none ∨ b = a := fun b => by
      by_cases c : b = a
      · exact .inr c
      · rw [upd_ne c]; exact .inl rfl
    refine law_over (a := a) (upd (fun _ => none) a (.frz { cls := .type "list", data := .seq us.toArray } (.lst (ns.map V.int)))) (fun b => ?_) (.inl (.inr ⟨_, upd_same⟩)) (fun b u z => ?_) KX hns hb hbb hlim hg ha hr F hbind hsp
    · rcases at_ b with z | rfl
      · exact .inl z
      · exact .inr ⟨rfl, hk, _, _, upd_same⟩
    · rcases at_ b with y | rfl
      · rw [y] at z; cases z
      · rw [upd_same] at z
        have z' := (Option.some.inj z).symm
        subst z'
        exact ⟨ha, by rw [List.length_map]; exact hl, us, _, rv, ha⟩
end
/-- the goal that k_head and k_fill leave -/
theorem walkG {l : PySem.W.OpenLaw} {n k : Nat} {q : Program} {loose : List Str} {XP : (Str → Option Value) → Heap → Prop} {YP : World → Heap → Prop} {d : PySem.DefRec} {K : Params → PySem.W.Frag} {spec : Fd} {x : Str}
    (hn : l.most = some n) (hn2 : n ≤ sizeLine) (hdf : d.params.defaults = []) (hr : Room k callerA) (hY : ∀ (w : World) (h : Heap), YP w h → (K w.params).In h)
    (F : ∀ (w : World) (mg : Str → Option Value) (fa : Addr) (h : Heap), (K w.params).In h → h.Ns mainGlobals mg → XP mg h → mg d.name = some (.ref fa) →
      ∃ fd : FuncData, (∀ (s : Shared) (u : Value), BindsTo s fd ⟨[u], []⟩ [(x, u)]) ∧ ∀ base : Heap, (K w.params).In base → base.Ns mainGlobals mg → FnG l.prog w (K w.params) mg base k fa fd [x] (SpD (K w.params) [] spec))
    (hsp : ∀ ns : List Int, ns.length ≤ n → (∀ k ∈ ns, Builtin.Int.intBits k ≤ 1048576) → spec [.lst (ns.map Da.int)] (fun d => d = .bl true) fun _ _ => False) :
    PySem.W.WalkO q loose XP YP l.row.toRowW d [] (fun f vs => PySem.call f vs) := by
  refine Att.attach_callB hn hdf fun w s0 s1 mg mb fa o pm cd doc a vs ns G Y ho hd hcd hmg hobj hints hlen hbits hg => ?_
  obtain ⟨fd, hb, hF⟩ := F w mg fa _ (hY w _ Y) G.T.g G.X hmg
  exact law_G (hY w _ Y) G.T.g G.T.b G.T.builtins G.T.nolimit hg hobj hints (Nat.le_trans hlen hn2) hr hF hb (hsp ns hlen hbits)
end GX

namespace GX
open PySem PySem.Spec PyProof.Rows L2
/-! ## lists that an expression makes and nobody else holds -/
def EvN (S : Sx) (Γ : List Slot) (e : Expr) (Q : List Da → Prop) : Prop := ∀ PX σ H Hf k, Stt S PX Γ Hf H σ →
  (∀ p ds vs Hf' H', Sub Hf Hf' → PX p = none → S.H0 p = none → p ∉ S.op.map (·.1) → Stt S (upd PX p (.lst vs)) Γ Hf' H' σ → Reps S.K Hf' ds vs → Q ds → k (.ref p) H') → tU S e σ H k
section
variable {S : Sx} {PX Hf Hf' H H' : Hp} {Γ Γ' : List Slot} {σ σ' : L2.St} {D : Addr} {o o' : HO} {p : Addr} {I : List Da → Prop}
theorem Stt0.opn (st : Stt0 S PX Γ Hf H σ) (hp : H p = none) : p ∉ S.op.map (·.1) := fun m => by
  obtain ⟨q, h1, h2⟩ := List.mem_map.mp m
  exact st.ops q h1 (by rw [h2]; exact hp)
/-- an object that nobody knows is held apart -/
theorem Stt0.hold (st : Stt0 S PX Γ Hf H σ) (h1 : H p = some o) (h2 : Hf p = none) (hn : ∀ (i : Nat) q k I, Γ[i]? = some (.ow q k I) → q ≠ p) : Stt0 S (upd PX p o) Γ Hf H σ := by
  refine ⟨st.len, st.ex0, st.ex, st.keep, st.ops, st.at_, st.new, st.fr, fun a u h => ?_, fun q h => ?_, fun i q k I h => ?_, st.sep⟩
  · by_cases c : a = p
    · subst c; rw [upd_same] at h; rw [h1]; exact h
    · rw [upd_ne c] at h; exact st.px a u h
  · by_cases c : q = p
    · subst c; exact h2
    · rw [upd_ne c] at h; exact st.pf q h
  · rw [upd_ne (hn i q k I h)]; exact st.pi i q k I h
theorem Stt0.heldN (st : Stt0 S (upd PX p o) Γ Hf H σ) : ∀ (i : Nat) q k I, Γ[i]? = some (.ow q k I) → q ≠ p := fun i q k I h z => by
  have y := st.pi i q k I h
  rw [z, upd_same] at y; cases y
theorem Stt0.heldF (st : Stt0 S (upd PX p o) Γ Hf H σ) : Hf p = none := st.pf p (by rw [upd_same]; exact fun z => nomatch z)
theorem Stt0.heldH (st : Stt0 S (upd PX p o) Γ Hf H σ) : H p = some o := st.px p o upd_same
/-- .. and no more -/
theorem Stt0.unhold (st : Stt0 S (upd PX p o) Γ Hf H σ) (hP : PX p = none) : Stt0 S PX Γ Hf H σ := by
  have pn : ∀ q, PX q ≠ none → q ≠ p := fun q h c => h (by rw [c]; exact hP)
  refine ⟨st.len, st.ex0, st.ex, st.keep, st.ops, st.at_, st.new, st.fr, fun a u h => ?_, fun q h => ?_, fun i q k I h => ?_, st.sep⟩
  · exact st.px a u (by rw [upd_ne (pn a (by rw [h]; exact fun z => nomatch z))]; exact h)
  · exact st.pf q (by rw [upd_ne (pn q h)]; exact h)
  · have y := st.pi i q k I h
    rw [upd_ne (st.heldN i q k I h)] at y; exact y
/-- a slot takes it -/
theorem Stt0.setK {kd : Kd} (st : Stt0 S (upd PX p o) Γ Hf H σ) (hP : PX p = none) (h0 : S.H0 p = none) (r : OwnK S.K Hf H p kd I) (i : Nat) : Stt0 S PX (Γ.set i (.ow p kd I)) Hf H (σ.set i (some (.ref p))) := by
  have u := st.unhold hP
  have hn := st.heldN
  have get : ∀ (j : Nat) s, (Γ.set i (.ow p kd I))[j]? = some s → (i = j ∧ j < Γ.length ∧ s = .ow p kd I) ∨ (i ≠ j ∧ Γ[j]? = some s) := fun j s h => by
    by_cases c : i = j
    · subst c
      have hi : i < Γ.length := by
        have z := (List.getElem?_eq_some_iff.mp h).1
        rwa [List.length_set] at z
      rw [List.getElem?_set_self hi] at h; cases h
      exact .inl ⟨rfl, hi, rfl⟩
    · rw [List.getElem?_set_ne c] at h; exact .inr ⟨c, h⟩
  refine ⟨by rw [List.length_set, List.length_set]; exact st.len, st.ex0, st.ex, st.keep, st.ops, fun j s h => ?_, fun j q k J h => ?_, st.fr, u.px, u.pf, fun j q k J h => ?_, fun j l q k1 k2 J1 J2 h1 h2 => ?_⟩
  · rcases get j s h with ⟨rfl, hj, rfl⟩ | ⟨c, h⟩
    · exact ⟨by rw [List.getElem?_set_self (by rw [st.len]; exact hj)]; rfl, r⟩
    · rw [List.getElem?_set_ne c]; exact st.at_ j s h
  · rcases get j _ h with ⟨rfl, hj, e⟩ | ⟨c, h⟩
    · cases e; exact .inr h0
    · exact st.new j q k J h
  · rcases get j _ h with ⟨rfl, hj, e⟩ | ⟨c, h⟩
    · cases e; exact hP
    · exact u.pi j q k J h
  · rcases get j _ h1 with ⟨rfl, hj, e⟩ | ⟨c, h4⟩
    · cases e
      rcases get l _ h2 with ⟨rfl, _, e⟩ | ⟨c, h3⟩
      · rfl
      · exact absurd rfl (hn l _ _ _ h3)
    · rcases get l _ h2 with ⟨rfl, _, e⟩ | ⟨c2, h3⟩
      · cases e; exact absurd rfl (hn j _ _ _ h4)
      · exact st.sep j l q _ _ _ _ h4 h3
theorem Stt0.setO {vs : List V} {ds : List Da} (st : Stt0 S (upd PX p (.lst vs)) Γ Hf H σ) (hP : PX p = none) (h0 : S.H0 p = none) (r : Reps S.K Hf ds vs) (hI : I ds) (i : Nat) : Stt0 S PX (Γ.set i (.inv p I)) Hf H (σ.set i (some (.ref p))) :=
  st.setK (kd := .l) hP h0 ⟨st.heldF, vs, ds, st.heldH, r, hI⟩ i
/-- all but an object that nobody knows is as it was -/
theorem Stt0.growX (st : Stt0 S PX Γ Hf H σ) (hn : ∀ (i : Nat) q k I, Γ[i]? = some (.ow q k I) → q ≠ p) (hP : PX p = none) (h0 : S.H0 p = none) (hop : p ∉ S.op.map (·.1)) (g : Gr Hf H Hf' H') (k : ∀ a o, a ≠ p → H a = some o → H' a = some o) : Stt0 S PX Γ Hf' H' σ := by
  have npx : ∀ q, PX q ≠ none → q ≠ p := fun q h z => h (by rw [z]; exact hP)
  refine ⟨st.len, st.ex0.trans g.f, g.e, fun q u h1 h2 => k _ _ (ne_of_none h1 h0) (st.keep q u h1 h2), fun q h z => ?_, fun j s h => ?_, st.new, fun q h h2 => ?_, fun a o h => k a o (npx a (by rw [h]; exact fun z => nomatch z)) (st.px a o h), fun q h => ?_, st.pi, st.sep⟩
  · have c : q.1 ≠ p := fun c => hop (List.mem_map.mpr ⟨q, h, c⟩)
    cases y : H q.1 with
    | none => exact st.ops q h y
    | some o => rw [k _ _ c y] at z; cases z
  · cases s with
    | no => trivial
    | dat d => exact (st.at_ j _ h).more g.f fun _ _ _ z => nomatch z
    | ow p' k' I' =>
      have c := hn j p' k' I' h
      refine (st.at_ j _ h).more g.f fun p'' k'' I'' z => ?_
      cases z
      have z := st.ownH h
      refine ⟨?_, ?_⟩
      · cases y : Hf' p' with
        | none => rfl
        | some u => exact absurd (g.n p' (by rw [y]; exact fun z => nomatch z) (st.ownK h).2.free) z
      · cases y : H p' with
        | none => exact absurd y z
        | some u => exact k _ _ c y
    | rf a => exact st.at_ j _ h
    | vd d v => exact (st.at_ j _ h).more g.f fun _ _ _ z => nomatch z
  · by_cases c : Hf q = none
    · exact st.fresh0 (g.n q h c)
    · exact st.fr q c h2
  · cases c : Hf' q with
    | none => rfl
    | some u => exact absurd (st.px.free (g.n q (by rw [c]; exact fun z => nomatch z) (st.pf q h))) h
theorem Stt.opn (st : Stt S PX Γ Hf H σ) (hp : H p = none) : p ∉ S.op.map (·.1) := st.z.opn (strip_none hp)
theorem Stt.hold (st : Stt S PX Γ Hf H σ) (h1 : H p = some o) (h2 : Hf p = none) (n : p ∉ S.T.map (·.1)) (hn : ∀ (i : Nat) q k I, Γ[i]? = some (.ow q k I) → q ≠ p) : Stt S (upd PX p o) Γ Hf H σ := ⟨st.z.hold (by rw [strip_at n]; exact h1) h2 hn, st.tb⟩
theorem Stt.heldN (st : Stt S (upd PX p o) Γ Hf H σ) : ∀ (i : Nat) q k I, Γ[i]? = some (.ow q k I) → q ≠ p := st.z.heldN
theorem Stt.heldF (st : Stt S (upd PX p o) Γ Hf H σ) : Hf p = none := st.z.heldF
theorem Stt.heldH (st : Stt S (upd PX p o) Γ Hf H σ) : H p = some o := strip_sub _ _ st.z.heldH
theorem Stt.unhold (st : Stt S (upd PX p o) Γ Hf H σ) (hP : PX p = none) : Stt S PX Γ Hf H σ := ⟨st.z.unhold hP, st.tb⟩
theorem Stt.setK {kd : Kd} (st : Stt S (upd PX p o) Γ Hf H σ) (hP : PX p = none) (h0 : S.H0 p = none) (r : OwnK S.K Hf H p kd I) (i : Nat) : Stt S PX (Γ.set i (.ow p kd I)) Hf H (σ.set i (some (.ref p))) := ⟨st.z.setK hP h0 (r.eq (st.z.heldH.trans st.heldH.symm)) i, st.tb⟩
theorem Stt.setO {vs : List V} {ds : List Da} (st : Stt S (upd PX p (.lst vs)) Γ Hf H σ) (hP : PX p = none) (h0 : S.H0 p = none) (r : Reps S.K Hf ds vs) (hI : I ds) (i : Nat) : Stt S PX (Γ.set i (.inv p I)) Hf H (σ.set i (some (.ref p))) := ⟨st.z.setO hP h0 r hI i, st.tb⟩
theorem Stt.growX (st : Stt S PX Γ Hf H σ) (hn : ∀ (i : Nat) q k I, Γ[i]? = some (.ow q k I) → q ≠ p) (hP : PX p = none) (h0 : S.H0 p = none) (hop : p ∉ S.op.map (·.1)) (g : Gr Hf (strip S.T H) Hf' (strip S.T H')) (k : ∀ a o, a ≠ p → strip S.T H a = some o → strip S.T H' a = some o) (t : TabF S.T Hf' H') : Stt S PX Γ Hf' H' σ := ⟨st.z.growX hn hP h0 hop g k, t⟩
end
/-- a def that gives a list of its own making -/
def SpN (K : PySem.W.Frag) (T : List (Addr × Str)) (f : List Da → (List Da → Prop) → Er → Prop) : Sp := fun vs H Q E => ∃ ds Hf q er, Sub Hf (strip T H) ∧ TabF T Hf H ∧ Reps K Hf ds vs ∧ f ds q er ∧
  (∀ p xs us Hf' H', Gr Hf (strip T H) Hf' (strip T H') → Sub (strip T H) (strip T H') → TabF T Hf' H' → H p = none → Hf' p = none → H' p = some (.lst us) → Reps K Hf' xs us → q xs → Q (.ref p) H') ∧
  (∀ cls x fs Hf' H', Gr Hf (strip T H) Hf' (strip T H') → Sub (strip T H) (strip T H') → TabF T Hf' H' → XRep K Hf' x fs → er cls fs → E cls x H')
section
variable {S : Sx} {Γ : List Slot} {e a b c : Expr} {es : List Expr} {kws : List Keyword} {Q : Da → Prop} {QN : List Da → Prop} {p pos spos : Pos} {x qual : Str} {st : Stmt} {k i : Nat} {ps : List Str} {spec : Fd} {specN : List Da → (List Da → Prop) → Er → Prop} {I : List Da → Prop} {D : EnG}
theorem EvN.ev (h : EvN S Γ e fun ds => Q (.lst ds)) : EvE S Γ e Q := fun PX σ H Hf k st hk => h PX σ H Hf k st fun p ds vs Hf' H' e1 hP h0 _ s r q => by
  obtain ⟨s8, e8⟩ := s.freeze hP h0
  exact hk (.lst ds) (.ref p) _ H' (e1.trans e8) s8 ⟨p, vs, rfl, SqL.of upd_same, Reps.mono e8 _ _ r⟩ q
theorem en_of {t : TE} (h : ∀ X, S.Ok X → PE X e t) (q : ∀ PX σ H Hf k, Stt S PX Γ Hf H σ → (∀ p ds vs Hf' H', Sub Hf Hf' → PX p = none → S.H0 p = none → p ∉ S.op.map (·.1) → Stt S (upd PX p (.lst vs)) Γ Hf' H' σ → Reps S.K Hf' ds vs → QN ds → k (.ref p) H') → t σ H k) : EvN S Γ e QN :=
  fun PX σ H Hf k st hk => ⟨t, h, q PX σ H Hf k st hk⟩
theorem en_lst (h : EvA S Γ es fun ds => Sz ds.length ∧ QN ds) : EvN S Γ (.List es pos) QN :=
  en_of (fun X ok => pe_lst (puA ok)) fun PX σ H Hf k st hk => h PX σ H Hf _ st fun ds vs Hf1 H1 e1 st1 r1 q1 => ⟨by rw [r1.len]; exact q1.1.ok, fun p hp =>
    hk p ds vs Hf1 _ e1 (st1.px.free hp) (st1.fresh0 hp) (st1.opn hp) (st1.frame hp) r1 q1.2⟩
/-- x = .., a list of the def's own -/
theorem es_own (hN : S.N[i]? = some x) (hx : Loc S.sc x) (h : EvN S Γ e fun ds => ∀ A, A ∉ S.op.map (·.1) → D.nx (Γ.set i (.inv A fun ys => ys = ds))) (hs : ∀ env, swapsWith e (some (.Name x p)) spos.line env = pure false := by intro _; rfl) (hst : S.stor x = true := by rfl) : EvS S Γ (.Assign [.Name x p] e spos) D :=
  es_of (fun X ok => ps_set (i := i) (by rw [ok.N]; exact ok.nd) (by rw [ok.N]; exact hN) (by rw [ok.sc]; exact hx) (pu ok) (hs _) (ok.fn x hst)) fun PX σ H Hf D' s k => h PX σ H Hf _ s fun A ds vs Hf1 H1 e1 hP h0 hop s1 r q =>
    k.nx _ _ Hf1 H1 e1 (s1.setO (I := fun ys => ys = ds) hP h0 r rfl i) (q A hop)
theorem es_retF (hO : OpsIn S Γ) (h : EvN S Γ e D.rr) : EvS S Γ (.Return (some e) pos) D :=
  es_of (fun X ok => ps_ret (pu ok)) fun PX σ H Hf D' s k => h PX σ H Hf _ s fun A ds vs Hf1 H1 e1 hP h0 hop s1 r q => k.rr A ds vs Γ σ Hf1 H1 e1 s1 hP h0 hO r q
theorem en_call (c : Cal S.P S.w S.K S.mg S.base x qual st k ps (SpN S.K S.T specN)) (hk : k ≤ S.k) (hg : GlS S x) (hO : OpsIn S Γ) (h : EvA S Γ (e :: es) fun ds => specN ds QN S.E)
    (hd : (x == ("__debug__" : Str)) = false := by decide) (he : ∀ env, starEach (e :: es) env = (false, eval e env) :: starEach es env := by intro _; rfl) (hpl : ∀ env, (backTo pos (starEach es env)).any (·.1) = false := by intro _; rfl) (hc : S.calm = true := by rfl) :
    EvN S Γ (.Call (.Name x p) (e :: es) [] pos) QN := by
  obtain ⟨f, fd, F, hm, G⟩ := c.ex
  refine en_of (fun X ok => peG (sp := SpN S.K S.T specN) (E := fun cls d H => S.WX cls d [] H) (by rw [ok.P, ok.w, ok.K, ok.mg, ok.base]; exact G) ((ok.room hc).mono hk) ok.gd (hg.gl ok) (by rw [ok.mg]; exact hm) (by rw [ok.K]; exact F.kp) (c.bind F) ok.passes (puA ok) hd (he _) (hpl _)) ?_
  intro PX σ H Hf k st hk
  refine h PX σ H Hf _ st fun ds vs Hf1 H1 e1 st1 r1 q1 => ?_
  show SpN S.K S.T specN (vs ++ []) H1 k _
  rw [List.append_nil]
  refine ⟨ds, Hf1, QN, S.E, st1.z.ex, st1.tb, r1, q1, fun p xs us Hf' H' g kp t hp hf hl rr qq => ?_, fun cls x fs Hf' H' g kp t xr er => (st1.grow g.f g.e kp g.n t).wx hO xr er []⟩
  have st2 := st1.grow g.f g.e kp g.n t
  exact hk p xs us Hf' H' (e1.trans g.f) (st1.px.free hp) (st1.fresh0 hp) (st1.opn hp) (st2.hold hl hf (st1.tb.out hp) fun i q k I h z => st1.ownH h (by rw [z]; exact hp)) rr qq
/-- f(g(..)): a list that the argument has made is handed on -/
theorem ev_callF (c : Cal S.P S.w S.K S.mg S.base x qual st k ps (SpO S.K S.T I spec)) (hk : k ≤ S.k) (hg : GlS S x) (hO : OpsIn S Γ) (h : EvN S Γ e fun ds => I ds ∧ spec [] Q S.E)
    (hd : (x == ("__debug__" : Str)) = false := by decide) (he : ∀ env, starEach [e] env = (false, eval e env) :: starEach [] env := by intro _; rfl) (hpl : ∀ env, (backTo pos (starEach [] env)).any (·.1) = false := by intro _; rfl) (hc : S.calm = true := by rfl) :
    EvE S Γ (.Call (.Name x p) [e] [] pos) Q := by
  obtain ⟨f, fd, F, hm, G⟩ := c.ex
  refine ev_of (fun X ok => peG (sp := SpO S.K S.T I spec) (E := fun cls d H => S.WX cls d [] H) (by rw [ok.P, ok.w, ok.K, ok.mg, ok.base]; exact G) ((ok.room hc).mono hk) ok.gd (hg.gl ok) (by rw [ok.mg]; exact hm) (by rw [ok.K]; exact F.kp) (c.bind F) ok.passes
    (pa_cons (pu ok) pa_nil (he _)) hd (he _) (hpl _)) ?_
  intro PX σ H Hf k st hk
  refine h PX σ H Hf _ st fun a ds vs Hf1 H1 e1 hP h0 hop st1 r1 q1 => ?_
  have hn := st1.heldN
  have hf := st1.heldF
  have st2 := st1.unhold hP
  exact ⟨a, [], [], Hf1, Q, S.E, rfl, st1.z.ex, st1.tb, ⟨hf, vs, ds, st1.z.heldH, r1, q1.1⟩, rfl, q1.2, fun d v Hf' H' g kp t ow rr qq => hk d v Hf' H' (e1.trans g.f) (st2.growX hn hP h0 hop g kp t) rr qq,
    fun cls x fs Hf' H' g kp t ow xr er => (st2.growX hn hP h0 hop g kp t).wx hO xr er []⟩
end
/-! list comprehensions -/
theorem lc_run {S : Sx} {Γ : List Slot} {tg it elt : Expr} {ifs : List Expr} {scope : Scope} {own : List (Str × Nat)} {Q : List Da → Prop} (hv : noInv Γ (own.map (·.2)))
    (h : EvI S Γ tg it fun ds => Sz ds.length ∧ lcG (fun d acc K => EvG (S.blk scope) (fun i => (own.map (·.2)).contains i) (wipeG Γ (own.map (·.2))) tg d fun Γ' => EvTs (S.blk scope) Γ' ifs fun b => cond b (EvE (S.blk scope) Γ' elt fun y => K (acc ++ [y])) (K acc)) ds [] Q)
    {PX : Hp} {σ : L2.St} {H Hf : Hp} {k : VK} (st : Stt S PX Γ Hf H σ)
    (hk : ∀ p ds vs Hf' H', Sub Hf Hf' → PX p = none → S.H0 p = none → p ∉ S.op.map (·.1) → Stt S (upd PX p (.lst vs)) Γ Hf' H' σ → Reps S.K Hf' ds vs → Q ds → k (.ref p) H') :
    tLc (tUI S tg it) (tUG (S.blk scope) tg) (tUTs (S.blk scope) ifs) (tU (S.blk scope) elt) (own.map (·.2)) σ H k := by
  generalize hvs : own.map (·.2) = vs at hv h ⊢
  show tUI S tg it σ H _
  refine h PX σ H Hf _ st fun ds J Hf1 H1 e1 s1 y q D hD => ?_
  obtain ⟨hz, q⟩ := q
  have hP : PX D = none := s1.px.free hD
  have h0 : S.H0 D = none := s1.fresh0 hD
  have hop := s1.opn hD
  let step := fun d acc (K : List Da → Prop) => EvG (S.blk scope) (fun i => vs.contains i) (wipeG Γ vs) tg d fun Γ' => EvTs (S.blk scope) Γ' ifs fun b => cond b (EvE (S.blk scope) Γ' elt fun y => K (acc ++ [y])) (K acc)
  refine ⟨fun i m H' => ∃ Hf' acc accV, Sub Hf1 Hf' ∧ Stt S (upd PX D (.lst accV)) Γ Hf' H' σ ∧ Reps S.K Hf' acc accV ∧ acc.length ≤ i ∧ m = ds.length - i ∧ i ≤ ds.length ∧ lcG step (ds.drop i) acc Q,
    ⟨ds.length, Hf1, [], [], Sub.refl _, s1.frame hD, rfl, Nat.le_refl _, by simp, Nat.zero_le _, by rw [List.drop_zero]; exact q⟩, ?_⟩
  rintro i m H' ⟨Hf', acc, accV, e2, s2, ra, hl, rfl, hi, f⟩
  by_cases hlt : i < ds.length
  · refine .inr ⟨y.go i Hf' H' e2 s2.ex hlt, fun H' => ∃ Hf' acc accV, Sub Hf1 Hf' ∧ Stt S (upd PX D (.lst accV)) Γ Hf' H' σ ∧ Reps S.K Hf' acc accV ∧ acc.length ≤ i + 1 ∧ lcG step (ds.drop (i + 1)) acc Q,
      fun H' ⟨Hf', acc, accV, a, b, c, d, e⟩ => ⟨ds.length - (i + 1), by omega, Hf', acc, accV, a, b, c, d, rfl, hlt, e⟩, fun x H3 hy => ?_⟩
    obtain ⟨Hf3, d, e3, s3, hd, r⟩ := y.yld _ i x Γ σ Hf' H' H3 e2 s2 hlt hy
    have inv4 : ∀ {Γ4 : List Slot} {σ4 : L2.St}, Alt (fun i => vs.contains i) (wipeG Γ vs) (wipe σ vs) Γ4 σ4 → ∀ (i : Nat) p k I, Γ[i]? = some (.ow p k I) → ∃ j : Nat, Γ4[j]? = some (Slot.ow p k I) := fun a i p k I h => by
      have n : i ∉ vs := fun m => hv i m p k I h
      exact ⟨i, by rw [a.g i (by simpa using n), wipeG_out n]; exact h⟩
    refine lcG_drop hd f _ x _ H3 Hf3 _ ((s3.wipe vs).toBlk scope) r fun Γ4 σ4 Hf4 H4 e4 s4 a4 q4 => ⟨?_, ?_⟩
    · rw [wipe_eq a4.len fun j hj => a4.s j (by simpa using hj)]
      exact wipe_eq (wipe_length _ _) fun j hj => wipe_out hj
    refine q4 _ σ4 H4 Hf4 _ s4 fun b Hf5 H5 e5 s5 q5 => cond_ite ?_
    cases b with
    | false =>
      exact ⟨Hf5, acc, accV, ((e2.trans e3).trans e4).trans e5, s3.back s5 ⟨⟨rfl, rfl, rfl, rfl⟩, rfl⟩ (e4.trans e5) (inv4 a4), Reps.mono ((e3.trans e4).trans e5) _ _ ra, by omega, q5⟩
    | true =>
      refine q5 _ σ4 H5 Hf5 _ s5 fun y yv Hf6 H6 e6 s6 r6 q6 => ?_
      have s7 := s3.back s6 ⟨⟨rfl, rfl, rfl, rfl⟩, rfl⟩ ((e4.trans e5).trans e6) (inv4 a4)
      refine ⟨accV, s7.px D _ upd_same, by rw [ra.len]; exact Nat.lt_of_le_of_lt hl (Nat.lt_of_lt_of_le hlt hz.ok), Hf6, acc ++ [y], accV ++ [yv], (((e2.trans e3).trans e4).trans e5).trans e6, s7.reframe h0, ?_, by rw [List.length_append]; exact Nat.add_le_add_right hl 1, q6⟩
      exact Reps.app (zs := [y]) (ws := [yv]) ⟨yv, [], rfl, r6, rfl⟩ (Reps.mono (((e3.trans e4).trans e5).trans e6) _ _ ra)
  · refine .inl ⟨y.stop i Hf' H' e2 s2.ex (by omega), ?_⟩
    rw [List.drop_eq_nil_of_le (by omega)] at f
    exact hk D acc accV Hf' H' (e1.trans e2) hP h0 hop s2 ra f

section
variable {S : Sx} {Γ : List Slot} {tg it elt : Expr} {ifs : List Expr} {scope : Scope} {own : List (Str × Nat)} {pos : Pos}
theorem en_lc {Q : List Da → Prop} (ok' : BlkOk S.N S.sc scope own) (hv : noInv Γ (own.map (·.2)))
    (h : EvI S Γ tg it fun ds => Sz ds.length ∧ lcG (fun d acc K => EvG (S.blk scope) (fun i => (own.map (·.2)).contains i) (wipeG Γ (own.map (·.2))) tg d fun Γ' => EvTs (S.blk scope) Γ' ifs fun b => cond b (EvE (S.blk scope) Γ' elt fun y => K (acc ++ [y])) (K acc)) ds [] Q)
    (hs : ∀ env x, foldedSetIterable it env x = pure x := by intro _ _; rfl) (hc : S.calm = true := by rfl) : EvN S Γ (.ListComp elt [⟨tg, it, ifs, 0⟩] scope pos) Q :=
  en_of (fun X ok => pe_lc (wi := tUI S tg it) (g := tUG (S.blk scope) tg) (tt := tUTs (S.blk scope) ifs) (te := tU (S.blk scope) elt) (own := own) (ok.calm hc) (by rw [ok.N]; exact ok.nd) (puI ok) (by rw [ok.N, ok.sc]; exact ok')
    (fun s H C cl fp => puG (ok.blk s H scope C cl fp)) (fun s H C cl fp => puTs (ok.blk s H scope C cl fp)) (fun s H C cl fp => pu (ok.blk s H scope C cl fp)) (hs _)) fun PX σ H Hf k st hk => lc_run hv h st hk
theorem ev_lc {Q : Da → Prop} (ok' : BlkOk S.N S.sc scope own) (hv : noInv Γ (own.map (·.2)))
    (h : EvI S Γ tg it fun ds => Sz ds.length ∧ lcG (fun d acc K => EvG (S.blk scope) (fun i => (own.map (·.2)).contains i) (wipeG Γ (own.map (·.2))) tg d fun Γ' => EvTs (S.blk scope) Γ' ifs fun b => cond b (EvE (S.blk scope) Γ' elt fun y => K (acc ++ [y])) (K acc)) ds [] fun acc => Q (.lst acc))
    (hs : ∀ env x, foldedSetIterable it env x = pure x := by intro _ _; rfl) (hc : S.calm = true := by rfl) : EvE S Γ (.ListComp elt [⟨tg, it, ifs, 0⟩] scope pos) Q := EvN.ev (en_lc ok' hv h hs hc)
theorem ls_of {t : TS} {st : Stmt} {D : EnG} (h : ∀ X, S.Ok X → PS X st t) (q : ∀ PX σ H Hf D', Stt S PX Γ Hf H σ → EnOk S PX Hf D D' → t D' σ H) : EvS S Γ st D := es_of h q
/-- x = [.. for ..] on one line -/
theorem es_lcN {i : Nat} {x : Str} {p spos : Pos} {D : EnG} (hN : S.N[i]? = some x) (hx : S.sc.names.lookup x = some .local) (hfk : S.sc.kind = .function) (hl : (p.line == pos.line) = true) (ha : (scope.names.any fun (n, k) => n == x && (k == .local || k == .cell)) = false) (ok' : BlkOk S.N S.sc scope own) (hv : noInv Γ (own.map (·.2)))
    (h : EvI S Γ tg it fun ds => Sz ds.length ∧ lcG (fun d acc K => EvG (S.blk scope) (fun i => (own.map (·.2)).contains i) (wipeG Γ (own.map (·.2))) tg d fun Γ' => EvTs (S.blk scope) Γ' ifs fun b => cond b (EvE (S.blk scope) Γ' elt fun y => K (acc ++ [y])) (K acc)) ds [] fun acc => ∀ A, A ∉ S.op.map (·.1) → D.nx (Γ.set i (.inv A fun ys => ys = acc)))
    (hs : ∀ env x, foldedSetIterable it env x = pure x := by intro _ _; rfl) (hc : S.calm = true := by rfl) : EvS S Γ (.Assign [.Name x p] (.ListComp elt [⟨tg, it, ifs, 0⟩] scope pos) spos) D :=
  es_of (fun X ok => ps_setLc (i := i) (wi := tUI S tg it) (g := tUG (S.blk scope) tg) (tt := tUTs (S.blk scope) ifs) (te := tU (S.blk scope) elt) (own := own) (ok.calm hc) (by rw [ok.N]; exact ok.nd) (by rw [ok.N]; exact hN) (by rw [ok.sc]; exact hx) (sw_true (by rw [ok.sc]; exact hfk) (by rw [ok.sc]; exact hx) hl ha) (puI ok) (by rw [ok.N, ok.sc]; exact ok')
    (fun s H C cl fp => puG (ok.blk s H scope C cl fp)) (fun s H C cl fp => puTs (ok.blk s H scope C cl fp)) (fun s H C cl fp => pu (ok.blk s H scope C cl fp)) (hs _)) fun PX σ H Hf D' s k =>
      lc_run (k := fun x H1 => gName i x σ H1 D'.nx) hv h s fun A ds vs Hf1 H1 e1 hP h0 hop s1 r q => k.nx _ _ Hf1 H1 e1 (s1.setO (I := fun ys => ys = ds) hP h0 r rfl i) (q A hop)
theorem es_lc {i : Nat} {x : Str} {p spos : Pos} {D : EnG} (hN : S.N[i]? = some x) (hx : S.sc.names.lookup x = some .local) (hfk : S.sc.kind = .function) (hl : (p.line == pos.line) = true) (ha : (scope.names.any fun (n, k) => n == x && (k == .local || k == .cell)) = false) (ok' : BlkOk S.N S.sc scope own) (hv : noInv Γ (own.map (·.2)))
    (h : EvI S Γ tg it fun ds => Sz ds.length ∧ lcG (fun d acc K => EvG (S.blk scope) (fun i => (own.map (·.2)).contains i) (wipeG Γ (own.map (·.2))) tg d fun Γ' => EvTs (S.blk scope) Γ' ifs fun b => cond b (EvE (S.blk scope) Γ' elt fun y => K (acc ++ [y])) (K acc)) ds [] fun acc => D.nx (Γ.set i (.dat (.lst acc))))
    (hs : ∀ env x, foldedSetIterable it env x = pure x := by intro _ _; rfl) (hc : S.calm = true := by rfl) : EvS S Γ (.Assign [.Name x p] (.ListComp elt [⟨tg, it, ifs, 0⟩] scope pos) spos) D :=
  es_of (fun X ok => ps_setLc (i := i) (wi := tUI S tg it) (g := tUG (S.blk scope) tg) (tt := tUTs (S.blk scope) ifs) (te := tU (S.blk scope) elt) (own := own) (ok.calm hc) (by rw [ok.N]; exact ok.nd) (by rw [ok.N]; exact hN) (by rw [ok.sc]; exact hx) (sw_true (by rw [ok.sc]; exact hfk) (by rw [ok.sc]; exact hx) hl ha) (puI ok) (by rw [ok.N, ok.sc]; exact ok')
    (fun s H C cl fp => puG (ok.blk s H scope C cl fp)) (fun s H C cl fp => puTs (ok.blk s H scope C cl fp)) (fun s H C cl fp => pu (ok.blk s H scope C cl fp)) (hs _)) fun PX σ H Hf D' s k =>
      lc_run (k := fun x H1 => gName i x σ H1 D'.nx) hv h s fun A ds vs Hf1 H1 e1 hP h0 hop s1 r q => by
        obtain ⟨s8, e8⟩ := s1.freeze hP h0
        exact k.nx _ _ _ H1 (e1.trans e8) (s8.set (d := .lst ds) ⟨A, vs, rfl, SqL.of upd_same, Reps.mono e8 _ _ r⟩ i) q
end
section
variable {Tq : List (Addr × Str)} {P : Program} {w : World} {K : PySem.W.Frag} {mg : Str → Option Value} {base : Heap} {k : Nat} {f : Addr} {fd : FuncData} {x qual : Str} {st : Stmt} {N ps : List Str}
theorem fnN {F : Fun K x qual st f fd} {spec : List Da → (List Da → Prop) → Er → Prop} (C : FnScope N ps (defScope st)) (len : ∀ ds q er, spec ds q er → ds.length = ps.length)
    (body : ∀ (cdv : Value), CdIs K x qual st f cdv → ∀ (F0 H0 : Hp) ds q er, spec ds q er → EvB (mkS Tq P w K mg base N (defScope st) k F0 H0 [] er cdv (qlOf qual (defScope st))) (st0 ds N.length) (defBody st) { nx := fun _ => False, rt := fun _ => False, rr := q }) :
    FnG P w K mg base (k + 1) f fd ps (SpN K Tq spec) := by
  refine Fun.okG F C (fun vs H Q E h => ?_) fun cdv hcdv A outer s H vs Q E hr hgd h => ?_
  · obtain ⟨ds, Hf, q, er, _, _, r, h, _⟩ := h
    rw [r.len]; exact len ds q er h
  · obtain ⟨ds, Hf, q, er, e, tb, r, h, hQ, hE⟩ := h
    have hl := len ds q er h
    have hb := body cdv hcdv Hf (strip Tq H) ds q er h
    have hps : ps.length ≤ N.length := by
      have z := congrArg List.length C.pre
      rw [List.length_take] at z; omega
    have st0' : Stt (mkS Tq P w K mg base N (defScope st) k Hf (strip Tq H) [] er cdv (qlOf qual (defScope st))) (fun _ => none) (st0 ds N.length) Hf H (L2.start N vs) := by
      refine ⟨?_, tb⟩
      refine ⟨?_, Sub.refl _, e, fun q o h _ => h, fun q h => (nomatch h), fun i s h => ?_, fun i p k I h => ?_, fun p h1 h2 => absurd h2 h1, fun _ _ z => (nomatch z), fun p h => absurd rfl h, fun _ _ _ _ _ => rfl, fun i j p k l I J h => ?_⟩
      · unfold L2.start st0
        rw [List.length_append, List.length_map, List.length_replicate, List.length_append, List.length_map, List.length_replicate, r.len]
      · rcases st0_get h with ⟨d, h1, rfl⟩ | rfl
        · obtain ⟨v, h2, h3⟩ := r.get h1
          exact ⟨v, by rw [start_get h2]; rfl, h3⟩
        · trivial
      · rcases st0_get h with ⟨d, h1, z⟩ | z <;> cases z
      · rcases st0_get h with ⟨d, h1, z⟩ | z <;> cases z
    have gr : ∀ {PX Γ σ Hf' H'}, Stt (mkS Tq P w K mg base N (defScope st) k Hf (strip Tq H) [] er cdv (qlOf qual (defScope st))) PX Γ Hf' H' σ → (Gr Hf (strip Tq H) Hf' (strip Tq H') ∧ Sub (strip Tq H) (strip Tq H')) ∧ TabF Tq Hf' H' := fun z => ⟨⟨⟨z.z.ex0, z.z.ex, z.z.fr⟩, fun a o h => z.z.keep a o h (by exact List.not_mem_nil)⟩, z.tb⟩
    obtain ⟨t, h1, h2⟩ := hb (fun _ => none) (L2.start N vs) H Hf { nx := fun _ H' => Q .non H', rt := Q } st0' ⟨fun _ _ _ _ _ _ z => z.elim, fun _ _ _ _ _ _ _ _ _ _ z => z.elim, fun _ _ _ _ _ _ z => z, fun _ _ _ _ _ _ z => z,
      fun p xs us Γ σ Hf' H' _ z hP h0 _ rr q => hQ p xs us Hf' H' (gr z).1.1 (gr z).1.2 (gr z).2 ((strip_at z.heldT).symm.trans h0) z.heldF z.heldH rr q⟩
    refine ⟨t, h1 _ (ok_body hr hgd C.nd fun cls d σ H' hw => ?_), h2⟩
    obtain ⟨Hf', fs, a1, a2, a4, a3, _, a5, a6, a7⟩ := hw
    exact hE cls d fs Hf' H' ⟨a1, a2, a4⟩ (fun a o h => a3 a o h (by exact List.not_mem_nil)) a7 a5 a6
theorem calN {spec : List Da → (List Da → Prop) → Er → Prop} (h : Def K mg x st) (C : FnScope N ps (defScope st))
    (bp : ∀ (kV doc pm : Value) (an : Option Addr) (cdv ct : Value) (us : List Value), us.length = ps.length → bindArgs (PySem.W.fnOf x x (defArgs st) (defBody st) (defScope st) .none kV doc pm an cdv ct) ⟨us, []⟩ = pure (ps.zip us))
    (len : ∀ ds q er, spec ds q er → ds.length = ps.length)
    (body : ∀ (cdv : Value), (∃ f, mg x = some (.ref f) ∧ CdIs K x x st f cdv) → ∀ (F0 H0 : Hp) ds q er, spec ds q er → EvB (mkS Tq P w K mg base N (defScope st) k F0 H0 [] er cdv (qlOf x (defScope st))) (st0 ds N.length) (defBody st) { nx := fun _ => False, rt := fun _ => False, rr := q }) :
    Cal P w K mg base x x st (k + 1) ps (SpN K Tq spec) := by
  obtain ⟨f, fd, F, hm⟩ := h
  exact ⟨⟨f, fd, F, hm, fnN (F := F) C len fun cdv h => body cdv ⟨f, hm, h⟩⟩, bp⟩
end
/-! ## small helps -/
theorem cond_t {p q : Prop} (h : p) : cond true p q := h
theorem cond_f {p q : Prop} (h : q) : cond false p q := h
theorem cond_dec {c : Prop} [Decidable c] {p q : Prop} (h1 : c → p) (h2 : ¬ c → q) : cond (decide c) p q := by
  by_cases h : c
  · rw [decide_eq_true h]; exact h1 h
  · rw [decide_eq_false h]; exact h2 h
theorem cond_ndec {c : Prop} [Decidable c] {p q : Prop} (h1 : ¬ c → p) (h2 : c → q) : cond (!decide c) p q := by
  by_cases h : c
  · rw [decide_eq_true h]; exact h2 h
  · rw [decide_eq_false h]; exact h1 h
theorem cond_b {b : Bool} {p q : Prop} (h1 : b = true → p) (h2 : b = false → q) : cond b p q := by
  cases b with
  | true => exact h1 rfl
  | false => exact h2 rfl
theorem cond_nb {b : Bool} {p q : Prop} (h1 : b = false → p) (h2 : b = true → q) : cond (!b) p q := by
  cases b with
  | true => exact h2 rfl
  | false => exact h1 rfl
@[reducible] def as0 (ds : List Da) (k : Prop) : Prop := match ds with | [] => k | _ => False
@[reducible] def as3 (ds : List Da) (k : Da → Da → Da → Prop) : Prop := match ds with | [d, e, f] => k d e f | _ => False
@[reducible] def as4 (ds : List Da) (k : Da → Da → Da → Da → Prop) : Prop := match ds with | [d, e, f, g] => k d e f g | _ => False
theorem as0_ {ds : List Da} {k : Prop} (h : as0 ds k) : ds = [] ∧ k := by
  match ds, h with
  | [], h => exact ⟨rfl, h⟩
theorem as3_ {ds : List Da} {k : Da → Da → Da → Prop} (h : as3 ds k) : ∃ d e f, ds = [d, e, f] ∧ k d e f := by
  match ds, h with
  | [d, e, f], h => exact ⟨d, e, f, rfl, h⟩
theorem as4_ {ds : List Da} {k : Da → Da → Da → Da → Prop} (h : as4 ds k) : ∃ d e f g, ds = [d, e, f, g] ∧ k d e f g := by
  match ds, h with
  | [d, e, f, g], h => exact ⟨d, e, f, g, rfl, h⟩
theorem as0_len {ds : List Da} {k : Prop} (h : as0 ds k) : ds.length = 0 := by obtain ⟨rfl, _⟩ := as0_ h; rfl
theorem as1_len {ds : List Da} {k : Da → Prop} (h : as1 ds k) : ds.length = 1 := by obtain ⟨_, rfl, _⟩ := as1_ h; rfl
theorem as2_len {ds : List Da} {k : Da → Da → Prop} (h : as2 ds k) : ds.length = 2 := by obtain ⟨_, _, rfl, _⟩ := as2_ h; rfl
theorem as3_len {ds : List Da} {k : Da → Da → Da → Prop} (h : as3 ds k) : ds.length = 3 := by obtain ⟨_, _, _, rfl, _⟩ := as3_ h; rfl
theorem as4_len {ds : List Da} {k : Da → Da → Da → Da → Prop} (h : as4 ds k) : ds.length = 4 := by obtain ⟨_, _, _, _, rfl, _⟩ := as4_ h; rfl
theorem bt_int : bootBuiltins "int" = some (.type "int") := by decide +kernel
theorem bt_bool : bootBuiltins "bool" = some (.type "bool") := by decide +kernel
theorem bt_str : bootBuiltins "str" = some (.type "str") := by decide +kernel
theorem bt_tuple : bootBuiltins "tuple" = some (.type "tuple") := by decide +kernel
theorem bt_list : bootBuiltins "list" = some (.type "list") := by decide +kernel
theorem bt_isinstance : bootBuiltins "isinstance" = some (.builtin "isinstance") := by decide +kernel
theorem bt_len : bootBuiltins "len" = some (.builtin "len") := by decide +kernel
theorem bt_abs : bootBuiltins "abs" = some (.builtin "abs") := by decide +kernel
theorem bt_all : bootBuiltins "all" = some (.builtin "all") := by decide +kernel
theorem bt_any : bootBuiltins "any" = some (.builtin "any") := by decide +kernel
theorem bt_sum : bootBuiltins "sum" = some (.builtin "sum") := by decide +kernel
theorem bt_min : bootBuiltins "min" = some (.builtin "min") := by decide +kernel
theorem bt_max : bootBuiltins "max" = some (.builtin "max") := by decide +kernel
theorem bt_repr : bootBuiltins "repr" = some (.builtin "repr") := by decide +kernel
theorem bt_divmod : bootBuiltins "divmod" = some (.builtin "divmod") := by decide +kernel
theorem bt_sorted : bootBuiltins "sorted" = some (.builtin "sorted") := by decide +kernel
/-! the law's own def, at the end -/
theorem law_end {P : Program} {w : World} {K : PySem.W.Frag} {mg : Str → Option Value} {k : Nat} {fa : Addr} {x p : Str} {st : Stmt} {spec : Fd} {T : Prop} (t : T)
    (ok : ∀ base : Heap, T → Cal P w K mg base x x st k [p] (SpD K [] spec)) (hm : mg x = some (.ref fa)) :
    ∃ fd : FuncData, (∀ (s : Shared) (u : Value), BindsTo s fd ⟨[u], []⟩ [(p, u)]) ∧ ∀ base : Heap, K.In base → base.Ns mainGlobals mg → FnG P w K mg base k fa fd [p] (SpD K [] spec) := by
  obtain ⟨f0, fd0, F0, hm0, _⟩ := (ok (default : Heap) t).ex
  rw [hm] at hm0; cases hm0
  refine ⟨fd0, fun s u => .of_eq ((ok (default : Heap) t).bind F0 [u] rfl), fun base _ _ => ?_⟩
  obtain ⟨f, fd, F, hm', G⟩ := (ok base t).ex
  rw [hm] at hm'; cases hm'
  obtain ⟨oc, od, kV, doc, pm, an, cdv, ct, osl, rfl, lk, hcd⟩ := F.ex
  obtain ⟨oc', od', kV', doc', pm', an', cdv', ct', osl', rfl, lk', hcd'⟩ := F0.ex
  rw [lk] at lk'; cases lk'
  exact G
end GX
namespace GX
open PySem PySem.Spec PyProof.Rows L2
theorem ev_pow {S : Sx} {Γ : List Slot} {Q : Da → Prop} {i j : Int} {a b} {p1 p2 pos : Pos} (v : Int) (hc : CPow i j) (hv : i ^ j.toNat = v) (q : Q (.int v)) : EvE S Γ (.BinOp (.Constant (.int i) a p1) .Pow (.Constant (.int j) b p2) pos) Q :=
  ev_op g_Pow (ev_int (ev_int ⟨hc, by rw [hv]; exact q⟩))
end GX
namespace GX
open PySem PySem.Spec PyProof.Rows L2
/-! ## data that can be shown -/
mutual
def Da.okS : Da → Prop
  | .int i => i.natAbs < 10 ^ 40
  | .str x => ∀ c ∈ x.cps.toList, c < 16 ^ 8
  | .lst xs | .tup xs => Da.okSs xs
  | .non | .bl _ => True
  | _ => False
def Da.okSs : List Da → Prop
  | [] => True
  | x :: xs => x.okS ∧ Da.okSs xs
end
mutual
def Da.sz : Da → Nat
  | .str x => x.cps.size
  | .lst xs | .tup xs => Da.szs xs
  | _ => 0
def Da.szs : List Da → Nat
  | [] => 0
  | x :: xs => x.sz + 1 + Da.szs xs
end
mutual
def Da.dp : Da → Nat
  | .lst xs | .tup xs => Da.dps xs + 1
  | _ => 0
def Da.dps : List Da → Nat
  | [] => 0
  | x :: xs => max x.dp (Da.dps xs)
end
mutual
theorem Da.py_bulk : ∀ d : Da, d.py.bulk = d.sz
  | .lst xs => by unfold Da.py Da.sz PyData.bulk; exact Da.pys_bulk xs
  | .tup xs => by unfold Da.py Da.sz PyData.bulk; exact Da.pys_bulk xs
  | .str x => by unfold Da.py Da.sz PyData.bulk; rfl
  | .int x => by unfold Da.py Da.sz PyData.bulk; rfl
  | .bl x => by unfold Da.py Da.sz PyData.bulk; rfl
  | .non => by unfold Da.py Da.sz PyData.bulk; rfl
  | .dct _ => by unfold Da.py Da.sz PyData.bulk; rfl
  | .ins _ _ => by unfold Da.py Da.sz PyData.bulk; rfl
  | .lm _ => by unfold Da.py Da.sz PyData.bulk; rfl
  | .clo _ _ => by unfold Da.py Da.sz PyData.bulk; rfl
  | .ty _ => by unfold Da.py Da.sz PyData.bulk; rfl
theorem Da.pys_bulk : ∀ ds : List Da, PyData.bulkAll (Da.pys ds) = Da.szs ds
  | [] => by unfold Da.pys Da.szs PyData.bulkAll; rfl
  | d :: ds => by unfold Da.pys Da.szs PyData.bulkAll; rw [Da.py_bulk d, Da.pys_bulk ds]
end
mutual
theorem Da.py_depth : ∀ d : Da, d.py.depth = d.dp
  | .lst xs => by unfold Da.py Da.dp PyData.depth; rw [Da.pys_depth xs]
  | .tup xs => by unfold Da.py Da.dp PyData.depth; rw [Da.pys_depth xs]
  | .str x => by unfold Da.py Da.dp PyData.depth; rfl
  | .int x => by unfold Da.py Da.dp PyData.depth; rfl
  | .bl x => by unfold Da.py Da.dp PyData.depth; rfl
  | .non => by unfold Da.py Da.dp PyData.depth; rfl
  | .dct _ => by unfold Da.py Da.dp PyData.depth; rfl
  | .ins _ _ => by unfold Da.py Da.dp PyData.depth; rfl
  | .lm _ => by unfold Da.py Da.dp PyData.depth; rfl
  | .clo _ _ => by unfold Da.py Da.dp PyData.depth; rfl
  | .ty _ => by unfold Da.py Da.dp PyData.depth; rfl
theorem Da.pys_depth : ∀ ds : List Da, PyData.depthAll (Da.pys ds) = Da.dps ds
  | [] => by unfold Da.pys Da.dps PyData.depthAll; rfl
  | d :: ds => by unfold Da.pys Da.dps PyData.depthAll; rw [Da.py_depth d, Da.pys_depth ds]
end
theorem int_short {i : Int} (h : i.natAbs < 10 ^ 40) : (PyData.shown (.int i)).length ≤ 41 := by
  have e := int_text_length_le10 (k := 40) (by decide) h
  show (Str.ofString (toString i)).length ≤ 41
  rw [PySem.ofString_length]; exact e
mutual
theorem Da.py_okS : ∀ d : Da, d.okS → d.pure = true ∧ d.py.showable = true ∧ d.py.leavesShort 41 = true
  | .lst xs, h => by unfold Da.okS at h; unfold Da.py Da.pure PyData.showable PyData.leavesShort; exact Da.pys_okS xs h
  | .tup xs, h => by unfold Da.okS at h; unfold Da.py Da.pure PyData.showable PyData.leavesShort; exact Da.pys_okS xs h
  | .str x, h => by
    unfold Da.okS at h; unfold Da.py Da.pure PyData.showable PyData.leavesShort
    exact ⟨rfl, rfl, List.all_eq_true.mpr fun c hc => decide_eq_true (h c hc)⟩
  | .int x, h => by
    unfold Da.okS at h; unfold Da.py Da.pure PyData.showable PyData.leavesShort
    refine ⟨rfl, decide_eq_true ?_, decide_eq_true (int_short h)⟩
    exact Nat.lt_of_lt_of_le (PySem.Flt.log2_lt_of (k := 140) (by decide) (Nat.lt_of_lt_of_le h (by decide))) (by decide)
  | .bl x, _ => by unfold Da.py Da.pure PyData.showable PyData.leavesShort; exact ⟨rfl, rfl, rfl⟩
  | .non, _ => by unfold Da.py Da.pure PyData.showable PyData.leavesShort; exact ⟨rfl, rfl, rfl⟩
  | .dct _, h => by unfold Da.okS at h; exact h.elim
  | .ins _ _, h => by unfold Da.okS at h; exact h.elim
  | .lm _, h => by unfold Da.okS at h; exact h.elim
  | .clo _ _, h => by unfold Da.okS at h; exact h.elim
  | .ty _, h => by unfold Da.okS at h; exact h.elim
theorem Da.pys_okS : ∀ ds : List Da, Da.okSs ds → Da.pures ds = true ∧ PyData.showableAll (Da.pys ds) = true ∧ PyData.leavesShortAll 41 (Da.pys ds) = true
  | [], _ => by unfold Da.pys Da.pures PyData.showableAll PyData.leavesShortAll; exact ⟨rfl, rfl, rfl⟩
  | d :: ds, h => by
    unfold Da.okSs at h
    obtain ⟨a1, a2, a3⟩ := Da.py_okS d h.1
    obtain ⟨b1, b2, b3⟩ := Da.pys_okS ds h.2
    unfold Da.pys Da.pures PyData.showableAll PyData.leavesShortAll
    rw [a1, a2, a3, b1, b2, b3]
    exact ⟨rfl, rfl, rfl⟩
end
theorem shw_of {d : Da} (h1 : d.okS) (h2 : d.sz ≤ 20000) (h3 : d.dp ≤ 60) : Shw d := by
  obtain ⟨a1, a2, a3⟩ := Da.py_okS d h1
  refine ⟨a1, a2, by rw [Da.py_depth]; exact h3, ?_⟩
  have z := PyData.shown_le_bulk 41 (by decide) _ a3
  rw [Da.py_bulk] at z
  omega
/-! lists of numbers -/
theorem rngD_mem {lo : Int} {n : Nat} {d : Da} (h : d ∈ rngD lo n) : ∃ i : Nat, i < n ∧ d = .int (lo + i) := by
  unfold rngD at h
  obtain ⟨i, h1, h2⟩ := List.mem_map.mp h
  exact ⟨i, List.mem_range.mp h1, h2.symm⟩
theorem atI_mem {ds : List Da} {i : Int} (h0 : 0 ≤ i) (h1 : i < ds.length) : ∃ d, atI ds i = some d ∧ d ∈ ds := by
  obtain ⟨k, rfl⟩ := Int.eq_ofNat_of_zero_le h0
  have hk : k < ds.length := by exact_mod_cast h1
  refine ⟨ds[k], ?_, List.getElem_mem hk⟩
  unfold atI ixN
  rw [if_pos h0, if_pos h1]
  exact List.getElem?_eq_getElem hk
theorem mem_cut {ds : List Da} {lo hi : Option Int} {d : Da} (h : d ∈ cutD ds lo hi) : d ∈ ds := List.mem_of_mem_drop (List.mem_of_mem_take h)
theorem mem_ints {ns : List Int} {d : Da} (h : d ∈ ns.map Da.int) : ∃ n, n ∈ ns ∧ d = .int n := by
  obtain ⟨n, h1, h2⟩ := List.mem_map.mp h
  exact ⟨n, h1, h2.symm⟩
end GX
namespace GX
open PySem PySem.Spec PyProof.Rows L2
theorem cut_take {ds : List Da} {u : Int} (h0 : 0 ≤ u) (h1 : u ≤ ds.length) : cutD ds none (some u) = ds.take u.toNat := by
  unfold cutD
  have e0 : HT.sIx ds.length 0 none = 0 := rfl
  have e1 : HT.sIx ds.length ds.length (some u) = u.toNat := by
    show (if u < 0 then (u + (ds.length : Int)).toNat else min u.toNat ds.length) = _
    rw [if_neg (by omega)]; omega
  rw [e0, e1, List.drop_zero, Nat.sub_zero]
end GX
namespace GX
open PySem PySem.Spec PyProof.Rows L2
/-- each item is kept or not: the two ways apart -/
theorem lcG_fil {step : Da → List Da → (List Da → Prop) → Prop} {p : Da → Bool} {f : Da → Da} {Q : List Da → Prop} {ds acc : List Da} (h : ∀ d acc (k : List Da → Prop), d ∈ ds → (p d = true → k (acc ++ [f d])) → (p d = false → k acc) → step d acc k) (q : Q (acc ++ (ds.filter p).map f)) : lcG step ds acc Q :=
  lcG_filter (p := p) (f := f) (fun d acc k hd hk => h d acc k hd (fun c => by rw [if_pos c] at hk; exact hk) (fun c => by rw [if_neg (by rw [c]; decide)] at hk; exact hk)) q
/-- numbers of a list within bounds -/
def allI (lo hi : Int) : List Da → Prop
  | [] => True
  | .int x :: r => (lo ≤ x ∧ x ≤ hi) ∧ allI lo hi r
  | _ :: _ => False
theorem allI_mem {lo hi : Int} : ∀ {xs : List Da} {d : Da}, allI lo hi xs → d ∈ xs → ∃ x, d = .int x ∧ lo ≤ x ∧ x ≤ hi
  | .int x :: r, d, h, m => by
    unfold allI at h
    rcases List.mem_cons.mp m with rfl | m
    · exact ⟨x, rfl, h.1⟩
    · exact allI_mem h.2 m
  | .non :: _, _, h, _ => by unfold allI at h; exact h.elim
  | .bl _ :: _, _, h, _ => by unfold allI at h; exact h.elim
  | .str _ :: _, _, h, _ => by unfold allI at h; exact h.elim
  | .lst _ :: _, _, h, _ => by unfold allI at h; exact h.elim
  | .tup _ :: _, _, h, _ => by unfold allI at h; exact h.elim
  | .dct _ :: _, _, h, _ => by unfold allI at h; exact h.elim
  | .ins _ _ :: _, _, h, _ => by unfold allI at h; exact h.elim
  | .lm _ :: _, _, h, _ => by unfold allI at h; exact h.elim
  | .clo _ _ :: _, _, h, _ => by unfold allI at h; exact h.elim
  | .ty _ :: _, _, h, _ => by unfold allI at h; exact h.elim
end GX

namespace GX
open PySem PySem.Spec PyProof.Rows L2
theorem loose_int {lv : List (Str × PySem.W.WData)} {mg : Str → Option Value} {h : Heap} {x : Str} {i : Int} (V : PySem.W.LooseAre lv mg h) (hx : (x, PySem.W.WData.int i) ∈ lv) : ∃ t, mg x = some (.int i t) := by
  obtain ⟨v, h1, h2⟩ := V.val _ hx
  cases h2
  exact ⟨_, h1⟩
end GX

namespace GX
open PySem PySem.Spec PyProof.Rows L2
section
variable {S : Sx} {Γ : List Slot} {e a b c tg : Expr} {es : List Expr} {lo hi : Option Expr} {Q : Da → Prop} {B : Bool → Prop} {p pos p2 apos : Pos} {x : Str} {i : Nat} {A : Addr} {I : List Da → Prop}
/-! ## chains -/
theorem ch_run {op op' : CmpOp} {r r' : Da → Da → (Da → Prop) → Prop} (ho : OpG S (compareOp op) r) (ho' : OpG S (compareOp op') r')
    (h : EvE S Γ a fun x => EvE S Γ b fun y => r x y fun d => asBl d fun k => cond k (EvE S Γ c fun z => r' y z Q) (Q (.bl false))) {PX : Hp} {σ : L2.St} {H Hf : Hp} {k : VK} (st : Stt S PX Γ Hf H σ)
    (hk : ∀ d v Hf' H', Sub Hf Hf' → Stt S PX Γ Hf' H' σ → Rep S.K Hf' d v → Q d → k v H') : tChain ho.ex.choose ho'.ex.choose (tU S a) (tU S b) (tU S c) σ H k :=
  h PX σ H Hf _ st fun x v Hf1 H1 e1 st1 r1 q1 => q1 PX σ H1 Hf1 _ st1 fun y u Hf2 H2 e2 st2 r2 q2 => ho.ex.choose_spec.2 PX Γ σ Hf2 H2 x y v u _ _ st2 (Rep.mono e2 _ _ r1) r2 q2 fun d w Hf3 H3 e3 st3 r3 q3 => by
    obtain ⟨t, rfl, q3⟩ := asBl_ q3
    refine ⟨t, r3, cond_ite ?_⟩
    cases t with
    | true => exact q3 PX σ H3 Hf3 _ st3 fun z w' Hf4 H4 e4 st4 r4 q4 => ho'.ex.choose_spec.2 PX Γ σ Hf4 H4 y z u w' _ _ st4 (Rep.mono (e3.trans e4) _ _ r2) r4 q4 fun d' v' Hf5 H5 e5 => hk d' v' Hf5 H5 ((((e1.trans e2).trans e3).trans e4).trans e5)
    | false => exact hk (.bl false) _ Hf3 H3 ((e1.trans e2).trans e3) st3 rfl q3
theorem ev_chain {op op' : CmpOp} {r r' : Da → Da → (Da → Prop) → Prop} (ho : OpG S (compareOp op) r) (ho' : OpG S (compareOp op') r')
    (h : EvE S Γ a fun x => EvE S Γ b fun y => r x y fun d => asBl d fun k => cond k (EvE S Γ c fun z => r' y z Q) (Q (.bl false))) (hm : lastMarks [op, op'] [b, c] = false := by with_unfolding_all rfl) : EvE S Γ (.Compare a [op, op'] [b, c] pos) Q :=
  ev_of (fun X ok => pe_chain (ho.ex.choose_spec.1 X ok) (ho'.ex.choose_spec.1 X ok) (pu ok) (pu ok) (pu ok) hm) fun PX σ H Hf k st hk => ch_run ho ho' h st hk
theorem et_chain {op op' : CmpOp} {r r' : Da → Da → (Da → Prop) → Prop} (ho : OpG S (compareOp op) r) (ho' : OpG S (compareOp op') r')
    (h : EvE S Γ a fun x => EvE S Γ b fun y => r x y fun d => asBl d fun k => cond k (EvE S Γ c fun z => r' y z fun d => asBl d B) (B false)) (hm : lastMarks [op, op'] [b, c] = false := by with_unfolding_all rfl) : EvT S Γ (.Compare a [op, op'] [b, c] pos) B :=
  fun PX σ H Hf k st hk => ⟨_, fun X ok => pt_chain (ho.ex.choose_spec.1 X ok) (ho'.ex.choose_spec.1 X ok) (pu ok) (pu ok) (pu ok) hm, ch_run (Q := fun d => asBl d B) ho ho' h st fun d v Hf' H' e st' r q => by
    obtain ⟨t, rfl, q⟩ := asBl_ q
    exact ⟨t, r, hk t Hf' H' e st' q⟩⟩
/-! ## + of all kinds -/
def rCatS (K : PySem.W.Frag) : R2 := fun x y H Q => ∃ l b xs zs, x = .ref l ∧ y = .ref b ∧ SqL K H l xs ∧ SqL K H b zs ∧ xs.length + zs.length ≤ sizeLine ∧ ∀ p, H p = none → Q (.ref p) (upd H p (.lst (xs ++ zs)))
theorem op_catS {X : Cx} : OpR X (binaryOp .Add) (rCatS X.K) := by
  intro pins s σ H x y v u Q I rx ry h
  obtain ⟨l, b, xs, zs, rfl, rfl, hH, hB, hz, q⟩ := h
  cases rx
  cases ry
  obtain ⟨its, r, pl, _⟩ := I.list hH
  obtain ⟨its2, r2, pl2, _⟩ := I.list hB
  obtain ⟨⟨cls, dd, data, sl⟩, ho, hc, n, hd⟩ := pl.isList
  obtain ⟨⟨cls2, dd2, data2, sl2⟩, ho2, hc2, n2, hd2⟩ := pl2.isList
  simp only at hc hd hc2 hd2
  subst hc hd hc2 hd2
  have e : its.toArray ++ its2.toArray = (its ++ its2).toArray := by simp
  refine concat_meets ⟨_, ho, rfl⟩ ⟨_, ho2, rfl⟩ noFill_list_add seq_list_add PySem.F.slot_list_add PySem.F.entry_list_add (PySem.F.args_list_add_2 _ _) (list_addW l b its.toArray its2.toArray n n2 dd dd2 sl sl2 (by rw [List.size_toArray, List.size_toArray, ← r.length, ← r2.length]; exact hz)) ⟨ho, ho2, ?_⟩
  rw [e]
  exact ⟨.ref _, _, I.lnew (t' := s.toks) (r.append r2) (by rw [List.length_append]; exact hz), rfl, q _ I.fresh⟩
def rCatU (K : PySem.W.Frag) : R2 := fun x y H Q => ∃ a b xs ys, x = .ref a ∧ y = .ref b ∧ SqT K H a xs ∧ SqT K H b ys ∧ xs.length + ys.length ≤ sizeLine ∧
  (xs = [] → Q (.ref b) H) ∧ (ys = [] → Q (.ref a) H) ∧ (∀ p, H p = none → Q (.ref p) (upd H p (.tup (xs ++ ys))))
theorem op_catU {X : Cx} : OpR X (binaryOp .Add) (rCatU X.K) := by
  intro pins s σ H x y v u Q I rx ry h
  obtain ⟨a, b, xs, ys, rfl, rfl, ha, hb, hz, q0, q1, q2⟩ := h
  cases rx
  cases ry
  obtain ⟨its, r1, p1, _⟩ := I.tuple ha
  obtain ⟨its2, r2, p2, _⟩ := I.tuple hb
  by_cases hx : xs = []
  · obtain ⟨⟨cls, dd, data, sl⟩, ho, hc, n, hd⟩ := id p1
    obtain ⟨⟨cls2, dd2, data2, sl2⟩, ho2, hc2, n2, hd2⟩ := id p2
    simp only at hc hd hc2 hd2
    subst hc hd hc2 hd2
    have e := r1.nil_iff.mpr hx
    exact concat_meets ⟨_, ho, rfl⟩ ⟨_, ho2, rfl⟩ noFill_tuple_add seq_tuple_add PySem.F.slot_tuple_add PySem.F.entry_tuple_add (PySem.F.args_tuple_add_2 _ _)
      (tuple_addW0 a b its.toArray its2.toArray n n2 dd dd2 sl sl2 (by simp [e])) ⟨ho, ho2, ⟨.ref b, H, I.tok _, rfl, q0 hx⟩⟩
  · refine HT.cat_tup p1 p2 (fun z => hx (r1.nil_iff.mp z)) (fun z => ⟨.ref a, H, I, rfl, q1 (r2.nil_iff.mp z)⟩) (fun z => ?_) (by rw [← r1.length, ← r2.length]; exact hz)
    refine ⟨.ref s.heap.objs.size, _, I.laid (t' := s.toks) (o := .tup (xs ++ ys)) (fun b ob q => Heap.get?_push_of_some _ q) (Nat.le_refl _) ?_, rfl, q2 _ (I.hok.fresh (Nat.le_refl _))⟩
    exact ⟨by rw [List.length_append]; exact hz, its ++ its2, r1.append r2, IsTup.new _ _⟩
@[reducible] def addQ (x y : Da) (Q : Da → Prop) : Prop := match x, y with
  | .int i, .int j => Q (.int (i + j))
  | .str i, .str j => i.length + j.length ≤ 1000000 ∧ Q (.str (i ++ j))
  | .lst a, .lst b => a.length + b.length ≤ 100000 ∧ Q (.lst (a ++ b))
  | .tup a, .tup b => a.length + b.length ≤ 100000 ∧ Q (.tup (a ++ b))
  | _, _ => False
theorem Rep.lst_ {K : PySem.W.Frag} {H : Hp} {ds : List Da} {v : V} (r : Rep K H (.lst ds) v) : ∃ a xs, v = .ref a ∧ SqL K H a xs ∧ Reps K H ds xs := r
theorem Rep.tup_ {K : PySem.W.Frag} {H : Hp} {ds : List Da} {v : V} (r : Rep K H (.tup ds) v) : ∃ a xs, v = .ref a ∧ SqT K H a xs ∧ Reps K H ds xs := r
theorem g_addD : OpG S (binaryOp .Add) addQ :=
  ⟨fun x y H Q => rI0 (fun i j => .int (i + j)) x y H Q ∨ (∃ i j, x = .str i ∧ y = .str j ∧ i.length + j.length ≤ sizeLine ∧ Q (.str (i ++ j)) H) ∨ rCatS S.K x y H Q ∨ rCatU S.K x y H Q,
   fun X ok => by
     have z1 := op_catS (X := X)
     have z2 := op_catU (X := X)
     rw [ok.K] at z1 z2
     exact op_add.or (op_add_str.or (z1.or z2)),
   fun PX Γ σ Hf H x y v u Q k st rx ry hr hk => by
    unfold addQ at hr
    split at hr
    · rename_i i j
      exact .inl ⟨i, j, rx, ry, hk (.int (i + j)) _ Hf H (Sub.refl _) st rfl hr⟩
    · rename_i i j
      exact .inr (.inl ⟨i, j, rx, ry, Nat.le_trans hr.1 (by decide : 1000000 ≤ sizeLine), hk (.str (i ++ j)) _ Hf H (Sub.refl _) st rfl hr.2⟩)
    · rename_i a b
      obtain ⟨p, xs, rfl, s1, r1⟩ := rx.lst_
      obtain ⟨p', ys, rfl, s2, r2⟩ := ry.lst_
      refine .inr (.inr (.inl ⟨p, p', xs, ys, rfl, rfl, st.ex.sl s1, st.ex.sl s2, by rw [r1.len, r2.len]; exact Sz.ok hr.1, fun q hq => ?_⟩))
      obtain ⟨st2, e2⟩ := st.alloc (o := .lst (xs ++ ys)) hq
      exact hk (.lst (a ++ b)) _ _ _ e2 st2 ⟨q, _, rfl, SqL.of upd_same, Reps.app (Reps.mono e2 _ _ r2) (Reps.mono e2 _ _ r1)⟩ hr.2
    · rename_i a b
      obtain ⟨p, xs, rfl, s1, r1⟩ := rx.tup_
      obtain ⟨p', ys, rfl, s2, r2⟩ := ry.tup_
      refine .inr (.inr (.inr ⟨p, p', xs, ys, rfl, rfl, st.ex.st s1, st.ex.st s2, by rw [r1.len, r2.len]; exact Sz.ok hr.1, fun hx => ?_, fun hy => ?_, fun q hq => ?_⟩))
      · have e : a = [] := List.eq_nil_of_length_eq_zero (by rw [← r1.len, hx]; rfl)
        subst e
        exact hk (.tup b) _ Hf H (Sub.refl _) st ⟨p', ys, rfl, s2, r2⟩ hr.2
      · have e : b = [] := List.eq_nil_of_length_eq_zero (by rw [← r2.len, hy]; rfl)
        subst e
        have q := hr.2
        rw [List.append_nil] at q
        exact hk (.tup a) _ Hf H (Sub.refl _) st ⟨p, xs, rfl, s1, r1⟩ q
      · obtain ⟨st2, e2⟩ := st.alloc (o := .tup (xs ++ ys)) hq
        exact hk (.tup (a ++ b)) _ _ _ e2 st2 ⟨q, _, rfl, SqT.of upd_same, Reps.app (Reps.mono e2 _ _ r2) (Reps.mono e2 _ _ r1)⟩ hr.2
    · exact hr.elim⟩
/-! ## in -/
@[reducible] def Da.flat (d : Da) : Bool := match d with | .non => true | .bl _ => true | .int _ => true | .str _ => true | _ => false
@[reducible] def eqF (x y : Da) : Bool := match x, y with
  | .non, .non => true
  | .bl a, .bl b => a == b
  | .bl a, .int b => (if a then 1 else 0) == b
  | .int a, .bl b => a == (if b then 1 else 0)
  | .int a, .int b => a == b
  | .str a, .str b => a == b
  | _, _ => false
theorem Rep.flat {K : PySem.W.Frag} {H : Hp} {d : Da} {v : V} (r : Rep K H d v) (h : d.flat = true) : flatV v = true := by
  cases d <;> first | (unfold Rep at r; subst r; rfl) | cases h
theorem Rep.eqF {K : PySem.W.Frag} {H : Hp} {d d' : Da} {v v' : V} (r : Rep K H d v) (r' : Rep K H d' v') (h : d.flat = true) (h' : d'.flat = true) : eqV v v' = GX.eqF d d' := by
  cases d <;> cases d' <;> first | (unfold Rep at r r'; subst r; subst r'; rfl) | (exact absurd h (by decide)) | (exact absurd h' (by decide)) | (cases h; done) | (cases h'; done)
theorem Reps.flat {K : PySem.W.Frag} {H : Hp} {d : Da} {v : V} (r0 : Rep K H d v) (h0 : d.flat = true) : ∀ {ds : List Da} {vs : List V}, Reps K H ds vs → ds.all Da.flat = true → vs.all flatV = true ∧ inV v vs = ds.any fun y => GX.eqF y d
  | [], _, r, _ => by unfold Reps at r; subst r; exact ⟨rfl, rfl⟩
  | y :: ds, _, r, h => by
    obtain ⟨u, l, rfl, r1, r2⟩ := r
    rw [List.all_cons, Bool.and_eq_true] at h
    obtain ⟨a, b⟩ := Reps.flat r0 h0 r2 h.2
    have c := Rep.eqF r1 r0 h.1 h0
    unfold inV at b ⊢
    rw [List.all_cons, List.any_cons, List.any_cons, a, b, Rep.flat r1 h.1, c]
    exact ⟨rfl, rfl⟩
@[reducible] def inQ (x y : Da) (k : Bool → Prop) : Prop := match y with
  | .lst ds => x.flat = true ∧ ds.all Da.flat = true ∧ k (ds.any fun y => eqF y x)
  | .tup ds => x.flat = true ∧ ds.all Da.flat = true ∧ k (ds.any fun y => eqF y x)
  | .str s => asStr x fun z => k (!(Builtin.Str.occurrences s z 0 s.length 1).isEmpty)
  | _ => False
theorem in_any {f : Value → Value → Sem Value} {neg : Bool} (h1 : ∀ X, S.Ok X → OpR X f (rIn X.K neg)) (h2 : ∀ X, S.Ok X → OpR X f (fun x y H Q => ∃ i j, x = .str i ∧ y = .str j ∧ Q (.bl (neg ^^ !(Builtin.Str.occurrences j i 0 j.length 1).isEmpty)) H)) :
    OpG S f fun x y Q => inQ x y fun b => Q (.bl (neg ^^ b)) :=
  .pure _ (fun X ok => (by have z := h1 X ok; rw [ok.K] at z; exact z.or (h2 X ok))) fun Hf H x y v u Q k e rx ry hr hk => by
    unfold inQ at hr
    have nb : ∀ b : Bool, (if neg then !b else b) = (neg ^^ b) := fun b => by cases neg <;> cases b <;> rfl
    split at hr
    · rename_i ds
      obtain ⟨p, xs, rfl, s1, r1⟩ := ry.lst_
      obtain ⟨a, b⟩ := Reps.flat rx hr.1 r1 hr.2.1
      refine .inl ⟨p, xs, rfl, .inl (e.sl s1), Rep.flat rx hr.1, a, ?_⟩
      have z := hk (.bl (neg ^^ ds.any fun y => eqF y x)) _ rfl hr.2.2
      rw [← b, ← nb] at z
      exact z
    · rename_i ds
      obtain ⟨p, xs, rfl, s1, r1⟩ := ry.tup_
      obtain ⟨a, b⟩ := Reps.flat rx hr.1 r1 hr.2.1
      refine .inl ⟨p, xs, rfl, .inr (e.st s1), Rep.flat rx hr.1, a, ?_⟩
      have z := hk (.bl (neg ^^ ds.any fun y => eqF y x)) _ rfl hr.2.2
      rw [← b, ← nb] at z
      exact z
    · rename_i s
      obtain ⟨z, rfl, q⟩ := asStr_ hr
      exact .inr ⟨z, s, rx, ry, hk (.bl _) _ rfl q⟩
    · exact hr.elim
theorem g_in : OpG S (compareOp .In) fun x y Q => inQ x y fun b => Q (.bl (false ^^ b)) := in_any (fun _ _ => op_in_seq) fun X ok => by
  intro pins s σ H x y v u Q I rx ry ⟨i, j, a, b, q⟩
  exact op_in_str pins s σ H x y v u Q I rx ry ⟨i, j, a, b, by rw [Bool.false_xor] at q; exact q⟩
theorem g_notin : OpG S (compareOp .NotIn) fun x y Q => inQ x y fun b => Q (.bl (true ^^ b)) := in_any (fun _ _ => op_notIn_seq) fun X ok => by
  intro pins s σ H x y v u Q I rx ry ⟨i, j, a, b, q⟩
  exact op_notIn_str pins s σ H x y v u Q I rx ry ⟨i, j, a, b, by rw [Bool.true_xor] at q; exact q⟩
/-! ## slices, items, len of all kinds -/
@[reducible] def slQ (d : Da) (l u : Option Int) (Q : Da → Prop) : Prop := match d with
  | .lst ds => Q (.lst (cutD ds l u))
  | .tup ds => Q (.tup (cutD ds l u))
  | .str z => z.length ≤ 1000000 ∧ Q (.str (cutS z l u))
  | _ => False
theorem ev_sl (h : EvE S Γ a fun d => EvO S Γ lo fun l => EvO S Γ hi fun u => slQ d l u Q) : EvE S Γ (.Subscript a (.Slice lo hi none p2) pos) Q :=
  ev_of (t := tSl (fun x l u H Q => rSlL S.K x l u H Q ∨ rSlA S.K x l u H Q ∨ rSlS x l u H Q) (tU S a) (tUO S lo) (tUO S hi))
    (fun X ok => by have z := pe_slice (pos := pos) (p2 := p2) (SlR.or sl_list (SlR.or sl_tupA sl_str)) (pu (e := a) ok) (puO (lo := lo) ok) (puO (lo := hi) ok); rw [ok.K] at z; exact z) fun PX σ H Hf k st hk =>
    h PX σ H Hf _ st fun d v Hf1 H1 e1 st1 r1 q => q PX σ H1 Hf1 _ st1 fun l Hf2 H2 e2 st2 q2 => q2 PX σ H2 Hf2 _ st2 fun u Hf3 H3 e3 st3 q3 => by
    unfold slQ at q3
    split at q3
    · rename_i ds
      obtain ⟨P, xs, rfl, hq, rr⟩ := (Rep.mono (e2.trans e3) _ _ r1).lst_
      refine .inl ⟨P, xs, rfl, st3.ex.sl hq, fun p hp => ?_⟩
      obtain ⟨st4, e4⟩ := st3.alloc (o := .lst (cutV xs l u)) hp
      exact hk (.lst (cutD ds l u)) _ _ _ (((e1.trans e2).trans e3).trans e4) st4 ⟨p, _, rfl, SqL.of upd_same, Reps.mono e4 _ _ (rr.cut l u)⟩ q3
    · rename_i ds
      obtain ⟨P, xs, rfl, hq, rr⟩ := (Rep.mono (e2.trans e3) _ _ r1).tup_
      refine .inr (.inl ⟨P, xs, rfl, st3.ex.st hq, fun w => ?_, fun w p hp => ?_⟩)
      · have z := rr.cut l u
        rw [cutV_all w] at z
        exact hk (.tup (cutD ds l u)) _ _ _ ((e1.trans e2).trans e3) st3 ⟨P, xs, rfl, hq, z⟩ q3
      · obtain ⟨st4, e4⟩ := st3.alloc (o := .tup (cutV xs l u)) hp
        exact hk (.tup (cutD ds l u)) _ _ _ (((e1.trans e2).trans e3).trans e4) st4 ⟨p, _, rfl, SqT.of upd_same, Reps.mono e4 _ _ (rr.cut l u)⟩ q3
    · rename_i z
      exact .inr (.inr ⟨z, r1, Nat.le_trans q3.1 (by decide : 1000000 ≤ sizeLine), hk (.str (cutS z l u)) _ Hf3 H3 ((e1.trans e2).trans e3) st3 rfl q3.2⟩)
    · exact q3.elim
@[reducible] def lenQ (d : Da) (Q : Int → Prop) : Prop := match d with
  | .lst ds => Q ds.length
  | .tup ds => Q ds.length
  | .str z => z.length ≤ 1000000 ∧ Q z.length
  | _ => False
theorem c_lenD : CallG S (.builtin "len") fun ds Q => as1 ds fun d => lenQ d fun n => Q (.int n) :=
  .keep (fun xs H Q => (∃ p ys, xs = [.ref p] ∧ (SqL S.K H p ys ∨ SqT S.K H p ys) ∧ Q (.int ys.length) H) ∨ (∃ z, xs = [.str z] ∧ z.length ≤ sizeLine ∧ Q (.int z.length) H)) (fun X ok => by have z := (call_len_seq (X := X)).or call_len_str; rw [ok.K] at z; exact z) fun Hf H ds vs Q k e r h hk => by
  obtain ⟨d, rfl, h2⟩ := as1_ h
  clear h
  obtain ⟨v, rfl, r1⟩ := r.one
  have h := h2
  unfold lenQ at h
  split at h
  · obtain ⟨p, xs, rfl, s1, r2⟩ := r1.lst_
    exact .inl ⟨p, xs, rfl, .inl (e.sl s1), hk _ _ (by rw [r2.len]; rfl) h⟩
  · obtain ⟨p, xs, rfl, s1, r2⟩ := r1.tup_
    exact .inl ⟨p, xs, rfl, .inr (e.st s1), hk _ _ (by rw [r2.len]; rfl) h⟩
  · rename_i z
    exact .inr ⟨z, congrArg (· :: []) r1, Nat.le_trans h.1 (by decide : 1000000 ≤ sizeLine), hk (.int z.length) _ rfl h.2⟩
  · exact h.elim
/-! ## walking texts, pairs -/
def chars (z : Str) : List Da := z.cps.toList.map fun c => Da.str ⟨#[c]⟩
theorem ei_str {QI : List Da → Prop} (h : EvE S Γ e fun d => asStr d fun z => QI (chars z)) : EvI S Γ tg e QI := fun PX σ H Hf k st hk => ⟨iStr (tU S e), fun X ok => pi_str (tg := tg) (pu (e := e) ok), h PX σ H Hf _ st fun d v Hf1 H1 e1 st1 r q => by
  obtain ⟨z, rfl, q⟩ := asStr_ q
  have hl : (chars z).length = z.cps.size := by unfold chars; rw [List.length_map, Array.length_toList]
  refine ⟨z, r, hk _ _ Hf1 H1 e1 st1 ⟨fun i Hf' H' e e' hi => by rw [hl] at hi; exact hi, fun i Hf' H' e e' hi => by rw [hl] at hi; exact hi, fun PX i x Γ σ Hf' H' H'' e s hi y => ?_⟩ q⟩
  obtain ⟨rfl, c, hc, rfl⟩ := y
  refine ⟨Hf', .str ⟨#[c]⟩, Sub.refl _, s, ?_, rfl⟩
  unfold chars
  rw [List.getElem?_map, Array.getElem?_toList, hc]; rfl⟩
theorem ei_zip {QI : List Da → Prop} {elts : List Expr} {kk : Nat} {tpos q : Pos} (hg : GlS S "zip") (hm : S.mg "zip" = none) (h : EvE S Γ a fun d => EvE S Γ b fun d' => asLst d fun xs => asLst d' fun ys => QI ((xs.zip ys).map fun z => Da.tup [z.1, z.2]))
    (hs : ∀ env, starEach [a, b] env = (false, eval a env) :: starEach [b] env := by intro _; rfl) (hs2 : ∀ env, starEach [b] env = (false, eval b env) :: starEach [] env := by intro _; rfl) (hpl : ∀ env, (backTo q (starEach [b] env)).any (·.1) = false := by intro _; rfl) :
    EvI S Γ (.Tuple elts kk tpos) (.Call (.Name "zip" p) [a, b] [] q) QI := fun PX σ H Hf k st hk =>
  ⟨iZip S.K (tCons (tU S a) (tCons (tU S b) tNil)), fun X ok => by have z := pi_zip (tpos := tpos) (p := p) (pos := q) (elts := elts) (kk := kk) (hg.gl ok) (by rw [ok.mg]; exact hm) (pa_cons (pu (e := a) ok) (pa_cons (pu (e := b) ok) pa_nil (hs2 _)) (hs _)) (hs _) (hpl _); rw [ok.K] at z; exact z,
    h PX σ H Hf _ st fun d v Hf1 H1 e1 st1 r q => q PX σ H1 Hf1 _ st1 fun d' v' Hf2 H2 e2 st2 r' q => by
    obtain ⟨xs, rfl, q1⟩ := asLst_ q
    obtain ⟨ys, rfl, q2⟩ := asLst_ q1
    obtain ⟨l1, us, rfl, s1, r1⟩ := (Rep.mono e2 _ _ r).lst_
    obtain ⟨l2, ws, rfl, s2, r2⟩ := r'.lst_
    have hl : ((xs.zip ys).map fun z => Da.tup [z.1, z.2]).length = min xs.length ys.length := by rw [List.length_map, List.length_zip]
    refine ⟨l1, l2, us, ws, rfl, st2.ex.sl s1, st2.ex.sl s2, hk _ _ Hf2 H2 (e1.trans e2) st2 ⟨fun i Hf' H' e e' hi => ?_, fun i Hf' H' e e' hi => ?_, fun PX i x Γ σ Hf' H' H'' e s hi y => ?_⟩ q2⟩
    · rw [hl] at hi
      obtain ⟨_, v1, _, h1, _⟩ := r1.at (i := i) (by omega)
      obtain ⟨_, v2, _, h2, _⟩ := r2.at (i := i) (by omega)
      exact ⟨us, ws, v1, v2, e'.sl (e.sl s1), e'.sl (e.sl s2), h1, h2⟩
    · rw [hl] at hi
      have z1 := r1.len
      have z2 := r2.len
      exact ⟨us, ws, e'.sl (e.sl s1), e'.sl (e.sl s2), by omega⟩
    · rw [hl] at hi
      obtain ⟨T, x, y, rfl, hT, rfl, y1, y2⟩ := y
      obtain ⟨d1, v1, g1, h1, w1⟩ := r1.at (i := i) (by omega)
      obtain ⟨d2, v2, g2, h2, w2⟩ := r2.at (i := i) (by omega)
      have k1 := (y1 us (s.ex.sl (e.sl s1))).symm.trans h1
      have k2 := (y2 ws (s.ex.sl (e.sl s2))).symm.trans h2
      cases k1; cases k2
      obtain ⟨st4, e4⟩ := s.alloc (o := .tup [x, y]) hT
      refine ⟨_, .tup [d1, d2], e4, st4, ?_, T, [x, y], rfl, SqT.of upd_same, x, _, rfl, Rep.mono (e.trans e4) _ _ w1, y, _, rfl, Rep.mono (e.trans e4) _ _ w2, rfl⟩
      rw [List.getElem?_map, (List.getElem?_zip_eq_some (z := (d1, d2))).mpr ⟨g1, g2⟩]; rfl⟩
/-! ## list(), tuple() -/
theorem c_tuple : CallG S (.type "tuple") fun ds Q => as1 ds fun d => asSeq d fun xs => Q (.tup xs) :=
  ⟨fun xs H Q => ∃ p ys, xs = [.ref p] ∧ ((SqL S.K H p ys ∧ ∀ l, H l = none → Q (.ref l) (upd H l (.tup ys))) ∨ (SqT S.K H p ys ∧ Q (.ref p) H)), fun X ok => by have z := call_tuple_of (X := X); rw [ok.K] at z; exact z, fun PX Γ σ Hf H ds vs Q k st r h hk => by
    obtain ⟨d, rfl, h⟩ := as1_ h
    obtain ⟨v, rfl, r1⟩ := r.one
    obtain ⟨xs, rfl | rfl, q⟩ := asSeq_ h
    · obtain ⟨p, us, rfl, s1, r2⟩ := r1.lst_
      refine ⟨p, us, rfl, .inl ⟨st.ex.sl s1, fun l hl => ?_⟩⟩
      obtain ⟨st2, e2⟩ := st.alloc (o := .tup us) hl
      exact hk (.tup xs) _ _ _ e2 st2 ⟨l, us, rfl, SqT.of upd_same, Reps.mono e2 _ _ r2⟩ q
    · obtain ⟨p, us, rfl, s1, r2⟩ := r1.tup_
      exact ⟨p, us, rfl, .inr ⟨st.ex.st s1, hk (.tup xs) _ Hf H (Sub.refl _) st ⟨p, us, rfl, s1, r2⟩ q⟩⟩⟩
end
end GX

namespace GX
open PySem PySem.Spec PyProof.Rows L2
/-! ## expressions that change a list of the def's own -/
def EvC (S : Sx) (Γ : List Slot) (e : Expr) (Q : Da → List Slot → Prop) : Prop := ∀ PX σ H Hf k, Stt S PX Γ Hf H σ →
  (∀ d v Γ' Hf' H', Sub Hf Hf' → Stt S PX Γ' Hf' H' σ → Rep S.K Hf' d v → Q d Γ' → k v H') → tU S e σ H k
theorem Reps.erase {K : PySem.W.Frag} {H : Hp} : ∀ {ds : List Da} {vs : List V} (n : Nat), Reps K H ds vs → Reps K H (ds.eraseIdx n) (vs.eraseIdx n)
  | [], _, n, r => by unfold Reps at r; subst r; exact rfl
  | e :: ds, _, 0, r => by
    obtain ⟨u, l, rfl, r1, r2⟩ := r
    exact r2
  | e :: ds, _, n + 1, r => by
    obtain ⟨u, l, rfl, r1, r2⟩ := r
    exact ⟨u, _, rfl, r1, Reps.erase n r2⟩
section
variable {S : Sx} {Γ : List Slot} {e a b c tg : Expr} {es : List Expr} {Q : Da → Prop} {QC : Da → List Slot → Prop} {QN : List Da → Prop} {p pos p2 apos cpos spos : Pos} {x y : Str} {i : Nat} {A : Addr} {I I' : List Da → Prop} {D : EnG}
theorem EvC.of (h : EvE S Γ e fun d => QC d Γ) : EvC S Γ e QC := fun PX σ H Hf k st hk => h PX σ H Hf k st fun d v Hf' H' e' s r q => hk d v Γ Hf' H' e' s r q
theorem es_setC {p : Pos} (hN : S.N[i]? = some x) (hx : Loc S.sc x) (h : EvC S Γ e fun d Γ' => D.nx (Γ'.set i (.dat d))) (hs : ∀ env, swapsWith e (some (.Name x p)) spos.line env = pure false := by intro _; rfl) (hst : S.stor x = true := by rfl) : EvS S Γ (.Assign [.Name x p] e spos) D :=
  es_of (fun X ok => ps_set (i := i) (by rw [ok.N]; exact ok.nd) (by rw [ok.N]; exact hN) (by rw [ok.sc]; exact hx) (pu ok) (hs _) (ok.fn x hst)) fun PX σ H Hf D' s k => h PX σ H Hf _ s fun d v Γ' Hf1 H1 e1 s1 r q =>
    k.nx _ _ Hf1 H1 e1 (s1.set r i) q
theorem es_exprC (h : EvC S Γ e fun _ Γ' => D.nx Γ') (hs : ∀ env, swapsWith e none pos.line env = pure false := by intro _; rfl) : EvS S Γ (.Expr e pos) D :=
  es_of (fun X ok => ps_expr (pu ok) (hs _)) fun PX σ H Hf D' s k => h PX σ H Hf _ s fun d v Γ' Hf' H' e s' _ q => k.nx Γ' σ Hf' H' e s' q
/-- x.append(e) -/
theorem ec_append (hN : S.N[i]? = some x) (hv : Vis S.sc x) (hΓ : Γ[i]? = some (.inv A I)) (h : EvC S Γ e fun d Γ' => ∃ J, Γ'[i]? = some (.inv A J) ∧ (∀ ds, J ds → ds.length < 100000 ∧ I' (ds ++ [d])) ∧ QC .non (Γ'.set i (.inv A I')))
    (hd : (x == ("__debug__" : Str)) = false := by decide) (hcd : (x == ("__classdict__" : Str)) = false := by decide)
    (hbase : ∀ env : Env, attributeBase (.Name x p) "append" env (eval (.Name x p) env) = eval (.Name x p) env := by intro _; rfl)
    (hfew : ∀ env, ((backTo cpos (starEach [e] env)).all (fun x => !x.1) && (backToKw cpos (keywordEach [] env)).all (fun x => x.1.isSome) && decide ([e].length + ([] : List Keyword).length + (if ([] : List Keyword).isEmpty then 0 else 1) < 30)) = true := by intro _; rfl)
    (hline : (apos.endLine == cpos.line) = true := by rfl) (hs : ∀ env, starEach [e] env = (false, eval e env) :: starEach [] env := by intro _; rfl) (hpl : ∀ env, (backTo cpos (starEach [] env)).any (·.1) = false := by intro _; rfl) :
    EvC S Γ (.Call (.Attribute (.Name x p) "append" apos) [e] [] cpos) QC := fun PX σ H Hf k st hk => by
  refine ⟨tBM S.K "list" rAppend (tVar i) (tCons (tU S e) tNil), fun X ok => ?_, ?_⟩
  · have z := pe_bm (X := X) (cpos := cpos) (apos := apos) PySem.F.plainAttrs_list PySem.F.slot_list_append (by first | rfl | decide +kernel | kernel_rfl) mt_append (pe_var (pos := p) (i := i) (by rw [ok.N]; exact hN) (by rw [ok.sc]; exact hv) hd hcd) (pa_cons (pu (e := e) ok) pa_nil (hs _)) (hbase _) (hfew _) hline (hs _) (hpl _)
    rw [ok.K] at z; exact z
  obtain ⟨_, _, vs, ds, hA, rr, hI⟩ := st.own hΓ
  refine ⟨.ref A, slot_of st hΓ, .inl ⟨rfl, vs, SqL.of hA⟩, ?_⟩
  refine h PX σ H Hf _ st fun d v Γ' Hf1 H1 e1 s1 r ⟨J, hJ, q1, q2⟩ => ?_
  obtain ⟨_, _, vs, ds, hA, rr, hI⟩ := s1.own hJ
  obtain ⟨q3, q4⟩ := q1 ds hI
  refine ⟨A, vs, v, rfl, rfl, hA, by rw [rr.len]; exact Nat.lt_of_lt_of_le q3 (by decide), ?_⟩
  exact hk .non .non _ Hf1 _ e1 (s1.put hJ (Reps.app (zs := [d]) (ws := [v]) ⟨v, [], rfl, r, rfl⟩ rr) q4) rfl q2
/-- x.pop(e) -/
theorem ec_pop (hN : S.N[i]? = some x) (hv : Vis S.sc x) (hΓ : Γ[i]? = some (.inv A I)) (h : EvC S Γ e fun d Γ' => ∃ J, Γ'[i]? = some (.inv A J) ∧ asInt d fun j => ∀ ds, J ds → ∃ n y, ds.length < 100000 ∧ ixN ds.length j = some n ∧ ds[n]? = some y ∧ ∃ I', I' (ds.eraseIdx n) ∧ QC y (Γ'.set i (.inv A I')))
    (hd : (x == ("__debug__" : Str)) = false := by decide) (hcd : (x == ("__classdict__" : Str)) = false := by decide)
    (hbase : ∀ env : Env, attributeBase (.Name x p) "pop" env (eval (.Name x p) env) = eval (.Name x p) env := by intro _; rfl)
    (hfew : ∀ env, ((backTo cpos (starEach [e] env)).all (fun x => !x.1) && (backToKw cpos (keywordEach [] env)).all (fun x => x.1.isSome) && decide ([e].length + ([] : List Keyword).length + (if ([] : List Keyword).isEmpty then 0 else 1) < 30)) = true := by intro _; rfl)
    (hline : (apos.endLine == cpos.line) = true := by rfl) (hs : ∀ env, starEach [e] env = (false, eval e env) :: starEach [] env := by intro _; rfl) (hpl : ∀ env, (backTo cpos (starEach [] env)).any (·.1) = false := by intro _; rfl) :
    EvC S Γ (.Call (.Attribute (.Name x p) "pop" apos) [e] [] cpos) QC := fun PX σ H Hf k st hk => by
  refine ⟨tBM S.K "list" rPopAt (tVar i) (tCons (tU S e) tNil), fun X ok => ?_, ?_⟩
  · have z := pe_bm (X := X) (cpos := cpos) (apos := apos) PySem.F.plainAttrs_list PySem.F.slot_list_pop (by first | rfl | decide +kernel | kernel_rfl) mt_popAt (pe_var (pos := p) (i := i) (by rw [ok.N]; exact hN) (by rw [ok.sc]; exact hv) hd hcd) (pa_cons (pu (e := e) ok) pa_nil (hs _)) (hbase _) (hfew _) hline (hs _) (hpl _)
    rw [ok.K] at z; exact z
  obtain ⟨_, _, vs, ds, hA, rr, hI⟩ := st.own hΓ
  refine ⟨.ref A, slot_of st hΓ, .inl ⟨rfl, vs, SqL.of hA⟩, ?_⟩
  refine h PX σ H Hf _ st fun d v Γ' Hf1 H1 e1 s1 r ⟨J, hJ, q1⟩ => ?_
  obtain ⟨j, rfl, q1⟩ := asInt_ q1
  have e' : v = .int j := r
  subst e'
  obtain ⟨_, _, vs, ds, hA, rr, hI⟩ := s1.own hJ
  obtain ⟨n, y, hl, h1, h2, I', q4, q5⟩ := q1 ds hI
  obtain ⟨u, h3, h4⟩ := rr.get h2
  have hs := ixN_seq h1
  refine ⟨A, vs, j, n, u, rfl, rfl, hA, by omega, by omega, by rw [rr.len]; exact hs.1, h3, ?_⟩
  exact hk y u _ Hf1 _ e1 (s1.put hJ (rr.erase n) q4) h4 q5
/-- len(x), x a list of the def's own -/
theorem ev_lenO (hN : S.N[i]? = some x) (hv : Vis S.sc x) (hΓ : Γ[i]? = some (.inv A I)) (hg : GlS S "len") (hm : S.mg "len" = none) (q : ∀ ds, I ds → Q (.int ds.length))
    (hd : (x == ("__debug__" : Str)) = false := by decide) (hcd : (x == ("__classdict__" : Str)) = false := by decide) (hs : ∀ env, starEach [Expr.Name x p] env = (false, eval (.Name x p) env) :: starEach [] env := by intro _; rfl) (hpl : ∀ env, (backTo pos (starEach [] env)).any (·.1) = false := by intro _; rfl) :
    EvE S Γ (.Call (.Name "len" p2) [.Name x p] [] pos) Q :=
  ev_of (t := tCB (fun xs H Q => ∃ p ys, xs = [.ref p] ∧ (SqL S.K H p ys ∨ SqT S.K H p ys) ∧ Q (.int ys.length) H) (tCons (tVar i) tNil)) (fun X ok => by
    have z := pe_callB (p := p2) (pos := pos) (call_len_seq (X := X)) (hg.gl ok) (by rw [ok.mg]; exact hm) bt_len (pa_cons (pe_var (pos := p) (i := i) (by rw [ok.N]; exact hN) (by rw [ok.sc]; exact hv) hd hcd) pa_nil (hs _)) (by decide) (by decide) (hs _) (hpl _)
    rw [ok.K] at z; exact z) fun PX σ H Hf k st hk => by
    obtain ⟨_, _, vs, ds, hA, rr, hI⟩ := st.own hΓ
    exact ⟨.ref A, slot_of st hΓ, A, vs, rfl, .inl (SqL.of hA), hk (.int ds.length) _ Hf H (Sub.refl _) st (by rw [rr.len]; rfl) (q ds hI)⟩
/-! list(..) -/
def rListStr : List V → Hp → VK → Prop := fun xs H Q => ∃ z, xs = [.str z] ∧ z.length ≤ sizeLine ∧ ∀ l, H l = none → Q (.ref l) (upd H l (.lst (z.cps.toList.map fun c => V.str ⟨#[c]⟩)))
theorem call_listStr {X : Cx} (hc : X.calm = true) : CallR X (.type "list") rListStr := by
  intro pins s σ H xs us Q I r h
  obtain ⟨z, rfl, hz, q⟩ := h
  obtain ⟨u, rfl, t, rfl⟩ := vals1 r
  refine PySem.call_list_str (I.ok.hd hc) z t (fun h' tk acc' c' hk hS' hacc => ?_) hz
  refine ⟨.ref s.heap.objs.size, _, I.laid (t' := tk) hk (Nat.le_refl _) (show ObjOk X.prog X.w _ _ _ (.lst (z.cps.toList.map fun c => V.str ⟨#[c]⟩)) from ⟨by rw [List.length_map, Array.length_toList]; exact hz, acc'.toList, c', ?_, by rw [Array.toArray_toList]; exact hS'⟩), rfl, q _ I.fresh⟩
  have hl : acc'.toList.length = z.cps.size := by rw [Array.length_toList]; exact hacc.1
  have e : (z.cps.toList.map fun c => V.str ⟨#[c]⟩) = (List.range acc'.toList.length).map fun i => V.str ⟨#[z.cps.getD i 0]⟩ := by
    refine List.ext_getElem? fun i => ?_
    rw [List.getElem?_map, List.getElem?_map, Array.getElem?_toList]
    by_cases h : i < z.cps.size
    · rw [List.getElem?_range (by rw [hl]; exact h), Array.getElem?_eq_getElem h]
      show some (V.str ⟨#[z.cps[i]]⟩) = some (V.str ⟨#[z.cps.getD i 0]⟩)
      rw [Array.getD_eq_getD_getElem?, Array.getElem?_eq_getElem h]; rfl
    · rw [List.getElem?_eq_none (by rw [List.length_range, hl]; omega), Array.getElem?_eq_none (by omega)]; rfl
  rw [e]
  refine vals_of_get acc'.toList _ fun j u hj => ?_
  obtain ⟨c, t, h1, rfl⟩ := hacc.2 j u (by rw [← hj, Array.getElem?_toList])
  refine ⟨t, ?_⟩
  rw [Array.getD_eq_getD_getElem?, h1]; rfl
@[reducible] def listQ (d : Da) (QN : List Da → Prop) : Prop := match d with
  | .lst xs => QN xs
  | .tup xs => QN xs
  | .str z => z.length ≤ 100000 ∧ QN (chars z)
  | _ => False
theorem reps_chars {K : PySem.W.Frag} {H : Hp} : ∀ l : List Nat, Reps K H (l.map fun c => Da.str ⟨#[c]⟩) (l.map fun c => V.str ⟨#[c]⟩)
  | [] => rfl
  | c :: l => ⟨_, _, rfl, rfl, reps_chars l⟩
theorem en_list (hg : GlS S "list") (hm : S.mg "list" = none) (h : EvE S Γ a fun d => listQ d QN) (hs : ∀ env, starEach [a] env = (false, eval a env) :: starEach [] env := by intro _; rfl) (hpl : ∀ env, (backTo pos (starEach [] env)).any (·.1) = false := by intro _; rfl) (hc : S.calm = true := by rfl) :
    EvN S Γ (.Call (.Name "list" p) [a] [] pos) QN :=
  en_of (t := tCB (fun xs H Q => (∃ p ys, xs = [.ref p] ∧ (SqL S.K H p ys ∨ SqT S.K H p ys) ∧ ∀ l, H l = none → Q (.ref l) (upd H l (.lst ys))) ∨ rListStr xs H Q) (tCons (tU S a) tNil)) (fun X ok => by
      have z := pe_callTy (X := X) (p := p) (pos := pos) (CallR.or call_list_of (call_listStr (ok.calm hc))) (hg.gl ok) (by rw [ok.mg]; exact hm) bt_list (pa_cons (pu (e := a) ok) pa_nil (hs _)) (by decide) (by decide) (hs _) (hpl _)
      rw [ok.K] at z; exact z) fun PX σ H Hf k st hk => by
    refine h PX σ H Hf _ st fun d v Hf1 H1 e1 st1 r q0 => ?_
    have q : listQ d QN := q0
    unfold listQ at q
    split at q
    · rename_i ds
      obtain ⟨l, xs, rfl, s1, r1⟩ := r.lst_
      exact .inl ⟨l, xs, rfl, .inl (st1.ex.sl s1), fun n hn => hk n ds xs Hf1 _ e1 (st1.px.free hn) (st1.fresh0 hn) (st1.opn hn) (st1.frame hn) r1 q⟩
    · rename_i ds
      obtain ⟨l, xs, rfl, s1, r1⟩ := r.tup_
      exact .inl ⟨l, xs, rfl, .inr (st1.ex.st s1), fun n hn => hk n ds xs Hf1 _ e1 (st1.px.free hn) (st1.fresh0 hn) (st1.opn hn) (st1.frame hn) r1 q⟩
    · rename_i z
      exact .inr ⟨z, congrArg (· :: []) (show v = .str z from r), Nat.le_trans q.1 (by decide : 100000 ≤ sizeLine), fun n hn => hk n (chars z) _ Hf1 _ e1 (st1.px.free hn) (st1.fresh0 hn) (st1.opn hn) (st1.frame hn) (reps_chars _) q.2⟩
    · exact q.elim
theorem reps_rg {K : PySem.W.Frag} {H : Hp} (lo : Int) : ∀ l : List Nat, Reps K H (l.map fun i : Nat => Da.int (lo + (i : Int))) (l.map fun i : Nat => V.int (lo + (i : Int)))
  | [] => rfl
  | c :: l => ⟨_, _, rfl, rfl, reps_rg lo l⟩
theorem en_listRg {p3 p4 : Pos} (hg : GlS S "list") (hm : S.mg "list" = none) (hg2 : GlS S "range") (hm2 : S.mg "range" = none) (h : EvE S Γ a fun d => EvE S Γ b fun d' => asInt d fun i => asInt d' fun j => RgOk i j ∧ QN (rngD i (j - i).toNat))
    (hs : ∀ env, starEach [a, b] env = (false, eval a env) :: starEach [b] env := by intro _; rfl) (hs2 : ∀ env, starEach [b] env = (false, eval b env) :: starEach [] env := by intro _; rfl) (hpl : ∀ env, (backTo p3 (starEach [b] env)).any (·.1) = false := by intro _; rfl)
    (hs3 : ∀ env, starEach [Expr.Call (.Name "range" p4) [a, b] [] p3] env = (false, eval (.Call (.Name "range" p4) [a, b] [] p3) env) :: starEach [] env := by intro _; rfl) (hc : S.calm = true := by rfl) :
    EvN S Γ (.Call (.Name "list" p) [.Call (.Name "range" p4) [a, b] [] p3] [] pos) QN :=
  en_of (fun X ok => pe_listRg (ok.calm hc) (hg.gl ok) (by rw [ok.mg]; exact hm) (prg_2 (hg2.gl ok) (by rw [ok.mg]; exact hm2) (pu ok) (pu ok) (hs _) (hs2 _) (hpl _)) (hs3 _)) fun PX σ H Hf k st hk =>
    h PX σ H Hf _ st fun d v Hf1 H1 e1 st1 r q => q PX σ H1 Hf1 _ st1 fun d' v' Hf2 H2 e2 st2 r' q => by
    obtain ⟨i, rfl, q1⟩ := asInt_ q
    obtain ⟨j, rfl, q2⟩ := asInt_ q1
    have r1 : v = .int i := r
    have r2 : v' = .int j := r'
    subst r1; subst r2
    exact ⟨i, j, rfl, rfl, q2.1, fun n hn => hk n _ _ Hf2 _ (e1.trans e2) (st2.px.free hn) (st2.fresh0 hn) (st2.opn hn) (st2.frame hn) (reps_rg i _) q2.2⟩
/-- a tuple of texts of the module -/
theorem reps_strs {K : PySem.W.Frag} {H : Hp} : ∀ ws : List Str, Reps K H (ws.map Da.str) (ws.map V.str)
  | [] => rfl
  | _ :: ws => ⟨_, _, rfl, rfl, reps_strs ws⟩
def ConT (K : PySem.W.Frag) (mg : Str → Option Value) (x : Str) (ws : List Str) : Prop := ∃ a, mg x = some (.ref a) ∧ ∀ H : Hp, SqT K H a (ws.map V.str)
theorem ev_conT {ws : List Str} (hc : ConT S.K S.mg x ws) (hg : GlS S x) (q : Q (.tup (ws.map Da.str))) (hd : (x == ("__debug__" : Str)) = false := by decide) : EvE S Γ (.Name x pos) Q := by
  obtain ⟨a, h1, h2⟩ := hc
  exact ev_glob (d := .tup (ws.map .str)) (v := .ref a) hg h1 rfl (fun H => ⟨a, _, rfl, h2 H, reps_strs ws⟩) q hd
def ConS (mg : Str → Option Value) (x : Str) (z : Str) : Prop := ∃ t, mg x = some (.str z t)
theorem ev_conS {z : Str} (hc : ConS S.mg x z) (hg : GlS S x) (q : Q (.str z)) (hd : (x == ("__debug__" : Str)) = false := by decide) : EvE S Γ (.Name x pos) Q := by
  obtain ⟨t, h1⟩ := hc
  exact ev_glob (d := .str z) (v := .str z) hg h1 ⟨t, rfl⟩ (fun H => rfl) q hd
end
end GX

namespace GX
open PySem PySem.Spec PyProof.Rows L2
/-- a tuple of texts among the kept objects -/
def TupO (o : Obj) (ws : List Str) : Prop := ∃ (its : Array Value) (n : Nat), o.cls = .type "tuple" ∧ o.data = .seq its n ∧ its.size ≤ 1000 ∧ Vals (ws.map V.str) its.toList
theorem tupO_by {o : Obj} {its : Array Value} {n : Nat} {ws : List Str} (h1 : o.cls = .type "tuple") (h2 : o.data = .seq its n) (h3 : Nat.ble its.size 1000 = true) (h4 : Vals (ws.map V.str) its.toList) : TupO o ws := ⟨its, n, h1, h2, Nat.le_of_ble_eq_true h3, h4⟩
theorem conT_of {K : PySem.W.Frag} {mg : Str → Option Value} {x : Str} {a : Addr} {o : Obj} {ws : List Str} (h : mg x = some (.ref a)) (l : K.lookup a = some o) (v : TupO o ws) : ConT K mg x ws := by
  obtain ⟨its, n, h1, h2, h3, h4⟩ := v
  exact ⟨a, h, fun H => .inr ⟨o, its, n, l, h1, h2, Nat.le_trans h3 (by decide), h4⟩⟩
section
variable {S : Sx} {Γ : List Slot} {e a b c tg : Expr} {Q : Da → Prop} {p pos p2 apos cpos spos : Pos} {x y : Str} {i j : Nat} {D : EnG}
/-- two plain names at once, lists of the def's own among them -/
theorem es_parNN {py pt pt2 : Pos} {kt k2} (hN : S.N[i]? = some x) (hM : S.N[j]? = some y) (hij : i ≠ j) (hx : S.sc.names.lookup x = some .local) (hy : S.sc.names.lookup y = some .local) (hxy : x ≠ y)
    (hw : ∀ env : Env, env.scope = S.sc → swappedStores [.Tuple [.Name x p, .Name y py] kt pt] (.Tuple [a, b] k2 pt2) env = pure (some [x, y]))
    (h : EvN S Γ a fun d => EvN S Γ b fun d' => ∀ A, A ∉ S.op.map (·.1) → ∀ B, B ∉ S.op.map (·.1) → D.nx ((Γ.set i (.inv A fun ys => ys = d)).set j (.inv B fun ys => ys = d')))
    (he : ∀ env, starEach [a, b] env = (false, eval a env) :: starEach [b] env := by intro _; rfl) (he2 : ∀ env, starEach [b] env = (false, eval b env) :: starEach [] env := by intro _; rfl)
    (hs : ∀ env, swapsWithSole [.Tuple [.Name x p, .Name y py] kt pt] (.Tuple [a, b] k2 pt2) spos.line env = pure false := by intro _; rfl) (hc : S.calm = true := by rfl) :
    EvS S Γ (.Assign [.Tuple [.Name x p, .Name y py] kt pt] (.Tuple [a, b] k2 pt2) spos) D :=
  es_of (fun X ok => ps_par (ok.calm hc) (by rw [ok.N]; exact ok.nd) (by rw [ok.N]; exact hN) (by rw [ok.N]; exact hM) hij (by rw [ok.sc]; exact hx) (by rw [ok.sc]; exact hy)
    (pa_cons (pu ok) (pa_cons (pu ok) pa_nil (he2 _)) (he _)) (hw _ ok.sc) (hs _)) fun PX σ H Hf D' s k => h PX σ H Hf _ s fun A ds vs Hf1 H1 e1 hP h0 hop s1 r q => q _ σ H1 Hf1 _ s1 fun B ds' vs' Hf2 H2 e2 hP' h0' hop' s2 r' q2 => by
      have hAB : A ≠ B := fun z => by subst z; rw [upd_same] at hP'; cases hP'
      have s3 := s2.setO (I := fun ys => ys = ds') hP' h0' r' rfl j
      have s4 := s3.setO (I := fun ys => ys = ds) hP h0 (Reps.mono e2 _ _ r) rfl i
      refine ⟨.ref A, .ref B, rfl, k.nx _ _ Hf2 H2 (e1.trans e2) ?_ (q2 A hop B hop')⟩
      rw [List.set_comm _ _ hij, List.set_comm _ _ hij]; exact s4
theorem es_parNE {py pt pt2 : Pos} {kt k2} (hN : S.N[i]? = some x) (hM : S.N[j]? = some y) (hij : i ≠ j) (hx : S.sc.names.lookup x = some .local) (hy : S.sc.names.lookup y = some .local) (hxy : x ≠ y)
    (hw : ∀ env : Env, env.scope = S.sc → swappedStores [.Tuple [.Name x p, .Name y py] kt pt] (.Tuple [a, b] k2 pt2) env = pure (some [x, y]))
    (h : EvN S Γ a fun d => EvE S Γ b fun d' => ∀ A, A ∉ S.op.map (·.1) → D.nx ((Γ.set i (.inv A fun ys => ys = d)).set j (.dat d')))
    (he : ∀ env, starEach [a, b] env = (false, eval a env) :: starEach [b] env := by intro _; rfl) (he2 : ∀ env, starEach [b] env = (false, eval b env) :: starEach [] env := by intro _; rfl)
    (hs : ∀ env, swapsWithSole [.Tuple [.Name x p, .Name y py] kt pt] (.Tuple [a, b] k2 pt2) spos.line env = pure false := by intro _; rfl) (hc : S.calm = true := by rfl) :
    EvS S Γ (.Assign [.Tuple [.Name x p, .Name y py] kt pt] (.Tuple [a, b] k2 pt2) spos) D :=
  es_of (fun X ok => ps_par (ok.calm hc) (by rw [ok.N]; exact ok.nd) (by rw [ok.N]; exact hN) (by rw [ok.N]; exact hM) hij (by rw [ok.sc]; exact hx) (by rw [ok.sc]; exact hy)
    (pa_cons (pu ok) (pa_cons (pu ok) pa_nil (he2 _)) (he _)) (hw _ ok.sc) (hs _)) fun PX σ H Hf D' s k => h PX σ H Hf _ s fun A ds vs Hf1 H1 e1 hP h0 hop s1 r q => q _ σ H1 Hf1 _ s1 fun d' v' Hf2 H2 e2 s2 r' q2 => by
      have s3 := s2.set r' j
      have s4 := s3.setO (I := fun ys => ys = ds) hP h0 (Reps.mono e2 _ _ r) rfl i
      refine ⟨.ref A, v', rfl, k.nx _ _ Hf2 H2 (e1.trans e2) ?_ (q2 A hop)⟩
      rw [List.set_comm _ _ hij, List.set_comm _ _ hij]; exact s4
theorem es_parEN {py pt pt2 : Pos} {kt k2} (hN : S.N[i]? = some x) (hM : S.N[j]? = some y) (hij : i ≠ j) (hx : S.sc.names.lookup x = some .local) (hy : S.sc.names.lookup y = some .local) (hxy : x ≠ y)
    (hw : ∀ env : Env, env.scope = S.sc → swappedStores [.Tuple [.Name x p, .Name y py] kt pt] (.Tuple [a, b] k2 pt2) env = pure (some [x, y]))
    (h : EvE S Γ a fun d => EvN S Γ b fun d' => ∀ B, B ∉ S.op.map (·.1) → D.nx ((Γ.set i (.dat d)).set j (.inv B fun ys => ys = d')))
    (he : ∀ env, starEach [a, b] env = (false, eval a env) :: starEach [b] env := by intro _; rfl) (he2 : ∀ env, starEach [b] env = (false, eval b env) :: starEach [] env := by intro _; rfl)
    (hs : ∀ env, swapsWithSole [.Tuple [.Name x p, .Name y py] kt pt] (.Tuple [a, b] k2 pt2) spos.line env = pure false := by intro _; rfl) (hc : S.calm = true := by rfl) :
    EvS S Γ (.Assign [.Tuple [.Name x p, .Name y py] kt pt] (.Tuple [a, b] k2 pt2) spos) D :=
  es_of (fun X ok => ps_par (ok.calm hc) (by rw [ok.N]; exact ok.nd) (by rw [ok.N]; exact hN) (by rw [ok.N]; exact hM) hij (by rw [ok.sc]; exact hx) (by rw [ok.sc]; exact hy)
    (pa_cons (pu ok) (pa_cons (pu ok) pa_nil (he2 _)) (he _)) (hw _ ok.sc) (hs _)) fun PX σ H Hf D' s k => h PX σ H Hf _ s fun d v Hf1 H1 e1 s1 r q => q _ σ H1 Hf1 _ s1 fun B ds' vs' Hf2 H2 e2 hP' h0' hop' s2 r' q2 => by
      have s3 := s2.setO (I := fun ys => ys = ds') hP' h0' r' rfl j
      have s4 := s3.set (Rep.mono e2 _ _ r) i
      refine ⟨v, .ref B, rfl, k.nx _ _ Hf2 H2 (e1.trans e2) ?_ (q2 B hop')⟩
      rw [List.set_comm _ _ hij, List.set_comm _ _ hij]; exact s4
end
/-! lists, again -/
theorem cutD_len {α : Type} {xs : List α} {lo hi : Option Int} : (cutD xs lo hi).length ≤ xs.length := by
  unfold cutD
  rw [List.length_take, List.length_drop]; omega
theorem cut_drop {ds : List Da} {l : Int} (h0 : 0 ≤ l) (h1 : l ≤ ds.length) : cutD ds (some l) none = ds.drop l.toNat := by
  unfold cutD
  have e0 : HT.sIx ds.length ds.length none = ds.length := rfl
  have e1 : HT.sIx ds.length 0 (some l) = l.toNat := by
    show (if l < 0 then (l + (ds.length : Int)).toNat else min l.toNat ds.length) = _
    rw [if_neg (by omega)]; omega
  rw [e0, e1, List.take_of_length_le (by rw [List.length_drop]; omega)]
end GX
namespace GX
open PySem PySem.Spec PyProof.Rows L2
/-- two rows side by side -/
inductive All2 (R : Da → Da → Prop) : List Da → List Da → Prop
  | nil : All2 R [] []
  | cons {x y : Da} {xs ys : List Da} (h : R x y) (t : All2 R xs ys) : All2 R (x :: xs) (y :: ys)
/-- each item gives one of some -/
theorem lcG_rel {step : Da → List Da → (List Da → Prop) → Prop} {R : Da → Da → Prop} : ∀ {ds acc : List Da} {Q : List Da → Prop}, (∀ d acc (k : List Da → Prop), d ∈ ds → (∀ y, R d y → k (acc ++ [y])) → step d acc k) → (∀ ys, All2 R ds ys → Q (acc ++ ys)) → lcG step ds acc Q
  | [], acc, Q, _, q => by have z := q [] .nil; rw [List.append_nil] at z; exact z
  | d :: ds, acc, Q, h, q => h d acc _ List.mem_cons_self fun y r => lcG_rel (fun d' acc' k hd hk => h d' acc' k (List.mem_cons_of_mem _ hd) hk) fun ys t => by
    have z := q (y :: ys) (.cons r t)
    rw [List.append_assoc]; exact z
end GX

namespace GX
open PySem PySem.Spec PyProof.Rows L2
theorem atI_memG {α : Type} {ds : List α} {i : Int} (h0 : 0 ≤ i) (h1 : i < ds.length) : ∃ d, atI ds i = some d ∧ d ∈ ds := by
  have hk : i.toNat < ds.length := by omega
  refine ⟨ds[i.toNat], ?_, List.getElem_mem hk⟩
  unfold atI ixN
  rw [if_pos h0, if_pos h1]
  exact List.getElem?_eq_getElem hk
end GX

namespace GX
theorem cond_x0 {b : Bool} {p q : Prop} (h1 : b = true → p) (h2 : b = false → q) : cond (false ^^ b) p q := by
  cases b with
  | true => exact h1 rfl
  | false => exact h2 rfl
theorem cond_x1 {b : Bool} {p q : Prop} (h1 : b = false → p) (h2 : b = true → q) : cond (true ^^ b) p q := by
  cases b with
  | true => exact h2 rfl
  | false => exact h1 rfl
end GX

namespace GX
open PySem PySem.Spec PyProof.Rows L2
/-! ## lambdas without captured names -/
section
variable {P : Program} {w : World} {K : PySem.W.Frag} {mg : Str → Option Value} {base : Heap} {k : Nat} {N ps : List Str} {L : LamD} {f c' : Addr} {pm ctv : Value}
theorem lam_run {A : Around} {outer : List Env} {s : Shared} {H : Hp} {args : Args} {us : List Value} {vs : List V} {Q : VK} {E : XK} (C : FnScope N ps L.scope) (hf : s.heap.get? f = some (PySem.W.kla_obj "<lambda>" L.q L.params L.body L.scope [] pm c' ctv))
    (hc : ∃ (oc : Obj) (xs : Array Value) (t : Tok), s.heap.get? c' = some oc ∧ oc.data = .fields xs ∧ xs[1]? = some (.str L.q t)) (hr : Room (k + 1) A) (e0 : Env0 P w K mg base A outer s H)
    (hb : BindsTo s (PySem.W.kla_fn "<lambda>" L.q L.params L.body L.scope [] pm (.ref c') ctv) args (ps.zip us)) (r : Vals vs us) (hl : vs.length = ps.length)
    (hbody : Room k (A.deeper (envOfC L.q L.scope s.heap.objs.size f (.ref c'))) → ∃ t : TE, PE (cxOf (L2.CX P w) P w K mg base N L.q L.scope f (.ref c') A outer s H E) L.body t ∧ t (L2.start N vs) H Q) :
    codeAny (model P w) A (.call (.ref f) args) (CR (L2.CX P w) outer P w H s Q E) s := by
  have lim : s.heap.NoLimit := e0.mod.nolimit.keeps fun b o e => (e0.bs b o e).1
  obtain ⟨oc, xs, t, h1, h2, h3⟩ := hc
  refine PySem.W.kla_callFunE hr.depth hf rfl C.co C.gen rfl ⟨c', oc, xs, t, rfl, h1, h2, h3⟩ (hb _ _ _ _ ?_)
  refine wpAny_newFunctionEnv_cells C.kind (fun y hy => ?_) fun env he s1 z => ?_
  · rcases C.par y.1 (List.of_mem_zip (a := y.1) (b := y.2) hy).1 with q | q
    · exact .inl q
    · exact .inr ⟨q, PySem.W.cellsFrom_some _ _ _ (.inl q)⟩
  subst he
  refine ⟨lim.keeps z.toInCall.keep, PySem.W.kla_codeExpr ?_⟩
  obtain ⟨t, ht, hq⟩ := hbody (hr.deeper _)
  exact wpAny_mono (ht.run [] s1 (L2.start N vs) H _ (inv_start C hr.hd e0 hl r z) hq) (fun u s' ⟨v, H', J, rv, q⟩ => ⟨v, H', J.os, J.bare, J.base, J.hok, rv, q⟩) fun e s' hs => hs
end
end GX

namespace GX
open PySem PySem.Spec PyProof.Rows L2
/-- a lambda is made, of the code object at c whose table is at P: its own code object is found there, or new -/
def tLm (P : Addr) (L : LamD) (pos : Pos) : TE := fun _ H Q => ∃ ps, H P = some (.tbl ps) ∧ TriplesOk ps.toList ∧
  (∀ cv, codeAmong pos ps.toList = some cv → ∃ c', cv = .ref c' ∧ ∀ f, H f = none → Q (.ref f) (upd H f (LamO f L c'))) ∧
  (codeAmong pos ps.toList = none → ∀ c' f, H c' = none → H f = none → c' ≠ f →
    Q (.ref f) (upd (upd (upd H P (.tbl (ps ++ #[rawInt pos.line, rawInt pos.col, .ref c']))) c' (LamX.CodeO c' L.q)) f (LamO f L c')))
theorem lamO_ok {prog : Program} {w : World} {H : Hp} {h : Heap} {f c' : Addr} {L : LamD} {pm ctv : Value} (e : h.get? f = some (PySem.W.kla_obj "<lambda>" L.q L.params L.body L.scope [] pm c' ctv)) : ObjOk prog w H h f (LamO f L c') :=
  ⟨⟨pm, ctv, e⟩, ⟨_, e⟩, fun h1 h2 ⟨pm, ctv, a⟩ st => ⟨pm, ctv, st _ a⟩⟩
theorem pe_lam {X : Cx} {c P : Addr} {L : LamD} {pos : Pos} (TB : LamX.TabB X.base X.mg c P) (hcode : X.env.code = .ref c) (hq : X.env.qual ++ "<lambda>" = L.q) (hcl : closureFor L.scope X.env = pure []) (hdef : defaultsOf L.params X.env = ([], [])) :
    PE X (.Lambda L.params L.body L.scope pos) (tLm P L pos) := by
  refine ⟨fun pins s σ H Q I ⟨ps, hP, ht, hit, miss⟩ => PySem.W.kla_eval hdef ?_⟩
  rw [hq]
  have bP : s.heap.BuiltinsAt X.mg P := TB.bm.keeps I.bk
  have hP' : s.heap.get? P = some { cls := .none, data := .fields ps } := I.hok P _ hP
  cases hc : codeAmong pos ps.toList with
  | some cv =>
    obtain ⟨c', rfl, h⟩ := hit cv hc
    refine PySem.W.kla_makeFunctionHit (c := c) (P := P) (ps := ps) (mg := X.mg) hcl I.ok.glob (I.mod.glob.keeps I.bk) hcode (TB.code.keeps I.bk) hP' ht hc bP fun ctv h' tk hx hsz => ?_
    have e := Heap.get?_push_size (o := PySem.W.kla_obj "<lambda>" L.q L.params L.body L.scope [] ((X.mg "__name__").getD .none) c' ctv) h' rfl
    have hn : H h'.objs.size = none := I.hok.fresh hsz
    exact ⟨.ref h'.objs.size, _, I.laid (t' := tk) (o := LamO h'.objs.size L c') (fun b o q => Heap.get?_push_of_some _ (hx b o q)) hsz (lamO_ok e), rfl, h _ hn⟩
  | none =>
    refine PySem.W.kla_makeFunction (c := c) (P := P) (ps := ps) (mg := X.mg) hcl I.ok.glob (I.mod.glob.keeps I.bk) hcode (TB.code.keeps I.bk) hP' ht hc TB.gP bP fun c' ctv h' tk hx hge hlt hrec htb => ?_
    obtain ⟨c2, oc, vs, t, e2, r1, r2, r3⟩ := hrec
    cases e2
    have hsz : s.heap.objs.size ≤ h'.objs.size := Nat.le_trans hge (Nat.le_of_lt hlt)
    have I1 := LamX.inv_table (t' := tk) (q := L.q) (more := #[rawInt pos.line, rawInt pos.col, .ref c']) I hP hx htb hge ⟨oc, vs, t, r1, r2, r3⟩
    have e := Heap.get?_push_size (o := PySem.W.kla_obj "<lambda>" L.q L.params L.body L.scope [] ((X.mg "__name__").getD .none) c' ctv) h' rfl
    have nC : H c' = none := I.hok.fresh hge
    have nF : H h'.objs.size = none := I.hok.fresh hsz
    exact ⟨.ref h'.objs.size, _, I1.laid (t' := tk) (o := LamO h'.objs.size L c') (fun b o q => Heap.get?_push_of_some _ q) (Nat.le_refl _) (lamO_ok e), rfl, miss hc c' _ nC nF (Nat.ne_of_lt hlt)⟩
end GX

namespace GX
open PySem PySem.Spec PyProof.Rows L2
/-- a lambda as a value -/
theorem ev_lam {S : Sx} {Γ : List Slot} {Q : Da → Prop} {c P : Addr} {L : LamD} {pos : Pos} (hT : (P, L.q) ∈ S.T) (hu : ∀ p ∈ S.T, p.1 = P → p.2 = L.q) (hcd : S.cd = .ref c) (hql : S.ql ++ "<lambda>" = L.q) (TB : LamX.TabB S.base S.mg c P) (q : Q (.lm L))
    (hcl : ∀ env, closureFor L.scope env = pure [] := by intro _; rfl) (hdef : ∀ env, defaultsOf L.params env = ([], []) := by intro _; rfl) : EvE S Γ (.Lambda L.params L.body L.scope pos) Q := by
  refine ev_of (t := tLm P L pos) (fun X ok => pe_lam (c := c) (by rw [ok.base, ok.mg]; exact TB) (by rw [ok.cd (by rw [hcd]; exact fun z => nomatch z)]; exact hcd) (by rw [ok.ql (by rw [hcd]; exact fun z => nomatch z)]; exact hql) (hcl _) (hdef _)) fun PX σ H Hf k st hk => ?_
  obtain ⟨ps, hP, ht, hc⟩ := st.tb _ hT
  refine ⟨ps, hP, ht, fun cv hcv => ?_, fun hn c' f nC nF ne => ?_⟩
  · obtain ⟨c', rfl, e⟩ := hc pos cv hcv
    refine ⟨c', rfl, fun f nF => ?_⟩
    obtain ⟨st2, e2⟩ := st.alloc (o := LamO f L c') nF
    exact hk (.lm L) _ _ _ e2 st2 ⟨f, c', rfl, upd_same, e2 _ _ e⟩ q
  · have hPT : P ∈ S.T.map (·.1) := List.mem_map.mpr ⟨_, hT, rfl⟩
    have n' := st.tb.out nC
    have nP : P ≠ c' := fun z => n' (z ▸ hPT)
    have eP : strip S.T (upd H P (.tbl (ps ++ #[rawInt pos.line, rawInt pos.col, .ref c']))) = strip S.T H := by
      funext a
      by_cases m : a ∈ S.T.map (·.1)
      · unfold strip; rw [if_pos m, if_pos m]
      · rw [strip_at m, strip_at m, upd_ne (fun z => m (by rw [z]; exact hPT))]
    obtain ⟨z1, e1⟩ := st.z.alloc (o := LamX.CodeO c' L.q) (strip_none nC)
    have st1 : Stt S PX Γ (upd Hf c' (LamX.CodeO c' L.q)) (upd (upd H P (.tbl (ps ++ #[rawInt pos.line, rawInt pos.col, .ref c']))) c' (LamX.CodeO c' L.q)) σ := by
      refine ⟨by rw [strip_upd n', eP]; exact z1, fun p hp => ?_⟩
      by_cases hb : p.1 = P
      · refine ⟨_, by rw [hb, upd_ne nP, upd_same], by rw [Array.toList_append]; exact PySem.TriplesOk_snoc _ _ _ _ ht, fun p' cv hcv => ?_⟩
        rw [Array.toList_append] at hcv
        rcases LamX.among_app _ ht hcv with z | z
        · obtain ⟨c0, a1, a2⟩ := hc p' cv z
          exact ⟨c0, a1, by rw [hu p hp hb]; exact e1 _ _ a2⟩
        · exact ⟨c', z, by rw [hu p hp hb]; exact upd_same⟩
      · obtain ⟨ps', a1, a2, a3⟩ := st.tb p hp
        refine ⟨ps', by rw [upd_ne (fun z => n' (List.mem_map.mpr ⟨p, hp, z⟩)), upd_ne hb]; exact a1, a2, fun p' cv hcv => ?_⟩
        obtain ⟨c0, b1, b2⟩ := a3 p' cv hcv
        exact ⟨c0, b1, e1 _ _ b2⟩
    have nfP : f ≠ P := fun z => by rw [z, hP] at nF; cases nF
    have nF1 : (upd (upd H P (.tbl (ps ++ #[rawInt pos.line, rawInt pos.col, .ref c']))) c' (LamX.CodeO c' L.q)) f = none := by rw [upd_ne ne.symm, upd_ne nfP]; exact nF
    obtain ⟨st2, e2⟩ := st1.alloc (o := LamO f L c') nF1
    exact hk (.lm L) _ _ _ (e1.trans e2) st2 ⟨f, c', rfl, upd_same, e2 _ _ upd_same⟩ q
end GX

namespace GX
open PySem PySem.Spec PyProof.Rows L2
/-- a lambda keeps its promise -/
structure LamG (P : Program) (w : World) (K : PySem.W.Frag) (mg : Str → Option Value) (base : Heap) (k : Nat) (L : LamD) (ps : List Str) (sp : Sp) : Prop where
  len : ∀ vs H Q E, sp vs H Q E → vs.length = ps.length
  co : L.scope.isCoroutine = false
  run : ∀ (A : Around) (outer : List Env) (s : Shared) (H : Hp) (f c' : Addr) (pm ctv : Value) (args : Args) (us : List Value) (vs : List V) (Q : VK) (E : XK), Room k A → A.guards = some [] → Env0 P w K mg base A outer s H →
    s.heap.get? f = some (PySem.W.kla_obj "<lambda>" L.q L.params L.body L.scope [] pm c' ctv) → (∃ (oc : Obj) (xs : Array Value) (t : Tok), s.heap.get? c' = some oc ∧ oc.data = .fields xs ∧ xs[1]? = some (.str L.q t)) →
    BindsTo s (PySem.W.kla_fn "<lambda>" L.q L.params L.body L.scope [] pm (.ref c') ctv) args (ps.zip us) → Vals vs us → sp vs H Q E → codeAny (model P w) A (.call (.ref f) args) (CR (L2.CX P w) outer P w H s Q E) s
section
variable {Tq : List (Addr × Str)} {P : Program} {w : World} {K : PySem.W.Frag} {mg : Str → Option Value} {base : Heap} {k : Nat} {N ps : List Str} {L : LamD}
theorem ok_lam {f : Addr} {cdv : Value} {A : Around} {outer : List Env} {s : Shared} {H F0 H0 : Hp} {op : List (Addr × Kd × (List Da → Prop))} {E : XK} {er : Er} (hr : Room k (A.deeper (envOfC L.q L.scope s.heap.objs.size f cdv))) (hgd : A.guards = some []) (nd : N.Nodup)
    (hE : ∀ cls d σ H', (mkS Tq P w K mg base N L.scope k F0 H0 op er cdv (qlOf L.q L.scope)).WX cls d σ H' → E cls d H') :
    (mkS Tq P w K mg base N L.scope k F0 H0 op er cdv (qlOf L.q L.scope)).Ok (cxOf (L2.CX P w) P w K mg base N L.q L.scope f cdv A outer s H E) where
  P := rfl
  w := rfl
  K := rfl
  mg := rfl
  base := rfl
  N := rfl
  sc := rfl
  calm := fun _ => rfl
  room := fun _ => hr
  un := Nat.lt_of_le_of_lt (Nat.add_le_add_right (Nat.le_add_right _ (16 * k)) 200) hr.un
  cel := fun _ z => nomatch z
  ce := fun _ z => nomatch z
  top := fun _ => ⟨rfl, rfl, fun _ => rfl⟩
  xc := fun _ _ _ _ z => nomatch z
  gd := hgd
  nd := nd
  tk := (takes_of (E := E) rfl rfl rfl rfl).imp fun c d σ H' h => hE c d σ H' h
  po := passes_of rfl
  fn := fun _ _ => .inl rfl
  cd := fun _ => rfl
  ql := fun _ => rfl
theorem lamD {spec : Fd} (C : FnScope N ps L.scope) (len : ∀ ds q er, spec ds q er → ds.length = ps.length)
    (body : ∀ (cdv : Value) (F0 H0 : Hp) ds q er, spec ds q er → EvE (mkS Tq P w K mg base N L.scope k F0 H0 [] er cdv (qlOf L.q L.scope)) (st0 ds N.length) L.body q) : LamG P w K mg base (k + 1) L ps (SpD K Tq spec) := by
  refine ⟨fun vs H Q E h => ?_, C.co, fun A outer s H f c' pm ctv args us vs Q E hr hgd e0 hf hc hb r h => ?_⟩
  · obtain ⟨ds, Hf, q, er, _, _, r, h, _⟩ := h
    rw [r.len]; exact len ds q er h
  · obtain ⟨ds, Hf, q, er, e, tb, rr, h, hQ, hE⟩ := h
    have hl := len ds q er h
    refine lam_run C hf hc hr e0 hb r (by rw [rr.len]; exact hl) fun hr' => ?_
    have st0' : Stt (mkS Tq P w K mg base N L.scope k Hf (strip Tq H) [] er (.ref c') (qlOf L.q L.scope)) (fun _ => none) (st0 ds N.length) Hf H (L2.start N vs) := by
      refine ⟨?_, tb⟩
      refine ⟨?_, Sub.refl _, e, fun q o h _ => h, fun q h => (nomatch h), fun i s h => ?_, fun i p k I h => ?_, fun p h1 h2 => absurd h2 h1, fun _ _ z => (nomatch z), fun p h => absurd rfl h, fun _ _ _ _ _ => rfl, fun i j p k l I J h => ?_⟩
      · unfold L2.start st0
        rw [List.length_append, List.length_map, List.length_replicate, List.length_append, List.length_map, List.length_replicate, rr.len]
      · rcases st0_get h with ⟨d, h1, rfl⟩ | rfl
        · obtain ⟨v, h2, h3⟩ := rr.get h1
          exact ⟨v, by rw [start_get h2]; rfl, h3⟩
        · trivial
      · rcases st0_get h with ⟨d, h1, z⟩ | z <;> cases z
      · rcases st0_get h with ⟨d, h1, z⟩ | z <;> cases z
    obtain ⟨t, h1, h2⟩ := body (.ref c') Hf (strip Tq H) ds q er h (fun _ => none) (L2.start N vs) H Hf Q st0' fun d v Hf' H' _ z rv q => hQ d v Hf' H' ⟨z.z.ex0, z.z.ex, z.z.fr⟩ (fun a o h => z.z.keep a o h (by exact List.not_mem_nil)) z.tb rv q
    refine ⟨t, h1 _ (ok_lam hr' hgd C.nd fun cls d σ H' hw => ?_), h2⟩
    obtain ⟨Hf', fs, a1, a2, a4, a3, _, a5, a6, a7⟩ := hw
    exact hE cls d fs Hf' H' ⟨a1, a2, a4⟩ (fun a o h => a3 a o h (by exact List.not_mem_nil)) a7 a5 a6
end
end GX

namespace GX
open PySem PySem.Spec PyProof.Rows L2
/-- how a lambda's arguments bind, by place -/
def LBind (L : LamD) (ps : List Str) : Prop := ∀ (pm cv ctv : Value) (us : List Value), us.length = ps.length → bindArgs (PySem.W.kla_fn "<lambda>" L.q L.params L.body L.scope [] pm cv ctv) ⟨us, []⟩ = pure (ps.zip us)
theorem peL {X : Cx} {a : Str} {i k : Nat} {L : LamD} {ps : List Str} {sp : Sp} {E : XK} {e : Expr} {es : List Expr} {t : TA} {p pos : Pos} (hN : X.N[i]? = some a) (hv : Vis X.env.scope a) (G : LamG X.prog X.w X.K X.mg X.base k L ps sp) (hr : Room k X.A) (hgd : X.A.guards = some [])
    (hx : Passes (L2.CX X.prog X.w) X E) (ha : PA X (e :: es) t) (hb : LBind L ps) (hd : (a == ("__debug__" : Str)) = false) (hcd : (a == ("__classdict__" : Str)) = false) (he : starEach (e :: es) X.env = (false, eval e X.env) :: starEach es X.env) (hpl : (backTo pos (starEach es X.env)).any (·.1) = false) :
    PE X (.Call (.Name a p) (e :: es) [] pos) (fun σ H Q => ∃ f c', σ[i]? = some (some (.ref f)) ∧ H f = some (LamO f L c') ∧ t σ H fun vs H1 => H1 f = some (LamO f L c') ∧ H1 c' = some (LamX.CodeO c' L.q) ∧ sp vs H1 Q E) := by
  refine ⟨fun pins s σ H Q I ⟨f, c', hs, hf, h⟩ => wpAny_Call_Name_kw (thn ((pe_var (pos := p) (i := i) hN hv hd hcd).run pins s σ H (fun v H1 => v = .ref f ∧ H1 = H) I ⟨.ref f, hs, rfl, rfl⟩) fun u s1 ⟨v, H1, I1, r1, q1⟩ => ?_)⟩
  obtain ⟨ev, eH⟩ := q1
  subst ev
  rw [eH] at I1
  obtain rfl : u = Value.ref f := r1
  obtain ⟨⟨pm, ctv, hobj⟩, _, _⟩ := I1.hok f _ hf
  refine PySem.W.callWith_F ⟨_, _, _, _, hobj⟩ (thn (ha.run pos pins s1 σ H _ I1 h) fun us s2 ⟨vs, H2, I2, r, hf2, hc2, q⟩ => ?_) he hpl
  obtain ⟨⟨pm2, ctv2, hobj2⟩, _, _⟩ := I2.hok f _ hf2
  obtain ⟨⟨oc, xs, tt, c1, c2, c3⟩, _, _⟩ := I2.hok c' _ hc2
  refine ⟨⟨_, _, _, _, hobj2⟩, wpAny_call (codeAny_mono (G.run X.A X.stack s2 H2 f c' pm2 ctv2 ⟨us, []⟩ us vs Q E hr hgd I2.env0 hobj2 ⟨oc, xs, tt, c1, c2, c3⟩ (.of_eq (hb _ _ _ us (by rw [← r.length]; exact G.len _ _ _ _ q))) r q) fun res s' hq => ?_)⟩
  match res, hq with
  | .error e, hq => exact hx pins σ H2 s2 e s' I2 hq
  | .ok (.ret u), hq => exact I2.after hq
  | .ok .next, hq => exact False.elim hq
  | .ok .brk, hq => exact False.elim hq
  | .ok .cont, hq => exact False.elim hq
section
variable {S : Sx} {Γ : List Slot} {e : Expr} {es : List Expr} {Q : Da → Prop} {p pos : Pos} {a : Str} {i k : Nat} {ps : List Str} {spec : Fd} {L : LamD}
/-- x(..), x a name that holds a lambda -/
theorem ev_callL (G : LamG S.P S.w S.K S.mg S.base k L ps (SpD S.K S.T spec)) (hb : LBind L ps) (hk : k ≤ S.k) (hO : OpsIn S Γ) (hN : S.N[i]? = some a) (hv : Vis S.sc a) (hΓ : Γ[i]? = some (.dat (.lm L))) (h : EvA S Γ (e :: es) fun ds => spec ds Q S.E)
    (hd : (a == ("__debug__" : Str)) = false := by decide) (hcd : (a == ("__classdict__" : Str)) = false := by decide) (he : ∀ env, starEach (e :: es) env = (false, eval e env) :: starEach es env := by intro _; rfl) (hpl : ∀ env, (backTo pos (starEach es env)).any (·.1) = false := by intro _; rfl) (hc : S.calm = true := by rfl) :
    EvE S Γ (.Call (.Name a p) (e :: es) [] pos) Q := by
  refine ev_of (fun X ok => peL (sp := SpD S.K S.T spec) (E := fun cls d H => S.WX cls d [] H) (by rw [ok.N]; exact hN) (by rw [ok.sc]; exact hv) (by rw [ok.P, ok.w, ok.K, ok.mg, ok.base]; exact G) ((ok.room hc).mono hk) ok.gd ok.passes (puA ok) hb hd hcd (he _) (hpl _)) ?_
  intro PX σ H Hf k st hk
  obtain ⟨v, ev, f, c', rfl, h1, h2⟩ := st.at_ i _ hΓ
  refine ⟨f, c', ?_, st.ex _ _ h1, ?_⟩
  · cases z : σ[i]? with
    | none => rw [z] at ev; cases ev
    | some o => rw [z] at ev; exact congrArg some ev
  refine h PX σ H Hf _ st fun ds vs Hf1 H1 e1 st1 r1 q1 => ⟨st1.ex _ _ (e1 _ _ h1), st1.ex _ _ (e1 _ _ h2), ?_⟩
  exact sp_call st1 hO r1 q1 fun d v Hf' H' e2 => hk d v Hf' H' (e1.trans e2)
end
end GX

namespace GX
open PySem PySem.Spec PyProof.Rows L2
/-! ## the known part without the tables -/
def lessK (ts : List Addr) (K : PySem.W.Frag) : PySem.W.Frag := K.filter fun q => !ts.contains q.1
section
variable {ts : List Addr} {K : PySem.W.Frag} {a : Addr} {o : Obj} {h : Heap}
theorem lessK_at (n : a ∉ ts) : (lessK ts K).lookup a = K.lookup a := by
  induction K with
  | nil => rfl
  | cons p r ih =>
    obtain ⟨b, x⟩ := p
    unfold lessK at ih ⊢
    by_cases c : b ∈ ts
    · rw [List.filter_cons_of_neg (by simpa using c), ih]
      rw [List.lookup_cons, show (a == b) = false from beq_eq_false_iff_ne.mpr fun z => n (z ▸ c)]
    · rw [List.filter_cons_of_pos (by simpa using c), List.lookup_cons, List.lookup_cons]
      split
      · rfl
      · exact ih
theorem lessK_no (m : a ∈ ts) : (lessK ts K).lookup a = none := by
  induction K with
  | nil => rfl
  | cons p r ih =>
    obtain ⟨b, x⟩ := p
    unfold lessK at ih ⊢
    by_cases c : b ∈ ts
    · rw [List.filter_cons_of_neg (by simpa using c), ih]
    · rw [List.filter_cons_of_pos (by simpa using c), List.lookup_cons, show (a == b) = false from beq_eq_false_iff_ne.mpr fun z => c (z ▸ m)]
      exact ih
theorem lessK_some (e : (lessK ts K).lookup a = some o) : K.lookup a = some o ∧ a ∉ ts := by
  by_cases m : a ∈ ts
  · rw [lessK_no m] at e; cases e
  · rw [lessK_at m] at e; exact ⟨e, m⟩
theorem lessK_in (X : K.In h) : (lessK ts K).In h := fun a o e => X a o (lessK_some e).1
/-- what stands in K at these addresses are empty tables -/
def Tabl (ts : List Addr) (K : PySem.W.Frag) : Prop := ∀ t ∈ ts, ∀ o, K.lookup t = some o → o.data = .fields #[]
theorem Tabl.nil : Tabl [] K := fun _ h => nomatch h
theorem Tabl.cons {t : Addr} (h : ∀ o, K.lookup t = some o → o.data = .fields #[]) (r : Tabl ts K) : Tabl (t :: ts) K := fun b hb o e => by
  rcases List.mem_cons.mp hb with rfl | hb
  · exact h o e
  · exact r b hb o e
theorem Tabl.keep (T : Tabl ts K) (e : K.lookup a = some o) (n : o.data ≠ .fields #[]) : (lessK ts K).lookup a = some o := by
  rw [lessK_at fun m => n (T a m o e)]; exact e
theorem Tabl.code (T : Tabl ts K) {cd : Value} {q : Str} (e : PySem.W.codeIn K cd q = true) : PySem.W.codeIn (lessK ts K) cd q = true := by
  unfold PySem.W.codeIn at e ⊢
  split at e
  · rename_i c
    show (match (lessK ts K).lookup c with | some ⟨_, _, .fields vs, _⟩ => (match vs.toList with | _ :: .str n _ :: _ => n == q | _ => false) | _ => false) = true
    split at e
    · rename_i c1 d vs sl e1
      rw [T.keep e1 fun z => by
        have z' : vs = #[] := by injection z
        subst z'
        simp at e]
      exact e
    · cases e
  · cases e
theorem Tabl.keepIn (T : Tabl ts K) {v : Value} {fd : FuncData} {oc : Value} {od : Option Addr} {sl : Array (Option Value)} (l : K.lookup a = some ⟨oc, od, .func fd, sl⟩) : PySem.W.keepIn (lessK ts K) (.ref a) = true := by
  unfold PySem.W.keepIn
  show (match (lessK ts K).lookup a with | some ⟨_, _, .func _, _⟩ => true | some ⟨_, _, .cls _, _⟩ => _ | _ => false) = true
  rw [T.keep l (fun z => nomatch z)]
end
end GX

namespace GX
open PySem PySem.Spec PyProof.Rows L2
/-! ## the law's end, where lambdas are made -/
/-- an empty table of a code object -/
structure TabAt (h : Heap) (p : Addr) : Prop where
  hd : ∃ c, PySem.W.CodeHd h c p
  em : h.get? p = some { cls := .none, data := .fields #[] }
def BMain (mg : Str → Option Value) (h : Heap) : Prop := ∃ bm ob, mg "__builtins__" = some (.ref bm) ∧ bm ≠ builtinsNs ∧ h.get? bm = some ob ∧ ob.cls = .type "module" ∧ ob.dict = some builtinsNs ∧ ob.data = .plain
theorem headC {h : Heap} {c p : Addr} (C : PySem.W.CodeHd h c p) : ∃ o vs, h.get? c = some o ∧ o.cls = .type "code" ∧ o.data = .fields vs ∧ vs[11]? = some (.ref p) := by
  obtain ⟨o, vs, _, _, _, _, _, _, _, e1, e2, e3, e4, _⟩ := C
  exact ⟨o, vs, e1, e2, e3, e4⟩
section
variable {P : Program} {w : World} {K : PySem.W.Frag} {mg mb : Str → Option Value} {k : Nat} {fa a : Addr} {fd : FuncData} {x : Str} {spec : Fd} {s1 : Shared} {us : List Value} {ns : List Int} {Tq : List (Addr × Str)}
theorem overT (H : Hp) (hH : ∀ b, H b = none ∨ b ∈ Tq.map (·.1) ∨ (b = a ∧ K.lookup a = none ∧ ∃ o xs, H b = some (.frz o (.lst xs))))
    (hT : ∀ p ∈ Tq, TabAt s1.heap p.1) (hE : ∀ p ∈ Tq, H p.1 = some (.tbl #[])) (hKT : ∀ p ∈ Tq, K.lookup p.1 = none) (hS : SqL K (strip Tq H) a (ns.map V.int)) (hok : HOk P w H s1.heap)
    (KX : K.In s1.heap) (hns : s1.heap.Ns mainGlobals mg) (hb : s1.heap.Ns builtinsNs mb) (hbb : ∀ x : Str, x ≠ "__name__" → mb x = bootBuiltins x) (hlim : s1.heap.NoLimit) (hg : s1.gens = #[]) (hbm : BMain mg s1.heap)
    (ha : s1.heap.get? a = some { cls := .type "list", data := .seq us.toArray }) (hr : Room k callerA)
    (F : ∀ base : Heap, K.In base → base.Ns mainGlobals mg → (∀ p ∈ Tq, ∀ c, PySem.W.CodeHd s1.heap c p.1 → LamX.TabB base mg c p.1) → FnG P w K mg base k fa fd [x] (SpD K Tq spec)) (hbind : ∀ (s : Shared) (u : Value), BindsTo s fd ⟨[u], []⟩ [(x, u)])
    (hsp : spec [.lst (ns.map Da.int)] (fun d => d = .bl true) fun _ _ => False) :
    codeAny (model P w) callerA (.call (.ref fa) ⟨[.ref a], []⟩) (fun r s' => r = .ok (.ret (.bool true)) ∧ PySem.OldK s1.heap s'.heap ∧ s'.os = s1.os ∧ AllBare s'.gens) s1 := by
  have emT : ∀ {b}, b ∈ Tq.map (·.1) → TabAt s1.heap b ∧ H b = some (.tbl #[]) ∧ K.lookup b = none := fun {b} m => by
    obtain ⟨p, hp, rfl⟩ := List.mem_map.mp m
    exact ⟨hT p hp, hE p hp, hKT p hp⟩
  have off : ∀ {b : Addr} {o : Obj}, s1.heap.get? b = some o → o.data ≠ .fields #[] → (∀ v n, o.data ≠ .seq v n) → H b = none := fun {b o} e n1 n2 => by
    rcases hH b with z | z | ⟨rfl, _⟩
    · exact z
    · have e2 := (emT z).1.em
      rw [e] at e2; cases e2
      exact absurd rfl n1
    · rw [ha] at e; cases e
      exact absurd rfl (n2 _ _)
  have low : ∀ {b : Addr} {m : Str → Option Value}, s1.heap.Ns b m → (hidT s1.heap H).Ns b m := fun {b m} z => by
    obtain ⟨o, es, ep, e, d, r⟩ := z
    exact ⟨o, es, ep, hidT_get e (off e (by rw [d]; exact fun z => nomatch z) (by rw [d]; exact fun _ _ z => nomatch z)), d, r⟩
  have kin : K.In (hidT s1.heap H) := fun b o e => by
    refine hidT_get (KX b o e) ?_
    rcases hH b with z | z | ⟨rfl, z, _⟩
    · exact z
    · rw [(emT z).2.2] at e; cases e
    · rw [z] at e; cases e
  have md : Mod K mg (hidT s1.heap H) := ⟨kin, low hns, ⟨mb, low hb, hbb⟩, by
    obtain ⟨mc, h1, h2⟩ := hlim
    exact ⟨mc, low h1, h2⟩⟩
  have e0 : Env0 P w K mg (hidT s1.heap H) callerA [] s1 H := { frames := rfl, mod := md, bs := fun b o e => of_hidT e, bsz := Nat.le_of_eq (hidT_size _ _), funs := trivial, frf := fun b z => (nomatch z), hok := hok, bare := .of_eq hg }
  have tabs : ∀ p ∈ Tq, ∀ c, PySem.W.CodeHd s1.heap c p.1 → LamX.TabB (hidT s1.heap H) mg c p.1 := fun p hp c C => by
    have em := (hT p hp).em
    refine ⟨?_, ?_, fun z => ?_⟩
    · obtain ⟨o, vs, f, tf, fl, tg, iF, tx, tt, e1, e2, e3, e4, r⟩ := C
      refine ⟨o, vs, f, tf, fl, tg, iF, tx, tt, hidT_get e1 (off e1 (fun z => ?_) (by rw [e3]; exact fun _ _ z => nomatch z)), e2, e3, e4, r⟩
      rw [e3] at z
      cases z
      cases e4
    · obtain ⟨bm, ob, b1, b2, b3, b4, b5, b6⟩ := hbm
      refine ⟨bm, ob, b1, b2, fun z => ?_, fun z => ?_, hidT_get b3 (off b3 (by rw [b6]; exact fun z => nomatch z) (by rw [b6]; exact fun _ _ z => nomatch z)), b4, b5, b6⟩
      · obtain ⟨o, es, ep, e, d, _⟩ := hns
        rw [z, e] at b3; cases b3
        rw [d] at b6; cases b6
      · rw [z, em] at b3; cases b3
        cases b6
    · obtain ⟨o, es, ep, e, d, _⟩ := hns
      rw [z, em] at e; cases e
      cases d
  refine codeAny_mono ((F _ kin (low hns) tabs).run callerA [] s1 H ⟨[.ref a], []⟩ [.ref a] [.ref a] (fun v _ => v = .bl true) (fun _ _ _ => False) hr rfl e0 (hbind s1 (.ref a)) (.cons rfl .nil) ?_) fun r s' h => ?_
  · refine ⟨[.lst (ns.map Da.int)], strip Tq H, _, _, Sub.refl _, fun p hp => ⟨#[], hE p hp, trivial, fun pos cv hc => ?_⟩, ⟨.ref a, [], rfl, ⟨a, _, rfl, hS, reps_ints ns⟩, rfl⟩, hsp, fun d v Hf' H' _ _ _ r q => ?_, fun _ _ _ _ _ _ _ _ _ z => z⟩
    · have z : codeAmong pos [] = some cv := hc
      simp [codeAmong] at z
    · subst q
      exact r
  · match r, h with
    | .error e, h =>
      obtain ⟨_, _, _, _, _, _, _, _, _, _, _, _, z⟩ := h
      exact z.elim
    | .ok (.ret u), ⟨v, H', os, bare, un, hok', r', q⟩ =>
      subst q
      have eu : u = Value.bool true := r'
      subst eu
      have all : ∀ b o, s1.heap.get? b = some o → (b ∉ Tq.map (·.1) → s'.heap.get? b = some o) ∧ (b ∈ Tq.map (·.1) → o = { cls := .none, data := .fields #[] } ∧ ∃ more : Array Value, s'.heap.get? b = some { cls := .none, data := .fields more }) := fun b o e => by
        refine ⟨fun n => ?_, fun m => ?_⟩
        · rcases hH b with z | z | ⟨_, _, ob, xs, z⟩
          · exact un.keep b o e z (fun z => nomatch z) (fun z => nomatch z)
          · exact absurd z n
          · have e1 := (hok b _ z).1
            have e2 := (hok' b _ (un.frzs b ob _ z)).1
            rw [e] at e1
            rw [e2, ← e1]
        · obtain ⟨t, e1, _⟩ := emT m
          refine ⟨Option.some.inj (e.symm.trans t.em), ?_⟩
          obtain ⟨more, z⟩ := un.tbls b _ e1
          exact ⟨_, hok' b _ z⟩
      refine ⟨rfl, ⟨fun b o e => ?_, fun b o e => ?_⟩, os, bare⟩
      · by_cases m : b ∈ Tq.map (·.1)
        · obtain ⟨rfl, more, e2⟩ := (all b o e).2 m
          obtain ⟨c, C⟩ := (emT m).1.hd
          obtain ⟨oc, vs, c1, c2, c3, c4⟩ := headC C
          exact .inr (.inl ⟨⟨c, oc, vs, c1, c2, c3, c4⟩, rfl, #[], more, rfl, by rw [Array.empty_append]; exact e2⟩)
        · exact .inl ((all b o e).1 m)
      · by_cases m : b ∈ Tq.map (·.1)
        · obtain ⟨_, more, e2⟩ := (all b o e).2 m
          exact ⟨_, e2⟩
        · exact ⟨o, (all b o e).1 m⟩
    | .ok .next, h => exact h.elim
    | .ok .brk, h => exact h.elim
    | .ok .cont, h => exact h.elim
theorem lawT (hT : ∀ p ∈ Tq, TabAt s1.heap p.1) (hKT : ∀ p ∈ Tq, K.lookup p.1 = none)
    (KX : K.In s1.heap) (hns : s1.heap.Ns mainGlobals mg) (hb : s1.heap.Ns builtinsNs mb) (hbb : ∀ x : Str, x ≠ "__name__" → mb x = bootBuiltins x) (hlim : s1.heap.NoLimit) (hg : s1.gens = #[]) (hbm : BMain mg s1.heap)
    (ha : s1.heap.get? a = some { cls := .type "list", data := .seq us.toArray }) (hi : IntsAre us ns) (hl : ns.length ≤ sizeLine) (hr : Room k callerA)
    (F : ∀ base : Heap, K.In base → base.Ns mainGlobals mg → (∀ p ∈ Tq, ∀ c, PySem.W.CodeHd s1.heap c p.1 → LamX.TabB base mg c p.1) → FnG P w K mg base k fa fd [x] (SpD K Tq spec)) (hbind : ∀ (s : Shared) (u : Value), BindsTo s fd ⟨[u], []⟩ [(x, u)])
    (hsp : spec [.lst (ns.map Da.int)] (fun d => d = .bl true) fun _ _ => False) :
    codeAny (model P w) callerA (.call (.ref fa) ⟨[.ref a], []⟩) (fun r s' => r = .ok (.ret (.bool true)) ∧ PySem.OldK s1.heap s'.heap ∧ s'.os = s1.os ∧ AllBare s'.gens) s1 := by
  have rv := vals_of_script hi
  have na : a ∉ Tq.map (·.1) := fun m => by
    obtain ⟨p, hp, rfl⟩ := List.mem_map.mp m
    have e := (hT p hp).em
    rw [ha] at e
    have e2 := congrArg Obj.data (Option.some.inj e)
    cases e2
  have tb : ∀ p ∈ Tq, p.1 ∈ Tq.map (·.1) := fun p hp => List.mem_map.mpr ⟨p, hp, rfl⟩
  have em : ∀ b, b ∈ Tq.map (·.1) → s1.heap.get? b = some { cls := .none, data := .fields #[] } := fun b m => by
    obtain ⟨p, hp, rfl⟩ := List.mem_map.mp m
    exact (hT p hp).em
  let T0 : Hp := fun b => if b ∈ Tq.map (·.1) then some (.tbl #[]) else none
  have t1 : ∀ {b}, b ∈ Tq.map (·.1) → T0 b = some (.tbl #[]) := fun m => if_pos m
  have t2 : ∀ {b}, b ∉ Tq.map (·.1) → T0 b = none := fun m => if_neg m
  have t3 : ∀ b, T0 b = none ∨ b ∈ Tq.map (·.1) := fun b => by
    by_cases m : b ∈ Tq.map (·.1)
    · exact .inr m
    · exact .inl (t2 m)
  have t4 : ∀ b u, T0 b = some u → b ∈ Tq.map (·.1) ∧ u = .tbl #[] := fun b u e => by
    rcases t3 b with z | z
    · rw [z] at e; cases e
    · rw [t1 z] at e; cases e
      exact ⟨z, rfl⟩
  cases hk : K.lookup a with
  | some o =>
    have e := KX a o hk
    rw [ha] at e
    have e' := (Option.some.inj e).symm
    subst e'
    refine overT (a := a) T0 (fun b => (t3 b).imp id .inl) hT (fun p hp => t1 (tb p hp)) hKT (.inr ⟨_, us.toArray, _, hk, rfl, rfl, rfl, by rw [List.size_toArray, hi.length]; exact hl, by simpa using rv⟩) (fun b u z => ?_) KX hns hb hbb hlim hg hbm ha hr F hbind hsp
    obtain ⟨m, rfl⟩ := t4 b u z
    exact em b m
  | none =>
    have at_ : ∀ b, b ≠ a → (upd T0 a (.frz { cls := .type "list", data := .seq us.toArray } (.lst (ns.map V.int))) : Hp) b = T0 b := fun b c => upd_ne c
    refine overT (a := a) (upd T0 a (.frz { cls := .type "list", data := .seq us.toArray } (.lst (ns.map V.int)))) (fun b => ?_) hT (fun p hp => ?_) hKT (.inl (.inr ⟨_, by rw [strip_at na]; exact upd_same⟩)) (fun b u z => ?_) KX hns hb hbb hlim hg hbm ha hr F hbind hsp
    · by_cases c : b = a
      · subst c
        exact .inr (.inr ⟨rfl, hk, _, _, upd_same⟩)
      · rw [at_ b c]
        exact (t3 b).imp id .inl
    · rw [at_ _ fun z => na (z ▸ tb p hp)]
      exact t1 (tb p hp)
    · by_cases c : b = a
      · subst c
        rw [upd_same] at z
        have z' := (Option.some.inj z).symm
        subst z'
        exact ⟨ha, by rw [List.length_map]; exact hl, us, _, rv, ha⟩
      · rw [at_ b c] at z
        obtain ⟨m, rfl⟩ := t4 b u z
        exact em b m
end
/-- the goal that k_head and k_fill leave; ts: the tables, by their def's qualified names -/
theorem walkT {l : PySem.W.OpenLaw} {n k : Nat} {q : Program} {loose : List Str} {XP : (Str → Option Value) → Heap → Prop} {YP : World → Heap → Prop} {d : PySem.DefRec} {spec : Fd} {x : Str}
    (hn : l.most = some n) (hn2 : n ≤ sizeLine) (hdf : d.params.defaults = []) (hr : Room k callerA)
    (F : ∀ (w : World) (mg : Str → Option Value) (fa : Addr) (h : Heap), YP w h → h.Ns mainGlobals mg → XP mg h → mg d.name = some (.ref fa) →
      ∃ (K : PySem.W.Frag) (fd : FuncData) (Tq : List (Addr × Str)), K.In h ∧ (∀ p ∈ Tq, TabAt h p.1) ∧ (∀ p ∈ Tq, K.lookup p.1 = none) ∧ (∀ (s : Shared) (u : Value), BindsTo s fd ⟨[u], []⟩ [(x, u)]) ∧
        ∀ base : Heap, K.In base → base.Ns mainGlobals mg → (∀ p ∈ Tq, ∀ c, PySem.W.CodeHd h c p.1 → LamX.TabB base mg c p.1) → FnG l.prog w K mg base k fa fd [x] (SpD K Tq spec))
    (hsp : ∀ ns : List Int, ns.length ≤ n → (∀ k ∈ ns, Builtin.Int.intBits k ≤ 1048576) → spec [.lst (ns.map Da.int)] (fun d => d = .bl true) fun _ _ => False) :
    PySem.W.WalkO q loose XP YP l.row.toRowW d [] (fun f vs => PySem.call f vs) := by
  refine Att.attach_callB hn hdf fun w s0 s1 mg mb fa o pm cd doc a vs ns G Y ho hd hcd hmg hobj hints hlen hbits hg => ?_
  obtain ⟨K, fd, Tq, KX, hT, hKT, hb, hF⟩ := F w mg fa _ Y G.T.g G.X hmg
  exact lawT hT hKT KX G.T.g G.T.b G.T.builtins G.T.nolimit hg G.T.bmain hobj hints (Nat.le_trans hlen hn2) hr hF hb (hsp ns hlen hbits)
end GX

namespace PySem
set_option maxHeartbeats 1000000 in
theorem gx_enum_tup (tp : Addr) (its : Array Value) (nn : Nat) (dc : Option Addr) (sls : Array (Option Value)) :
    Meets (Builtin.«enumerate.__new__» ⟨[.type "enumerate", .ref tp], []⟩) (fun _ RR s0 => s0.heap.get? tp = some { cls := .type "tuple", dict := dc, data := .seq its nn, slots := sls } ∧
      RR (.ok (.ret (.ref (s0.heap.push { cls := .type "tuple_iterator", data := .fields #[.ref tp, .int 0 0] }).objs.size)))
        { s0 with heap := (s0.heap.push { cls := .type "tuple_iterator", data := .fields #[.ref tp, .int 0 0] }).push { cls := .type "enumerate", data := .fields #[.none, .bool false, .ref s0.heap.objs.size, rawInt 0, .none, .none] } }) :=
  .of_wp fun pr ww AA RR s0 hh => by
    obtain ⟨h0, g0, d0, t0, o0⟩ := s0
    obtain ⟨hget, hh⟩ := hh
    have hsub := sub_enumerate
    have isT : Heap.IsTuple (Shared.heap ⟨h0, g0, d0, t0, o0⟩) tp its := ⟨_, hget, rfl, nn, rfl⟩
    wp_walk using AutoSeq1.wpAny_loadPart' hget
    refine wpAny_stack_any fun _ => wpAny_pure ?_
    split
    · rename_i c _ _ _ _ _
      cases (c == Value.type "enumerate")
      all_goals
        wp_walk using AutoSeq1.wpAny_loadPart' hget, wpAny_pyIter_tuple isT
        exact ⟨_, rfl, hh⟩
    · wp_walk using AutoSeq1.wpAny_loadPart' hget, wpAny_pyIter_tuple isT
      exact ⟨_, rfl, hh⟩
end PySem
namespace GX
open PySem PySem.Spec PyProof.Rows L2
theorem call_enumT {pr : Program} {ww : World} {AA : Around} {EE : Value → Shared → Prop} {s0 : Shared} {tp : Addr} {its : Array Value} {QQ : Value → Shared → Prop} (ht : s0.heap.IsTuple tp its)
    (k : ∀ h1, IsEnum h1 (s0.heap.objs.size + 1) s0.heap.objs.size 0 .none → h1.IsTupleIter s0.heap.objs.size tp 0 → (∀ b o, s0.heap.get? b = some o → h1.get? b = some o) → QQ (.ref (s0.heap.objs.size + 1)) { s0 with heap := h1 }) :
    wpAny (model pr ww) AA (call (.type "enumerate") [.ref tp]) QQ EE s0 := by
  obtain ⟨⟨c0, d0, t0, sl0⟩, hg, hc, n0, hd⟩ := ht
  replace hc : c0 = .type "tuple" := hc
  replace hd : t0 = .seq its n0 := hd
  subst hc
  subst hd
  refine callType_new F.called_enumerate (by decide) (F.typeCall_enumerate_1 _) (F.newCall_enumerate_1 _) (fun o => F.args_object_init_2 o _) F.entry_enumerate_new (gx_enum_tup tp its n0 d0 sl0) ⟨hg, ?_⟩
  have hz : (s0.heap.push { cls := .type "tuple_iterator", data := .fields #[.ref tp, .int 0 0] }).objs.size = s0.heap.objs.size + 1 := Heap.size_push ..
  show _ ∧ _
  rw [hz]
  have he : IsEnum ((s0.heap.push { cls := .type "tuple_iterator", data := .fields #[.ref tp, .int 0 0] }).push { cls := .type "enumerate", data := .fields #[.none, .bool false, .ref s0.heap.objs.size, rawInt 0, .none, .none] }) (s0.heap.objs.size + 1) s0.heap.objs.size 0 .none := by
    have z := Heap.get?_push_size (s0.heap.push { cls := .type "tuple_iterator", data := .fields #[.ref tp, .int 0 0] }) (o := { cls := .type "enumerate", data := .fields #[.none, .bool false, .ref s0.heap.objs.size, rawInt 0, .none, .none] }) rfl
    rw [hz] at z
    exact z
  exact ⟨⟨_, he, rfl⟩, k _ he ⟨_, Heap.get?_push_of_some _ (Heap.get?_push_size _ rfl), rfl, rfl⟩ fun b o y => Heap.get?_push_of_some _ (Heap.get?_push_of_some _ y)⟩
/-- the tuple at a, each item in a new pair with its index -/
def IteT (K : PySem.W.Frag) (a : Addr) : It :=
  ⟨fun i H => ∃ (xs : List V) (x : V), SqT K H a xs ∧ xs[i]? = some x, fun i H v H' => ∃ T x, v = .ref T ∧ H T = none ∧ H' = upd H T (.tup [.int (i : Nat), x]) ∧ (∀ xs, SqT K H a xs → xs[i]? = some x), fun i H => ∃ xs : List V, SqT K H a xs ∧ xs.length ≤ i⟩
theorem turn_enumT {P : Program} {w : World} {K : PySem.W.Frag} {elts : List Expr} {kk : Nat} {tpos : Pos} (a e t : Addr) :
    Turn P w K (.Tuple elts kk tpos) (IteT K a) [e, t] e (fun i h => (∃ old, IsEnum h e t ((i : Nat) : Int) old) ∧ h.IsTupleIter t a i ∧ e ≠ t) := by
  have ea : ∀ {X : Cx} {its : Array Value} {h : Heap} {c : Int} {old : Value}, IsEnum h e t c old → h.IsTuple a its → e ≠ a := fun h1 ⟨o, h2, h3, _⟩ z => by
    subst z
    rw [h1] at h2
    cases h2
    have h3 : Value.type "enumerate" = Value.type "tuple" := h3
    exact absurd (Value.type.inj h3) (by decide)
  have ta : ∀ {its : Array Value} {h : Heap} {i : Nat}, h.IsTupleIter t a i → h.IsTuple a its → a ≠ t := fun ⟨o1, g1, g2, _⟩ ⟨o, h2, h3, _⟩ z => by
    subst z
    rw [g1] at h2
    cases h2
    rw [g2] at h3
    exact absurd (Value.type.inj h3) (by decide)
  have two : ∀ {b : Addr}, b ∈ [e, t] → b = e ∨ b = t := fun h => by simpa using h
  refine ⟨List.mem_cons_self, fun i h ⟨⟨old, he⟩, ⟨o, ho, _, hd⟩, _⟩ b hb => ?_, fun i h h' ⟨⟨old, he⟩, hi, hne⟩ k => ⟨⟨old, k e (by simp) _ he⟩, hi.at fun o q => k t (by simp) o q, hne⟩, ?_, ?_, fun A i s Q E ⟨⟨_, he⟩, _⟩ h => wpAny_pyIter_enum he h⟩
  · rcases two hb with rfl | rfl
    · exact ⟨_, he, fun v q => nomatch q⟩
    · exact ⟨o, ho, fun v q => by rw [hd] at q; cases q⟩
  · intro X hP hw hK hc i pins s σ H E I hf ⟨⟨old, he⟩, hit, hne⟩ ⟨xs, x, hq, hx⟩
    subst hP hw hK
    obtain ⟨its, rv, p, hz⟩ := I.tuple hq
    have p' : s.heap.IsTuple a its.toArray := p
    obtain ⟨u, hu, ru⟩ := rv.get hx
    have hi : i < its.toArray.size := by simpa using (List.getElem?_eq_some_iff.mp hu).1
    have le : e < s.heap.objs.size := Heap.lt_size he
    have lt : t < s.heap.objs.size := by obtain ⟨_, q, _⟩ := hit; exact Heap.lt_size q
    have nea := ea (X := X) he p'
    refine wpAny_pyNext_enum_itemC (Draws.tuple (prog := X.prog) (w := X.w) (A := X.A.in1) (show X.A.in1.handled = none from I.ok.hd hc) t a (ta hit p') its.toArray) he ⟨hit, p'⟩ hi hne (by simp [hne, nea]) fun y h' tk hy ho st2 hT hsz hk => ?_
    obtain ⟨hit', _⟩ := st2
    have yu : y = u := by
      have z : its.toArray[i]? = some u := by simpa using hu
      exact Option.some.inj (hy.symm.trans z)
    subst yu
    refine ⟨_, rfl, wpAny_letOwnedTupleGo_enum (s := { s with heap := h', toks := tk + 1 }) ho fun h2 he2 sb => ?_⟩
    have hT2 : h2.get? s.heap.objs.size = some { cls := .type "tuple", data := .seq #[.int i tk, y] } := (sb.2 _ (Nat.ne_of_gt le)).trans hT
    have new : ObjOk X.prog X.w (upd H s.heap.objs.size (.tup [.int (i : Nat), x])) h2 s.heap.objs.size (.tup [.int (i : Nat), x]) :=
      ⟨by show 2 ≤ sizeLine; decide, [.int i tk, y], .cons ⟨_, rfl⟩ (.cons ru .nil), ⟨_, hT2, rfl, _, rfl⟩⟩
    have I1 : Inv X pins σ (upd H s.heap.objs.size (.tup [.int (i : Nat), x])) { s with heap := h2, toks := tk + 1 } :=
      I.turnedNew (ch := [e, t]) (fun b ob hb q => (sb.2 b (fun z => hb (by simp [z]))).trans (hk b ob (fun z => hb (by simp [z])) (fun z => hb (by simp [z])) q)) hf (Nat.le_refl _) new
    refine ⟨.ref s.heap.objs.size, _, I1, rfl, ⟨_, x, rfl, I.hok.fresh (Nat.le_refl _), rfl, fun ys hys => by rw [I.tuple_inj hys hq]; exact hx⟩, ⟨⟨y, ?_⟩, hit'.at fun o q => (sb.2 t (Ne.symm hne)).trans q, hne⟩, fun b hb => ?_⟩
    · rw [show ((i + 1 : Nat) : Int) = (i : Int) + 1 by omega]
      exact he2
    · have lb : b < s.heap.objs.size := by rcases two hb with rfl | rfl <;> assumption
      rw [upd_ne (Nat.ne_of_lt lb)]
      exact (hf b hb).1
  · intro X hP hw hK hc i pins s σ H E I hf ⟨⟨old, he⟩, hit, hne⟩ ⟨xs, hq, hx⟩
    subst hP hw hK
    obtain ⟨its, rv, p, hz⟩ := I.tuple hq
    have p' : s.heap.IsTuple a its.toArray := p
    obtain ⟨f0, f1, f2, f3, f4, f5⟩ := hf t (by simp)
    have hl := rv.length
    have D : Draws X.prog X.w X.A.in1 t [t, a] i (fun _ _ => True) (fun j h => j = i ∧ h.IsTupleIter t a i ∧ h.IsTuple a its.toArray) :=
      ⟨fun _ _ st => let ⟨o, ho, _⟩ := st.2.1; ⟨o, ho⟩, fun _ _ _ st hk => ⟨st.1, st.2.1.at fun o q => hk t (by simp) o q, st.2.2.at fun o q => hk a (by simp) o q⟩, fun j _ _ _ hj st _ => absurd st.1 (Nat.ne_of_lt hj),
        fun s Q E st hE => wpAny_nextOf_tuple_end (show X.A.in1.handled = none from I.ok.hd hc) st.2.1 st.2.2 (by simp; omega) hE⟩
    exact wpAny_pyNext_enum_endD D he ⟨rfl, hit, p'⟩ fun h' eb => ⟨rfl, I.turned (t' := s.toks) (fun b o hb q => eb b o hb q) f0 f1 f3 f4 f5⟩
end GX
namespace GX
open PySem PySem.Spec PyProof.Rows L2
def iEnumT (K : PySem.W.Frag) (ta : TA) : TI := fun σ H R => ta σ H fun vs H1 => ∃ a xs, vs = [.ref a] ∧ SqT K H1 a xs ∧ R (IteT K a) H1
theorem pi_enumT {X : Cx} {e : Expr} {ta : TA} {p pos tpos : Pos} {elts : List Expr} {kk : Nat} (hg : Gl X "enumerate") (hm : X.mg "enumerate" = none) (ha : PA X [e] ta) (hs : starEach [e] X.env = [(false, eval e X.env)] := by rfl) :
    PI X (.Tuple elts kk tpos) (.Call (.Name "enumerate" p) [e] [] pos) (iEnumT X.K ta) := by
  refine ⟨fun pins s σ H R I h => Call_ (ld_blt I hg hm boot_enumerate (PyProof.Rows.callWith_type1 (thn (ha.run pos pins s σ H _ I h) fun us s1 ⟨vs, H1, I1, r1, q1⟩ => ?_) hs rfl))⟩
  obtain ⟨a, xs, rfl, hq, q⟩ := q1
  cases r1 with
  | cons r rr =>
    cases rr
    cases r
    obtain ⟨its, rv, tp, hz⟩ := I1.tuple hq
    refine call_enumT tp fun h1 he hit hk => wpAny_pyIter_enum he ?_
    have I2 : Inv X pins σ H1 { s1 with heap := h1 } := I1.kept (t' := s1.toks) hk
    refine ⟨s1.heap.objs.size + 1, [s1.heap.objs.size + 1, s1.heap.objs.size], _, _, H1, rfl, I2, turn_enumT a (s1.heap.objs.size + 1) s1.heap.objs.size, ⟨⟨.none, he⟩, hit, Nat.succ_ne_self _⟩, fun b hb => ?_, q⟩
    have hle : s1.heap.objs.size ≤ b := by
      rcases (show b = s1.heap.objs.size + 1 ∨ b = s1.heap.objs.size by simpa using hb) with rfl | rfl
      · exact Nat.le_succ _
      · exact Nat.le_refl _
    exact I1.fpOk hle (I1.hok.fresh hle)
section
variable {S : Sx} {Γ : List Slot} {e : Expr} {p pos tpos : Pos} {elts : List Expr} {kk : Nat} {QI : List Da → Prop}
/-- the items with their indexes -/
def enumD (xs : List Da) : List Da := xs.zipIdx.map fun z => Da.tup [.int (z.2 : Nat), z.1]
theorem enumD_len {xs : List Da} : (enumD xs).length = xs.length := by unfold enumD; rw [List.length_map, List.length_zipIdx]
theorem enumD_get {xs : List Da} {i : Nat} {d : Da} (h : xs[i]? = some d) : (enumD xs)[i]? = some (.tup [.int (i : Nat), d]) := by
  unfold enumD; rw [List.getElem?_map, List.getElem?_zipIdx, h]; simp
theorem enumD_at {xs : List Da} {i : Nat} {d : Da} (h : (enumD xs)[i]? = some d) : ∃ x, xs[i]? = some x ∧ d = .tup [.int (i : Nat), x] := by
  have hi : i < xs.length := by rw [← enumD_len]; exact (List.getElem?_eq_some_iff.mp h).1
  rw [enumD_get (List.getElem?_eq_getElem hi)] at h
  exact ⟨_, List.getElem?_eq_getElem hi, (Option.some.inj h).symm⟩
theorem ei_enumT (hg : GlS S "enumerate") (hm : S.mg "enumerate" = none) (h : EvE S Γ e fun d => asTup d fun xs => QI (enumD xs)) (hs : ∀ env, starEach [e] env = (false, eval e env) :: starEach [] env := by intro _; rfl) :
    EvI S Γ (.Tuple elts kk tpos) (.Call (.Name "enumerate" p) [e] [] pos) QI := fun PX σ H Hf k st hk =>
  ⟨iEnumT S.K (tCons (tU S e) tNil), fun X ok => by have z := pi_enumT (tpos := tpos) (p := p) (pos := pos) (elts := elts) (kk := kk) (hg.gl ok) (by rw [ok.mg]; exact hm) (pa_cons (pu (e := e) ok) pa_nil (hs _)) (hs _); rw [ok.K] at z; exact z,
    h PX σ H Hf _ st fun d v Hf1 H1 e1 st1 r q => by
    obtain ⟨xs, rfl, q⟩ := asTup_ q
    obtain ⟨l, us, rfl, s1, r1⟩ := r.tup_
    refine ⟨l, us, rfl, st1.ex.st s1, hk _ _ Hf1 H1 e1 st1 ⟨fun i Hf' H' e e' hi => ?_, fun i Hf' H' e e' hi => ?_, fun PX i x Γ σ Hf' H' H'' e s hi y => ?_⟩ q⟩
    · rw [enumD_len] at hi
      obtain ⟨_, v1, _, h1, _⟩ := r1.at hi
      exact ⟨us, v1, e'.st (e.st s1), h1⟩
    · rw [enumD_len] at hi
      exact ⟨us, e'.st (e.st s1), by rw [r1.len]; exact hi⟩
    · rw [enumD_len] at hi
      obtain ⟨T, x, rfl, hT, rfl, y⟩ := y
      obtain ⟨d1, v1, g1, h1, w1⟩ := r1.at hi
      have k1 := (y us (s.ex.st (e.st s1))).symm.trans h1
      cases k1
      obtain ⟨st4, e4⟩ := s.alloc (o := .tup [.int (i : Nat), x]) hT
      exact ⟨_, .tup [.int (i : Nat), d1], e4, st4, enumD_get g1, T, [.int (i : Nat), x], rfl, SqT.of upd_same, .int (i : Nat), _, rfl, rfl, x, _, rfl, Rep.mono (e.trans e4) _ _ w1, rfl⟩⟩
theorem ei_enumL (hg : GlS S "enumerate") (hm : S.mg "enumerate" = none) (h : EvE S Γ e fun d => asLst d fun xs => QI (enumD xs)) (hs : ∀ env, starEach [e] env = (false, eval e env) :: starEach [] env := by intro _; rfl) :
    EvI S Γ (.Tuple elts kk tpos) (.Call (.Name "enumerate" p) [e] [] pos) QI := fun PX σ H Hf k st hk =>
  ⟨iEnum S.K (tCons (tU S e) tNil), fun X ok => by have z := pi_enum (tpos := tpos) (p := p) (pos := pos) (elts := elts) (kk := kk) (hg.gl ok) (by rw [ok.mg]; exact hm) (pa_cons (pu (e := e) ok) pa_nil (hs _)) (hs _); rw [ok.K] at z; exact z,
    h PX σ H Hf _ st fun d v Hf1 H1 e1 st1 r q => by
    obtain ⟨xs, rfl, q⟩ := asLst_ q
    obtain ⟨l, us, rfl, s1, r1⟩ := r.lst_
    refine ⟨l, us, rfl, st1.ex.sl s1, hk _ _ Hf1 H1 e1 st1 ⟨fun i Hf' H' e e' hi => ?_, fun i Hf' H' e e' hi => ?_, fun PX i x Γ σ Hf' H' H'' e s hi y => ?_⟩ q⟩
    · rw [enumD_len] at hi
      obtain ⟨_, v1, _, h1, _⟩ := r1.at hi
      exact ⟨us, v1, e'.sl (e.sl s1), h1⟩
    · rw [enumD_len] at hi
      exact ⟨us, e'.sl (e.sl s1), by rw [r1.len]; exact hi⟩
    · rw [enumD_len] at hi
      obtain ⟨T, x, rfl, hT, rfl, y⟩ := y
      obtain ⟨d1, v1, g1, h1, w1⟩ := r1.at hi
      have k1 := (y us (s.ex.sl (e.sl s1))).symm.trans h1
      cases k1
      obtain ⟨st4, e4⟩ := s.alloc (o := .tup [.int (i : Nat), x]) hT
      exact ⟨_, .tup [.int (i : Nat), d1], e4, st4, enumD_get g1, T, [.int (i : Nat), x], rfl, SqT.of upd_same, .int (i : Nat), _, rfl, rfl, x, _, rfl, Rep.mono (e.trans e4) _ _ w1, rfl⟩⟩
end
end GX

namespace GX
open PySem PySem.Spec PyProof.Rows L2
/-! ## set(list of ints), sorted -/
abbrev noSet (w : World) : Obj := { cls := .type "set", dict := none, data := .set #[] 0 (.fresh 0 0 (!w.params.followText "set-order")) }
abbrev itOf (l : Addr) : Obj := { cls := .type "list_iterator", data := .fields #[.ref l, .int 0 0] }
section
variable {pr : Program} {ww : World} {AA : Around} {EE : Value → Shared → Prop} {s0 : Shared}
set_option maxRecDepth 100000 in
set_option maxHeartbeats 3200000 in
theorem call_setL {l : Addr} {its : Array Value} (ks : List Int) {QQ : Value → Shared → Prop} (hh : AA.handled = none) (isL : s0.heap.IsList l its) (ia : IntsAre its.toList ks) (hb : ks.length + 1 < scanBound)
    (k : ∀ (h1 : Heap) (tk c : Nat), SetR ww h1 s0.heap.objs.size (fun j => decide (j ∈ ks)) c → c ≤ ks.length → (∀ b o, s0.heap.get? b = some o → h1.get? b = some o) → QQ (.ref s0.heap.objs.size) { s0 with heap := h1, toks := tk }) :
    wpAny (model pr ww) AA (call (.type "set") [.ref l]) QQ EE s0 := by
  have hz : its.size = ks.length := by
    have q := ia.length
    rwa [Array.length_toList] at q
  have ⟨c, tl, hmro⟩ := F.called_set.mro
  have hmade := F.called_set.made
  have hsub := F.called_set.sub
  refine wpAny_call (codeAny_of_tree (show wpAny _ _ (callAny (.type "set") _) _ _ _ from ?_))
  refine wpAny_pure ⟨Code.quiet_builtin _ (by decide +kernel), codeAny_builtin F.entry_type_call ?_⟩
  rw [Around.under_plain (weight_type_call_type "set" [.ref l] []) rfl]
  have n1 := F.called_set.notType
  have n2 := F.called_set.canCreate
  have n3 := F.typeCall_set_1 (.ref l)
  repeat (any_goals (first | assumption | wp_step))
  refine codeAny_mono (code_set_led1 (.ref l) (E := EE) (Q₁ := fun ob sx => ob = .ref s0.heap.objs.size ∧ sx = { s0 with heap := s0.heap.push (noSet ww) }) ⟨rfl, rfl⟩) fun r sx hr => ?_
  match r, hr with
  | .error _, hr => exact hr
  | .ok (.next), hr => exact hr.elim
  | .ok (.brk), hr => exact hr.elim
  | .ok (.cont), hr => exact hr.elim
  | .ok (.ret ob), hr =>
    obtain ⟨rfl, rfl⟩ := hr
    have gS : (s0.heap.push (noSet ww)).get? s0.heap.objs.size = some (noSet ww) := Heap.get?_push_size _ rfl
    have tS : Shared.TypeIs { s0 with heap := s0.heap.push (noSet ww) } (.ref s0.heap.objs.size) "set" := ⟨_, gS, rfl⟩
    have i1 := F.called_set.init.lookup
    have i2 := F.called_set.init.bind (.ref s0.heap.objs.size)
    repeat (any_goals (first | assumption | wp_step))
    refine codeAny_mono (codeAny_call_builtin (R := wants (fun r sy => r = .none ∧ ∃ h1 tk c, sy = { s0 with heap := h1, toks := tk } ∧ SetR ww h1 s0.heap.objs.size (fun j => decide (j ∈ ks)) c ∧ c ≤ ks.length ∧ (∀ b o, s0.heap.get? b = some o → h1.get? b = some o)) EE) F.called_set.init.plain F.entry_set_init (check_set_init_1 tS ?_)) fun r2 sy hr2 => ?_
    · obtain ⟨⟨oc, od, dt, osl⟩, gl, hc, n, hd⟩ := isL
      replace hc : oc = .type "list" := hc
      replace hd : dt = .seq its n := hd
      subst hc
      subst hd
      have gl2 : (s0.heap.push (noSet ww)).get? l = some { cls := .type "list", dict := od, data := .seq its n, slots := osl } := Heap.get?_push_of_some _ gl
      have u1 := F.sub_list_set
      have u2 := F.sub_list_frozenset
      have u3 : (Value.type "list" == Value.type "dict") = false := by decide
      have isL2 : (s0.heap.push (noSet ww)).IsList l its := ⟨_, gl2, rfl, n, rfl⟩
      unfold Builtin.«set.__init__» noKeywords Builtin.Frozenset.updateFrom
      generalize hPI : pyIter = PI
      wp_walk
      subst hPI
      refine wpAny_pyIter_list isL2 (wpAny_bind (wpAny_runValue ?_))
      have ll : l < s0.heap.objs.size := Heap.lt_size gl
      have zz : (s0.heap.push (noSet ww)).objs.size = s0.heap.objs.size + 1 := Heap.size_push ..
      have d1 : l ≠ (s0.heap.push (noSet ww)).objs.size := by rw [zz]; exact Nat.ne_of_lt (Nat.lt_succ_of_lt ll)
      have d2 : s0.heap.objs.size ∉ [(s0.heap.push (noSet ww)).objs.size, l] := by
        rw [zz]
        intro m
        rcases List.mem_cons.mp m with m | m
        · exact Nat.ne_of_lt (Nat.lt_succ_self _) m
        · exact Nat.ne_of_gt ll (List.mem_singleton.mp m)
      have val : ∀ (i : Nat) (v : Value), its[i]? = some v → ∃ k t, ks[i]? = some k ∧ v = .int k t := fun i v hv => by
        have hi : i < ks.length := by rw [← hz]; exact (Array.getElem?_eq_some_iff.mp hv).1
        obtain ⟨t, e⟩ := ia.int_at i v (by rw [Array.getElem?_toList]; exact hv)
        refine ⟨ks[i], t, List.getElem?_eq_getElem hi, ?_⟩
        rw [e, List.getD_eq_getElem?_getD, List.getElem?_eq_getElem hi]; rfl
      have gS2 : ((s0.heap.push (noSet ww)).push (itOf l)).get? s0.heap.objs.size = some (noSet ww) := Heap.get?_push_of_some _ gS
      refine set_update_ints ((Walks.list (show AA.in1.in1.in1.handled = none by simp [hh]) _ l d1 its).toS) s0.heap.objs.size d2 ks hz hb val (its.size - 0) 0 _ (by omega) (Nat.zero_le _)
        ⟨⟨_, Heap.get?_push_size _ rfl, rfl, rfl⟩, isL2.push _⟩ ⟨0, Nat.le_refl 0, setR_new_at gS2⟩ fun s1 c1 hm hc1 hS1 => ?_
      obtain ⟨h1, g1, dr1, tk1, os1⟩ := s1
      have e1 : g1 = s0.gens := hm.gens
      have e2 : dr1 = s0.drawn := hm.drawn
      have e3 : os1 = s0.os := hm.os
      subst e1; subst e2; subst e3
      refine wpAny_pure (show wpAny _ _ (ret Value.none) _ _ _ from wpAny_pure ⟨rfl, h1, tk1, c1, rfl, hS1, by rw [hz] at hc1; exact hc1, fun b o e => ?_⟩)
      have lb : b < s0.heap.objs.size := Heap.lt_size e
      refine hm.heap b o (fun m => ?_) (Heap.get?_push_of_some _ (Heap.get?_push_of_some _ e))
      rcases List.mem_cons.mp m with m | m
      · exact Nat.ne_of_lt lb m
      · have m2 := List.mem_singleton.mp m
        rw [zz] at m2
        exact Nat.ne_of_lt (Nat.lt_succ_of_lt lb) m2
    · cases r2 with
      | error _ => exact hr2
      | ok f =>
        cases f with
        | ret y =>
          obtain ⟨rfl, h1, tk, c1, rfl, k1, k2, k3⟩ := hr2
          repeat (any_goals (first | assumption | wp_step))
          exact k _ _ _ k1 k2 k3
        | _ => exact hr2.elim
end
end GX

namespace GX
open PySem PySem.Spec PyProof.Rows L2
def rSetI (K : PySem.W.Frag) (w : World) : List V → Hp → VK → Prop := fun vs H Q => ∃ (a : Addr) (ns : List Int), vs = [V.ref a] ∧ SqL K H a (ns.map V.int) ∧ ns.length < 60 ∧ ∀ p c, H p = none → c ≤ ns.length → Q (.ref p) (upd H p (SetO w p (fun j => decide (j ∈ ns)) c))
theorem cr_setI {X : Cx} (hc : X.calm = true) : CallR X (.type "set") (rSetI X.K X.w) := by
  intro pins s σ H vs us Q I r h
  obtain ⟨a, ns, rfl, hs, hl, q⟩ := h
  obtain ⟨its, rv, hL, hz⟩ := I.list hs
  rw [Vals.ref1 r]
  refine call_setL ns (I.ok.hd hc) hL.isList (by simpa using rv.ints) (by unfold scanBound; omega) fun h1 tk c R hcn k => ?_
  exact ⟨.ref _, upd H s.heap.objs.size (SetO X.w s.heap.objs.size (fun j => decide (j ∈ ns)) c), I.laid (t' := tk) k (Nat.le_refl _) (setO_new R), rfl, q _ _ (I.hok.fresh (Nat.le_refl _)) hcn⟩
theorem ints_of {K : PySem.W.Frag} {H : Hp} : ∀ {ns : List Int} {vs : List V}, Reps K H (ns.map Da.int) vs → vs = ns.map V.int
  | [], _, h => h
  | n :: ns, _, h => by
    obtain ⟨v, l, rfl, h1, h2⟩ := h
    have h1 : v = .int n := h1
    rw [h1, ints_of h2]; rfl
theorem bt_set : bootBuiltins "set" = some (.type "set") := by decide +kernel
section
variable {S : Sx} {Γ : List Slot} {e a b c : Expr} {es : List Expr} {Q : Da → Prop} {p pos p2 pos2 : Pos} {x : Str}
/-- sorted(set(xs)), xs whole numbers -/
theorem ev_sortset (hg : GlS S "sorted") (hm : S.mg "sorted" = none) (hg2 : GlS S "set") (hm2 : S.mg "set" = none)
    (h : EvE S Γ e fun d => asLst d fun xs => ∃ ns : List Int, xs = ns.map Da.int ∧ ns.length < 60 ∧ ∀ ms : List Int, ms.Pairwise (· < ·) → (∀ k, k ∈ ms ↔ k ∈ ns) → Q (.lst (ms.map Da.int)))
    (hs : ∀ env, starEach [e] env = (false, eval e env) :: starEach [] env := by intro _; rfl) (hpl : ∀ env, (backTo pos2 (starEach [] env)).any (·.1) = false := by intro _; rfl)
    (hs2 : ∀ env, starEach [.Call (.Name "set" p2) [e] [] pos2] env = (false, eval (.Call (.Name "set" p2) [e] [] pos2) env) :: starEach [] env := by intro _; rfl) (hpl2 : ∀ env, (backTo pos (starEach [] env)).any (·.1) = false := by intro _; rfl) (hc : S.calm = true := by rfl) :
    EvE S Γ (.Call (.Name "sorted" p) [.Call (.Name "set" p2) [e] [] pos2] [] pos) Q := by
  refine ev_of (t := tCB (rSortedSet S.w) (tCons (tCB (rSetI S.K S.w) (tCons (tU S e) tNil)) tNil)) (fun X ok => ?_) fun PX σ H Hf k st hk => ?_
  · have z1 := pe_callTy (X := X) (p := p2) (pos := pos2) (cr_setI (ok.calm hc)) (hg2.gl ok) (by rw [ok.mg]; exact hm2) bt_set (pa_cons (pu (e := e) ok) pa_nil (hs _)) (by decide) (by decide) (hs _) (hpl _)
    have z2 := pe_callB (X := X) (p := p) (pos := pos) (cr_sortedSet (ok.calm hc)) (hg.gl ok) (by rw [ok.mg]; exact hm) bt_sorted (pa_cons z1 pa_nil (hs2 _)) (by decide) (by decide) (hs2 _) (hpl2 _)
    rw [ok.K, ok.w] at z2
    exact z2
  · refine h PX σ H Hf _ st fun d v Hf1 H1 e1 st1 r q0 => ?_
    obtain ⟨xs, rfl, ns, rfl, hl, q⟩ := asLst_ q0
    obtain ⟨l, vs, rfl, s1, r1⟩ := r.lst_
    rw [ints_of r1] at s1
    refine ⟨l, ns, rfl, st1.ex.sl s1, hl, fun p c hp hc => ?_⟩
    obtain ⟨st2, e2⟩ := st1.alloc (o := SetO S.w p (fun j => decide (j ∈ ns)) c) hp
    refine ⟨p, _, c, rfl, upd_same, by omega, fun ms p2 h1 h2 h3 hp2 => ?_⟩
    obtain ⟨st3, e3⟩ := st2.alloc (o := .lst (ms.map V.int)) hp2
    exact hk (.lst (ms.map Da.int)) _ _ _ ((e1.trans e2).trans e3) st3 ⟨_, _, rfl, SqL.of upd_same, reps_ints ms⟩ (q ms h1 fun k => (h2 k).trans decide_eq_true_iff)
/-- sorted(xs), whole numbers -/
theorem c_sortedI : CallG S (.builtin "sorted") fun ds Q => as1 ds fun d => asLst d fun xs => ∃ ns : List Int, xs = ns.map Da.int ∧ ∀ ms : List Int, ms.Perm ns → ms.Pairwise (· ≤ ·) → Q (.lst (ms.map Da.int)) :=
  ⟨rSortedI S.K, fun X ok => by have z := cr_sortedI (X := X); rw [ok.K] at z; exact z, fun PX Γ σ Hf H ds vs Q k st r h hk => by
    obtain ⟨d, rfl, h⟩ := as1_ h
    obtain ⟨v, rfl, r1⟩ := r.one
    obtain ⟨xs, rfl, ns, rfl, q⟩ := asLst_ h
    obtain ⟨l, vs, rfl, s1, r2⟩ := r1.lst_
    rw [ints_of r2] at s1
    refine ⟨l, ns, rfl, st.ex.sl s1, fun ms p h1 h2 hp => ?_⟩
    obtain ⟨st3, e3⟩ := st.alloc (o := .lst (ms.map V.int)) hp
    exact hk (.lst (ms.map Da.int)) _ _ _ e3 st3 ⟨_, _, rfl, SqL.of upd_same, reps_ints ms⟩ (q ms h1 h2)⟩
end
end GX

namespace GX
open PySem PySem.Spec PyProof.Rows L2
/-! ## data that can be compared -/
mutual
def Da.okE : Da → Bool
  | .str x => PyData.strOk x
  | .lst xs | .tup xs => Da.okEs xs
  | .non | .bl _ | .int _ => true
  | _ => false
def Da.okEs : List Da → Bool
  | [] => true
  | x :: xs => x.okE && Da.okEs xs
end
mutual
theorem Da.py_okE : ∀ d : Da, d.okE = true → d.pure = true ∧ d.py.canLay0 = true
  | .lst xs, h => by unfold Da.okE at h; unfold Da.py Da.pure PyData.canLay0; exact Da.pys_okE xs h
  | .tup xs, h => by unfold Da.okE at h; unfold Da.py Da.pure PyData.canLay0; exact Da.pys_okE xs h
  | .str x, h => by unfold Da.okE at h; unfold Da.py Da.pure PyData.canLay0; exact ⟨rfl, h⟩
  | .int x, _ => by unfold Da.py Da.pure PyData.canLay0; exact ⟨rfl, rfl⟩
  | .bl x, _ => by unfold Da.py Da.pure PyData.canLay0; exact ⟨rfl, rfl⟩
  | .non, _ => by unfold Da.py Da.pure PyData.canLay0; exact ⟨rfl, rfl⟩
  | .dct _, h => by unfold Da.okE at h; cases h
  | .ins _ _, h => by unfold Da.okE at h; cases h
  | .lm _, h => by unfold Da.okE at h; cases h
  | .clo _ _, h => by unfold Da.okE at h; cases h
  | .ty _, h => by unfold Da.okE at h; cases h
theorem Da.pys_okE : ∀ ds : List Da, Da.okEs ds = true → Da.pures ds = true ∧ PyData.canLayAll0 (Da.pys ds) = true
  | [], _ => by unfold Da.pys Da.pures PyData.canLayAll0; exact ⟨rfl, rfl⟩
  | d :: ds, h => by
    unfold Da.okEs at h
    rw [Bool.and_eq_true] at h
    obtain ⟨a1, a2⟩ := Da.py_okE d h.1
    obtain ⟨b1, b2⟩ := Da.pys_okE ds h.2
    unfold Da.pys Da.pures PyData.canLayAll0
    rw [a1, a2, b1, b2]
    exact ⟨rfl, rfl⟩
end
theorem eqOk_of {d : Da} (h : d.okE = true) (h2 : d.dp ≤ 60) : EqOk d := by
  obtain ⟨a, b⟩ := Da.py_okE d h
  refine ⟨a, ?_⟩
  unfold SeqAt.shaped
  rw [b, Da.py_depth, Bool.true_and]
  exact decide_eq_true (by omega)
mutual
theorem Da.eqv_refl : ∀ d : Da, d.okE = true → PyData.eqv d.py d.py = true
  | .lst xs, h => by unfold Da.okE at h; unfold Da.py PyData.eqv; exact Da.eqvs_refl xs h
  | .tup xs, h => by unfold Da.okE at h; unfold Da.py PyData.eqv; exact Da.eqvs_refl xs h
  | .str x, _ => by unfold Da.py PyData.eqv; exact beq_self_eq_true _
  | .int x, _ => by unfold Da.py PyData.eqv; exact beq_self_eq_true _
  | .bl x, _ => by unfold Da.py PyData.eqv; exact beq_self_eq_true _
  | .non, _ => by unfold Da.py PyData.eqv; rfl
  | .dct _, h => by unfold Da.okE at h; cases h
  | .ins _ _, h => by unfold Da.okE at h; cases h
  | .lm _, h => by unfold Da.okE at h; cases h
  | .clo _ _, h => by unfold Da.okE at h; cases h
  | .ty _, h => by unfold Da.okE at h; cases h
theorem Da.eqvs_refl : ∀ ds : List Da, Da.okEs ds = true → PyData.eqvAll (Da.pys ds) (Da.pys ds) = true
  | [], _ => by unfold Da.pys PyData.eqvAll; rfl
  | d :: ds, h => by
    unfold Da.okEs at h
    rw [Bool.and_eq_true] at h
    unfold Da.pys PyData.eqvAll
    rw [Da.eqv_refl d h.1, Da.eqvs_refl ds h.2]; rfl
end
theorem eqv_tup0 (xs : List Da) : PyData.eqv (Da.tup xs).py (Da.tup []).py = xs.isEmpty := by
  cases xs with
  | nil => rfl
  | cons x xs => unfold Da.py PyData.eqv Da.pys PyData.eqvAll; rfl
theorem eqv_lst0 (xs : List Da) : PyData.eqv (Da.lst xs).py (Da.lst []).py = xs.isEmpty := by
  cases xs with
  | nil => rfl
  | cons x xs => unfold Da.py PyData.eqv Da.pys PyData.eqvAll; rfl
theorem okEs_ints : ∀ ns : List Int, Da.okEs (ns.map Da.int) = true
  | [] => rfl
  | n :: ns => by unfold List.map Da.okEs; rw [okEs_ints ns]; rfl
theorem okEs_of {ds : List Da} (h : ∀ d ∈ ds, d.okE = true) : Da.okEs ds = true := by
  induction ds with
  | nil => rfl
  | cons d ds ih =>
    unfold Da.okEs
    rw [h d List.mem_cons_self, ih fun x hx => h x (List.mem_cons_of_mem _ hx)]; rfl
theorem dps_of {ds : List Da} {n : Nat} (h : ∀ d ∈ ds, d.dp ≤ n) : Da.dps ds ≤ n := by
  induction ds with
  | nil => exact Nat.zero_le _
  | cons d ds ih =>
    unfold Da.dps
    exact Nat.max_le.mpr ⟨h d List.mem_cons_self, ih fun x hx => h x (List.mem_cons_of_mem _ hx)⟩
theorem okSs_of {ds : List Da} (h : ∀ d ∈ ds, d.okS) : Da.okSs ds := by
  induction ds with
  | nil => exact True.intro
  | cons d ds ih => exact ⟨h d List.mem_cons_self, ih fun x hx => h x (List.mem_cons_of_mem _ hx)⟩
theorem szs_of {ds : List Da} {n : Nat} (h : ∀ d ∈ ds, d.sz ≤ n) : Da.szs ds ≤ ds.length * (n + 1) := by
  induction ds with
  | nil => exact Nat.zero_le _
  | cons d ds ih =>
    unfold Da.szs
    have := ih fun x hx => h x (List.mem_cons_of_mem _ hx)
    have := h d List.mem_cons_self
    rw [List.length_cons, Nat.add_mul]
    omega
/-! ## a def that makes lambdas -/
structure LamTab (K : PySem.W.Frag) (mg : Str → Option Value) (base : Heap) (Tq : List (Addr × Str)) (x : Str) (st : Stmt) (q : Str) : Prop where
  ex : ∃ c t, (∀ f cdv, mg x = some (.ref f) → CdIs K x x st f cdv → cdv = .ref c) ∧ LamX.TabB base mg c t ∧ (t, q) ∈ Tq ∧ ∀ p ∈ Tq, p.1 = t → p.2 = q
theorem ev_lamT {S : Sx} {Γ : List Slot} {Q : Da → Prop} {x q : Str} {st : Stmt} {params : Arguments} {body : Expr} {scope : Scope} {pos : Pos} (t : LamTab S.K S.mg S.base S.T x st q) (hc : ∃ f, S.mg x = some (.ref f) ∧ CdIs S.K x x st f S.cd) (hq : S.ql ++ "<lambda>" = q) (h : Q (.lm ⟨q, params, body, scope⟩))
    (hcl : ∀ env, closureFor scope env = pure [] := by intro _; rfl) (hdef : ∀ env, defaultsOf params env = ([], []) := by intro _; rfl) : EvE S Γ (.Lambda params body scope pos) Q := by
  obtain ⟨c, tb, h1, h2, h3, h4⟩ := t.ex
  obtain ⟨f, hm, hi⟩ := hc
  exact ev_lam (L := ⟨q, params, body, scope⟩) h3 h4 (h1 f _ hm hi) hq h2 h hcl hdef
theorem lamTab_of {K : PySem.W.Frag} {mg : Str → Option Value} {base h : Heap} {Tq : List (Addr × Str)} {x q : Str} {st : Stmt} {a c t : Addr} {oc kV dc pm ct : Value} {od an : Option Addr} {sl : Array (Option Value)} (KX : K.In h) (hm : mg x = some (.ref a))
    (l : K.lookup a = some ⟨oc, od, .func (PySem.W.fnOf x x (defArgs st) (defBody st) (defScope st) .none kV dc pm an (.ref c) ct), sl⟩) (hd : PySem.W.codeHdIn K c t = true) (HB : ∀ p ∈ Tq, ∀ c, PySem.W.CodeHd h c p.1 → LamX.TabB base mg c p.1) (m : (t, q) ∈ Tq) (u : ∀ p ∈ Tq, p.1 = t → p.2 = q) : LamTab K mg base Tq x st q := by
  refine ⟨c, t, fun f cdv hf ⟨oc', od', kV', doc', pm', an', ct', osl', lk⟩ => ?_, HB _ m c (PySem.W.codeHd_of_K KX hd), m, u⟩
  rw [hm] at hf
  cases hf
  rw [l] at lk
  cases lk
  rfl
theorem LamG.mono {P : Program} {w : World} {K : PySem.W.Frag} {mg : Str → Option Value} {base : Heap} {j k : Nat} {L : LamD} {ps : List Str} {sp : Sp} (G : LamG P w K mg base j L ps sp) (h : j ≤ k) : LamG P w K mg base k L ps sp :=
  ⟨G.len, G.co, fun A outer s H f c' pm ctv args us vs Q E hr => G.run A outer s H f c' pm ctv args us vs Q E (hr.mono h)⟩
theorem km_none {K : Params → PySem.W.Frag} {as : List Addr} {e : ∀ P, as = (K P).map (·.1)} {ts : List Addr} {w : World} {h : Heap} (Y : (PySem.W.kmHook K as e ts).says w h) {t : Addr} (n : as.contains t = false) : (K w.params).lookup t = none := by
  cases c : (K w.params).lookup t with
  | none => rfl
  | some o =>
    have m : t ∈ as := by
      rw [e w.params]
      exact List.mem_map.mpr ⟨(t, o), He.lookup_mem c, rfl⟩
    rw [List.contains_iff_mem.mpr m] at n
    cases n
theorem tabAt_of {K : PySem.W.Frag} {h : Heap} {c t : Addr} (KX : K.In h) (hd : PySem.W.codeHdIn K c t = true) (em : h.get? t = some (PySem.W.tabObj #[])) : TabAt h t := ⟨⟨c, PySem.W.codeHd_of_K KX hd⟩, em⟩
/-- the law's own def, at the end, with tables -/
theorem law_endT {P : Program} {w : World} {K : PySem.W.Frag} {mg : Str → Option Value} {k : Nat} {fa : Addr} {x p : Str} {st : Stmt} {spec : Fd} {h : Heap} {Tq : List (Addr × Str)} {T : Heap → Prop} (tt : (∀ base : Heap, (∀ p ∈ Tq, ∀ c, PySem.W.CodeHd h c p.1 → LamX.TabB base mg c p.1) → T base) ∧ (∀ p ∈ Tq, TabAt h p.1) ∧ (∀ p ∈ Tq, K.lookup p.1 = none) ∧ Def K mg x st)
    (KX : K.In h)
    (bp : ∀ (kV doc pm : Value) (an : Option Addr) (cdv ct : Value) (us : List Value), us.length = [p].length → bindArgs (PySem.W.fnOf x x (defArgs st) (defBody st) (defScope st) .none kV doc pm an cdv ct) ⟨us, []⟩ = pure ([p].zip us))
    (ok : ∀ base : Heap, T base → Cal P w K mg base x x st k [p] (SpD K Tq spec)) (hm : mg x = some (.ref fa)) :
    ∃ (K : PySem.W.Frag) (fd : FuncData) (Tq : List (Addr × Str)), K.In h ∧ (∀ p ∈ Tq, TabAt h p.1) ∧ (∀ p ∈ Tq, K.lookup p.1 = none) ∧ (∀ (s : Shared) (u : Value), BindsTo s fd ⟨[u], []⟩ [(p, u)]) ∧
        ∀ base : Heap, K.In base → base.Ns mainGlobals mg → (∀ p ∈ Tq, ∀ c, PySem.W.CodeHd h c p.1 → LamX.TabB base mg c p.1) → FnG P w K mg base k fa fd [p] (SpD K Tq spec) := by
  obtain ⟨t, hT, hK, f0, fd0, F0, hm0⟩ := tt
  rw [hm] at hm0; cases hm0
  obtain ⟨oc', od', kV', doc', pm', an', cdv', ct', osl', rfl, lk', hcd'⟩ := F0.ex
  refine ⟨K, _, Tq, KX, hT, hK, fun s u => .of_eq (bp kV' doc' pm' an' cdv' ct' [u] rfl), fun base _ _ HB => ?_⟩
  obtain ⟨f, fd, F, hm', G⟩ := (ok base (t base HB)).ex
  rw [hm] at hm'; cases hm'
  obtain ⟨oc, od, kV, doc, pm, an, cdv, ct, osl, rfl, lk, hcd⟩ := F.ex
  rw [lk] at lk'; cases lk'
  exact G
end GX

namespace GX
open PySem PySem.Spec PyProof.Rows L2
/-! ## a list times a number -/
theorem gx_rmul_list (k : Int) (t : Tok) (l : Addr) (its : Array Value) (n : Nat) (dd : Option Addr) (sls : Array (Option Value)) :
    Meets (Builtin.«int.__rmul__» ⟨[.int k t, .ref l], []⟩) (fun _ RR s0 => s0.heap.get? l = some { cls := .type "list", dict := dd, data := .seq its n, slots := sls } ∧ RR (.ok (.ret Value.notImplemented)) s0) :=
  .of_wp fun pr ww AA RR s0 hh => by
    obtain ⟨h0, g0, d0, t0, o0⟩ := s0
    obtain ⟨hget, hh⟩ := hh
    wp_walk using AutoSeq1.wpAny_loadPart' hget
    exact ⟨_, rfl, hh⟩
theorem gx_mul_list (l : Addr) (its : Array Value) (n : Nat) (dd : Option Addr) (sls : Array (Option Value)) (k : Int) (t : Tok) (c0 : ¬(!Builtin.List.listFitsIndex k) = true) (c1 : ¬its.size * k.toNat > (2 ^ 63 - 1) / 8) (c2 : ¬Builtin.List.listTooLong (its.size * k.toNat) = true) :
    Meets (Builtin.«list.__mul__» ⟨[.ref l, .int k t], []⟩) (fun _ RR s0 => s0.heap.get? l = some { cls := .type "list", dict := dd, data := .seq its n, slots := sls } ∧
      RR (.ok (.ret (Value.ref s0.heap.objs.size))) { s0 with heap := s0.heap.push { cls := Value.type "list", data := Data.seq (List.foldl (fun x1 x2 => x1 ++ x2) #[] (List.replicate (if its.isEmpty = true then 0 else k.toNat) its)) }, toks := s0.toks }) :=
  .of_wp fun pr ww AA RR s0 hh => by
    obtain ⟨h0, g0, d0, t0, o0⟩ := s0
    obtain ⟨hget, hh⟩ := hh
    have hsz := AutoListH.joined_fits c2
    wp_walk using AutoSeq1.wpAny_loadPart' hget
    refine wpAny_ite_false (decide_eq_false (Nat.not_lt.mpr hsz)) ?_
    wp_walk using AutoSeq1.wpAny_loadPart' hget
    exact ⟨_, rfl, hh⟩
def rRepS (K : PySem.W.Frag) : R2 := fun x y H Q => ∃ l k xs, x = .ref l ∧ y = .int k ∧ SqL K H l xs ∧ 0 ≤ k ∧ k < 100000 ∧ xs.length * k.toNat ≤ sizeLine ∧ ∀ p, H p = none → Q (.ref p) (upd H p (.lst (List.replicate k.toNat xs).flatten))
theorem op_repS {X : Cx} : OpR X (binaryOp .Mult) (rRepS X.K) := by
  intro pins s σ H x y v u Q I rx ry h
  obtain ⟨l, k, xs, rfl, rfl, hL, h1, h2, hz, q⟩ := h
  cases rx
  obtain ⟨t, rfl⟩ := ry
  obtain ⟨its, r, ⟨⟨cls, dd, data, sl⟩, n, ho, hc, hdd, hd⟩, hs⟩ := I.list hL
  simp only at hc hd
  subst hc hd
  have e1 : its.toArray.size * k.toNat ≤ sizeLine := by rw [List.size_toArray, ← r.length]; exact hz
  have e2 : ¬ its.toArray.size * k.toNat > (2 ^ 63 - 1) / 8 := by
    have z : (sizeLine : Nat) ≤ (2 ^ 63 - 1) / 8 := by decide
    omega
  have e3 : ¬ (!Builtin.List.listFitsIndex k) = true := by rw [fitsIndex_both (by omega) (by omega)]; exact Bool.false_ne_true
  have e4 : ¬ Builtin.List.listTooLong (its.toArray.size * k.toNat) = true := by rw [notLongL e1]; exact Bool.false_ne_true
  have e5 : List.foldl (fun x1 x2 => x1 ++ x2) #[] (List.replicate (if its.toArray.isEmpty = true then 0 else k.toNat) its.toArray) = (List.replicate k.toNat its).flatten.toArray := by
    rw [size_rep]
    cases its with
    | nil => simp
    | cons a r' => rw [if_neg (by simp)]
  refine wpAny_binaryOp_repeat_ref (T := "list") (U := "int") (by decide) ⟨_, ho, rfl⟩ (fun s' => typeIs_int s' k t) noFill_list_mul F.fills_int_mul F.slot_int_rmul repeat_list F.slot_int_index.lookup
    (call_meets F.slot_int_rmul (typeIs_int s k t) F.entry_int_rmul (F.args_int_rmul_2 _ _) (gx_rmul_list k t l its.toArray n dd sl)
      ⟨ho, rfl, ⟨_, ho, rfl⟩, call_meets F.slot_list_mul ⟨_, ho, rfl⟩ F.entry_list_mul (F.args_list_mul_2 _ _) (gx_mul_list l its.toArray n dd sl k t e3 e2 e4) ⟨ho, ?_⟩⟩)
  rw [e5]
  exact ⟨.ref _, _, I.lnew (t' := s.toks) (r.rep k.toNat) (by rw [PyProof.Rows.lm_len_rep_flat, Nat.mul_comm]; exact hz), rfl, q _ I.fresh⟩
theorem reps_rep {K : PySem.W.Frag} {H : Hp} {ds : List Da} {vs : List V} (r : Reps K H ds vs) : ∀ n : Nat, Reps K H (List.replicate n ds).flatten (List.replicate n vs).flatten
  | 0 => rfl
  | n + 1 => by
    rw [List.replicate_succ, List.replicate_succ, List.flatten_cons, List.flatten_cons]
    exact Reps.app (reps_rep r n) r
@[reducible] def mulQ (x y : Da) (Q : Da → Prop) : Prop := match x, y with
  | .int i, .int j => CMul i j ∧ Q (.int (i * j))
  | .lst ds, .int k => (0 ≤ k ∧ k < 100000 ∧ ds.length * k.toNat ≤ 100000) ∧ Q (.lst (List.replicate k.toNat ds).flatten)
  | _, _ => False
section
variable {S : Sx}
theorem g_mulD : OpG S (binaryOp .Mult) mulQ :=
  ⟨fun x y H Q => rI CMul (fun i j => .int (i * j)) x y H Q ∨ rRepS S.K x y H Q, fun X ok => OpR.or op_mul (by have z := op_repS (X := X); rw [ok.K] at z; exact z), fun PX Γ σ Hf H x y v u Q k st rx ry hr hk => by
    unfold mulQ at hr
    split at hr
    · rename_i i j
      exact .inl ⟨i, j, rx, ry, hr.1, hk (.int (i * j)) _ Hf H (Sub.refl _) st rfl hr.2⟩
    · rename_i ds j
      obtain ⟨l, vs, rfl, s1, r1⟩ := Rep.lst_ rx
      have ry : u = .int j := ry
      subst ry
      refine .inr ⟨l, j, vs, rfl, rfl, st.ex.sl s1, hr.1.1, hr.1.2.1, by rw [r1.len]; exact Nat.le_trans hr.1.2.2 (by decide), fun p hp => ?_⟩
      obtain ⟨st4, e4⟩ := st.alloc (o := .lst (List.replicate j.toNat vs).flatten) hp
      exact hk (.lst (List.replicate j.toNat ds).flatten) _ _ _ e4 st4 ⟨p, _, rfl, SqL.of upd_same, Reps.mono e4 _ _ (reps_rep r1 _)⟩ hr.2
    · exact hr.elim⟩
@[reducible] def intQ (d : Da) (Q : Int → Prop) : Prop := match d with
  | .int i => Q i
  | .bl b => Q (if b then 1 else 0)
  | _ => False
theorem c_intD : CallG S (.type "int") fun ds Q => as1 ds fun d => intQ d fun i => Q (.int i) := .keep _ (fun _ _ => call_int1) fun Hf H ds vs Q k _ r h hk => by
  obtain ⟨d, rfl, h⟩ := as1_ h
  obtain ⟨v, rfl, r1⟩ := r.one
  have h2 : intQ d fun i => Q (Da.int i) := h
  clear h
  unfold intQ at h2
  split at h2
  · rename_i i
    exact .inl ⟨i, congrArg (· :: []) r1, hk (.int i) _ rfl h2⟩
  · rename_i b
    exact .inr ⟨b, congrArg (· :: []) r1, hk (.int (if b then 1 else 0)) _ rfl h2⟩
  · exact h2.elim
end
end GX

namespace GX
open PySem PySem.Spec PyProof.Rows L2
section
variable {S : Sx} {Γ : List Slot} {e elt tg it : Expr} {ifs : List Expr} {D : EnG} {p pos spos : Pos} {x : Str} {i : Nat} {gs : List Comprehension} {scope : Scope}
theorem sw_cell {env : Env} {l : Nat} (hy : env.scope.names.lookup x = some .cell) : swapsWith (.ListComp elt gs scope pos) (some (.Name x p)) l env = pure false := by
  have ky : env.kindOf x = some .cell := hy
  unfold swapsWith
  simp only [ky]
  have h : (some NameKind.cell == some NameKind.local) = false := by decide
  rw [h, Bool.and_false, Bool.false_and, Bool.false_and]
/-- x = [..], x a name that an inner block reads -/
theorem es_setLC (hN : S.N[i]? = some x) (hx : S.sc.names.lookup x = some .cell) (h : EvE S Γ (.ListComp elt gs scope pos) fun d => D.nx (Γ.set i (.dat d))) (hst : S.stor x = true := by rfl) : EvS S Γ (.Assign [.Name x p] (.ListComp elt gs scope pos) spos) D :=
  es_of (fun X ok => ps_set (i := i) (by rw [ok.N]; exact ok.nd) (by rw [ok.N]; exact hN) (by rw [ok.sc]; exact .inr hx) (pu ok) (sw_cell (by rw [ok.sc]; exact hx)) (ok.fn x hst)) fun PX σ H Hf D' s k =>
    h PX σ H Hf _ s fun d v Hf' H' e1 s1 r q => k.nx _ _ Hf' H' e1 (s1.set r i) q
end
end GX

namespace GX
open PySem PySem.Spec PyProof.Rows L2
/-! ## sorted, min, max of data of one kind -/
def rSortD (K : PySem.W.Frag) : List V → Hp → VK → Prop := fun vs H Q => ∃ (a : Addr) (ps : List (PyData × V)), vs = [V.ref a] ∧ SqL K H a (ps.map (·.2)) ∧ (∀ p ∈ ps, Dp K H p.2 p.1) ∧ PySem.W.AllAlike (ps.map (·.1)) ∧ PySem.W.Sortable (ps.map (·.1)) ∧ (∀ p ∈ ps, p.1.depth ≤ 60) ∧
  ∀ q, H q = none → Q (.ref q) (upd H q (.lst ((ps.mergeSort (PySem.W.dataLe false (·.1))).map (·.2))))
theorem each_vals {ps : List (PyData × V)} : ∀ {us : List Value}, Vals (ps.map (·.2)) us → PySem.W.EachIs (fun u p => RelV p.2 u) us ps := by
  induction ps with
  | nil => intro us r; cases r; exact .nil
  | cons p ps ih =>
    intro us r
    cases r with
    | cons h t => exact .cons h (ih t)
theorem vals_each {ps : List (PyData × V)} {us : List Value} (e : PySem.W.EachIs (fun u p => RelV p.2 u) us ps) : Vals (ps.map (·.2)) us := by
  induction e with
  | nil => exact .nil
  | cons h _ ih => exact .cons h ih
theorem each_reads {X : Cx} {pins : List (Addr × Obj)} {σ : L2.St} {H : Hp} {s : Shared} (I : Inv X pins σ H s) {ps : List (PyData × V)} {us : List Value} (e : PySem.W.EachIs (fun u p => RelV p.2 u) us ps) (h : ∀ p ∈ ps, Dp X.K H p.2 p.1) :
    PySem.W.EachIs (fun u p => ∃ as, Reads s.heap u p.1 as) us ps := by
  induction e with
  | nil => exact .nil
  | cons r _ ih => exact .cons (Dp.reads I _ _ _ (h _ List.mem_cons_self) r) (ih fun p hp => h p (List.mem_cons_of_mem _ hp))
theorem cr_sortD {X : Cx} (hu : X.A.units + 100 < cLine) : CallR X (.builtin "sorted") (rSortD X.K) := by
  intro pins s σ H vs us Q I r h
  obtain ⟨a, ps, rfl, hs, hd, h1, h2, h3, q⟩ := h
  obtain ⟨its, rv, hl, hz⟩ := I.list hs
  rw [Vals.ref1 r]
  have e := each_vals rv
  refine PySem.W.sorted_data (enc := fun p : PyData × V => p.1) hl.isList e (each_reads I e hd) h1 h2 (by rw [List.length_map] at hz; exact hz) (fun b hb => by have := h3 b hb; omega) fun out hlen ho => ?_
  obtain ⟨ep, he'⟩ := PyProof.Rows.sortedAll_at s.heap its out.toArray
  have hz2 : ((ps.mergeSort (PySem.W.dataLe false (·.1))).map (·.2)).length ≤ sizeLine := by
    rw [List.length_map, List.length_mergeSort]
    rw [List.length_map] at hz
    exact hz
  exact ⟨.ref _, upd H (s.heap.objs.size + 1) (.lst ((ps.mergeSort (PySem.W.dataLe false (·.1))).map (·.2))), I.laid (t' := s.toks) (fun _ _ => PyProof.Rows.sortedAll_old) (Nat.le_succ _) ⟨hz2, out, ep, vals_each ho, he'⟩, rfl, q _ (I.hok.fresh (Nat.le_succ _))⟩
/-- the rows of data and values -/
theorem depthAll_le {ds : List PyData} {n : Nat} (h : ∀ d ∈ ds, d.depth ≤ n) : PyData.depthAll ds ≤ n := by
  induction ds with
  | nil => unfold PyData.depthAll; exact Nat.zero_le _
  | cons d ds ih =>
    unfold PyData.depthAll
    exact Nat.max_le.mpr ⟨h d List.mem_cons_self, ih fun x hx => h x (List.mem_cons_of_mem _ hx)⟩
theorem dpAll_of {K : PySem.W.Frag} {H : Hp} : ∀ {ps : List (PyData × V)}, (∀ p ∈ ps, Dp K H p.2 p.1) → DpAll K H (ps.map (·.2)) (ps.map (·.1))
  | [], _ => .nil
  | p :: ps, h => .cons (h p List.mem_cons_self) (dpAll_of fun x hx => h x (List.mem_cons_of_mem _ hx))
/-- the least or greatest one: M of data is Mv -/
def rBestD (K : PySem.W.Frag) (M : PyData → List PyData → PyData) : List V → Hp → VK → Prop := fun vs H Q => ∃ (a : Addr) (p0 : PyData × V) (ps : List (PyData × V)), vs = [V.ref a] ∧ (SqL K H a ((p0 :: ps).map (·.2)) ∨ SqT K H a ((p0 :: ps).map (·.2))) ∧ (∀ p ∈ p0 :: ps, Dp K H p.2 p.1) ∧ PySem.W.AlikeAll ((p0 :: ps).map (·.1)) ∧
  (∀ p ∈ p0 :: ps, p.1.depth ≤ 60 ∧ p.1.canLay0 = true) ∧ ∀ p ∈ p0 :: ps, p.1 = M p0.1 (ps.map (·.1)) → Q p.2 H
theorem best_end {X : Cx} {pins : List (Addr × Obj)} {σ : L2.St} {H : Hp} {s : Shared} (I : Inv X pins σ H s) {ps : List (PyData × V)} {its : List Value} {M : PyData} {Q : VK} (rv : Vals (ps.map (·.2)) its) (hd : ∀ p ∈ ps, Dp X.K H p.2 p.1) (hc : ∀ p ∈ ps, p.1.depth ≤ 60 ∧ p.1.canLay0 = true) (q : ∀ p ∈ ps, p.1 = M → Q p.2 H)
    {i : Nat} {v : Value} {h' : Heap} {tk : Nat} {bs : List Addr} (hv : its.toArray[i]? = some v) (rd : Reads h' v M bs) (k : ∀ b o, s.heap.get? b = some o → h'.get? b = some o) : EP X pins σ Q v { s with heap := h', toks := tk } := by
  have hv' : its[i]? = some v := by simpa using hv
  have hi : i < ps.length := by
    have z := (List.getElem?_eq_some_iff.mp hv').1
    have e := rv.length
    rw [List.length_map] at e
    omega
  have hp : ps[i] ∈ ps := List.getElem_mem hi
  obtain ⟨u, hu, ru⟩ := rv.get (i := i) (x := ps[i].2) (by rw [List.getElem?_map, List.getElem?_eq_getElem hi]; rfl)
  rw [hv'] at hu
  cases hu
  obtain ⟨as, r1⟩ := Dp.reads I _ _ _ (hd _ hp) ru
  have e := (PySem.Reads.unique (PyProof.Rows.Reads.keeps k r1) _ _ rd).1
  exact ⟨ps[i].2, H, I.kept k, ru, q _ hp e⟩
theorem cr_minD {X : Cx} (hc : X.calm = true) (hu : X.A.units + 100 < cLine) : CallR X (.builtin "min") (rBestD X.K PySem.W.minD) := by
  intro pins s σ H vs us Q I r h
  obtain ⟨a, p0, ps, rfl, hs, hd, h1, h2, q⟩ := h
  rw [Vals.ref1 r]
  have hdep : PyData.depthAll ((p0 :: ps).map (·.1)) ≤ 60 := depthAll_le fun d hd => by
    obtain ⟨p, hp, rfl⟩ := List.mem_map.mp hd
    exact (h2 p hp).1
  rcases hs with hs | hs
  · obtain ⟨its, rv, hl, hz⟩ := I.list hs
    obtain ⟨as, ra⟩ := Dp.readsAll I _ _ _ (dpAll_of hd) rv
    exact PySem.W.min_list_data (I.ok.hd hc) hl.isList ra h1 (by show X.A.units + 1 + PyData.depthAll ((p0 :: ps).map (·.1)) < cLine; omega) fun i v h' tk bs hv rd k => best_end I rv hd h2 q hv rd k
  · obtain ⟨its, rv, hl, hz⟩ := I.tuple hs
    obtain ⟨as, ra⟩ := Dp.readsAll I _ _ _ (dpAll_of hd) rv
    exact PySem.W.min_tuple_data (I.ok.hd hc) (show s.heap.IsTuple a its.toArray from hl) ra h1 (by show X.A.units + 1 + PyData.depthAll ((p0 :: ps).map (·.1)) < cLine; omega) fun i v h' tk bs hv rd k => best_end I rv hd h2 q hv rd k
theorem cr_maxD {X : Cx} (hc : X.calm = true) (hu : X.A.units + 100 < cLine) : CallR X (.builtin "max") (rBestD X.K PySem.W.maxD) := by
  intro pins s σ H vs us Q I r h
  obtain ⟨a, p0, ps, rfl, hs, hd, h1, h2, q⟩ := h
  rw [Vals.ref1 r]
  have hdep : PyData.depthAll ((p0 :: ps).map (·.1)) ≤ 60 := depthAll_le fun d hd => by
    obtain ⟨p, hp, rfl⟩ := List.mem_map.mp hd
    exact (h2 p hp).1
  rcases hs with hs | hs
  · obtain ⟨its, rv, hl, hz⟩ := I.list hs
    obtain ⟨as, ra⟩ := Dp.readsAll I _ _ _ (dpAll_of hd) rv
    exact PySem.W.max_list_data (I.ok.hd hc) hl.isList ra h1 (by show X.A.units + 1 + PyData.depthAll ((p0 :: ps).map (·.1)) < cLine; omega) fun i v h' tk bs hv rd k => best_end I rv hd h2 q hv rd k
  · obtain ⟨its, rv, hl, hz⟩ := I.tuple hs
    obtain ⟨as, ra⟩ := Dp.readsAll I _ _ _ (dpAll_of hd) rv
    exact PySem.W.max_tuple_data (I.ok.hd hc) (show s.heap.IsTuple a its.toArray from hl) ra h1 (by show X.A.units + 1 + PyData.depthAll ((p0 :: ps).map (·.1)) < cLine; omega) fun i v h' tk bs hv rd k => best_end I rv hd h2 q hv rd k
/-! in the layer -/
theorem zip_reps {K : PySem.W.Frag} {H : Hp} : ∀ {ds : List Da} {vs : List V}, Reps K H ds vs → (ds.zip vs).map (·.2) = vs ∧ (ds.zip vs).map (·.1) = ds ∧ ∀ p ∈ ds.zip vs, Rep K H p.1 p.2
  | [], _, r => by unfold Reps at r; subst r; exact ⟨rfl, rfl, fun _ h => nomatch h⟩
  | d :: ds, _, r => by
    obtain ⟨v, vs, rfl, r1, r2⟩ := r
    obtain ⟨a, b, c⟩ := zip_reps r2
    rw [List.zip_cons_cons]
    refine ⟨by rw [List.map_cons, a], by rw [List.map_cons, b], fun p hp => ?_⟩
    rcases List.mem_cons.mp hp with rfl | hp
    · exact r1
    · exact c p hp
theorem reps_of_pairs {K : PySem.W.Frag} {H : Hp} : ∀ {ps : List (Da × V)}, (∀ p ∈ ps, Rep K H p.1 p.2) → Reps K H (ps.map (·.1)) (ps.map (·.2))
  | [], _ => rfl
  | p :: ps, h => ⟨p.2, _, rfl, h p List.mem_cons_self, reps_of_pairs fun x hx => h x (List.mem_cons_of_mem _ hx)⟩
@[reducible] def leD : Da → Da → Bool := PySem.W.dataLe false Da.py
structure SortOk (xs : List Da) : Prop where
  al : PySem.W.AllAlike (xs.map Da.py)
  so : PySem.W.Sortable (xs.map Da.py)
  ok : ∀ d ∈ xs, d.okE = true ∧ d.dp ≤ 60
section
variable {S : Sx}
theorem c_sortedD : CallG S (.builtin "sorted") fun ds Q => as1 ds fun d => asLst d fun xs => SortOk xs ∧ Q (.lst (xs.mergeSort leD)) :=
  ⟨rSortD S.K, fun X ok => by have z := cr_sortD (X := X) (by have := ok.un; omega); rw [ok.K] at z; exact z, fun PX Γ σ Hf H ds vs Q k st r h hk => by
    obtain ⟨d, rfl, h⟩ := as1_ h
    obtain ⟨v, rfl, r1⟩ := r.one
    obtain ⟨xs, rfl, so, q⟩ := asLst_ h
    obtain ⟨l, vs, rfl, s1, r2⟩ := r1.lst_
    obtain ⟨z1, z2, z3⟩ := zip_reps r2
    let ps : List (PyData × V) := (xs.zip vs).map fun p => (p.1.py, p.2)
    have p2 : ps.map (·.2) = vs := by show ((xs.zip vs).map _).map _ = _; rw [List.map_map]; exact z1
    have p1 : ps.map (·.1) = xs.map Da.py := by
      show ((xs.zip vs).map _).map _ = _
      rw [List.map_map]
      have e : ((fun p : PyData × V => p.1) ∘ fun p : Da × V => (p.1.py, p.2)) = Da.py ∘ (·.1) := rfl
      rw [e, ← List.map_map, z2]
    have hin : ∀ p ∈ xs.zip vs, p.1 ∈ xs := fun p hp => by rw [← z2]; exact List.mem_map.mpr ⟨p, hp, rfl⟩
    refine ⟨l, ps, rfl, by rw [p2]; exact st.ex.sl s1, fun p hp => ?_, by rw [p1]; exact so.al, by rw [p1]; exact so.so, fun p hp => ?_, fun p hp => ?_⟩
    · obtain ⟨y, hy, rfl⟩ := List.mem_map.mp hp
      exact Rep.dp _ _ (Da.py_okE _ (so.ok _ (hin y hy)).1).1 (Rep.mono st.ex _ _ (z3 y hy))
    · obtain ⟨y, hy, rfl⟩ := List.mem_map.mp hp
      show y.1.py.depth ≤ 60
      rw [Da.py_depth]; exact (so.ok _ (hin y hy)).2
    · obtain ⟨st3, e3⟩ := st.alloc (o := .lst ((ps.mergeSort (PySem.W.dataLe false (·.1))).map (·.2))) hp
      have m1 : ps.mergeSort (PySem.W.dataLe false (·.1)) = ((xs.zip vs).mergeSort fun a b => leD a.1 b.1).map fun p => (p.1.py, p.2) := (List.map_mergeSort (f := fun p : Da × V => (p.1.py, p.2)) (r := fun a b => leD a.1 b.1) (fun _ _ _ _ => rfl)).symm
      have m2 : ((xs.zip vs).mergeSort fun a b => leD a.1 b.1).map (·.1) = xs.mergeSort leD := by
        rw [List.map_mergeSort (s := leD) (fun _ _ _ _ => rfl), z2]
      refine hk (.lst (xs.mergeSort leD)) _ _ _ e3 st3 ⟨_, _, rfl, SqL.of upd_same, ?_⟩ q
      have m3 : (ps.mergeSort (PySem.W.dataLe false (·.1))).map (·.2) = (((xs.zip vs).mergeSort fun a b => leD a.1 b.1)).map (·.2) := by rw [m1, List.map_map]; rfl
      rw [m3, ← m2]
      exact reps_of_pairs fun p hp => Rep.mono (by rw [← m3]; exact e3) _ _ (z3 p ((List.mem_mergeSort).mp hp))⟩
structure BestOk (xs : List Da) : Prop where
  al : PySem.W.AlikeAll (xs.map Da.py)
  ok : ∀ d ∈ xs, d.okE = true ∧ d.dp ≤ 60
theorem best_any {M : PyData → List PyData → PyData} {f : Value} (hc : ∀ X : Cx, S.Ok X → CallR X f (rBestD X.K M)) : CallG S f fun ds Q => as1 ds fun d => asSeq d fun xs => ∃ x0 r, xs = x0 :: r ∧ BestOk xs ∧ ∀ d ∈ xs, d.py = M x0.py (r.map Da.py) → Q d :=
  .keep (rBestD S.K M) (fun X ok => by have z := hc X ok; rw [ok.K] at z; exact z) fun Hf H ds vs Q k e r h hk => by
    obtain ⟨d, rfl, h⟩ := as1_ h
    obtain ⟨v, rfl, r1⟩ := r.one
    obtain ⟨xs, a, us, rfl, hs, r2, x0, r0, rfl, bo, q⟩ := r1.seq h
    obtain ⟨v0, vs0, rfl, rr0, rr⟩ := r2
    have r2 : Reps S.K Hf (x0 :: r0) (v0 :: vs0) := ⟨v0, vs0, rfl, rr0, rr⟩
    obtain ⟨z1, z2, z3⟩ := zip_reps rr
    let ps : List (PyData × V) := (r0.zip vs0).map fun p => (p.1.py, p.2)
    have p2 : ((x0.py, v0) :: ps).map (·.2) = v0 :: vs0 := by
      show v0 :: ((r0.zip vs0).map _).map _ = _
      rw [List.map_map]; exact congrArg (v0 :: ·) z1
    have p1 : ps.map (·.1) = r0.map Da.py := by
      show ((r0.zip vs0).map _).map _ = _
      rw [List.map_map]
      have e : ((fun p : PyData × V => p.1) ∘ fun p : Da × V => (p.1.py, p.2)) = Da.py ∘ (·.1) := rfl
      rw [e, ← List.map_map, z2]
    have back : ∀ p ∈ (x0.py, v0) :: ps, ∃ d ∈ x0 :: r0, p.1 = d.py ∧ Rep S.K Hf d p.2 := fun p hp => by
      rcases List.mem_cons.mp hp with rfl | hp
      · exact ⟨x0, List.mem_cons_self, rfl, rr0⟩
      · obtain ⟨y, hy, rfl⟩ := List.mem_map.mp hp
        exact ⟨y.1, List.mem_cons_of_mem _ (by rw [← z2]; exact List.mem_map.mpr ⟨y, hy, rfl⟩), rfl, z3 y hy⟩
    refine ⟨a, (x0.py, v0), ps, rfl, by rw [p2]; exact hs.imp e.sl e.st, fun p hp => ?_, ?_, fun p hp => ?_, fun p hp hm => ?_⟩
    · obtain ⟨d, hd, e1, r3⟩ := back p hp
      rw [e1]
      exact Rep.dp _ _ (Da.py_okE _ (bo.ok _ hd).1).1 (Rep.mono e _ _ r3)
    · rw [List.map_cons, p1]; exact bo.al
    · obtain ⟨d, hd, e1, r3⟩ := back p hp
      rw [e1, Da.py_depth]
      exact ⟨(bo.ok _ hd).2, (Da.py_okE _ (bo.ok _ hd).1).2⟩
    · obtain ⟨d, hd, e1, r3⟩ := back p hp
      rw [e1, p1] at hm
      exact hk d _ r3 (q d hd hm)
theorem c_minD (hc : S.calm = true := by rfl) : CallG S (.builtin "min") fun ds Q => as1 ds fun d => asSeq d fun xs => ∃ x0 r, xs = x0 :: r ∧ BestOk xs ∧ ∀ d ∈ xs, d.py = PySem.W.minD x0.py (r.map Da.py) → Q d := best_any fun X ok => cr_minD (ok.calm hc) (by have := ok.un; omega)
theorem c_maxD (hc : S.calm = true := by rfl) : CallG S (.builtin "max") fun ds Q => as1 ds fun d => asSeq d fun xs => ∃ x0 r, xs = x0 :: r ∧ BestOk xs ∧ ∀ d ∈ xs, d.py = PySem.W.maxD x0.py (r.map Da.py) → Q d := best_any fun X ok => cr_maxD (ok.calm hc) (by have := ok.un; omega)
/-! whole numbers -/
theorem alike_int {xs : List Da} (h : ∀ d ∈ xs, ∃ i, d = .int i) : PySem.W.AllAlike (xs.map Da.py) := fun d hd d' hd' => by
  obtain ⟨x, hx, rfl⟩ := List.mem_map.mp hd
  obtain ⟨y, hy, rfl⟩ := List.mem_map.mp hd'
  obtain ⟨i, rfl⟩ := h x hx
  obtain ⟨j, rfl⟩ := h y hy
  rfl
theorem sortOk_int {ns : List Int} : SortOk (ns.map Da.int) := by
  have h : ∀ d ∈ ns.map Da.int, ∃ i, d = .int i := fun d hd => by obtain ⟨i, _, rfl⟩ := List.mem_map.mp hd; exact ⟨i, rfl⟩
  refine ⟨alike_int h, .inr fun d hd => ?_, fun d hd => ?_⟩
  · obtain ⟨x, hx, rfl⟩ := List.mem_map.mp hd
    obtain ⟨i, rfl⟩ := h x hx
    exact ⟨(fun z => nomatch z), (fun _ z => nomatch z)⟩
  · obtain ⟨i, rfl⟩ := h d hd
    exact ⟨rfl, Nat.zero_le _⟩
theorem bestOk_int {ns : List Int} : BestOk (ns.map Da.int) := by
  have h : ∀ d ∈ ns.map Da.int, ∃ i, d = .int i := fun d hd => by obtain ⟨i, _, rfl⟩ := List.mem_map.mp hd; exact ⟨i, rfl⟩
  refine ⟨⟨alike_int h, fun d hd => ?_⟩, fun d hd => ?_⟩
  · obtain ⟨x, hx, rfl⟩ := List.mem_map.mp hd
    obtain ⟨i, rfl⟩ := h x hx
    exact fun z => nomatch z
  · obtain ⟨i, rfl⟩ := h d hd
    exact ⟨rfl, Nat.zero_le _⟩
theorem maxD_int : ∀ {ns : List Int} {m : Int}, ∃ k : Int, PySem.W.maxD (.int m) (ns.map fun n => .int n) = .int k ∧ (k = m ∨ k ∈ ns) ∧ m ≤ k ∧ ∀ n ∈ ns, n ≤ k
  | [], m => ⟨m, rfl, .inl rfl, Int.le_refl _, fun _ h => nomatch h⟩
  | n :: ns, m => by
    unfold PySem.W.maxD
    rw [List.map_cons, List.foldl_cons, PySem.W.dataLt_int]
    by_cases c : m < n
    · rw [decide_eq_true c, if_pos rfl]
      obtain ⟨k, e, h1, h2, h3⟩ := maxD_int (ns := ns) (m := n)
      exact ⟨k, e, .inr (h1.elim (fun z => z ▸ List.mem_cons_self) (List.mem_cons_of_mem _)), by omega, fun x hx => by
        rcases List.mem_cons.mp hx with rfl | hx
        · exact h2
        · exact h3 x hx⟩
    · rw [decide_eq_false c, if_neg (by decide)]
      obtain ⟨k, e, h1, h2, h3⟩ := maxD_int (ns := ns) (m := m)
      exact ⟨k, e, h1.imp id (List.mem_cons_of_mem _), h2, fun x hx => by
        rcases List.mem_cons.mp hx with rfl | hx
        · omega
        · exact h3 x hx⟩
theorem py_ints (ns : List Int) : (ns.map Da.int).map Da.py = ns.map fun n => PyData.int n := by rw [List.map_map]; rfl
/-- max of whole numbers -/
theorem c_maxI (hc : S.calm = true := by rfl) : CallG S (.builtin "max") fun ds Q => as1 ds fun d => asSeq d fun xs => ∃ ns : List Int, xs = ns.map Da.int ∧ ns ≠ [] ∧ ∀ k, k ∈ ns → (∀ n ∈ ns, n ≤ k) → Q (.int k) := by
  obtain ⟨rr, h1, h2⟩ := (c_maxD (S := S) hc).ex
  refine ⟨rr, h1, fun PX Γ σ Hf H ds vs Q k st r h hk => h2 PX Γ σ Hf H ds vs Q k st r ?_ hk⟩
  obtain ⟨d, rfl, h⟩ := as1_ h
  have key : ∀ ns : List Int, ns ≠ [] → (∀ k, k ∈ ns → (∀ n ∈ ns, n ≤ k) → Q (.int k)) → ∃ x0 r, ns.map Da.int = x0 :: r ∧ BestOk (ns.map Da.int) ∧ ∀ d ∈ ns.map Da.int, d.py = PySem.W.maxD x0.py (r.map Da.py) → Q d := fun ns hne q => by
    cases ns with
    | nil => exact absurd rfl hne
    | cons n ns =>
      refine ⟨_, _, rfl, bestOk_int, fun d hd e => ?_⟩
      obtain ⟨i, hi, rfl⟩ := List.mem_map.mp hd
      rw [py_ints] at e
      obtain ⟨k, e2, h1, h2, h3⟩ := maxD_int (ns := ns) (m := n)
      have e3 : PyData.int i = .int k := e.trans e2
      cases e3
      exact q i hi fun x hx => by
        rcases List.mem_cons.mp hx with rfl | hx
        · exact h2
        · exact h3 x hx
  obtain ⟨xs, hx, ns, rfl, hne, q⟩ := asSeq_ h
  have z := key ns hne q
  rcases hx with rfl | rfl
  · exact z
  · exact z
end
/-! ## o[i] += e, sums of the def's own lists -/
def rGetL (K : PySem.W.Frag) : V → V → Hp → VK → Prop := fun o i H Q => ∃ p xs k v, o = .ref p ∧ i = .int k ∧ SqL K H p xs ∧ 0 ≤ k ∧ xs[k.toNat]? = some v ∧ Q v H
theorem get_list {X : Cx} : PGet X (rGetL X.K) := by
  intro pins s σ H o i ov iv Q I ro ri h
  obtain ⟨p, xs, k, v, rfl, rfl, hs, h0, hv, q⟩ := h
  cases ro
  obtain ⟨t, rfl⟩ := ri
  obtain ⟨its, r, pl, hz⟩ := I.list hs
  obtain ⟨w, ew, rw'⟩ := r.get hv
  have hl := (List.getElem?_eq_some_iff.mp hv).1
  have hn := line63
  exact wpAny_getItem_list pl.isList h0 (by omega) (by simpa using ew) ⟨v, H, I, rw', q⟩
section
variable {S : Sx} {Γ : List Slot} {b e : Expr} {D : EnG} {Q : Da → Prop} {p pos spos : Pos} {x : Str} {i : Nat} {A : Addr} {I I' : List Da → Prop}
/-- x[b] += a written number -/
theorem es_augSub {y : Int} {kj} {cpos : Pos} (hN : S.N[i]? = some x) (hv : Vis S.sc x) (hΓ : Γ[i]? = some (.inv A I))
    (h : EvE S Γ b fun j => asInt j fun j => (∀ ds, I ds → 0 ≤ j ∧ ∃ z, ds[j.toNat]? = some (.int z) ∧ I' (ds.set j.toNat (.int (z + y)))) ∧ D.nx (Γ.set i (.inv A I')))
    (hd : (x == ("__debug__" : Str)) = false := by decide) (hcd : (x == ("__classdict__" : Str)) = false := by decide)
    (ha : ∀ ov iv new, augStore b ov iv new = (do holding [new, ov, iv] (setItem ov iv new); release [new, ov, iv] []; pure .next) := by intros; rfl) :
    EvS S Γ (.AugAssign (.Subscript (.Name x p) b pos) .Add (.Constant (.int y) kj cpos) spos) D := by
  refine es_of (t := tAugS (tVar i) (tU S b) (tC (.int y)) (rGetL S.K) (ipI fun i j => i + j) rSetL) (fun X ok => ?_) fun PX σ H Hf D' s k => ?_
  · have z := ps_augS (pos := spos) (tpos := pos) (pe_var (X := X) (pos := p) (i := i) (by rw [ok.N]; exact hN) (by rw [ok.sc]; exact hv) hd hcd) (pu (e := b) ok) get_list (pe_int (i := y) (j := kj) (pos := cpos)) ip_add set_list ha
    rw [ok.K] at z
    exact z
  · refine ⟨.ref A, slot_of s hΓ, h PX σ H Hf _ s fun j u Hf1 H1 e1 s1 r1 q1 => ?_⟩
    obtain ⟨j, rfl, q2, q3⟩ := asInt_ q1
    obtain ⟨_, _, vs, ds, hA, rr, hI⟩ := s1.own hΓ
    obtain ⟨h0, z, hz, hI'⟩ := q2 ds hI
    have r1 : u = .int j := r1
    subst r1
    obtain ⟨w, hw, rw'⟩ := rr.get hz
    have rw' : w = .int z := rw'
    subst rw'
    have hj : j.toNat < vs.length := (List.getElem?_eq_some_iff.mp hw).1
    refine ⟨A, vs, j, _, rfl, rfl, SqL.of hA, h0, hw, z, y, rfl, rfl, A, vs, j, j.toNat, rfl, rfl, hA, by unfold ixN; rw [if_pos h0, if_pos (by omega)], ?_⟩
    have st := s1.put hΓ (I' := I') (xs := ds.set j.toNat (.int (z + y))) (vs := vs.set j.toNat (.int (z + y))) (Reps.set (show Rep S.K Hf1 (.int (z + y)) (.int (z + y)) from rfl) _ rr) hI'
    exact k.nx _ _ _ _ e1 st q3
/-- sum of a list of the def's own -/
theorem ev_sumO {q : Pos} (hN : S.N[i]? = some x) (hv : Vis S.sc x) (hΓ : Γ[i]? = some (.inv A I)) (hg : GlS S "sum") (hm : S.mg "sum" = none) (h : ∀ ds, I ds → ds.all Da.isNum = true ∧ Q (.int (ds.map Da.num).sum))
    (hd : (x == ("__debug__" : Str)) = false := by decide) (hcd : (x == ("__classdict__" : Str)) = false := by decide)
    (he : ∀ env, starEach [.Name x p] env = (false, eval (.Name x p) env) :: starEach [] env := by intro _; rfl) (hpl : ∀ env, (backTo pos (starEach [] env)).any (·.1) = false := by intro _; rfl) (hc : S.calm = true := by rfl) : EvE S Γ (.Call (.Name "sum" q) [.Name x p] [] pos) Q := by
  refine ev_of (t := tCB (fun vs H Q => ∃ a xs, vs = [V.ref a] ∧ (SqL S.K H a xs ∨ SqT S.K H a xs) ∧ xs.all isNumV = true ∧ Q (.int (xs.map numV).sum) H) (tCons (tVar i) tNil)) (fun X ok => ?_) fun PX σ H Hf k st hk => ?_
  · have z := pe_callB (X := X) (p := q) (pos := pos) (sum_seq (ok.calm hc)) (hg.gl ok) (by rw [ok.mg]; exact hm) bt_sum (pa_cons (pe_var (pos := p) (i := i) (by rw [ok.N]; exact hN) (by rw [ok.sc]; exact hv) hd hcd) pa_nil (he _)) (by decide) (by decide) (he _) (hpl _)
    rw [ok.K] at z
    exact z
  · obtain ⟨_, _, vs, ds, hA, rr, hI⟩ := st.own hΓ
    obtain ⟨h1, h2⟩ := h ds hI
    obtain ⟨z1, z2⟩ := rr.nums h1
    refine ⟨.ref A, slot_of st hΓ, A, vs, rfl, .inl (SqL.of hA), z1, ?_⟩
    exact hk (.int (ds.map Da.num).sum) _ Hf H (Sub.refl _) st (by rw [z2]; rfl) h2
end
end GX

namespace GX
open PySem PySem.Spec PyProof.Rows L2
/-! ## t[::-1] -/
section
variable {pr : Program} {ww : World} {AA : Around} {EE : Value → Shared → Prop} {s0 : Shared}
theorem rev_pick (its : Array Value) : ((List.range its.size).filterMap fun (m : Nat) => its[(((its.size : Int) - 1) + (m : Int) * (-1)).toNat]?).toArray = its.toList.reverse.toArray := by
  congr 1
  have e : (fun (m : Nat) => its[(((its.size : Int) - 1) + (m : Int) * (-1)).toNat]?) = (its[·]?) ∘ fun m : Nat => (((its.size : Int) - 1) + (m : Int) * (-1)).toNat := rfl
  rw [e, ← List.filterMap_map]
  have e2 : (List.range its.size).map (fun m : Nat => (((its.size : Int) - 1) + (m : Int) * (-1)).toNat) = (List.range its.size).map fun k => its.size - 1 - k := List.map_congr_left fun k hk => by
    have := List.mem_range.mp hk
    omega
  rw [e2, PySem.W.krv_range, List.filterMap_reverse, PySem.W.krv_all]
theorem rev_applied {sl : Addr} {n : Nat} {t : Tok} {Q : Int × Int × Nat → Shared → Prop} (hs : s0.heap.IsSliceOf sl .none .none (.int (-1) t)) (h : Q ((n : Int) - 1, -1, n) s0) : wpAny (model pr ww) AA (Builtin.Slice.sliceApplied (.ref sl) (pure (n : Int))) Q EE s0 := by
  obtain ⟨os, hos, hcs, hds⟩ := id hs
  unfold Builtin.Slice.sliceApplied Builtin.Slice.sliceFields
  refine wpAny_bind (wpAny_bind (wpAny_field hos hds (x := .none) rfl (wpAny_bind (wpAny_field hos hds (x := .none) rfl (wpAny_bind (wpAny_field hos hds (x := .int (-1) t) rfl (wpAny_pure ?_)))))))
  refine wpAny_bind (HT.slicePart_ (.int (-1) t) ?_)
  show wpAny _ _ (if ((-1 : Int) == 0) = true then _ else _) _ _ s0
  rw [if_neg (by decide)]
  refine wpAny_bind (slicePart_none (wpAny_bind (slicePart_none (wpAny_bind (wpAny_pure ?_)))))
  show wpAny _ _ (pure ((n : Int) - 1, (-1 : Int), Builtin.Slice.slicePlaces ((n : Int) - 1) (-1) (-1))) _ _ s0
  have e : Builtin.Slice.slicePlaces ((n : Int) - 1) (-1) (-1) = n := by
    unfold Builtin.Slice.slicePlaces
    rw [if_neg (by decide), show (- -1 : Int) = 1 by decide, Int.ediv_one]
    split <;> omega
  rw [e]
  exact wpAny_pure h
theorem getItem_rev {tp sl : Addr} {its : Array Value} {t : Tok} {Q : Value → Shared → Prop} (ht : IsTup s0.heap tp its) (hs : s0.heap.IsSliceOf sl .none .none (.int (-1) t))
    (h : Q (.ref s0.heap.objs.size) { s0 with heap := s0.heap.push { cls := .type "tuple", data := .seq its.toList.reverse.toArray } }) (hz : its.size ≤ sizeLine) : wpAny (model pr ww) AA (getItem (.ref tp) (.ref sl)) Q EE s0 := by
  have fits : sizeOk (.seq its.toList.reverse.toArray) := by
    show its.toList.reverse.toArray.size ≤ sizeLine
    rw [List.size_toArray, List.length_reverse, Array.length_toList]
    exact hz
  obtain ⟨os, hos, hcs, hds⟩ := id hs
  have isS : s0.TypeIs (.ref sl) "slice" := ⟨os, hos, hcs⟩
  unfold getItem
  try with_reducible refine wpAny_holding ?_
  first | refine wpAny_bind (wpAny_pure ?_) | skip
  refine wpAny_bind (wpAny_sequenceKey ht.typeIs (by decide) ?_)
  refine wpAny_bind (wpAny_callSpecial?_slot (name := Str.ofString "__getitem__") ht.typeIs PyProof.Rows.slot_tuple_getitem (wpAny_call_entry PyProof.Rows.slot_tuple_getitem ht.typeIs entry_tuple_getitem ?_ (args_tuple_getitem _ _)))
  show wpAny _ _ (Builtin.Tuple.tupleItemsOf (.ref tp) >>= _) _ _ s0
  refine wpAny_bind (tupleItemsOf_ ht (wpAny_bind (wpAny_typeOf isS ?_)))
  rw [if_pos (by decide)]
  refine wpAny_bind (rev_applied hs ?_)
  have no : ¬ ((((its.size : Int) - 1) == 0 && (-1 : Int) == 1 && its.size == its.size) = true) := by
    rw [show ((-1 : Int) == 1) = false by decide, Bool.and_false, Bool.false_and]
    exact Bool.false_ne_true
  show wpAny _ _ (if (((its.size : Int) - 1) == 0 && (-1 : Int) == 1 && its.size == its.size) = true then _ else _) _ _ s0
  rw [if_neg no, rev_pick]
  first
    | exact wpAny_bind (m := Builtin.Tuple.tupleExact _) (wpAny_newObj_type (wpAny_pure ⟨_, rfl, wpAny_pure h⟩) fits)
    | exact wpAny_bind (m := Builtin.Tuple.tupleExact _) (wpAny_newObj_type (wpAny_bind (wpAny_pure (wpAny_pure ⟨_, rfl, wpAny_pure h⟩))) fits)
    | exact wpAny_bind (wpAny_bind (m := Builtin.Tuple.tupleExact _) (wpAny_newObj_type (wpAny_pure (wpAny_pure ⟨_, rfl, wpAny_pure h⟩)) fits))
    | exact wpAny_bind (wpAny_bind (m := Builtin.Tuple.tupleExact _) (wpAny_newObj_type (wpAny_pure ⟨_, rfl, wpAny_pure h⟩) fits))
end
/-- e[::-1], e a tuple -/
def tRev (K : PySem.W.Frag) (te : TE) : TE := fun σ H Q => te σ H fun x H1 => ∃ a xs, x = .ref a ∧ SqT K H1 a xs ∧ ∀ p, H1 p = none → Q (.ref p) (upd H1 p (.tup xs.reverse))
theorem pe_rev {X : Cx} {e : Expr} {te : TE} {kj} {p1 p2 p3 pos : Pos} (he : PE X e te) : PE X (.Subscript e (.Slice none none (some (.UnaryOp .USub (.Constant (.int 1) kj p1) p2)) p3) pos) (tRev X.K te) := by
  refine ⟨fun pins s σ H Q I h => ?_⟩
  refine Subscript_ (thn (he.run pins s σ H _ I h) fun v s1 ⟨x, H1, I1, r1, q0⟩ => ?_)
  obtain ⟨a, xs, rfl, hx, q⟩ := q0
  refine wpAny_Slice ?_
  rw [evalPart_none]
  refine wpAny_pure ?_
  try rw [evalPart_none]
  refine wpAny_pure ?_
  rw [evalPart_some]
  refine thn ((pe_un (X := X) un_neg (pe_int (i := 1) (j := kj) (pos := p1))).run pins s1 σ H1 (fun y H2 => y = .int (-1) ∧ H2 = H1) I1 ⟨1, rfl, rfl, rfl⟩) fun u s2 ⟨y, H2, I2, r2, e1, e2⟩ => ?_
  rw [e1] at r2
  rw [e2] at I2
  obtain ⟨t, rfl⟩ := r2
  cases r1
  have I4 : Inv X pins σ H1 { s2 with heap := s2.heap.push { cls := .type "slice", data := .fields #[.none, .none, .int (-1) t] } } := I2.kept (t' := s2.toks) fun b ob q => Heap.get?_push_of_some _ q
  obtain ⟨its, r, ht, hz⟩ := I4.tuple hx
  show wpAny (model X.prog X.w) X.A (subscriptTail e (.Slice none none (some _) p3) (.ref a) (.ref s2.heap.objs.size)) (EP X pins σ Q) X.xe { s2 with heap := s2.heap.push { cls := .type "slice", data := .fields #[.none, .none, .int (-1) t] } }
  refine tail_any (ops := [.ref a, .ref s2.heap.objs.size]) ht.typeIs PyProof.Rows.slot_tuple_getitem.lookup (getItem_rev ht (Heap.IsSliceOf.new ..) ?_ (by rw [List.size_toArray, ← r.length]; exact hz)) (by with_unfolding_all rfl)
  refine ⟨.ref _, _, I4.laid (o := .tup xs.reverse) (t' := s2.toks) (fun b ob q => Heap.get?_push_of_some _ q) (Nat.le_refl _) ?_, rfl, q _ (I4.hok.fresh (Nat.le_refl _))⟩
  refine ⟨by rw [List.length_reverse]; exact hz, its.reverse, ?_, IsTup.new _ _⟩
  exact r.reverse
theorem Reps.rev {K : PySem.W.Frag} {H : Hp} : ∀ {ds : List Da} {vs : List V}, Reps K H ds vs → Reps K H ds.reverse vs.reverse
  | [], _, r => by unfold Reps at r; subst r; rfl
  | d :: ds, _, r => by
    obtain ⟨v, vs, rfl, r1, r2⟩ := r
    rw [List.reverse_cons, List.reverse_cons]
    exact Reps.app (show Reps K H [d] [v] from ⟨v, [], rfl, r1, rfl⟩) (Reps.rev r2)
section
variable {S : Sx} {Γ : List Slot} {e : Expr} {Q : Da → Prop}
theorem ev_rev {kj} {p1 p2 p3 pos : Pos} (h : EvE S Γ e fun d => asTup d fun ds => Q (.tup ds.reverse)) : EvE S Γ (.Subscript e (.Slice none none (some (.UnaryOp .USub (.Constant (.int 1) kj p1) p2)) p3) pos) Q :=
  ev_of (t := tRev S.K (tU S e)) (fun X ok => by have z := pe_rev (kj := kj) (p1 := p1) (p2 := p2) (p3 := p3) (pos := pos) (pu (e := e) ok); rw [ok.K] at z; exact z) fun PX σ H Hf k st hk => h PX σ H Hf _ st fun d v Hf1 H1 e1 st1 r q => by
    obtain ⟨ds, rfl, q⟩ := asTup_ q
    obtain ⟨a, vs, rfl, s1, r1⟩ := r.tup_
    refine ⟨a, vs, rfl, st1.ex.st s1, fun p hp => ?_⟩
    obtain ⟨st3, e3⟩ := st1.alloc (o := .tup vs.reverse) hp
    exact hk (.tup ds.reverse) _ _ _ (e1.trans e3) st3 ⟨_, _, rfl, SqT.of upd_same, Reps.mono e3 _ _ r1.rev⟩ q
end
end GX

namespace GX
open PySem PySem.Spec PyProof.Rows L2
/-! ## a tuple times a number: 0, 1 and more -/
theorem gx_tmul1 (l : Addr) (items : Array Value) (n : Nat) (dd : Option Addr) (sl : Array (Option Value)) (u : Tok) :
    Meets (Builtin.«tuple.__mul__» ⟨[.ref l, .int 1 u], []⟩) (fun _ R s => s.heap.get? l = some { cls := .type "tuple", dict := dd, data := .seq items n, slots := sl } ∧ R (.ok (.ret (Value.ref l))) s) :=
  .of_wp fun prog w A R s h => by
    obtain ⟨hp, g, d, tk, os⟩ := s
    obtain ⟨hl, h⟩ := h
    have f1 := AutoSeq1.idx_int
    have c0 : (decide ((1 : Int) < -(2 ^ 63)) || decide ((1 : Int) ≥ 2 ^ 63)) = false := rfl
    have c1 : (items.isEmpty || (1 : Int) == 1) = true := Bool.or_true _
    wp_walk using wpAny_loadPart' hl
    repeat (first
      | (refine wpAny_ite_false (decide_eq_false (by rw [c0]; exact Bool.false_ne_true)) ?_; wp_walk using wpAny_loadPart' hl)
      | (refine wpAny_ite_true (decide_eq_true c1) ?_; wp_walk using wpAny_loadPart' hl))
    exact ⟨_, rfl, h⟩
theorem gx_tmul0 (l : Addr) (items : Array Value) (n : Nat) (dd : Option Addr) (sl : Array (Option Value)) (u : Tok) (hi : items.isEmpty = false) :
    Meets (Builtin.«tuple.__mul__» ⟨[.ref l, .int 0 u], []⟩) (fun _ R s => s.heap.get? l = some { cls := .type "tuple", dict := dd, data := .seq items n, slots := sl } ∧
      R (.ok (.ret (Value.ref s.heap.objs.size))) { s with heap := s.heap.push { cls := Value.type "tuple", data := Data.seq #[] }, toks := s.toks }) :=
  .of_wp fun prog w A R s h => by
    obtain ⟨hp, g, d, tk, os⟩ := s
    obtain ⟨hl, h⟩ := h
    have f1 := AutoSeq1.idx_int
    have c0 : (decide ((0 : Int) < -(2 ^ 63)) || decide ((0 : Int) ≥ 2 ^ 63)) = false := rfl
    have c1 : (items.isEmpty || (0 : Int) == 1) = false := by rw [hi]; rfl
    have c2 : (decide ((0 : Int) ≤ 0) || items.isEmpty) = true := rfl
    wp_walk using wpAny_loadPart' hl
    repeat (first
      | (refine wpAny_ite_false (decide_eq_false (by rw [c0]; exact Bool.false_ne_true)) ?_; wp_walk using wpAny_loadPart' hl)
      | (refine wpAny_ite_false (decide_eq_false (by rw [c1]; exact Bool.false_ne_true)) ?_; wp_walk using wpAny_loadPart' hl)
      | (refine wpAny_ite_true (decide_eq_true c2) ?_; wp_walk using wpAny_loadPart' hl))
    exact ⟨_, rfl, h⟩
def rRepT1 (K : PySem.W.Frag) : R2 := fun x y H Q => ∃ l xs, x = .ref l ∧ y = .int 1 ∧ SqT K H l xs ∧ Q x H
def rRepT0 (K : PySem.W.Frag) : R2 := fun x y H Q => ∃ l xs, x = .ref l ∧ y = .int 0 ∧ SqT K H l xs ∧ xs ≠ [] ∧ ∀ p, H p = none → Q (.ref p) (upd H p (.tup []))
theorem op_repT1 {X : Cx} : OpR X (binaryOp .Mult) (rRepT1 X.K) := by
  intro pins s σ H x y v u Q I rx ry h
  obtain ⟨l, xs, rfl, rfl, hT, q⟩ := h
  cases rx
  obtain ⟨t, rfl⟩ := ry
  obtain ⟨its, r, ⟨⟨cls, dd, data, sl⟩, ho, hc, n, hd⟩, hs⟩ := I.tuple hT
  simp only at hc hd
  subst hc hd
  refine wpAny_binaryOp_repeat_ref (T := "tuple") (U := "int") (by decide) ⟨_, ho, rfl⟩ (fun s' => typeIs_int s' 1 t) noFill_tuple_mul F.fills_int_mul F.slot_int_rmul repeat_tuple F.slot_int_index.lookup
    (call_meets F.slot_int_rmul (typeIs_int s 1 t) F.entry_int_rmul (F.args_int_rmul_2 _ _) (int_rmul_tuple 1 t l its.toArray n dd sl)
      ⟨ho, rfl, ⟨_, ho, rfl⟩, call_meets F.slot_tuple_mul ⟨_, ho, rfl⟩ F.entry_tuple_mul (F.args_tuple_mul_2 _ _) (gx_tmul1 l its.toArray n dd sl t) ⟨ho, ?_⟩⟩)
  exact ⟨.ref l, _, I, rfl, q⟩
theorem op_repT0 {X : Cx} : OpR X (binaryOp .Mult) (rRepT0 X.K) := by
  intro pins s σ H x y v u Q I rx ry h
  obtain ⟨l, xs, rfl, rfl, hT, hne, q⟩ := h
  cases rx
  obtain ⟨t, rfl⟩ := ry
  obtain ⟨its, r, ⟨⟨cls, dd, data, sl⟩, ho, hc, n, hd⟩, hs⟩ := I.tuple hT
  simp only at hc hd
  subst hc hd
  have hi : its.toArray.isEmpty = false := by
    cases its with
    | nil => exact absurd (List.eq_nil_of_length_eq_zero r.length) hne
    | cons a b => rfl
  refine wpAny_binaryOp_repeat_ref (T := "tuple") (U := "int") (by decide) ⟨_, ho, rfl⟩ (fun s' => typeIs_int s' 0 t) noFill_tuple_mul F.fills_int_mul F.slot_int_rmul repeat_tuple F.slot_int_index.lookup
    (call_meets F.slot_int_rmul (typeIs_int s 0 t) F.entry_int_rmul (F.args_int_rmul_2 _ _) (int_rmul_tuple 0 t l its.toArray n dd sl)
      ⟨ho, rfl, ⟨_, ho, rfl⟩, call_meets F.slot_tuple_mul ⟨_, ho, rfl⟩ F.entry_tuple_mul (F.args_tuple_mul_2 _ _) (gx_tmul0 l its.toArray n dd sl t hi) ⟨ho, ?_⟩⟩)
  exact ⟨.ref s.heap.objs.size, _, I.laid (t' := s.toks) (o := .tup []) (fun b ob q => Heap.get?_push_of_some _ q) (Nat.le_refl _) ⟨Nat.zero_le _, [], .nil, IsTup.new _ _⟩, rfl, q _ (I.hok.fresh (Nat.le_refl _))⟩
@[reducible] def mulQ2 (x y : Da) (Q : Da → Prop) : Prop := match x, y with
  | .int i, .int j => CMul i j ∧ Q (.int (i * j))
  | .lst ds, .int k => (0 ≤ k ∧ k < 100000 ∧ ds.length * k.toNat ≤ 100000) ∧ Q (.lst (List.replicate k.toNat ds).flatten)
  | .tup ds, .int k => (0 ≤ k ∧ k ≤ 1000 ∧ ds ≠ [] ∧ ds.length ≤ 1000) ∧ Q (.tup (List.replicate k.toNat ds).flatten)
  | _, _ => False
section
variable {S : Sx}
theorem g_mulD2 : OpG S (binaryOp .Mult) mulQ2 :=
  ⟨fun x y H Q => (rI CMul (fun i j => .int (i * j)) x y H Q ∨ rRepS S.K x y H Q) ∨ (rRepT1 S.K x y H Q ∨ rRepT0 S.K x y H Q) ∨ rRepT S.K x y H Q, fun X ok => OpR.or (OpR.or op_mul (by have z := op_repS (X := X); rw [ok.K] at z; exact z)) (OpR.or (OpR.or (by have z := op_repT1 (X := X); rw [ok.K] at z; exact z) (by have z := op_repT0 (X := X); rw [ok.K] at z; exact z)) (by have z := op_repT (X := X); rw [ok.K] at z; exact z)), fun PX Γ σ Hf H x y v u Q k st rx ry hr hk => by
    unfold mulQ2 at hr
    split at hr
    · rename_i i j
      exact .inl (.inl ⟨i, j, rx, ry, hr.1, hk (.int (i * j)) _ Hf H (Sub.refl _) st rfl hr.2⟩)
    · rename_i ds j
      obtain ⟨l, vs, rfl, s1, r1⟩ := Rep.lst_ rx
      have ry : u = .int j := ry
      subst ry
      refine .inl (.inr ⟨l, j, vs, rfl, rfl, st.ex.sl s1, hr.1.1, hr.1.2.1, by rw [r1.len]; exact Nat.le_trans hr.1.2.2 (by decide), fun p hp => ?_⟩)
      obtain ⟨st4, e4⟩ := st.alloc (o := .lst (List.replicate j.toNat vs).flatten) hp
      exact hk (.lst (List.replicate j.toNat ds).flatten) _ _ _ e4 st4 ⟨p, _, rfl, SqL.of upd_same, Reps.mono e4 _ _ (reps_rep r1 _)⟩ hr.2
    · rename_i ds j
      obtain ⟨l, vs, rfl, s1, r1⟩ := Rep.tup_ rx
      have ry : u = .int j := ry
      subst ry
      obtain ⟨⟨h0, h1, h2, h3⟩, q⟩ := hr
      have hne : vs ≠ [] := fun e => h2 (List.eq_nil_of_length_eq_zero (by rw [← r1.len, e]; rfl))
      by_cases c1 : j = 1
      · subst c1
        refine .inr (.inl (.inl ⟨l, vs, rfl, rfl, st.ex.st s1, ?_⟩))
        have e : (List.replicate (1 : Int).toNat ds).flatten = ds := by
          show ds ++ [] = ds
          exact List.append_nil _
        rw [e] at q
        exact hk (.tup ds) _ _ _ (Sub.refl _) st rx q
      by_cases c0 : j = 0
      · subst c0
        refine .inr (.inl (.inr ⟨l, vs, rfl, rfl, st.ex.st s1, hne, fun p hp => ?_⟩))
        obtain ⟨st4, e4⟩ := st.alloc (o := .tup []) hp
        exact hk (.tup []) _ _ _ e4 st4 ⟨p, [], rfl, SqT.of upd_same, rfl⟩ q
      · refine .inr (.inr ⟨l, j, vs, rfl, rfl, st.ex.st s1, hne, by omega, h1, by rw [r1.len]; exact h3, fun p hp => ?_⟩)
        obtain ⟨st4, e4⟩ := st.alloc (o := .tup (List.replicate j.toNat vs).flatten) hp
        exact hk (.tup (List.replicate j.toNat ds).flatten) _ _ _ e4 st4 ⟨p, _, rfl, SqT.of upd_same, Reps.mono e4 _ _ (reps_rep r1 _)⟩ q
    · exact hr.elim⟩
end
/-! ## a, b, c = x, y, z -/
section
variable {S : Sx} {Γ : List Slot} {a b c : Expr} {D : EnG} {spos p : Pos} {x : Str} {i : Nat}
theorem es_par3 {j l : Nat} {y z : Str} {py pz pt pt2 : Pos} {kt k2} (hN : S.N[i]? = some x) (hM : S.N[j]? = some y) (hL : S.N[l]? = some z) (hij : i ≠ j) (hil : i ≠ l) (hjl : j ≠ l) (hx : S.sc.names.lookup x = some .local) (hy : S.sc.names.lookup y = some .local) (hz : S.sc.names.lookup z = some .local)
    (hw : ∀ env : Env, env.scope = S.sc → swappedStores [.Tuple [.Name x p, .Name y py, .Name z pz] kt pt] (.Tuple [a, b, c] k2 pt2) env = pure (some [x, y, z]))
    (h : EvE S Γ a fun d => EvE S Γ b fun d' => EvE S Γ c fun d'' => D.nx (((Γ.set i (.dat d)).set j (.dat d')).set l (.dat d'')))
    (he : ∀ env, starEach [a, b, c] env = (false, eval a env) :: starEach [b, c] env := by intro _; rfl) (he2 : ∀ env, starEach [b, c] env = (false, eval b env) :: starEach [c] env := by intro _; rfl) (he3 : ∀ env, starEach [c] env = (false, eval c env) :: starEach [] env := by intro _; rfl)
    (hs : ∀ env, swapsWithSole [.Tuple [.Name x p, .Name y py, .Name z pz] kt pt] (.Tuple [a, b, c] k2 pt2) spos.line env = pure false := by intro _; rfl) (hc : S.calm = true := by rfl) :
    EvS S Γ (.Assign [.Tuple [.Name x p, .Name y py, .Name z pz] kt pt] (.Tuple [a, b, c] k2 pt2) spos) D :=
  es_of (fun X ok => ps_par3 (ok.calm hc) (by rw [ok.N]; exact ok.nd) (by rw [ok.N]; exact hN) (by rw [ok.N]; exact hM) (by rw [ok.N]; exact hL) hij hil hjl (by rw [ok.sc]; exact hx) (by rw [ok.sc]; exact hy) (by rw [ok.sc]; exact hz)
    (pa_cons (pu ok) (pa_cons (pu ok) (pa_cons (pu ok) pa_nil (he3 _)) (he2 _)) (he _)) (hw _ ok.sc) (hs _)) fun PX σ H Hf D' s k => h PX σ H Hf _ s fun d v Hf1 H1 e1 s1 r q => q PX σ H1 Hf1 _ s1 fun d' v' Hf2 H2 e2 s2 r2 q2 => q2 PX σ H2 Hf2 _ s2 fun d'' v'' Hf3 H3 e3 s3 r3 q3 =>
      ⟨v, v', v'', rfl, k.nx _ _ Hf3 H3 ((e1.trans e2).trans e3) (((s3.set (Rep.mono (e2.trans e3) _ _ r) i).set (Rep.mono e3 _ _ r2) j).set r3 l) q3⟩
end
end GX

namespace GX
open PySem PySem.Spec PyProof.Rows L2
/-! ## while -/
section
variable {S : Sx} {Γ : List Slot} {c : Expr} {body : List Stmt} {pos : Pos} {D : EnG}
theorem es_while (W : Nat → List Slot → Prop) (m0 : Nat) (h0 : W m0 Γ)
    (h : ∀ m Γ, W m Γ → EvT S Γ c fun b => cond b (EvB S Γ body { D with nx := fun Γ' => ∃ m', m' < m ∧ W m' Γ', ct := fun Γ' => ∃ m', m' < m ∧ W m' Γ', bk := D.nx }) (D.nx Γ)) : EvS S Γ (.While c body [] pos) D :=
  es_of (fun X ok => ps_while ok.po (puT ok) (puB ok)) fun PX σ H Hf D' s k => by
    refine ⟨fun m σ' H' => ∃ Γ' Hf', Sub Hf Hf' ∧ Stt S PX Γ' Hf' H' σ' ∧ W m Γ', ⟨m0, Γ, Hf, Sub.refl _, s, h0⟩, ?_⟩
    rintro m σ' H' ⟨Γ', Hf', e2, s2, w⟩
    refine h m Γ' w PX σ' H' Hf' _ s2 fun b Hf3 H3 e3 s3 q3 => ?_
    cases b with
    | true =>
      rw [if_pos rfl]
      refine ⟨fun σ4 H4 => ∃ Γ4 Hf4, Sub Hf Hf4 ∧ Stt S PX Γ4 Hf4 H4 σ4 ∧ ∃ m', m' < m ∧ W m' Γ4, fun σ4 H4 ⟨Γ4, Hf4, a, b, m', h1, h2⟩ => ⟨m', h1, Γ4, Hf4, a, b, h2⟩, ?_⟩
      exact q3 PX σ' H3 Hf3 _ s3 ⟨fun Γ5 σ5 Hf5 H5 e5 s5 q5 => ⟨Γ5, Hf5, (e2.trans e3).trans e5, s5, q5⟩, fun d v Γ5 σ5 Hf5 H5 e5 => k.rt d v Γ5 σ5 Hf5 H5 ((e2.trans e3).trans e5),
        fun Γ5 σ5 Hf5 H5 e5 => k.nx Γ5 σ5 Hf5 H5 ((e2.trans e3).trans e5), fun Γ5 σ5 Hf5 H5 e5 s5 q5 => ⟨Γ5, Hf5, (e2.trans e3).trans e5, s5, q5⟩, fun p ds vs Γ5 σ5 Hf5 H5 e5 => k.rr p ds vs Γ5 σ5 Hf5 H5 ((e2.trans e3).trans e5)⟩
    | false =>
      rw [if_neg (by decide)]
      exact k.nx Γ' σ' Hf3 H3 (e2.trans e3) s3 q3
end
/-! ## [.. for .. in .. for .. in ..] -/
section
variable {S : Sx} {Γ : List Slot} {tg it elt tg1 it1 : Expr} {ifs ifs1 : List Expr} {scope : Scope} {own : List (Str × Nat)} {vs1 : List Nat} {pos : Pos}
def inner2 (S : Sx) (tg1 it1 elt : Expr) (ifs1 : List Expr) (scope : Scope) (vs1 : List Nat) (Γ' : List Slot) : Da → List Da → (List Da → Prop) → Prop :=
  fun d1 acc1 K1 => EvG (S.blk scope) (fun i => vs1.contains i) (wipeG Γ' vs1) tg1 d1 fun Γ2 => EvTs (S.blk scope) Γ2 ifs1 fun b1 => cond b1 (EvE (S.blk scope) Γ2 elt fun y => acc1.length < 100000 ∧ K1 (acc1 ++ [y])) (K1 acc1)
theorem lc2_run {Q : List Da → Prop} (hv : noInv Γ (own.map (·.2)))
    (h : EvI S Γ tg it fun ds => lcG (fun d acc K => EvG (S.blk scope) (fun i => (own.map (·.2)).contains i) (wipeG Γ (own.map (·.2))) tg d fun Γ' => EvTs (S.blk scope) Γ' ifs fun b => cond b (noInv Γ' vs1 ∧ EvI (S.blk scope) Γ' tg1 it1 fun ds1 => lcG (inner2 S tg1 it1 elt ifs1 scope vs1 Γ') ds1 acc K) (K acc)) ds [] Q)
    {PX : Hp} {σ : L2.St} {H Hf : Hp} {k : VK} (st : Stt S PX Γ Hf H σ)
    (hk : ∀ p ds vs Hf' H', Sub Hf Hf' → PX p = none → S.H0 p = none → p ∉ S.op.map (·.1) → Stt S (upd PX p (.lst vs)) Γ Hf' H' σ → Reps S.K Hf' ds vs → Q ds → k (.ref p) H') :
    tLc2 (tUI S tg it) (tUG (S.blk scope) tg) (tUTs (S.blk scope) ifs) (tUI (S.blk scope) tg1 it1) (tUG (S.blk scope) tg1) (tUTs (S.blk scope) ifs1) (tU (S.blk scope) elt) (own.map (·.2)) vs1 σ H k := by
  generalize hvs : own.map (·.2) = vs at hv h ⊢
  show tUI S tg it σ H _
  refine h PX σ H Hf _ st fun ds J Hf1 H1 e1 s1 y q D hD => ?_
  have hP : PX D = none := s1.px.free hD
  have h0 : S.H0 D = none := s1.fresh0 hD
  have hop := s1.opn hD
  let step := fun d acc (K : List Da → Prop) => EvG (S.blk scope) (fun i => vs.contains i) (wipeG Γ vs) tg d fun Γ' => EvTs (S.blk scope) Γ' ifs fun b => cond b (noInv Γ' vs1 ∧ EvI (S.blk scope) Γ' tg1 it1 fun ds1 => lcG (inner2 S tg1 it1 elt ifs1 scope vs1 Γ') ds1 acc K) (K acc)
  refine ⟨fun i m H' => ∃ Hf' acc accV, Sub Hf1 Hf' ∧ Stt S (upd PX D (.lst accV)) Γ Hf' H' σ ∧ Reps S.K Hf' acc accV ∧ m = ds.length - i ∧ i ≤ ds.length ∧ lcG step (ds.drop i) acc Q,
    ⟨ds.length, Hf1, [], [], Sub.refl _, s1.frame hD, rfl, by simp, Nat.zero_le _, by rw [List.drop_zero]; exact q⟩, ?_⟩
  rintro i m H' ⟨Hf', acc, accV, e2, s2, ra, rfl, hi, f⟩
  by_cases hlt : i < ds.length
  · refine .inr ⟨y.go i Hf' H' e2 s2.ex hlt, fun H' => ∃ Hf' acc accV, Sub Hf1 Hf' ∧ Stt S (upd PX D (.lst accV)) Γ Hf' H' σ ∧ Reps S.K Hf' acc accV ∧ lcG step (ds.drop (i + 1)) acc Q,
      fun H' ⟨Hf', acc, accV, a, b, c, e⟩ => ⟨ds.length - (i + 1), by omega, Hf', acc, accV, a, b, c, rfl, hlt, e⟩, fun x H3 hy => ?_⟩
    obtain ⟨Hf3, d, e3, s3, hd, r⟩ := y.yld _ i x Γ σ Hf' H' H3 e2 s2 hlt hy
    have inv4 : ∀ {Γ4 : List Slot} {σ4 : L2.St}, Alt (fun i => vs.contains i) (wipeG Γ vs) (wipe σ vs) Γ4 σ4 → ∀ (i : Nat) p k I, Γ[i]? = some (.ow p k I) → ∃ j : Nat, Γ4[j]? = some (Slot.ow p k I) := fun a i p k I h => by
      have n : i ∉ vs := fun m => hv i m p k I h
      exact ⟨i, by rw [a.g i (by simpa using n), wipeG_out n]; exact h⟩
    refine lcG_drop hd f _ x _ H3 Hf3 _ ((s3.wipe vs).toBlk scope) r fun Γ4 σ4 Hf4 H4 e4 s4 a4 q4 => ⟨?_, ?_⟩
    · rw [wipe_eq a4.len fun j hj => a4.s j (by simpa using hj)]
      exact wipe_eq (wipe_length _ _) fun j hj => wipe_out hj
    refine q4 _ σ4 H4 Hf4 _ s4 fun b Hf5 H5 e5 s5 q5 => cond_ite ?_
    cases b with
    | false =>
      exact ⟨Hf5, acc, accV, ((e2.trans e3).trans e4).trans e5, s3.back s5 ⟨⟨rfl, rfl, rfl, rfl⟩, rfl⟩ (e4.trans e5) (inv4 a4), Reps.mono ((e3.trans e4).trans e5) _ _ ra, q5⟩
    | true =>
      obtain ⟨hv1, q5⟩ := q5
      show tUI (S.blk scope) tg1 it1 σ4 H5 _
      refine q5 _ σ4 H5 Hf5 _ s5 fun ds1 J1 Hf6 H6 e6 s6 y1 q6 => ?_
      have ra6 := Reps.mono (((e3.trans e4).trans e5).trans e6) _ _ ra
      refine ⟨fun j m H' => ∃ Hf' acc accV, Sub Hf6 Hf' ∧ Stt (S.blk scope) (upd PX D (.lst accV)) Γ4 Hf' H' σ4 ∧ Reps S.K Hf' acc accV ∧ m = ds1.length - j ∧ j ≤ ds1.length ∧ lcG (inner2 S tg1 it1 elt ifs1 scope vs1 Γ4) (ds1.drop j) acc (fun acc' => lcG step (ds.drop (i + 1)) acc' Q),
        ⟨ds1.length, Hf6, acc, accV, Sub.refl _, s6, ra6, by simp, Nat.zero_le _, by rw [List.drop_zero]; exact q6⟩, ?_⟩
      rintro j m7 H7 ⟨Hf7, acc7, accV7, e7, s7, ra7, rfl, hj, f7⟩
      have bk : ∀ {Γ8 : List Slot} {σ8 : L2.St} {Hf8 H8 : Hp} {aV : List V}, Stt (S.blk scope) (upd PX D (.lst aV)) Γ8 Hf8 H8 σ8 → Sub Hf3 Hf8 → (∀ (i : Nat) p k I, Γ4[i]? = some (.ow p k I) → ∃ j : Nat, Γ8[j]? = some (Slot.ow p k I)) → Stt S (upd PX D (.lst aV)) Γ Hf8 H8 σ := fun s8 e8 hh =>
        s3.back s8 ⟨⟨rfl, rfl, rfl, rfl⟩, rfl⟩ e8 fun i p k I h => by
          obtain ⟨j, hj⟩ := inv4 a4 i p k I h
          exact hh j p k I hj
      have e37 := (((e4.trans e5).trans e6).trans e7)
      have e17 := (e2.trans e3).trans e37
      by_cases hlt1 : j < ds1.length
      · refine .inr ⟨y1.go j Hf7 H7 e7 s7.ex hlt1, fun H' => ∃ Hf' acc accV, Sub Hf6 Hf' ∧ Stt (S.blk scope) (upd PX D (.lst accV)) Γ4 Hf' H' σ4 ∧ Reps S.K Hf' acc accV ∧ lcG (inner2 S tg1 it1 elt ifs1 scope vs1 Γ4) (ds1.drop (j + 1)) acc (fun acc' => lcG step (ds.drop (i + 1)) acc' Q),
          fun H' ⟨Hf', acc, accV, a, b, c, e⟩ => ⟨ds1.length - (j + 1), by omega, Hf', acc, accV, a, b, c, rfl, hlt1, e⟩, fun x1 H8 hy1 => ?_⟩
        obtain ⟨Hf8, d1, e8, s8, hd1, r1⟩ := y1.yld _ j x1 Γ4 σ4 Hf7 H7 H8 e7 s7 hlt1 hy1
        have inv9 : ∀ {Γ9 : List Slot} {σ9 : L2.St}, Alt (fun i => vs1.contains i) (wipeG Γ4 vs1) (wipe σ4 vs1) Γ9 σ9 → ∀ (i : Nat) p k I, Γ4[i]? = some (.ow p k I) → ∃ j : Nat, Γ9[j]? = some (Slot.ow p k I) := fun a i p k I h => by
          have n : i ∉ vs1 := fun m => hv1 i m p k I h
          exact ⟨i, by rw [a.g i (by simpa using n), wipeG_out n]; exact h⟩
        refine lcG_drop hd1 f7 _ x1 _ H8 Hf8 _ (s8.wipe vs1) r1 fun Γ9 σ9 Hf9 H9 e9 s9 a9 q9 => ⟨?_, ?_⟩
        · rw [wipe_eq a9.len fun j hj => a9.s j (by simpa using hj)]
          exact wipe_eq (wipe_length _ _) fun j hj => wipe_out hj
        refine q9 _ σ9 H9 Hf9 _ s9 fun b1 Hf10 H10 e10 s10 q10 => cond_ite ?_
        cases b1 with
        | false =>
          exact ⟨Hf10, acc7, accV7, ((e7.trans e8).trans e9).trans e10, s8.back s10 ⟨⟨rfl, rfl, rfl, rfl⟩, rfl⟩ (e9.trans e10) (inv9 a9), Reps.mono ((e8.trans e9).trans e10) _ _ ra7, q10⟩
        | true =>
          refine q10 _ σ9 H10 Hf10 _ s10 fun yd yv Hf11 H11 e11 s11 r11 q11 => ?_
          have s12 := s8.back s11 ⟨⟨rfl, rfl, rfl, rfl⟩, rfl⟩ ((e9.trans e10).trans e11) (inv9 a9)
          refine ⟨accV7, s12.px D _ upd_same, by rw [ra7.len]; exact Nat.lt_of_lt_of_le q11.1 (by decide), Hf11, acc7 ++ [yd], accV7 ++ [yv], (((e7.trans e8).trans e9).trans e10).trans e11, s12.reframe h0, ?_, q11.2⟩
          exact Reps.app (zs := [yd]) (ws := [yv]) ⟨yv, [], rfl, r11, rfl⟩ (Reps.mono (((e8.trans e9).trans e10).trans e11) _ _ ra7)
      · refine .inl ⟨y1.stop j Hf7 H7 e7 s7.ex (by omega), ?_⟩
        rw [List.drop_eq_nil_of_le (by omega)] at f7
        exact ⟨Hf7, acc7, accV7, e17, bk s7 e37 fun i p k I h => ⟨i, h⟩, ra7, f7⟩
  · refine .inl ⟨y.stop i Hf' H' e2 s2.ex (by omega), ?_⟩
    rw [List.drop_eq_nil_of_le (by omega)] at f
    exact hk D acc accV Hf' H' (e1.trans e2) hP h0 hop s2 ra f
theorem en_lc2 {Q : List Da → Prop} (ok' : BlkOk S.N S.sc scope own) (hv : noInv Γ (own.map (·.2))) (hv1 : ∀ i ∈ vs1, i ∈ own.map (·.2))
    (h : EvI S Γ tg it fun ds => lcG (fun d acc K => EvG (S.blk scope) (fun i => (own.map (·.2)).contains i) (wipeG Γ (own.map (·.2))) tg d fun Γ' => EvTs (S.blk scope) Γ' ifs fun b => cond b (noInv Γ' vs1 ∧ EvI (S.blk scope) Γ' tg1 it1 fun ds1 => lcG (inner2 S tg1 it1 elt ifs1 scope vs1 Γ') ds1 acc K) (K acc)) ds [] Q)
    (hs : ∀ env x, foldedSetIterable it env x = pure x := by intro _ _; rfl) (hs1 : ∀ env x, foldedSetIterable it1 env x = pure x := by intro _ _; rfl) (hc : S.calm = true := by rfl) : EvN S Γ (.ListComp elt [⟨tg, it, ifs, 0⟩, ⟨tg1, it1, ifs1, 0⟩] scope pos) Q :=
  en_of (fun X ok => pe_lc2 (wi := tUI S tg it) (g := tUG (S.blk scope) tg) (tt := tUTs (S.blk scope) ifs) (wi1 := tUI (S.blk scope) tg1 it1) (g1 := tUG (S.blk scope) tg1) (tt1 := tUTs (S.blk scope) ifs1) (te := tU (S.blk scope) elt) (own := own) (vs1 := vs1) (ok.calm hc) (by rw [ok.N]; exact ok.nd) (puI ok) (by rw [ok.N, ok.sc]; exact ok') hv1
    (fun s H C cl fp => puG (ok.blk s H scope C cl fp)) (fun s H C cl fp => puTs (ok.blk s H scope C cl fp)) (fun s H C cl fp => puI (ok.blk s H scope C cl fp)) (fun s H C cl fp => puG (ok.blk s H scope C cl fp)) (fun s H C cl fp => puTs (ok.blk s H scope C cl fp)) (fun s H C cl fp => pu (ok.blk s H scope C cl fp)) (hs _) hs1) fun PX σ H Hf k st hk => lc2_run hv h st hk
theorem ev_lc2 {Q : Da → Prop} (ok' : BlkOk S.N S.sc scope own) (hv : noInv Γ (own.map (·.2))) (hv1 : ∀ i ∈ vs1, i ∈ own.map (·.2))
    (h : EvI S Γ tg it fun ds => lcG (fun d acc K => EvG (S.blk scope) (fun i => (own.map (·.2)).contains i) (wipeG Γ (own.map (·.2))) tg d fun Γ' => EvTs (S.blk scope) Γ' ifs fun b => cond b (noInv Γ' vs1 ∧ EvI (S.blk scope) Γ' tg1 it1 fun ds1 => lcG (inner2 S tg1 it1 elt ifs1 scope vs1 Γ') ds1 acc K) (K acc)) ds [] fun acc => Q (.lst acc))
    (hs : ∀ env x, foldedSetIterable it env x = pure x := by intro _ _; rfl) (hs1 : ∀ env x, foldedSetIterable it1 env x = pure x := by intro _ _; rfl) (hc : S.calm = true := by rfl) : EvE S Γ (.ListComp elt [⟨tg, it, ifs, 0⟩, ⟨tg1, it1, ifs1, 0⟩] scope pos) Q := EvN.ev (en_lc2 ok' hv hv1 h hs hs1 hc)
end
/-! x = [.. for .. for ..] on one line -/
section
variable {S : Sx} {Γ : List Slot} {tg it elt tg1 it1 : Expr} {ifs ifs1 : List Expr} {scope : Scope} {own : List (Str × Nat)} {vs1 : List Nat} {pos : Pos}
theorem es_lcN2 {i : Nat} {x : Str} {p spos : Pos} {D : EnG} (hN : S.N[i]? = some x) (hx : S.sc.names.lookup x = some .local) (hfk : S.sc.kind = .function) (hl : (p.line == pos.line) = true) (ha : (scope.names.any fun (n, k) => n == x && (k == .local || k == .cell)) = false) (ok' : BlkOk S.N S.sc scope own) (hv : noInv Γ (own.map (·.2))) (hv1 : ∀ i ∈ vs1, i ∈ own.map (·.2))
    (h : EvI S Γ tg it fun ds => lcG (fun d acc K => EvG (S.blk scope) (fun i => (own.map (·.2)).contains i) (wipeG Γ (own.map (·.2))) tg d fun Γ' => EvTs (S.blk scope) Γ' ifs fun b => cond b (noInv Γ' vs1 ∧ EvI (S.blk scope) Γ' tg1 it1 fun ds1 => lcG (inner2 S tg1 it1 elt ifs1 scope vs1 Γ') ds1 acc K) (K acc)) ds [] fun acc => ∀ A, A ∉ S.op.map (·.1) → D.nx (Γ.set i (.inv A fun ys => ys = acc)))
    (hs : ∀ env x, foldedSetIterable it env x = pure x := by intro _ _; rfl) (hs1 : ∀ env x, foldedSetIterable it1 env x = pure x := by intro _ _; rfl) (hc : S.calm = true := by rfl) : EvS S Γ (.Assign [.Name x p] (.ListComp elt [⟨tg, it, ifs, 0⟩, ⟨tg1, it1, ifs1, 0⟩] scope pos) spos) D :=
  es_of (fun X ok => ps_setLc2 (i := i) (wi := tUI S tg it) (g := tUG (S.blk scope) tg) (tt := tUTs (S.blk scope) ifs) (wi1 := tUI (S.blk scope) tg1 it1) (g1 := tUG (S.blk scope) tg1) (tt1 := tUTs (S.blk scope) ifs1) (te := tU (S.blk scope) elt) (own := own) (vs1 := vs1) (ok.calm hc) (by rw [ok.N]; exact ok.nd) (by rw [ok.N]; exact hN) (by rw [ok.sc]; exact hx) (sw_true (by rw [ok.sc]; exact hfk) (by rw [ok.sc]; exact hx) hl ha) (puI ok) (by rw [ok.N, ok.sc]; exact ok') hv1
    (fun s H C cl fp => puG (ok.blk s H scope C cl fp)) (fun s H C cl fp => puTs (ok.blk s H scope C cl fp)) (fun s H C cl fp => puI (ok.blk s H scope C cl fp)) (fun s H C cl fp => puG (ok.blk s H scope C cl fp)) (fun s H C cl fp => puTs (ok.blk s H scope C cl fp)) (fun s H C cl fp => pu (ok.blk s H scope C cl fp)) (hs _) hs1) fun PX σ H Hf D' s k =>
      lc2_run (k := fun x H1 => gName i x σ H1 D'.nx) hv h s fun A ds vs Hf1 H1 e1 hP h0 hop s1 r q => k.nx _ _ Hf1 H1 e1 (s1.setO (I := fun ys => ys = ds) hP h0 r rfl i) (q A hop)
end
/-! ## x.extend(e) -/
section
variable {S : Sx} {Γ : List Slot} {e : Expr} {QC : Da → List Slot → Prop} {p apos cpos : Pos} {x : Str} {i : Nat} {A : Addr} {I I' : List Da → Prop}
theorem ec_extend (hN : S.N[i]? = some x) (hv : Vis S.sc x) (hΓ : Γ[i]? = some (.inv A I)) (h : EvN S Γ e fun ds' => (∀ ds, I ds → ds.length + ds'.length ≤ 100000 ∧ I' (ds ++ ds')) ∧ QC .non (Γ.set i (.inv A I')))
    (hd : (x == ("__debug__" : Str)) = false := by decide) (hcd : (x == ("__classdict__" : Str)) = false := by decide)
    (hbase : ∀ env : Env, attributeBase (.Name x p) "extend" env (eval (.Name x p) env) = eval (.Name x p) env := by intro _; rfl)
    (hfew : ∀ env, ((backTo cpos (starEach [e] env)).all (fun x => !x.1) && (backToKw cpos (keywordEach [] env)).all (fun x => x.1.isSome) && decide ([e].length + ([] : List Keyword).length + (if ([] : List Keyword).isEmpty then 0 else 1) < 30)) = true := by intro _; rfl)
    (hline : (apos.endLine == cpos.line) = true := by rfl) (hs : ∀ env, starEach [e] env = (false, eval e env) :: starEach [] env := by intro _; rfl) (hpl : ∀ env, (backTo cpos (starEach [] env)).any (·.1) = false := by intro _; rfl) :
    EvC S Γ (.Call (.Attribute (.Name x p) "extend" apos) [e] [] cpos) QC := fun PX σ H Hf k st hk => by
  refine ⟨tBM S.K "list" rExtend (tVar i) (tCons (tU S e) tNil), fun X ok => ?_, ?_⟩
  · have z := pe_bm (X := X) (cpos := cpos) (apos := apos) PySem.F.plainAttrs_list PySem.F.slot_list_extend (by first | rfl | decide +kernel | kernel_rfl) mt_extend (pe_var (pos := p) (i := i) (by rw [ok.N]; exact hN) (by rw [ok.sc]; exact hv) hd hcd) (pa_cons (pu (e := e) ok) pa_nil (hs _)) (hbase _) (hfew _) hline (hs _) (hpl _)
    rw [ok.K] at z; exact z
  obtain ⟨_, _, vs, ds, hA, rr, hI⟩ := st.own hΓ
  refine ⟨.ref A, slot_of st hΓ, .inl ⟨rfl, vs, SqL.of hA⟩, ?_⟩
  refine h PX σ H Hf _ st fun b ds' vs' Hf1 H1 e1 hP h0 hop s1 r ⟨q1, q2⟩ => ?_
  obtain ⟨_, _, vs, ds, hA, rr, hI⟩ := s1.own hΓ
  obtain ⟨q3, q4⟩ := q1 ds hI
  refine ⟨A, b, vs, vs', rfl, rfl, hA, s1.heldH, by rw [rr.len, r.len]; exact Nat.le_trans q3 (by decide), ?_⟩
  exact hk .non .non _ Hf1 _ e1 ((s1.put hΓ (Reps.app r rr) q4).unhold hP) rfl q2
end
end GX

namespace GX
open PySem PySem.Spec PyProof.Rows L2
/-! ## zip of two walks of any kind, then of a tuple and a list -/
def Hold (y : Heap → Prop) (i l : Addr) : Prop := ∀ h h' : Heap, y h → (∀ c o, c = i ∨ c = l → h.get? c = some o → h'.get? c = some o) → y h'
def Kpt (no : List Addr) (h h' : Heap) : Prop := ∀ c o, c ∉ no → h.get? c = some o → h'.get? c = some o
theorem Kpt.trans {n1 n2 : List Addr} {h h1 h2 : Heap} (a : Kpt n1 h h1) (b : Kpt n2 h1 h2) : Kpt (n1 ++ n2) h h2 := fun c o hc e => b c o (fun m => hc (List.mem_append_right _ m)) (a c o (fun m => hc (List.mem_append_left _ m)) e)
theorem Kpt.of {b : Addr} {h h' : Heap} (e : Heap.ExtBut b h h') : Kpt [b] h h' := fun c o hc q => e c o (fun z => hc (List.mem_singleton.mpr z)) q
theorem Kpt.same {b : Addr} {h h' : Heap} (e : Heap.SameBut b h h') : Kpt [b] h h' := Kpt.of e.extBut
section
variable {prog : Program} {w : World}
/-- one more item -/
def More (prog : Program) (w : World) (it : Addr) (y z : Heap → Prop) (x : Value) : Prop := ∀ (A : Around) (E : Value → Shared → Prop) (s : Shared) (Q : Value → Shared → Prop), y s.heap → (∀ h', z h' → Heap.SameBut it s.heap h' → Q x { s with heap := h' }) → wpAny (model prog w) A (Builtin.SmallTypes.nextOf (.ref it)) Q E s
/-- nothing more -/
def Over (prog : Program) (w : World) (it : Addr) (y : Heap → Prop) : Prop := ∀ (A : Around) (E : Value → Shared → Prop) (s : Shared) (Q : Value → Shared → Prop), A.handled = none → y s.heap → (∀ h' e, Heap.ExtBut it s.heap h' → (∃ o, h'.get? e = some o ∧ o.cls = .type "StopIteration") → E (.ref e) { s with heap := h' }) → wpAny (model prog w) A (Builtin.SmallTypes.nextOf (.ref it)) Q E s
theorem more_tup {it l : Addr} {k : Nat} {xs : Array Value} {x : Value} (hx : xs[k]? = some x) : More prog w it (fun h => h.IsTupleIter it l k ∧ h.IsTuple l xs) (fun h => h.IsTupleIter it l (k + 1)) x := fun A E s Q y h => RZ.nextOf_tuple_item y.1 y.2 hx h
theorem more_lst {it l : Addr} {k : Nat} {xs : Array Value} {x : Value} (hx : xs[k]? = some x) : More prog w it (fun h => h.IsListIter it l k ∧ h.IsList l xs) (fun h => h.IsListIter it l (k + 1)) x := fun A E s Q y h => wpAny_nextOf_list_item y.1 y.2 hx h
theorem over_tup {it l : Addr} {k : Nat} {xs : Array Value} (hx : xs[k]? = none) : Over prog w it (fun h => h.IsTupleIter it l k ∧ h.IsTuple l xs) := fun A E s Q hh y h => RZ.nextOf_tuple_end hh y.1 y.2 hx h
theorem over_lst {it l : Addr} {k : Nat} {xs : Array Value} (hx : xs[k]? = none) : Over prog w it (fun h => h.IsListIter it l k ∧ h.IsList l xs) := fun A E s Q hh y h => wpAny_nextOf_list_end hh y.1 y.2 hx h
theorem hold_tup {it l : Addr} {k : Nat} {xs : Array Value} : Hold (fun h => h.IsTupleIter it l k ∧ h.IsTuple l xs) it l := fun h h' y e => ⟨y.1.at fun o q => e it o (.inl rfl) q, by
  obtain ⟨o, ho, r⟩ := y.2
  exact ⟨o, e l o (.inr rfl) ho, r⟩⟩
theorem hold_lst {it l : Addr} {k : Nat} {xs : Array Value} : Hold (fun h => h.IsListIter it l k ∧ h.IsList l xs) it l := fun h h' y e => ⟨y.1.at fun o q => e it o (.inl rfl) q, by
  obtain ⟨o, ho, r⟩ := y.2
  exact ⟨o, e l o (.inr rfl) ho, r⟩⟩
theorem hold_tupI {it l : Addr} {k : Nat} : Hold (fun h => h.IsTupleIter it l k) it it := fun h h' y e => y.at fun o q => e it o (.inl rfl) q
theorem hold_lstI {it l : Addr} {k : Nat} : Hold (fun h => h.IsListIter it l k) it it := fun h h' y e => y.at fun o q => e it o (.inl rfl) q
theorem Hold.keep {y : Heap → Prop} {i l : Addr} (H : Hold y i l) {no : List Addr} {h h' : Heap} (k : Kpt no h h') (h1 : i ∉ no) (h2 : l ∉ no) (p : y h) : y h' := H h h' p fun c o hc q => k c o (by rcases hc with rfl | rfl <;> assumption) q
section
variable {A : Around} {E : Value → Shared → Prop} {s : Shared} {z TI TO i1 i2 l1 l2 : Addr} {a b : Value}
theorem zipG_item {x y : Value} {y1 z1 y2 z2 : Heap → Prop} {Q : Value → Shared → Prop} (D : ZipApart z TI TO i1 i2 l1 l2) (n1 : More prog w i1 y1 z1 x) (n2 : More prog w i2 y2 z2 y) (s1 : Hold y1 i1 l1) (t1 : Hold z1 i1 i1) (s2 : Hold y2 i2 l2) (t2 : Hold z2 i2 i2)
    (hz : IsZip s.heap z TI TO .none) (hTI : IsPair s.heap TI (.ref i1) (.ref i2)) (hTO : IsPair s.heap TO a b) (h1 : y1 s.heap) (h2 : y2 s.heap)
    (hQ : ∀ h', IsZip h' z TI TO (rawInt s.heap.objs.size) → IsPair h' TO x y → z1 h' → z2 h' → IsPair h' s.heap.objs.size x y → Kpt [z, TO, i1, i2] s.heap h' → Q (.ref s.heap.objs.size) { s with heap := h' }) :
    wpAny (model prog w) A (Builtin.«zip.__next__» ⟨[.ref z], []⟩) (fun fin s' => ∃ v, fin = .done (.ret v) ∧ Q v s') E s := by
  show wpAny _ _ (field (.ref _) 2 >>= _) _ _ _
  refine wpAny_bind (wpAny_field hz rfl (x := .bool false) rfl ?_)
  show wpAny _ _ (field (.ref _) 3 >>= _) _ _ _
  refine wpAny_bind (wpAny_field hz rfl (x := .ref _) rfl ?_)
  refine wpAny_bind (wpAny_seqItems hTI rfl ?_)
  show wpAny _ _ (Builtin.SmallTypes.ownedTupleIsFree (.ref _) >>= _) _ _ _
  refine wpAny_bind ?_
  unfold Builtin.SmallTypes.ownedTupleIsFree
  refine wpAny_bind (wpAny_field hz rfl (x := .none) rfl (wpAny_pure ?_))
  simp only [if_true]
  refine wpAny_bind (wpAny_rule ?_)
  refine wpAny_bind (wpAny_field hz rfl (x := .ref _) rfl ?_)
  refine wpAny_bind (wpAny_setField_rec hz (by simp) fun g1 a1 e1 => ?_)
  replace a1 : IsZip g1 z TI TO .ellipsis := a1
  have k1 := Kpt.same e1
  refine wpAny_bind ?_
  simp only [List.zipIdx_cons, List.zipIdx_nil, List.forIn_cons, List.forIn_nil]
  refine wpAny_bind (wpAny_bind (wpAny_onRaise ?_))
  show wpAny _ _ (Builtin.SmallTypes.nextOf (.ref i1) >>= _) _ _ _
  refine wpAny_bind (n1 _ _ _ _ (s1.keep k1 (by simpa using D.i1z) (by simpa using D.l1z) h1) fun g2 b2 e2 => wpAny_pure ?_)
  have k2 := k1.trans (Kpt.same e2)
  have c2 : IsPair g2 TO a b := k2 TO _ (by simp [D.TOz, D.TOi1]) hTO
  refine wpAny_bind (wpAny_seqItems c2 rfl ?_)
  refine wpAny_bind (wpAny_updateSeq_pair c2 fun g3 c3 e3 => ?_)
  replace c3 : IsPair g3 TO x b := c3
  have k3 := k2.trans (Kpt.same e3)
  refine wpAny_bind (wpAny_letGo (wpAny_pure ?_))
  refine wpAny_bind (wpAny_bind (wpAny_onRaise ?_))
  show wpAny _ _ (Builtin.SmallTypes.nextOf (.ref i2) >>= _) _ _ _
  refine wpAny_bind (n2 _ _ _ _ (s2.keep k3 (by simp [D.i2z, D.i12.symm, D.TOi2.symm]) (by simp [D.l2z, D.l2i1, D.l2TO]) h2) fun g4 b4 e4 => wpAny_pure ?_)
  have c4 : IsPair g4 TO x b := Kpt.same e4 TO _ (by simp [D.TOi2]) c3
  refine wpAny_bind (wpAny_seqItems c4 rfl ?_)
  refine wpAny_bind (wpAny_updateSeq_pair c4 fun g5 c5 e5 => ?_)
  replace c5 : IsPair g5 TO x y := c5
  refine wpAny_bind (wpAny_letGo (wpAny_pure (wpAny_pure ?_)))
  refine wpAny_bind (wpAny_seqItems c5 rfl ?_)
  refine wpAny_bind (wpAny_newTuple ?_)
  have sz : g5.objs.size = s.heap.objs.size := by rw [e5.1, e4.1, e3.1, e2.1, e1.1]
  have k25 := ((Kpt.same e2).trans (Kpt.same e3)).trans ((Kpt.same e4).trans (Kpt.same e5))
  have a5 : IsZip g5 z TI TO .ellipsis := k25 z _ (by simp [D.i1z.symm, D.TOz.symm, D.i2z.symm]) a1
  have f1 : z1 g5 := t1.keep ((Kpt.same e3).trans ((Kpt.same e4).trans (Kpt.same e5))) (by simp [D.TOi1.symm, D.i12]) (by simp [D.TOi1.symm, D.i12]) b2
  have f2 : z2 g5 := t2.keep (Kpt.same e5) (by simp [D.TOi2.symm]) (by simp [D.TOi2.symm]) b4
  have zl : z < g5.objs.size := Heap.lt_size a5
  show wpAny _ _ (Builtin.SmallTypes.ownedTupleHandOut (.ref z) (.ref g5.objs.size) >>= _) _ _ _
  refine wpAny_bind ?_
  unfold Builtin.SmallTypes.ownedTupleHandOut
  have a6 : IsZip (g5.push { cls := .type "tuple", data := .seq #[x, y] }) z TI TO .ellipsis := Heap.get?_push_of_some _ a5
  refine wpAny_bind (wpAny_setField_rec a6 (by simp) fun g7 a7 e7 => ?_)
  replace a7 : IsZip g7 z TI TO (rawInt g5.objs.size) := a7
  refine wpAny_setField_rec a7 (by simp) fun g8 a8 e8 => ?_
  replace a8 : IsZip g8 z TI TO (rawInt g5.objs.size) := a8
  have up : Kpt [z] g5 g8 := fun c o hc q => Kpt.same e8 c o hc (Kpt.same e7 c o hc (Heap.get?_push_of_some _ q))
  have p8 : IsPair g8 g5.objs.size x y := Kpt.same e8 _ _ (by simpa using Nat.ne_of_gt zl) (Kpt.same e7 _ _ (by simpa using Nat.ne_of_gt zl) (Heap.get?_push_size _ rfl))
  rw [sz] at a8 p8
  refine wpAny_pure ⟨_, rfl, ?_⟩
  show Q (.ref g5.objs.size) _
  rw [sz]
  refine hQ g8 a8 (up TO _ (by simp [D.TOz]) c5) (t1.keep up (by simp [D.i1z]) (by simp [D.i1z]) f1) (t2.keep up (by simp [D.i2z]) (by simp [D.i2z]) f2) p8 fun c o hc q => ?_
  simp only [List.mem_cons, List.not_mem_nil, or_false, not_or] at hc
  exact up c o (by simp [hc.1]) (k25 c o (by simp [hc.2.1, hc.2.2.1, hc.2.2.2]) (k1 c o (by simp [hc.1]) q))
theorem zipG_end {y1 y2 : Heap → Prop} {Q : Fin → Shared → Prop} (hh : A.handled = none) (D : ZipApart z TI TO i1 i2 l1 l2) (n : Over prog w i1 y1 ∨ (∃ x z1, More prog w i1 y1 z1 x ∧ Over prog w i2 y2)) (s1 : Hold y1 i1 l1) (s2 : Hold y2 i2 l2)
    (hz : IsZip s.heap z TI TO .none) (hTI : IsPair s.heap TI (.ref i1) (.ref i2)) (hTO : IsPair s.heap TO a b) (h1 : y1 s.heap) (h2 : y2 s.heap)
    (hE : ∀ h' e, Kpt [z, TO, i1, i2] s.heap h' → (∃ o, h'.get? e = some o ∧ o.cls = .type "StopIteration") → E (.ref e) { s with heap := h' }) :
    wpAny (model prog w) A (Builtin.«zip.__next__» ⟨[.ref z], []⟩) Q E s := by
  show wpAny _ _ (field (.ref _) 2 >>= _) _ _ _
  refine wpAny_bind (wpAny_field hz rfl (x := .bool false) rfl ?_)
  show wpAny _ _ (field (.ref _) 3 >>= _) _ _ _
  refine wpAny_bind (wpAny_field hz rfl (x := .ref _) rfl ?_)
  refine wpAny_bind (wpAny_seqItems hTI rfl ?_)
  show wpAny _ _ (Builtin.SmallTypes.ownedTupleIsFree (.ref _) >>= _) _ _ _
  refine wpAny_bind ?_
  unfold Builtin.SmallTypes.ownedTupleIsFree
  refine wpAny_bind (wpAny_field hz rfl (x := .none) rfl (wpAny_pure ?_))
  simp only [if_true]
  refine wpAny_bind (wpAny_rule ?_)
  refine wpAny_bind (wpAny_field hz rfl (x := .ref _) rfl ?_)
  refine wpAny_bind (wpAny_setField_rec hz (by simp) fun g1 a1 e1 => ?_)
  replace a1 : IsZip g1 z TI TO .ellipsis := a1
  have k1 := Kpt.same e1
  refine wpAny_bind ?_
  simp only [List.zipIdx_cons, List.zipIdx_nil, List.forIn_cons, List.forIn_nil]
  refine wpAny_bind (wpAny_bind (wpAny_onRaise ?_))
  show wpAny _ _ (Builtin.SmallTypes.nextOf (.ref i1) >>= _) _ _ _
  have y1g := s1.keep k1 (by simpa using D.i1z) (by simpa using D.l1z) h1
  have notz : ∀ {g : Heap} {e : Addr} {o : Obj}, IsZip g z TI TO .ellipsis → g.get? e = some o → o.cls = .type "StopIteration" → e ≠ z := fun a h1 h2 x => by
    subst x; rw [a] at h1; cases h1; simp at h2
  rcases n with n1 | ⟨x, z1, n1, n2⟩
  · refine wpAny_bind (n1 _ _ _ _ hh y1g fun g2 e e2 he => ?_)
    obtain ⟨oe, ho, hc⟩ := he
    have k2 := k1.trans (Kpt.of e2)
    have a2 : IsZip g2 z TI TO .ellipsis := Kpt.of e2 z _ (by simp [D.i1z.symm]) a1
    have hez := notz a2 ho hc
    refine wpAny_setField_rec a2 (by simp) fun g3 _ e3 => hE g3 e (fun c o hc q => ?_) ⟨oe, Kpt.same e3 e _ (by simp [hez]) ho, hc⟩
    simp only [List.mem_cons, List.not_mem_nil, or_false, not_or] at hc
    exact Kpt.same e3 c o (by simp [hc.1]) (k2 c o (by simp [hc.1, hc.2.2.1]) q)
  · refine wpAny_bind (n1 _ _ _ _ y1g fun g2 b2 e2 => wpAny_pure ?_)
    have k2 := k1.trans (Kpt.same e2)
    have c2 : IsPair g2 TO a b := k2 TO _ (by simp [D.TOz, D.TOi1]) hTO
    refine wpAny_bind (wpAny_seqItems c2 rfl ?_)
    refine wpAny_bind (wpAny_updateSeq_pair c2 fun g3 c3 e3 => ?_)
    have k3 := k2.trans (Kpt.same e3)
    refine wpAny_bind (wpAny_letGo (wpAny_pure ?_))
    refine wpAny_bind (wpAny_bind (wpAny_onRaise ?_))
    show wpAny _ _ (Builtin.SmallTypes.nextOf (.ref i2) >>= _) _ _ _
    refine wpAny_bind (n2 _ _ _ _ hh (s2.keep k3 (by simp [D.i2z, D.i12.symm, D.TOi2.symm]) (by simp [D.l2z, D.l2i1, D.l2TO]) h2) fun g4 e e4 he => ?_)
    obtain ⟨oe, ho, hc⟩ := he
    have k4 := k3.trans (Kpt.of e4)
    have a4 : IsZip g4 z TI TO .ellipsis := (((Kpt.same e2).trans (Kpt.same e3)).trans (Kpt.of e4)) z _ (by simp [D.i1z.symm, D.TOz.symm, D.i2z.symm]) a1
    have hez := notz a4 ho hc
    refine wpAny_setField_rec a4 (by simp) fun g5 _ e5 => hE g5 e (fun c o hc q => ?_) ⟨oe, Kpt.same e5 e _ (by simp [hez]) ho, hc⟩
    simp only [List.mem_cons, List.not_mem_nil, or_false, not_or] at hc
    exact Kpt.same e5 c o (by simp [hc.1]) (k4 c o (by simp [hc.1, hc.2.1, hc.2.2.1, hc.2.2.2]) q)
theorem nextG_item {x y : Value} {y1 z1 y2 z2 : Heap → Prop} {Q : Option Value → Shared → Prop} (D : ZipApart z TI TO i1 i2 l1 l2) (n1 : More prog w i1 y1 z1 x) (n2 : More prog w i2 y2 z2 y) (s1 : Hold y1 i1 l1) (t1 : Hold z1 i1 i1) (s2 : Hold y2 i2 l2) (t2 : Hold z2 i2 i2)
    (hz : IsZip s.heap z TI TO .none) (hTI : IsPair s.heap TI (.ref i1) (.ref i2)) (hTO : IsPair s.heap TO a b) (h1 : y1 s.heap) (h2 : y2 s.heap)
    (hQ : ∀ h', IsZip h' z TI TO (rawInt s.heap.objs.size) → IsPair h' TO x y → z1 h' → z2 h' → IsPair h' s.heap.objs.size x y → Kpt [z, TO, i1, i2] s.heap h' → Q (some (.ref s.heap.objs.size)) { s with heap := h' }) :
    wpAny (model prog w) A (pyNext (.ref z)) Q E s := by
  have hT : s.TypeIs (.ref z) "zip" := ⟨_, hz, rfl⟩
  unfold pyNext
  exact wpAny_bind (wpAny_attempt (wpAny_callSpecial?_slot (name := Str.ofString "__next__") hT F.slot_zip_next
    (wpAny_call_entry F.slot_zip_next hT F.entry_zip_next (zipG_item D n1 n2 s1 t1 s2 t2 hz hTI hTO h1 h2 fun h' a1 a2 a3 a4 a5 a6 => wpAny_pure (hQ h' a1 a2 a3 a4 a5 a6)) (F.args_zip_next_1 _))))
theorem nextG_end {y1 y2 : Heap → Prop} {Q : Option Value → Shared → Prop} (hh : A.handled = none) (D : ZipApart z TI TO i1 i2 l1 l2) (n : Over prog w i1 y1 ∨ (∃ x z1, More prog w i1 y1 z1 x ∧ Over prog w i2 y2)) (s1 : Hold y1 i1 l1) (s2 : Hold y2 i2 l2)
    (hz : IsZip s.heap z TI TO .none) (hTI : IsPair s.heap TI (.ref i1) (.ref i2)) (hTO : IsPair s.heap TO a b) (h1 : y1 s.heap) (h2 : y2 s.heap)
    (hQ : ∀ h', Kpt [z, TO, i1, i2] s.heap h' → Q none { s with heap := h' }) : wpAny (model prog w) A (pyNext (.ref z)) Q E s := by
  have hT : s.TypeIs (.ref z) "zip" := ⟨_, hz, rfl⟩
  unfold pyNext
  refine wpAny_bind (wpAny_attempt (wpAny_callSpecial?_slot (name := Str.ofString "__next__") hT F.slot_zip_next
    (wpAny_call_entry F.slot_zip_next hT F.entry_zip_next (zipG_end hh D n s1 s2 hz hTI hTO h1 h2 fun h' e hk he => ?_) (F.args_zip_next_1 _))))
  obtain ⟨o, ho, hc⟩ := he
  refine wpAny_bind (wpAny_isInstance (T := "StopIteration") (b := true) ⟨o, ho, hc⟩ isSubtype_stop ?_)
  exact wpAny_pure (hQ _ hk)
end
end
/-- the tuple at a, the list at b, the items in new pairs -/
def ItzM (K : PySem.W.Frag) (a b : Addr) : It :=
  ⟨fun i H => ∃ (xs ys : List V) (x y : V), SqT K H a xs ∧ SqL K H b ys ∧ xs[i]? = some x ∧ ys[i]? = some y,
    fun i H v H' => ∃ T x y, v = .ref T ∧ H T = none ∧ H' = upd H T (.tup [x, y]) ∧ (∀ xs, SqT K H a xs → xs[i]? = some x) ∧ ∀ ys, SqL K H b ys → ys[i]? = some y,
    fun i H => ∃ xs ys : List V, SqT K H a xs ∧ SqL K H b ys ∧ (xs.length ≤ i ∨ ys.length ≤ i)⟩
theorem turnM {P : Program} {w : World} {K : PySem.W.Frag} {elts : List Expr} {kk : Nat} {tpos : Pos} {a b z TI TO i1 i2 : Addr} (D : ZipApart z TI TO i1 i2 a b) :
    Turn P w K (.Tuple elts kk tpos) (ItzM K a b) [z, TI, TO, i1, i2] z (fun i h => IsZip h z TI TO .none ∧ IsPair h TI (.ref i1) (.ref i2) ∧ (∃ x y, IsPair h TO x y) ∧ h.IsTupleIter i1 a i ∧ h.IsListIter i2 b i) where
  mem := List.mem_cons_self
  obj := fun i h st c hc => by
    obtain ⟨hz, hTI, ⟨x, y, hTO⟩, ⟨o1, e1, _, d1⟩, ⟨o2, e2, _, d2⟩⟩ := st
    simp only [List.mem_cons, List.not_mem_nil, or_false] at hc
    rcases hc with rfl | rfl | rfl | rfl | rfl
    · exact ⟨_, hz, fun v q => nomatch q⟩
    · exact ⟨_, hTI, fun v q => nomatch q⟩
    · exact ⟨_, hTO, fun v q => nomatch q⟩
    · exact ⟨o1, e1, fun v q => by rw [d1] at q; cases q⟩
    · exact ⟨o2, e2, fun v q => by rw [d2] at q; cases q⟩
  keep := fun i h h' st k => by
    obtain ⟨hz, hTI, ⟨x, y, hTO⟩, h1, h2⟩ := st
    exact ⟨k z (by simp) _ hz, k TI (by simp) _ hTI, ⟨x, y, k TO (by simp) _ hTO⟩, h1.at fun o q => k i1 (by simp) o q, h2.at fun o q => k i2 (by simp) o q⟩
  item := by
    intro X hP hw hK hc i pins s σ H E I hf st hg
    subst hP hw hK
    obtain ⟨hz, hTI, ⟨x0, y0, hTO⟩, h1, h2⟩ := st
    obtain ⟨xs, ys, x, y, hqx, hqy, hx, hy⟩ := hg
    obtain ⟨its, rv, p, _⟩ := I.tuple hqx
    obtain ⟨its2, rv2, p2, _⟩ := I.list hqy
    obtain ⟨u, hu, ru⟩ := rv.get hx
    obtain ⟨u2, hu2, ru2⟩ := rv2.get hy
    have zl : z < s.heap.objs.size := Heap.lt_size hz
    have low : ∀ c ∈ [z, TI, TO, i1, i2], c < s.heap.objs.size := fun c hc => by
      simp only [List.mem_cons, List.not_mem_nil, or_false] at hc
      rcases hc with rfl | rfl | rfl | rfl | rfl
      · exact zl
      · exact Heap.lt_size hTI
      · exact Heap.lt_size hTO
      · obtain ⟨_, e1, _⟩ := h1; exact Heap.lt_size e1
      · obtain ⟨_, e2, _⟩ := h2; exact Heap.lt_size e2
    refine nextG_item D (more_tup (l := a) (xs := its.toArray) (x := u) (by simpa using hu)) (more_lst (l := b) (xs := its2.toArray) (x := u2) (by simpa using hu2)) hold_tup hold_tupI hold_lst hold_lstI hz hTI hTO ⟨h1, p⟩ ⟨h2, p2.isList⟩ fun g a1 a2 a3 a4 a5 k => ?_
    refine ⟨_, rfl, wpAny_letOwnedTupleGo_zip (s := { s with heap := g }) a1 fun g2 b1 sb => ?_⟩
    have n2 : g2.get? s.heap.objs.size = some { cls := .type "tuple", data := .seq #[u, u2] } := (sb.2 _ (Nat.ne_of_gt zl)).trans a5
    have new : ObjOk X.prog X.w (upd H s.heap.objs.size (.tup [x, y])) g2 s.heap.objs.size (.tup [x, y]) := ⟨by show 2 ≤ sizeLine; decide, [u, u2], .cons ru (.cons ru2 .nil), ⟨_, n2, rfl, _, rfl⟩⟩
    have I1 : Inv X pins σ (upd H s.heap.objs.size (.tup [x, y])) { s with heap := g2 } :=
      I.turnedNew (t' := s.toks) (ch := [z, TI, TO, i1, i2]) (fun c o hb q => (sb.2 c (fun q' => hb (by simp [q']))).trans (k c o (fun m => hb (by
        simp only [List.mem_cons, List.not_mem_nil, or_false] at m ⊢
        rcases m with m | m | m | m <;> simp [m])) q)) hf (Nat.le_refl _) new
    refine ⟨.ref s.heap.objs.size, _, I1, rfl, ⟨_, x, y, rfl, I.hok.fresh (Nat.le_refl _), rfl, fun l hl => by rw [I.tuple_inj hl hqx]; exact hx, fun l hl => by rw [I.list_inj hl hqy]; exact hy⟩, ⟨b1, (sb.2 _ D.TIz).trans (k TI _ (by simp [D.TIz, D.TITO, D.TIi1, D.TIi2]) hTI), ⟨u, u2, (sb.2 _ D.TOz).trans a2⟩, a3.at fun o q => (sb.2 _ D.i1z).trans q, a4.at fun o q => (sb.2 _ D.i2z).trans q⟩, fun c hcm => ?_⟩
    rw [upd_ne (Nat.ne_of_lt (low c hcm))]
    exact (hf c hcm).1
  done := by
    intro X hP hw hK hc i pins s σ H E I hf st hg
    subst hP hw hK
    obtain ⟨hz, hTI, ⟨x0, y0, hTO⟩, h1, h2⟩ := st
    obtain ⟨xs, ys, hqx, hqy, hend⟩ := hg
    obtain ⟨its, rv, p, _⟩ := I.tuple hqx
    obtain ⟨its2, rv2, p2, _⟩ := I.list hqy
    have l1 := rv.length
    have l2 := rv2.length
    refine nextG_end (y1 := fun h => h.IsTupleIter i1 a i ∧ h.IsTuple a its.toArray) (y2 := fun h => h.IsListIter i2 b i ∧ h.IsList b its2.toArray) (I.ok.hd hc) D ?_ hold_tup hold_lst hz hTI hTO ⟨h1, p⟩ ⟨h2, p2.isList⟩ fun g k => ⟨rfl, I.turnedL (t' := s.toks) (ch := [z, TI, TO, i1, i2]) (fun c o hb q => k c o (fun m => hb (by
        simp only [List.mem_cons, List.not_mem_nil, or_false] at m ⊢
        rcases m with m | m | m | m <;> simp [m])) q) hf⟩
    cases e : its.toArray[i]? with
    | none => exact .inl (over_tup e)
    | some u =>
      refine .inr ⟨u, _, more_tup e, over_lst ?_⟩
      have := (Array.getElem?_eq_some_iff.mp e).1
      rw [List.size_toArray] at this
      exact Array.getElem?_eq_none (by rw [List.size_toArray]; omega)
  self := fun A i s Q E st h => wpAny_pyIter_zip st.1 h
def mA (h : Heap) (l : Addr) : Heap := h.push { cls := .type "tuple_iterator", data := .fields #[.ref l, .int 0 0] }
def mB (h : Heap) (l m : Addr) : Heap := (mA h l).push { cls := .type "list_iterator", data := .fields #[.ref m, .int 0 0] }
def mC (h : Heap) (l m : Addr) : Heap := (mB h l m).push { cls := .type "tuple", data := .seq #[.ref h.objs.size, .ref (mA h l).objs.size] }
def mD (h : Heap) (l m : Addr) : Heap := (mC h l m).push { cls := .type "tuple", data := .seq #[.none, .none] }
def mE (h : Heap) (l m : Addr) : Heap := (mD h l m).push { cls := .type "zip", data := .fields #[.none, .bool false, .bool false, .ref (mB h l m).objs.size, .ref (mC h l m).objs.size] }
theorem newM (l1 l2 : Addr) (xs ys : Array Value) :
    Meets (Builtin.«zip.__new__» ⟨[.type "zip", .ref l1, .ref l2], []⟩) (fun _ R s => s.heap.IsTuple l1 xs ∧ s.heap.IsList l2 ys ∧ R (.ok (.ret (.ref (mD s.heap l1 l2).objs.size))) { s with heap := mE s.heap l1 l2 }) :=
  .of_wp fun prog w A R s h => by
    obtain ⟨hp, g, d, tk, os⟩ := s
    obtain ⟨hl1, hl2, h⟩ := h
    have hsub := sub_zip
    have hL1 : Heap.IsTuple (Shared.heap ⟨hp, g, d, tk, os⟩) l1 xs := hl1
    have hL2 : Heap.IsList (Shared.heap ⟨hp.push { cls := .type "tuple_iterator", data := .fields #[.ref l1, .int 0 0] }, g, d, tk, os⟩) l2 ys := Heap.IsList.push hl2 _
    wp_walk using wpAny_pyIter_tuple hL1, wpAny_pyIter_list hL2
    exact ⟨_, rfl, h⟩
theorem callM {prog : Program} {w : World} {A : Around} {E : Value → Shared → Prop} {s : Shared} {l1 l2 : Addr} {xs ys : Array Value} {Q : Value → Shared → Prop} (hl1 : s.heap.IsTuple l1 xs) (hl2 : s.heap.IsList l2 ys)
    (h : ∀ h', IsZip h' (s.heap.objs.size + 4) (s.heap.objs.size + 2) (s.heap.objs.size + 3) .none → IsPair h' (s.heap.objs.size + 2) (.ref s.heap.objs.size) (.ref (s.heap.objs.size + 1)) →
      IsPair h' (s.heap.objs.size + 3) .none .none → h'.IsTupleIter s.heap.objs.size l1 0 → h'.IsListIter (s.heap.objs.size + 1) l2 0 → (∀ c o, s.heap.get? c = some o → h'.get? c = some o) → Q (.ref (s.heap.objs.size + 4)) { s with heap := h' }) :
    wpAny (model prog w) A (call (.type "zip") [.ref l1, .ref l2]) Q E s := by
  refine callType_new F.called_zip (by decide) (F.typeCall_zip_2 _ _) (F.newCall_zip_2 _ _) (fun obj => F.args_object_init_3 obj _ _) F.entry_zip_new (newM l1 l2 xs ys) ⟨hl1, hl2, ?_⟩
  have sA : (mA s.heap l1).objs.size = s.heap.objs.size + 1 := Heap.size_push ..
  have sB : (mB s.heap l1 l2).objs.size = s.heap.objs.size + 2 := by unfold mB; rw [Heap.size_push, sA]
  have sC : (mC s.heap l1 l2).objs.size = s.heap.objs.size + 3 := by unfold mC; rw [Heap.size_push, sB]
  have sD : (mD s.heap l1 l2).objs.size = s.heap.objs.size + 4 := by unfold mD; rw [Heap.size_push, sC]
  have oE {c : Addr} {o : Obj} (q : (mD s.heap l1 l2).get? c = some o) : (mE s.heap l1 l2).get? c = some o := Heap.get?_push_of_some _ q
  have oD {c : Addr} {o : Obj} (q : (mC s.heap l1 l2).get? c = some o) : (mE s.heap l1 l2).get? c = some o := oE (Heap.get?_push_of_some _ q)
  have oC {c : Addr} {o : Obj} (q : (mB s.heap l1 l2).get? c = some o) : (mE s.heap l1 l2).get? c = some o := oD (Heap.get?_push_of_some _ q)
  have oB {c : Addr} {o : Obj} (q : (mA s.heap l1).get? c = some o) : (mE s.heap l1 l2).get? c = some o := oC (Heap.get?_push_of_some _ q)
  have gE : (mE s.heap l1 l2).get? (mD s.heap l1 l2).objs.size = some _ := Heap.get?_push_size _ rfl
  have gD : (mE s.heap l1 l2).get? (mC s.heap l1 l2).objs.size = some _ := oE (Heap.get?_push_size _ rfl)
  have gC : (mE s.heap l1 l2).get? (mB s.heap l1 l2).objs.size = some _ := oD (Heap.get?_push_size _ rfl)
  have gB : (mE s.heap l1 l2).get? (mA s.heap l1).objs.size = some _ := oC (Heap.get?_push_size _ rfl)
  have gA : (mE s.heap l1 l2).get? s.heap.objs.size = some _ := oB (Heap.get?_push_size _ rfl)
  show _ ∧ _
  rw [sB, sC, sD] at gE
  rw [sA, sB] at gC
  rw [sC] at gD
  rw [sA] at gB
  rw [sD]
  exact ⟨⟨_, gE, rfl⟩, h _ gE gC gD ⟨_, gA, rfl, rfl⟩ ⟨_, gB, rfl, rfl⟩ fun c o x => oB (Heap.get?_push_of_some _ x)⟩
def iZipM (K : PySem.W.Frag) (ta : TA) : TI := fun σ H R => ta σ H fun vs H1 => ∃ a b xs ys, vs = [.ref a, .ref b] ∧ SqT K H1 a xs ∧ SqL K H1 b ys ∧ R (ItzM K a b) H1
theorem pi_zipM {X : Cx} {e e2 : Expr} {ta : TA} {p pos tpos : Pos} {elts : List Expr} {kk : Nat} (hg : Gl X "zip") (hm : X.mg "zip" = none) (ha : PA X [e, e2] ta)
    (hs : starEach [e, e2] X.env = (false, eval e X.env) :: starEach [e2] X.env := by rfl) (hpl : (backTo pos (starEach [e2] X.env)).any (·.1) = false := by rfl) :
    PI X (.Tuple elts kk tpos) (.Call (.Name "zip" p) [e, e2] [] pos) (iZipM X.K ta) := by
  refine ⟨fun pins s σ H R I h => ?_⟩
  refine Call_ (ld_blt I hg hm PyProof.Rows.boot_zip (PyProof.Rows.callWith_type1 (thn (ha.run pos pins s σ H _ I h) fun us s1 ⟨vs, H1, I1, r1, q1⟩ => ?_) hs hpl))
  obtain ⟨a, b, xs, ys, ex, hqx, hqy, q⟩ := q1
  subst ex
  obtain ⟨u1, w1, rfl, ru, rw1⟩ : ∃ u1 w1, us = u1 :: w1 ∧ RelV (.ref a) u1 ∧ Vals [.ref b] w1 := by
    cases r1 with
    | cons r rr => exact ⟨_, _, rfl, r, rr⟩
  obtain ⟨u2, rfl, ru2⟩ := rw1.one
  have e1 : u1 = Value.ref a := ru
  have e2 : u2 = Value.ref b := ru2
  subst e1
  subst e2
  obtain ⟨its, rv, p1, _⟩ := I1.tuple hqx
  obtain ⟨its2, rv2, p2, _⟩ := I1.list hqy
  obtain ⟨o1, ho1, _⟩ := id p1
  refine callM (xs := its.toArray) p1 p2.isList fun h' hz hTI hTO h1 h2 hk => wpAny_pyIter_zip hz ?_
  have I2 : Inv X pins σ H1 { s1 with heap := h' } := I1.kept (t' := s1.toks) hk
  have fresh : ∀ c, c ∈ [s1.heap.objs.size + 4, s1.heap.objs.size + 2, s1.heap.objs.size + 3, s1.heap.objs.size, s1.heap.objs.size + 1] → FpOk X pins H1 c := fun c hc => by
    have e' : c = s1.heap.objs.size + 4 ∨ c = s1.heap.objs.size + 2 ∨ c = s1.heap.objs.size + 3 ∨ c = s1.heap.objs.size ∨ c = s1.heap.objs.size + 1 := by simpa using hc
    have hle : s1.heap.objs.size ≤ c := by omega
    exact I1.fpOk hle (I1.hok.fresh hle)
  exact ⟨s1.heap.objs.size + 4, [s1.heap.objs.size + 4, s1.heap.objs.size + 2, s1.heap.objs.size + 3, s1.heap.objs.size, s1.heap.objs.size + 1], _, _, H1, rfl, I2, turnM (PySem.W.ktu_apart s1.heap.objs.size a b (Heap.lt_size ho1) p2.lt), ⟨hz, hTI, ⟨_, _, hTO⟩, h1, h2⟩, fresh, q⟩
section
variable {S : Sx} {Γ : List Slot} {a b : Expr} {p : Pos}
theorem ei_zipM {QI : List Da → Prop} {elts : List Expr} {kk : Nat} {tpos q : Pos} (hg : GlS S "zip") (hm : S.mg "zip" = none) (h : EvE S Γ a fun d => EvE S Γ b fun d' => asTup d fun xs => asLst d' fun ys => QI ((xs.zip ys).map fun z => Da.tup [z.1, z.2]))
    (hs : ∀ env, starEach [a, b] env = (false, eval a env) :: starEach [b] env := by intro _; rfl) (hs2 : ∀ env, starEach [b] env = (false, eval b env) :: starEach [] env := by intro _; rfl) (hpl : ∀ env, (backTo q (starEach [b] env)).any (·.1) = false := by intro _; rfl) :
    EvI S Γ (.Tuple elts kk tpos) (.Call (.Name "zip" p) [a, b] [] q) QI := fun PX σ H Hf k st hk =>
  ⟨iZipM S.K (tCons (tU S a) (tCons (tU S b) tNil)), fun X ok => by have z := pi_zipM (tpos := tpos) (p := p) (pos := q) (elts := elts) (kk := kk) (hg.gl ok) (by rw [ok.mg]; exact hm) (pa_cons (pu (e := a) ok) (pa_cons (pu (e := b) ok) pa_nil (hs2 _)) (hs _)) (hs _) (hpl _); rw [ok.K] at z; exact z,
    h PX σ H Hf _ st fun d v Hf1 H1 e1 st1 r q => q PX σ H1 Hf1 _ st1 fun d' v' Hf2 H2 e2 st2 r' q => by
    obtain ⟨xs, rfl, q1⟩ := asTup_ q
    obtain ⟨ys, rfl, q2⟩ := asLst_ q1
    obtain ⟨l1, us, rfl, s1, r1⟩ := (Rep.mono e2 _ _ r).tup_
    obtain ⟨l2, ws, rfl, s2, r2⟩ := r'.lst_
    have hl : ((xs.zip ys).map fun z => Da.tup [z.1, z.2]).length = min xs.length ys.length := by rw [List.length_map, List.length_zip]
    refine ⟨l1, l2, us, ws, rfl, st2.ex.st s1, st2.ex.sl s2, hk _ _ Hf2 H2 (e1.trans e2) st2 ⟨fun i Hf' H' e e' hi => ?_, fun i Hf' H' e e' hi => ?_, fun PX i x Γ σ Hf' H' H'' e s hi y => ?_⟩ q2⟩
    · rw [hl] at hi
      obtain ⟨_, v1, _, h1, _⟩ := r1.at (i := i) (by omega)
      obtain ⟨_, v2, _, h2, _⟩ := r2.at (i := i) (by omega)
      exact ⟨us, ws, v1, v2, e'.st (e.st s1), e'.sl (e.sl s2), h1, h2⟩
    · rw [hl] at hi
      have z1 := r1.len
      have z2 := r2.len
      exact ⟨us, ws, e'.st (e.st s1), e'.sl (e.sl s2), by omega⟩
    · rw [hl] at hi
      obtain ⟨T, x, y, rfl, hT, rfl, y1, y2⟩ := y
      obtain ⟨d1, v1, g1, h1, w1⟩ := r1.at (i := i) (by omega)
      obtain ⟨d2, v2, g2, h2, w2⟩ := r2.at (i := i) (by omega)
      have k1 := (y1 us (s.ex.st (e.st s1))).symm.trans h1
      have k2 := (y2 ws (s.ex.sl (e.sl s2))).symm.trans h2
      cases k1; cases k2
      obtain ⟨st4, e4⟩ := s.alloc (o := .tup [x, y]) hT
      refine ⟨_, .tup [d1, d2], e4, st4, ?_, T, [x, y], rfl, SqT.of upd_same, x, _, rfl, Rep.mono (e.trans e4) _ _ w1, y, _, rfl, Rep.mono (e.trans e4) _ _ w2, rfl⟩
      rw [List.getElem?_map, (List.getElem?_zip_eq_some (z := (d1, d2))).mpr ⟨g1, g2⟩]; rfl⟩
end
/-! list(range(n)) -/
section
variable {S : Sx} {Γ : List Slot} {a : Expr} {p pos p3 p4 : Pos} {QN : List Da → Prop}
theorem en_listRg1 (hg : GlS S "list") (hm : S.mg "list" = none) (hg2 : GlS S "range") (hm2 : S.mg "range" = none) (h : EvE S Γ a fun d => asInt d fun j => RgOk 0 j ∧ QN (rngD 0 (j - 0).toNat))
    (hs : ∀ env, starEach [a] env = (false, eval a env) :: starEach [] env := by intro _; rfl)
    (hs3 : ∀ env, starEach [Expr.Call (.Name "range" p4) [a] [] p3] env = (false, eval (.Call (.Name "range" p4) [a] [] p3) env) :: starEach [] env := by intro _; rfl) (hc : S.calm = true := by rfl) :
    EvN S Γ (.Call (.Name "list" p) [.Call (.Name "range" p4) [a] [] p3] [] pos) QN :=
  en_of (fun X ok => pe_listRg (ok.calm hc) (hg.gl ok) (by rw [ok.mg]; exact hm) (prg_1 (hg2.gl ok) (by rw [ok.mg]; exact hm2) (pu ok) (hs _)) (hs3 _)) fun PX σ H Hf k st hk =>
    h PX σ H Hf _ st fun d v Hf1 H1 e1 st1 r q => by
    obtain ⟨j, rfl, q2⟩ := asInt_ q
    have r1 : v = .int j := r
    subst r1
    exact ⟨j, rfl, q2.1, fun n hn => hk n _ _ Hf1 _ e1 (st1.px.free hn) (st1.fresh0 hn) (st1.opn hn) (st1.frame hn) (reps_rg 0 _) q2.2⟩
end
end GX

namespace GX
open PySem PySem.Spec PyProof.Rows L2
/-! ## dicts of the def's own -/
@[reducible] def keyD : Key → Da
  | .inl i => .int i
  | .inr x => .str x
theorem rep_key {K : PySem.W.Frag} {H : Hp} (k : Key) : Rep K H (keyD k) (kV k) := by cases k <;> rfl
theorem rep_keyV {K : PySem.W.Frag} {H : Hp} {k : Key} {v : V} (r : Rep K H (keyD k) v) : v = kV k := by
  cases k with
  | inl i => exact (show v = .int i from r)
  | inr i => exact (show v = .str i from r)
@[reducible] def asKey (d : Da) (k : Key → Prop) : Prop := match d with
  | .int i => k (.inl i)
  | .str x => k (.inr x)
  | _ => False
theorem asKey_ {d : Da} {k : Key → Prop} (h : asKey d k) : ∃ i, d = keyD i ∧ k i := by
  cases d <;> first | exact ⟨.inl _, rfl, h⟩ | exact ⟨.inr _, rfl, h⟩ | exact h.elim
@[reducible] def asDct (d : Da) (k : List (Key × Da) → Prop) : Prop := match d with | .dct i => k i | _ => False
theorem asDct_ {d : Da} {k : List (Key × Da) → Prop} (h : asDct d k) : ∃ i, d = .dct i ∧ k i := by cases d <;> first | exact ⟨_, rfl, h⟩ | exact h.elim
def putD (ks : List (Key × Da)) (k : Key) (d : Da) : List (Key × Da) :=
  if (ks.any fun kv => decide (kv.1 = k)) = true then ks.map (fun kv => if kv.1 = k then (kv.1, d) else kv) else ks ++ [(k, d)]
def mergeD (ks more : List (Key × Da)) : List (Key × Da) := more.foldl (fun acc kv => putD acc kv.1 kv.2) ks
def getK (ks : List (Key × Da)) (k : Key) : Option Da := (ks.find? fun kv => decide (kv.1 = k)).map (·.2)
theorem putD_len (ks : List (Key × Da)) (k : Key) (d : Da) : (putD ks k d).length ≤ ks.length + 1 := by
  unfold putD
  split
  · rw [List.length_map]; omega
  · rw [List.length_append, List.length_cons, List.length_nil]; omega
theorem putD_mem {ks : List (Key × Da)} {k j : Key} {d : Da} : j ∈ (putD ks k d).map (·.1) ↔ j = k ∨ j ∈ ks.map (·.1) := by
  unfold putD
  split <;> rename_i h
  · have e : (ks.map fun kv => if kv.1 = k then (kv.1, d) else kv).map (·.1) = ks.map (·.1) := by
      rw [List.map_map]
      refine List.map_congr_left fun p _ => ?_
      show (if p.1 = k then (p.1, d) else p).1 = p.1
      split <;> rfl
    rw [e]
    refine ⟨.inr, fun h2 => ?_⟩
    rcases h2 with rfl | h2
    · obtain ⟨p, hp, e⟩ := List.any_eq_true.mp h
      exact List.mem_map.mpr ⟨p, hp, of_decide_eq_true e⟩
    · exact h2
  · rw [List.map_append, List.mem_append]
    simp only [List.map_cons, List.map_nil, List.mem_singleton]
    exact Or.comm
theorem putD_nodup {ks : List (Key × Da)} {k : Key} {d : Da} (n : (ks.map (·.1)).Nodup) : ((putD ks k d).map (·.1)).Nodup := by
  unfold putD
  split <;> rename_i h
  · have e : (ks.map fun kv => if kv.1 = k then (kv.1, d) else kv).map (·.1) = ks.map (·.1) := by
      rw [List.map_map]
      refine List.map_congr_left fun p _ => ?_
      show (if p.1 = k then (p.1, d) else p).1 = p.1
      split <;> rfl
    rw [e]; exact n
  · rw [List.map_append]
    refine List.nodup_append.mpr ⟨n, by simp, fun a ha b hb => ?_⟩
    simp only [List.map_cons, List.map_nil, List.mem_singleton] at hb
    subst hb
    intro e
    subst e
    obtain ⟨p, hp, e⟩ := List.mem_map.mp ha
    exact h (List.any_eq_true.mpr ⟨p, hp, decide_eq_true e⟩)
theorem mergeD_mem {j : Key} : ∀ {more ks : List (Key × Da)}, j ∈ (mergeD ks more).map (·.1) ↔ j ∈ ks.map (·.1) ∨ j ∈ more.map (·.1)
  | [], ks => by show _ ↔ _ ∨ j ∈ []; simp [mergeD]
  | p :: more, ks => by
    show j ∈ (mergeD (putD ks p.1 p.2) more).map (·.1) ↔ _
    rw [mergeD_mem, putD_mem, List.map_cons, List.mem_cons]
    exact ⟨fun h => by rcases h with (h | h) | h <;> simp [h], fun h => by rcases h with h | h | h <;> simp [h]⟩
theorem mergeD_nodup : ∀ {more ks : List (Key × Da)}, (ks.map (·.1)).Nodup → ((mergeD ks more).map (·.1)).Nodup
  | [], ks, h => h
  | p :: more, ks, h => mergeD_nodup (more := more) (putD_nodup h)
theorem mergeD_len : ∀ (more ks : List (Key × Da)), (mergeD ks more).length ≤ ks.length + more.length
  | [], ks => by show ks.length ≤ ks.length + 0; omega
  | p :: r, ks => by
    have h1 := mergeD_len r (putD ks p.1 p.2)
    have h2 := putD_len ks p.1 p.2
    show (mergeD (putD ks p.1 p.2) r).length ≤ _
    rw [List.length_cons]; omega
section
variable {K : PySem.W.Frag} {H : Hp}
theorem RepK.len : ∀ {ks : List (Key × Da)} {kvs : List (Key × V)}, RepK K H ks kvs → kvs.length = ks.length
  | [], _, r => by unfold RepK at r; subst r; rfl
  | (k, d) :: ks, _, r => by
    obtain ⟨v, l, rfl, _, r2⟩ := r
    rw [List.length_cons, List.length_cons, RepK.len r2]
theorem RepK.any {k : Key} : ∀ {ks : List (Key × Da)} {kvs : List (Key × V)}, RepK K H ks kvs → (kvs.any fun kv => decide (kv.1 = k)) = ks.any fun kv => decide (kv.1 = k)
  | [], _, r => by unfold RepK at r; subst r; rfl
  | (j, d) :: ks, _, r => by
    obtain ⟨v, l, rfl, _, r2⟩ := r
    rw [List.any_cons, List.any_cons, RepK.any r2]
theorem RepK.repl {k : Key} {d : Da} {v : V} (rd : Rep K H d v) : ∀ {ks : List (Key × Da)} {kvs : List (Key × V)}, RepK K H ks kvs →
    RepK K H (ks.map fun kv => if kv.1 = k then (kv.1, d) else kv) (kvs.map fun kv => if kv.1 = k then (kv.1, v) else kv)
  | [], _, r => by unfold RepK at r; subst r; exact rfl
  | (j, e) :: ks, _, r => by
    obtain ⟨u, l, rfl, r1, r2⟩ := r
    rw [List.map_cons, List.map_cons]
    by_cases c : j = k
    · rw [if_pos (show (j, e).1 = k from c), if_pos (show (j, u).1 = k from c)]
      exact ⟨v, _, rfl, rd, RepK.repl rd r2⟩
    · rw [if_neg (show ¬ (j, e).1 = k from c), if_neg (show ¬ (j, u).1 = k from c)]
      exact ⟨u, _, rfl, r1, RepK.repl rd r2⟩
theorem RepK.snoc {k : Key} {d : Da} {v : V} (rd : Rep K H d v) : ∀ {ks : List (Key × Da)} {kvs : List (Key × V)}, RepK K H ks kvs → RepK K H (ks ++ [(k, d)]) (kvs ++ [(k, v)])
  | [], _, r => by unfold RepK at r; subst r; exact ⟨v, [], rfl, rd, rfl⟩
  | (j, e) :: ks, _, r => by
    obtain ⟨u, l, rfl, r1, r2⟩ := r
    exact ⟨u, _, rfl, r1, RepK.snoc rd r2⟩
theorem RepK.put {k : Key} {d : Da} {v : V} (rd : Rep K H d v) {ks : List (Key × Da)} {kvs : List (Key × V)} (r : RepK K H ks kvs) : RepK K H (putD ks k d) (putK kvs k v) := by
  unfold putD putK
  rw [r.any]
  split
  · exact r.repl rd
  · exact r.snoc rd
theorem RepK.merge : ∀ {more ks : List (Key × Da)} {mv kvs : List (Key × V)}, RepK K H more mv → RepK K H ks kvs → RepK K H (mergeD ks more) (mergeK kvs mv)
  | [], ks, _, kvs, r, r0 => by unfold RepK at r; subst r; exact r0
  | (k, d) :: more, ks, _, kvs, r, r0 => by
    obtain ⟨v, l, rfl, r1, r2⟩ := r
    show RepK K H (mergeD (putD ks k d) more) (mergeK (putK kvs k v) l)
    exact RepK.merge r2 (r0.put r1)
theorem RepK.keys : ∀ {ks : List (Key × Da)} {kvs : List (Key × V)}, RepK K H ks kvs → Reps K H (ks.map fun kv => keyD kv.1) (kvs.map fun kv => kV kv.1)
  | [], _, r => by unfold RepK at r; subst r; rfl
  | (k, d) :: ks, _, r => by
    obtain ⟨v, l, rfl, _, r2⟩ := r
    exact ⟨_, _, rfl, rep_key k, RepK.keys r2⟩
theorem RepK.vals : ∀ {ks : List (Key × Da)} {kvs : List (Key × V)}, RepK K H ks kvs → Reps K H (ks.map (·.2)) (kvs.map (·.2))
  | [], _, r => by unfold RepK at r; subst r; rfl
  | (k, d) :: ks, _, r => by
    obtain ⟨v, l, rfl, r1, r2⟩ := r
    exact ⟨_, _, rfl, r1, RepK.vals r2⟩
theorem RepK.val {k : Key} : ∀ {ks : List (Key × Da)} {kvs : List (Key × V)}, RepK K H ks kvs → (getK ks k = none ∧ valV kvs k = none) ∨ ∃ d v, getK ks k = some d ∧ valV kvs k = some v ∧ Rep K H d v
  | [], _, r => by unfold RepK at r; subst r; exact .inl ⟨rfl, rfl⟩
  | (j, d) :: ks, _, r => by
    obtain ⟨v, l, rfl, r1, r2⟩ := r
    by_cases c : j = k
    · exact .inr ⟨d, v, by simp [getK, List.find?_cons, c], by simp [valV, List.find?_cons, c], r1⟩
    · have e1 : getK ((j, d) :: ks) k = getK ks k := by simp [getK, List.find?_cons, c]
      have e2 : valV ((j, v) :: l) k = valV l k := by simp [valV, List.find?_cons, c]
      rw [e1, e2]
      exact RepK.val r2
/-- pairs of data -/
def RepPs (K : PySem.W.Frag) (H : Hp) : List (Da × Da) → List (V × V) → Prop
  | [], vs => vs = []
  | (d, e) :: ps, vs => ∃ x y r, vs = (x, y) :: r ∧ Rep K H d x ∧ Rep K H e y ∧ RepPs K H ps r
theorem RepPs.mono {H' : Hp} (e : Sub H H') : ∀ {ps : List (Da × Da)} {vs : List (V × V)}, RepPs K H ps vs → RepPs K H' ps vs
  | [], _, r => r
  | (a, b) :: ps, _, r => by
    obtain ⟨x, y, l, h, r1, r2, r3⟩ := r
    exact ⟨x, y, l, h, Rep.mono e _ _ r1, Rep.mono e _ _ r2, RepPs.mono e r3⟩
theorem RepPs.toK : ∀ {ks : List (Key × Da)} {vs : List (V × V)}, RepPs K H (ks.map fun kv => (keyD kv.1, kv.2)) vs → ∃ kvs : List (Key × V), vs = kvs.map (fun kv => (kV kv.1, kv.2)) ∧ RepK K H ks kvs
  | [], vs, r => ⟨[], r, rfl⟩
  | (k, d) :: ks, vs, r => by
    obtain ⟨x, y, l, rfl, r1, r2, r3⟩ := r
    obtain ⟨kvs, rfl, r4⟩ := RepPs.toK r3
    exact ⟨(k, y) :: kvs, by rw [List.map_cons, rep_keyV r1], y, kvs, rfl, r2, r4⟩
theorem Reps.toK : ∀ {ks : List (Key × Da)} {vs : List V}, Reps K H (ks.map fun kv => Da.tup [keyD kv.1, kv.2]) vs → ∃ (ps : List Addr) (kvs : List (Key × V)), vs = ps.map V.ref ∧ RepK K H ks kvs ∧ Paired (fun p kv => SqT K H p [kV kv.1, kv.2]) ps kvs
  | [], vs, r => ⟨[], [], r, rfl, .nil⟩
  | (k, d) :: ks, vs, r => by
    obtain ⟨x, l, rfl, r1, r2⟩ := r
    obtain ⟨ps, kvs, rfl, r3, r4⟩ := Reps.toK r2
    obtain ⟨a, xs, rfl, s1, r5⟩ := r1
    obtain ⟨v, u, rfl, r6, r7⟩ := Reps.two r5
    refine ⟨a :: ps, (k, u) :: kvs, rfl, ⟨u, kvs, rfl, r7, r3⟩, .cons ?_ r4⟩
    rw [rep_keyV r6] at s1
    exact s1
end
theorem bt_dict : bootBuiltins "dict" = some (.type "dict") := by decide +kernel
def EvD (S : Sx) (Γ : List Slot) (e : Expr) (Q : List (Key × Da) → Prop) : Prop := ∀ PX σ H Hf k, Stt S PX Γ Hf H σ →
  (∀ p ks kvs Hf' H', Sub Hf Hf' → PX p = none → S.H0 p = none → p ∉ S.op.map (·.1) → Stt S (upd PX p (.dK kvs)) Γ Hf' H' σ → RepK S.K Hf' ks kvs → Q ks → k (.ref p) H') → tU S e σ H k
def trsOf (S : Sx) : List (Option Expr) → List Expr → List (TE × TE)
  | some k :: ks, v :: vs => (tU S k, tU S v) :: trsOf S ks vs
  | _, _ => []
theorem pps_of {S : Sx} {X : Cx} {pos : Pos} (ok : S.Ok X) : ∀ {ks : List (Option Expr)} {vs : List Expr}, ks.all (·.isSome) = true → ks.length = vs.length → PPs X pos ks vs (trsOf S ks vs)
  | [], [], _, _ => pps_nil
  | [], _ :: _, _, h => by cases h
  | some k :: ks, [], _, h => by cases h
  | none :: ks, _, h, _ => by cases h
  | some k :: ks, v :: vs, h, h2 => pps_cons (pu ok) (pu ok) (pps_of ok (by simpa using h) (by simpa using h2))
def EvPs (S : Sx) (Γ : List Slot) (keys : List (Option Expr)) (values : List Expr) (Q : List (Da × Da) → Prop) : Prop := ∀ PX σ H Hf k, Stt S PX Γ Hf H σ →
  (∀ ps vs Hf' H', Sub Hf Hf' → Stt S PX Γ Hf' H' σ → RepPs S.K Hf' ps vs → Q ps → k vs H') → tPairs (trsOf S keys values) σ H k
section
variable {S : Sx} {Γ : List Slot} {a b c e : Expr} {es : List Expr} {Q : Da → Prop} {QN : List Da → Prop} {QD : List (Key × Da) → Prop} {p pos spos : Pos} {x : Str} {k i : Nat} {I : List Da → Prop} {D : EnG} {A : Addr}
theorem EvD.ev (h : EvD S Γ e fun ks => Q (.dct ks)) : EvE S Γ e Q := fun PX σ H Hf k st hk => h PX σ H Hf k st fun p ks kvs Hf' H' e1 hP h0 _ s r q => by
  obtain ⟨s8, e8⟩ := s.freeze hP h0
  exact hk (.dct ks) (.ref p) _ H' (e1.trans e8) s8 ⟨p, kvs, rfl, .inl upd_same, RepK.mono e8 _ _ r⟩ q
theorem evd_of {t : TE} (h : ∀ X, S.Ok X → PE X e t) (q : ∀ PX σ H Hf k, Stt S PX Γ Hf H σ → (∀ p ks kvs Hf' H', Sub Hf Hf' → PX p = none → S.H0 p = none → p ∉ S.op.map (·.1) → Stt S (upd PX p (.dK kvs)) Γ Hf' H' σ → RepK S.K Hf' ks kvs → QD ks → k (.ref p) H') → t σ H k) : EvD S Γ e QD :=
  fun PX σ H Hf k st hk => ⟨t, h, q PX σ H Hf k st hk⟩
theorem evd_new (q : QD []) : EvD S Γ (.Dict [] [] pos) QD :=
  evd_of (fun X ok => pe_dnewK) fun PX σ H Hf k st hk => fun n hn => hk n [] [] Hf _ (Sub.refl _) (st.px.free hn) (st.fresh0 hn) (st.opn hn) (st.frame hn) rfl q
theorem epp_nil {Q : List (Da × Da) → Prop} (q : Q []) : EvPs S Γ [] [] Q := fun PX σ H Hf k st hk => hk [] [] Hf H (Sub.refl _) st rfl q
theorem epp_cons {Q : List (Da × Da) → Prop} {ks : List (Option Expr)} (h : EvE S Γ a fun d => EvE S Γ b fun d' => EvPs S Γ ks es fun r => Q ((d, d') :: r)) : EvPs S Γ (some a :: ks) (b :: es) Q :=
  fun PX σ H Hf k st hk => h PX σ H Hf _ st fun d v Hf1 H1 e1 s1 r1 q1 => q1 PX σ H1 Hf1 _ s1 fun d' v' Hf2 H2 e2 s2 r2 q2 => q2 PX σ H2 Hf2 _ s2 fun ps vs Hf3 H3 e3 s3 r3 q3 =>
    hk ((d, d') :: ps) ((v, v') :: vs) Hf3 H3 ((e1.trans e2).trans e3) s3 ⟨v, v', vs, rfl, Rep.mono (e2.trans e3) _ _ r1, Rep.mono e3 _ _ r2, r3⟩ q3
/-- f(*e, ..), [*e, ..] -/
theorem ea_star {Q : List Da → Prop} {sp : Pos} (h : EvE S Γ e fun d => asSeq d fun xs => EvA S Γ es fun ds => Q (xs ++ ds)) (hs : ∀ env, starEach (.Starred e sp :: es) env = (true, eval e env) :: starEach es env := by intro _; rfl) : EvA S Γ (.Starred e sp :: es) Q :=
  fun PX σ H Hf k st hk => ⟨StX.tStar S.K (tU S e) (tUA S es), fun X ok => by have z := StX.pa_star (pu (e := e) ok) (puA (es := es) ok) (hs _); rw [ok.K] at z; exact z, h PX σ H Hf _ st fun d v Hf1 H1 e1 st1 r1 q1 => by
    obtain ⟨ds, a, xs, rfl, hq, rr, q2⟩ := r1.seq q1
    refine ⟨a, xs, rfl, hq.symm.imp st1.ex.st st1.ex.sl, ?_⟩
    exact q2 PX σ H1 Hf1 _ st1 fun zs ws Hf2 H2 e2 st2 r2 q3 => hk (ds ++ zs) (xs ++ ws) Hf2 H2 (e1.trans e2) st2 (Reps.app r2 (Reps.mono e2 _ _ rr)) q3⟩
/-- {k: v, ..} -/
theorem evd_disp {keys : List (Option Expr)} {values : List Expr} (h : EvPs S Γ keys values fun ps => ∃ ks : List (Key × Da), ps = ks.map (fun kv => (keyD kv.1, kv.2)) ∧ ks.length ≤ 15 ∧ QD (mergeD [] ks)) (hall : keys.all (·.isSome) = true := by rfl) (hl : keys.length = values.length := by rfl)
    (h0 : keys ≠ [] := by exact fun z => nomatch z) (h15 : keys.length ≤ 15 := by decide) : EvD S Γ (.Dict keys values pos) QD :=
  evd_of (fun X ok => pe_disp (pps_of ok hall hl) hall hl h0 h15) fun PX σ H Hf k st hk => fun n hn => by
    refine h _ σ _ Hf _ (st.frame hn) fun ps vs Hf1 H1 e1 s1 r1 ⟨ks, e, hl15, q⟩ => ?_
    subst e
    obtain ⟨kvs, rfl, rk⟩ := r1.toK
    have hP := st.px.free hn
    refine ⟨s1.heldH, kvs, rfl, by rw [rk.len]; exact hl15, hk n _ _ Hf1 _ e1 hP (st.fresh0 hn) (st.opn hn) (s1.reframe (st.fresh0 hn)) (rk.merge (ks := []) (kvs := []) (by unfold RepK; rfl)) q⟩
/-- dict(e), e a list of pairs -/
theorem evd_dict (hg : GlS S "dict") (hm : S.mg "dict" = none) (h : EvE S Γ a fun d => ∃ ks : List (Key × Da), d = .lst (ks.map fun kv => Da.tup [keyD kv.1, kv.2]) ∧ QD (mergeD [] ks))
    (hs : ∀ env, starEach [a] env = (false, eval a env) :: starEach [] env := by intro _; rfl) (hpl : ∀ env, (backTo pos (starEach [] env)).any (·.1) = false := by intro _; rfl) (hc : S.calm = true := by rfl) : EvD S Γ (.Call (.Name "dict" p) [a] [] pos) QD :=
  evd_of (t := tCB (fun xs H Q => ∃ (a : Addr) (ps : List Addr) (kvs : List (Key × V)), xs = [.ref a] ∧ SqL S.K H a (ps.map V.ref) ∧ Paired (fun p kv => SqT S.K H p [kV kv.1, kv.2]) ps kvs ∧ ∀ p, H p = none → Q (.ref p) (upd H p (.dK (mergeK [] kvs)))) (tCons (tU S a) tNil)) (fun X ok => by
      have z := pe_callTy (X := X) (p := p) (pos := pos) (call_dictP (ok.calm hc)) (hg.gl ok) (by rw [ok.mg]; exact hm) bt_dict (pa_cons (pu (e := a) ok) pa_nil (hs _)) (by decide) (by decide) (hs _) (hpl _)
      rw [ok.K] at z; exact z) fun PX σ H Hf k st hk => by
    refine h PX σ H Hf _ st fun d v Hf1 H1 e1 st1 r ⟨ks, e, q⟩ => ?_
    subst e
    obtain ⟨l, xs, rfl, s1, r1⟩ := r.lst_
    obtain ⟨ps, kvs, rfl, rk, pr⟩ := r1.toK
    refine ⟨l, ps, kvs, rfl, st1.ex.sl s1, Paired.mapP pr fun _ _ z => st1.ex.st z, fun n hn => ?_⟩
    exact hk n _ _ Hf1 _ e1 (st1.px.free hn) (st1.fresh0 hn) (st1.opn hn) (st1.frame hn) (rk.merge (ks := []) (kvs := []) (by unfold RepK; rfl)) q
/-- x = .., a dict of the def's own -/
theorem es_ownD (hN : S.N[i]? = some x) (hx : Loc S.sc x) (h : EvD S Γ e fun ks => ∀ A, A ∉ S.op.map (·.1) → D.nx (Γ.set i (.ow A .d fun ys => ys = [.dct ks]))) (hs : ∀ env, swapsWith e (some (.Name x p)) spos.line env = pure false := by intro _; rfl) (hst : S.stor x = true := by rfl) : EvS S Γ (.Assign [.Name x p] e spos) D :=
  es_of (fun X ok => ps_set (i := i) (by rw [ok.N]; exact ok.nd) (by rw [ok.N]; exact hN) (by rw [ok.sc]; exact hx) (pu ok) (hs _) (ok.fn x hst)) fun PX σ H Hf D' s k => h PX σ H Hf _ s fun A ks kvs Hf1 H1 e1 hP h0 hop s1 r q =>
    k.nx _ _ Hf1 H1 e1 (s1.setK (kd := .d) (I := fun ys => ys = [.dct ks]) hP h0 ⟨s1.heldF, kvs, ks, s1.heldH, r, rfl⟩ i) (q A hop)
/-- x[k] = v, x a dict of the def's own -/
theorem eg_subD {W : Nat → Bool} {d : Da} {Q : List Slot → Prop} {I' : List Da → Prop} (hN : S.N[i]? = some x) (hv : Vis S.sc x) (hΓ : Γ[i]? = some (.ow A .d I)) (h : EvE S Γ b fun j => asKey j fun j => (∀ ks, I [.dct ks] → ks.length < 100000 ∧ I' [.dct (putD ks j d)]) ∧ Q (Γ.set i (.ow A .d I')))
    (hW : W i = true := by rfl) (hd : (x == ("__debug__" : Str)) = false := by decide) (hcd : (x == ("__classdict__" : Str)) = false := by decide)
    (ha : ∀ env v, assign (.Subscript (.Name x p) b pos) env v = (do
      let ov ← holding [v] (eval (.Name x p) env)
      let iv ← holding [v, ov] (eval b env)
      standAt pos
      holding [v, ov, iv] (setItem ov iv v)
      release [v, ov, iv] []) := by intro _ _; rfl) : EvG S W Γ (.Subscript (.Name x p) b pos) d Q := by
  intro PX v σ H Hf k st r hk
  refine ⟨gSub (tVar i) (tU S b) rSetD, fun X ok => pg_sub (pe_var (pos := p) (i := i) (by rw [ok.N]; exact hN) (by rw [ok.sc]; exact hv) hd hcd) (pu ok) (set_dict (by have := ok.units; omega)) (ha _), .ref A, slot_of st hΓ, ?_⟩
  refine h PX σ H Hf _ st fun j u Hf2 H2 e2 st2 r2 q2 => ?_
  obtain ⟨i', rfl, q3, q4⟩ := asKey_ q2
  obtain ⟨f2, kvs, ks, hA, rr, hI⟩ := (st2.ownK hΓ).2
  obtain ⟨h1, h2⟩ := q3 ks hI
  have e' := rep_keyV r2
  subst e'
  refine ⟨A, _, rfl, .k hA (by rw [rr.len]; exact Nat.lt_of_lt_of_le h1 (by decide)), ?_⟩
  exact hk _ _ Hf2 _ e2 (st2.putK (kd' := .d) hΓ ⟨f2, _, _, upd_same, rr.put (Rep.mono e2 _ _ r), h2⟩) ⟨rfl, fun _ _ => rfl, (Alt.set (σ := σ) (x := none) hW).g⟩ q4
/-- list(d) of a dict: its keys -/
theorem en_listD (hg : GlS S "list") (hm : S.mg "list" = none) (h : EvE S Γ a fun d => asDct d fun ks => QN (ks.map fun kv => keyD kv.1)) (hs : ∀ env, starEach [a] env = (false, eval a env) :: starEach [] env := by intro _; rfl) (hpl : ∀ env, (backTo pos (starEach [] env)).any (·.1) = false := by intro _; rfl) (hc : S.calm = true := by rfl) :
    EvN S Γ (.Call (.Name "list" p) [a] [] pos) QN :=
  en_of (t := tCB (fun xs H Q => ∃ (a : Addr) (kvs : List (Key × V)), xs = [.ref a] ∧ Rd H a (.dK kvs) ∧ ∀ p, H p = none → Q (.ref p) (upd H p (.lst (kvs.map fun kv => kV kv.1)))) (tCons (tU S a) tNil)) (fun X ok =>
      pe_callTy (X := X) (p := p) (pos := pos) (call_listD (ok.calm hc)) (hg.gl ok) (by rw [ok.mg]; exact hm) bt_list (pa_cons (pu (e := a) ok) pa_nil (hs _)) (by decide) (by decide) (hs _) (hpl _)) fun PX σ H Hf k st hk => by
    refine h PX σ H Hf _ st fun d v Hf1 H1 e1 st1 r q0 => ?_
    obtain ⟨ks, rfl, q⟩ := asDct_ q0
    obtain ⟨l, kvs, rfl, s1, r1⟩ := r
    exact ⟨l, kvs, rfl, st1.ex.rd s1, fun n hn => hk n _ _ Hf1 _ e1 (st1.px.free hn) (st1.fresh0 hn) (st1.opn hn) (st1.frame hn) r1.keys q⟩
end
end GX

namespace GX
open PySem PySem.Spec PyProof.Rows L2
/-! ## own errors: class X(Y): def __init__(self, f): super().__init__(f); self.f = f -/
def iniA (f : Str) (p1 p2 : Pos) : Arguments := { posonlyargs := [], args := [⟨"self", none, p1⟩, ⟨f, none, p2⟩], vararg := none, kwonlyargs := [], kw_defaults := [], kwarg := none, defaults := [] }
def iniB (f : Str) (q1 q2 q3 q4 q5 q6 q7 q8 q9 q10 : Pos) : List Stmt :=
  [.Expr (.Call (.Attribute (.Call (.Name "super" q1) [] [] q2) "__init__" q3) [.Name f q4] [] q5) q6, .Assign [.Attribute (.Name "self" q7) f q8] (.Name f q9) q10]
def iniS (f : Str) : Scope := { kind := .function, names := [(PySem.Str.ofString "self", .local), (f, .local), (PySem.Str.ofString "__class__", .free), (PySem.Str.ofString "super", .globalImplicit)], isGenerator := false, isCoroutine := false, more := [] }
/-- a field's name -/
def Fld (f : Str) : Prop := f = "given" ∨ f = "index"
/-- what is known of the class X at C, of its __init__ at fI -/
structure ExT (P : Program) (K : PySem.W.Frag) (mg : Str → Option Value) (x f : Str) (C fI : Addr) : Prop where
  fd : Fld f
  gC : mg x = some (.ref C)
  cls : ∃ nm q N bs bm sn sub ab col dd k0 k1 k2 k3 k5, K.lookup C = some (excClassObj nm q C N bs bm true sn sub ab col dd k0 k1 k2 k3 k5 "ValueError.__new__") ∧ HandSPX.refsVE bm = true
  ini : PySem.W.excInitIn K C HandSPX.veTail "ValueError.__new__" = true
  along : PySem.W.ks_superIn K C C "__init__" = some (some (.builtin "ValueError.__init__"))
  self : PySem.W.mroIn K C (.ref C) = some true
  ve : PySem.W.subIn K (.ref C) (.type "ValueError") = some true
  tp : PySem.W.nsIn K cStatics "thirdparty.any" = some none
  sup : mg "super" = none
  sa : PySem.W.findIn K (.ref C) "__setattr__" = some (some (.builtin "object.__setattr__"))
  ga : PySem.W.findIn K (.ref C) "__getattribute__" = some (some (.builtin "BaseException.__getattribute__"))
  gg : PySem.W.findIn K (.ref C) "__getattr__" = some none
  noN : PySem.W.findIn K (.ref C) f = some none
  iC : PySem.W.findIn K (.ref C) "__init__" = some (some (.ref fI))
  tC : PySem.W.typeIn K (.ref fI) = some (.type "function")
  kC : PySem.W.keepIn K (.ref C) = true
  exC : PySem.W.subIn K (.ref C) (.type "BaseException") = some true
  tyC : PySem.W.typeIn K (.ref C) = some (.type "type")
  hdC : PySem.W.hasDictIn K C = true
  top : (P.main.scope.names.lookup ("super" : Str)).isSome = false
  fn : ∃ (oc : Value) (od : Option Addr) (doc pm : Value) (an : Option Addr) (cda cc : Addr) (ct : Value) (osl : Array (Option Value)) (p1 p2 q1 q2 q3 q4 q5 q6 q7 q8 q9 q10 : Pos) (qn : Str) (kc : Value) (kd : Option Addr) (vs : Array Value) (ks : Array (Option Value)) (file : Str) (tf : Tok) (lc : Value) (ld : Option Addr) (ls : Array (Option Value)),
    K.lookup fI = some ⟨oc, od, .func (PySem.W.fnX "__init__" qn (iniA f p1 p2) (iniB f q1 q2 q3 q4 q5 q6 q7 q8 q9 q10) (iniS f) [("__class__", cc)] .none .none doc pm an (.ref cda) ct), osl⟩ ∧ PySem.W.codeIn K (.ref cda) qn = true ∧
    K.lookup cda = some ⟨kc, kd, .fields vs, ks⟩ ∧ vs[2]? = some (.str file tf) ∧ ((P.main.file : Str) == file) = true ∧ K.lookup cc = some ⟨lc, ld, .cell (some (.ref C)), ls⟩ ∧ (q3.endLine == q5.line) = true
/-- what __init__ leaves of a fresh exception at x -/
structure IniEnd (h h' : Heap) (x C dx t1 : Addr) (f : Str) (v : Value) : Prop where
  keep : ∀ b o, b ≠ x → h.get? b = some o → h'.get? b = some o
  obj : h'.get? x = some (HandSPX.excO C t1 |> fun o => { o with dict := some dx })
  dbig : h.objs.size ≤ dx
  dne : dx ≠ x
  ns : h'.Ns1 dx (fun y => if y = f then some v else none)
section
open PySem.W PySem.Calls
variable {prog : Program} {w : World} {A : Around} {E : Value → Shared → Prop} {R : Result → Shared → Prop} {s : Shared} {K : Frag} {mg mb : Str → Option Value} {x f : Str} {C fI : Addr} {h₀ : Heap}
theorem ex_init (T : ExT prog K mg x f C fI) {e t0 : Addr} {v : Value} (X₀ : K.In h₀) (k0 : ∀ b o, h₀.get? b = some o → s.heap.get? b = some o) (hg : h₀.Ns mainGlobals mg) (hb : h₀.Ns builtinsNs mb) (hbb : mb "super" = bootBuiltins "super")
    (hlim : s.heap.NoLimit) (hx : s.heap.get? e = some (HandSPX.excO C t0)) (hnx : h₀.get? e = none) (hroom : A.depth < recursionLimit) (hsz : h₀.objs.size ≤ s.heap.objs.size)
    (hq : ∀ h' tk dx t1, IniEnd s.heap h' e C dx t1 f v → R (.ok (.ret .none)) { s with heap := h', toks := tk }) :
    codeAny (model prog w) A (.call (.ref fI) ⟨[.ref e, v], []⟩) R s := by
  obtain ⟨oc, od, doc, pm, an, cda, cc, ct, osl, p1, p2, q1, q2, q3, q4, q5, q6, q7, q8, q9, q10, qn, kc, kd, vs, ks, file, tf, lc, ld, ls, ho, hcd, hcode, hvs, hfile, hcell, hline⟩ := T.fn
  obtain ⟨nm, qq, N, bs, bm, sn, sub, ab, col, dd, k0', k1, k2, k3, k5, hC, hbm⟩ := T.cls
  have X : K.In s.heap := X₀.keeps k0
  have hcl : clsIn K C = some { name := nm, bases := bs, mro := .ref C :: bm, ns := N, qualname := qq, hasDict := true, slotNames := sn, subclasses := sub, abstract := ab, collection := col, hasDel := false } := by unfold clsIn; rw [hC] <;> rfl
  have nf : f ≠ "self" ∧ f ≠ "__class__" ∧ f ≠ "super" ∧ (f == ("__debug__" : Str)) = false ∧ (iniS f).names.lookup f = some .local := by
    rcases T.fd with rfl | rfl <;> exact ⟨by decide, by decide, by decide, by decide, by decide⟩
  refine ks_codeAny_call_defAt (body := iniB f q1 q2 q3 q4 q5 q6 q7 q8 q9 q10) (binds := [("self", .ref e), (f, v)]) hroom (X _ _ ho) rfl hlim (codeRec_of X hcd) rfl (BindsTo.of_eq ?_) ?_ ?_ fun h₁ hn kp => ?_
  · rcases T.fd with rfl | rfl <;> (first | rfl | with_unfolding_all rfl)
  · intro y hy
    have hy : y ∈ (iniS f).names := hy
    simp only [iniS, List.mem_cons, List.not_mem_nil, or_false] at hy
    rcases hy with rfl | rfl | rfl | rfl <;> exact fun z => nomatch z
  · intro y hy
    simp only [List.mem_cons, List.not_mem_nil, or_false] at hy
    rcases hy with rfl | rfl
    · rfl
    · exact nf.2.2.2.2
  have hxL : s.heap.objs.size ≠ e := Nat.ne_of_gt (Heap.lt_size hx)
  have X₁ : K.In h₁ := X.keeps kp
  have hx₁ := kp _ _ hx
  have mS : ([("self", Value.ref e), (f, v)] : List (Str × Value)).reverse.lookup ("self" : Str) = some (Value.ref e) := by
    show List.lookup ("self" : Str) [(f, v), (("self" : Str), Value.ref e)] = _
    have : (("self" : Str) == f) = false := by simpa using Ne.symm nf.1
    simp [List.lookup, this]
  have mF : ([("self", Value.ref e), (f, v)] : List (Str × Value)).reverse.lookup f = some v := by
    show List.lookup f [(f, v), (("self" : Str), Value.ref e)] = _
    simp [List.lookup]
  have kS : (callEnv (fnX "__init__" qn (iniA f p1 p2) (iniB f q1 q2 q3 q4 q5 q6 q7 q8 q9 q10) (iniS f) [("__class__", cc)] .none .none doc pm an (.ref cda) ct) s.heap.objs.size fI).kindOf "super" = some .globalImplicit := by
    show (iniS f).names.lookup ("super" : Str) = _
    have : (("super" : Str) == f) = false := by simpa using Ne.symm nf.2.2.1
    simp only [iniS, List.lookup, this]
    first | rfl | decide
  have kK : (callEnv (fnX "__init__" qn (iniA f p1 p2) (iniB f q1 q2 q3 q4 q5 q6 q7 q8 q9 q10) (iniS f) [("__class__", cc)] .none .none doc pm an (.ref cda) ct) s.heap.objs.size fI).kindOf "__class__" = some .free := by
    show (iniS f).names.lookup ("__class__" : Str) = _
    have : (("__class__" : Str) == f) = false := by simpa using Ne.symm nf.2.1
    simp only [iniS, List.lookup, this]
    first | rfl | decide
  have kF : (callEnv (fnX "__init__" qn (iniA f p1 p2) (iniB f q1 q2 q3 q4 q5 q6 q7 q8 q9 q10) (iniS f) [("__class__", cc)] .none .none doc pm an (.ref cda) ct) s.heap.objs.size fI).kindOf f = some .local := nf.2.2.2.2
  have kSelf : (callEnv (fnX "__init__" qn (iniA f p1 p2) (iniB f q1 q2 q3 q4 q5 q6 q7 q8 q9 q10) (iniS f) [("__class__", cc)] .none .none doc pm an (.ref cda) ct) s.heap.objs.size fI).kindOf "self" = some .local := rfl
  generalize henv : callEnv (fnX "__init__" qn (iniA f p1 p2) (iniB f q1 q2 q3 q4 q5 q6 q7 q8 q9 q10) (iniS f) [("__class__", cc)] .none .none doc pm an (.ref cda) ct) s.heap.objs.size fI = env at kS kK kF kSelf ⊢
  have eL : env.locals = s.heap.objs.size := by rw [← henv]; rfl
  have eG : env.globals = mainGlobals := by rw [← henv]; rfl
  have eB : env.builtins = builtinsNs := by rw [← henv]; rfl
  have eK : env.scope.kind = .function := by rw [← henv]; rfl
  have eC : env.cells.lookup ("__class__" : Str) = some cc := by rw [← henv]; rfl
  have eI : interactive env = false := by rw [← henv]; rfl
  have eF : env.func = some fI := by rw [← henv]; rfl
  have eCo : env.code = .ref cda := by rw [← henv]; rfl
  obtain ⟨hp, g, d, t, os⟩ := s
  refine ks_wpAt_execs_cons (ks_wpAt_Expr_any ?_ (hi := eI))
  refine ks_wpAt_MethodCall (pl := (do return (← importBound (.Call (.Name "super" q1) [] [] q2) env).getD true)) ?_ (he := ?_)
  rotate_left
  · show (attributeBase _ _ env _ >>= fun ov => standAt _ >>= fun _ => methodCall _ _ _ _ _ _ _ _ _) = _
    unfold methodCall methodCallPos calleeOf
    have hm : methodCallForm ([Expr.Name f q4].length + ([] : List Keyword).length) (backTo q5 (starEach [Expr.Name f q4] env)) (backToKw q5 (keywordEach [] env)) = true := rfl
    simp only [hm, hline]
    rfl
  have hg1 : h₁.Ns env.globals mg := by rw [eG]; exact hg.keeps fun b o z => kp b o (k0 b o z)
  have hb1 : h₁.Ns env.builtins mb := by rw [eB]; exact hb.keeps fun b o z => kp b o (k0 b o z)
  have hl1 : h₁.Ns env.locals fun y => ([("self", Value.ref e), (f, v)] : List (Str × Value)).reverse.lookup y := by rw [eL]; exact hn
  refine ks_wpAt_super_base kS kK (by decide) eF (X₁ _ _ ho) rfl rfl eCo (X₁ _ _ hcode) rfl hvs hfile T.top ?_
  refine ks_loadName_global eK kS (loadGlobal_builtin hg1 T.sup hb1 (hbb.trans (by decide +kernel)) ⟨rfl, ?_⟩)
  refine wpAny_loadName_free eK kK eC ⟨_, X₁ _ _ hcell, rfl⟩ ?_
  refine wpAny_loadName_local eK kSelf hl1 mS ?_
  refine ks_wpAny_isType_cls (X₁ _ _ hC) rfl ⟨rfl, ?_⟩
  refine ks_wpAny_call_super (X₁ _ _ hC) rfl hx₁ rfl (fun c z => nomatch z) (looks_mroIn X₁ T.self) fun h₂ hso k2 => ?_
  have X₂ : K.In h₂ := X₁.keeps k2
  have I₂ : InstAt h₂ e (HandSPX.excO C t0) C none := ⟨k2 _ _ hx₁, rfl, rfl, trivial⟩
  have al : alongIn K "__init__" (((Value.ref C :: bm).dropWhile (· != .ref C)).drop 1) = some (some (.builtin "ValueError.__init__")) := by
    have z := T.along
    unfold ks_superIn at z
    rw [hcl] at z
    exact z
  refine kxs_getMethod kxs_ValueError hso (looks_opaque X₂ T.tp) (l₀ := .ref C :: bm) (fun A Q E s k q => wpAny_bind ((looks_clsIn X₂ hcl) A _ E s k (wpAny_pure q))) rfl X₂ al (I₂.type.andThen (looks_subIn X₂ T.ve)) (ks_ne X₂ I₂ hcl) (by decide) ?_
  have hu : (h₂.push (kxs_mw "ValueError.__init__" e)).get? h₂.objs.size = some (kxs_mw "ValueError.__init__" e) := Heap.get?_push_at rfl rfl
  have k3' : ∀ b o, h₂.get? b = some o → (h₂.push (kxs_mw "ValueError.__init__" e)).get? b = some o := fun b o z => Heap.get?_push_of_some _ z
  have hn3 : (h₂.push (kxs_mw "ValueError.__init__" e)).Ns hp.objs.size fun y => ([("self", Value.ref e), (f, v)] : List (Str × Value)).reverse.lookup y := hn.keeps fun b o z => k3' b o (k2 b o z)
  refine kxs_callWith (i := "ValueError.__init__") (x := e) rfl (evalArgs_plain ?_)
  refine Calls.spliced_cons ?_
  refine wpAny_Name (wpAny_loadName_local eK kF (by rw [eL]; exact hn3) mF ?_) nf.2.2.2.1
  refine Calls.spliced_nil ⟨hu, ?_⟩
  have X₃ : K.In (h₂.push (kxs_mw "ValueError.__init__" e)) := X₂.keeps k3'
  have he3 : (h₂.push (kxs_mw "ValueError.__init__" e)).get? e = some (HandSPX.excO C t0) := k3' _ _ (k2 _ _ hx₁)
  have hC3 := X₃ _ _ hC
  have FB := F.excBase_ValueError
  generalize hh3 : h₂.push (kxs_mw "ValueError.__init__" e) = h₃ at hu k3' hn3 X₃ he3 hC3 ⊢
  refine wpAny_call (codeAny_of_tree ?_); show wpAny _ _ (callAny (.ref h₂.objs.size) ⟨[v], []⟩) _ _ _; simp only [callAny]
  refine wpAny_bind (wpAny_load hu ?_); simp only [kxs_mw]
  refine KFB.if_so (by decide) (wpAny_bind (check_bound_init FB.toExcCallFacts hC3 he3 rfl (wpAny_bind (wpAny_pure (wpAny_pure ⟨plainId_quiet FB.init.plain _, codeAny_builtin FB.initEntry ?_⟩)))))
  refine exc_init_tree (cls := .ref C) (t0 := t0) (dv := none) (c2 := .none) (c3 := .none) (b4 := .bool false) he3 (show [v].length ≤ sizeLine by rw [sizeLine_eq]; exact (by decide : 1 ≤ 16777216)) fun h₄ k4 he4 ht4 => ?_
  have he4 : h₄.get? e = some (HandSPX.excO C h₃.objs.size) := he4
  have nKe : K.lookup e = none := by
    cases z : K.lookup e with
    | none => rfl
    | some o => rw [X₀ _ _ z] at hnx; cases hnx
  have X₄ : K.In h₄ := fun b o z => k4 b o (fun c => by rw [c, nKe] at z; cases z) (X₃ b o z)
  have hn4 : h₄.Ns env.locals fun y => ([("self", Value.ref e), (f, v)] : List (Str × Value)).reverse.lookup y := by
    rw [eL]
    exact hn3.at fun o z => k4 _ o hxL z
  show PySem.wpAt _ _ _ (execs _ env) _ _ ⟨h₄, g, d, _, os⟩
  refine ks_wpAt_execs_cons (ks_wpAt_Assign_Attr ?_)
  refine wpAt_of_wpAny ?_
  refine wpAny_Name (wpAny_loadName_local (m := fun y => ([("self", Value.ref e), (f, v)] : List (Str × Value)).reverse.lookup y) eK kF hn4 mF ?_) nf.2.2.2.1
  refine wpAny_Name (wpAny_loadName_local (m := fun y => ([("self", Value.ref e), (f, v)] : List (Str × Value)).reverse.lookup y) eK kSelf hn4 mS ?_) (by decide)
  refine set_plain X₄ (ox := HandSPX.excO C h₃.objs.size) (od := none) ⟨he4, rfl, rfl, trivial⟩ T.sa ?_
  refine HandSPX.exc_osa X₄ he4 hcl (show HandSPX.refsVE (.ref C :: bm) = true from hbm) rfl T.noN fun h₅ tk₅ dx k₅ dn dne hx₅ hn₅ => ?_
  show PySem.wpAt _ _ _ (execs [] env) _ _ _
  refine wpAt_of_wpAny (wpAny_execs_nil (hq h₅ tk₅ dx h₃.objs.size ⟨fun b o hb z => k₅ b o hb (k4 b o hb (k3' b o (k2 b o (kp b o z)))), hx₅, ?_, dne, hn₅⟩))
  have z1 := hn4
  rw [eL] at z1
  exact Nat.le_of_lt (Nat.lt_of_lt_of_le z1.lt dn)
/-- a made exception -/
structure ExMade (h h' : Heap) (e C d : Addr) (f : Str) (v : Value) : Prop where
  keep : ∀ b o, h.get? b = some o → h'.get? b = some o
  new : h.objs.size ≤ e
  obj : ∃ oe vs, h'.get? e = some oe ∧ oe.cls = .ref C ∧ oe.dict = some d ∧ oe.data = .fields vs ∧ vs[1]? = some .none
  dbig : h.objs.size ≤ d
  dne : d ≠ e
  ns : h'.Ns1 d (fun y => if y = f then some v else none)
theorem ex_made (T : ExT prog K mg x f C fI) {v : Value} (X₀ : K.In h₀) (k0 : ∀ b o, h₀.get? b = some o → s.heap.get? b = some o) (hg : h₀.Ns mainGlobals mg) (hb : h₀.Ns builtinsNs mb) (hbb : mb "super" = bootBuiltins "super") (hsz : h₀.objs.size ≤ s.heap.objs.size)
    (hlim : s.heap.NoLimit) (hroom : A.depth + 1 < recursionLimit)
    (hq : ∀ h' tk e d, ExMade s.heap h' e C d f v → R (.ok (.ret (.ref e))) { s with heap := h', toks := tk }) :
    codeAny (model prog w) A (.call (.ref C) ⟨[v], []⟩) R s := by
  obtain ⟨nm, q, N, bs, bm, sn, sub, ab, col, dd, k0', k1, k2, k3, k5, hC, hbm⟩ := T.cls
  have X : K.In s.heap := X₀.keeps k0
  obtain ⟨hp, g, dr, tk, os⟩ := s
  have k : ∀ b o, hp.get? b = some o → ((hp.push (kdv_tup [v])).push (HandSPX.excO C hp.objs.size)).get? b = some o := fun b o e => Heap.get?_push_of_some _ (Heap.get?_push_of_some _ e)
  have hget : ((hp.push (kdv_tup [v])).push (HandSPX.excO C hp.objs.size)).get? (hp.objs.size + 1) = some (HandSPX.excO C hp.objs.size) := by heap_get
  have hnx : h₀.get? (hp.objs.size + 1) = none := by
    cases z : h₀.get? (hp.objs.size + 1) with
    | none => rfl
    | some o =>
      have z2 := Heap.lt_size z
      exact absurd (Nat.lt_of_lt_of_le z2 hsz) (Nat.not_lt.mpr (Nat.le_succ _))
  refine HandSPX.call_own F.excBase_ValueError (fun X => HandSPX.refsVE_contains X bm hbm) (X _ _ hC) (looks_findIn X T.iC) (fun self => bind_fn X self T.tC) (show [v].length ≤ sizeLine by rw [sizeLine_eq]; exact (by decide : 1 ≤ 16777216)) ?_
  refine ex_init (s := ⟨(hp.push (kdv_tup [v])).push (HandSPX.excO C hp.objs.size), g, dr, tk, os⟩) T X₀ (fun b o z => k b o (k0 b o z)) hg hb hbb (hlim.keeps k) hget hnx ?_ ?_ fun h' tk' dx t1 ⟨k', hx, dn, dne, hns⟩ => ?_
  · show A.depth + 1 < recursionLimit
    exact hroom
  · show h₀.objs.size ≤ ((hp.push (kdv_tup [v])).push (HandSPX.excO C hp.objs.size)).objs.size
    rw [Heap.size_push, Heap.size_push]
    exact Nat.le_succ_of_le (Nat.le_succ_of_le hsz)
  · have old : ∀ b o, hp.get? b = some o → h'.get? b = some o := fun b o e => k' b o (Nat.ne_of_lt (Nat.lt_succ_of_lt (Heap.lt_size e))) (k b o e)
    have z : hp.objs.size + 1 + 1 ≤ dx := by
      have q := dn
      first
        | (rw [Heap.size_push, Heap.size_push] at q; exact q)
        | (simpa only [Heap.size_push] using q)
    exact ⟨rfl, hq h' tk' (hp.objs.size + 1) dx ⟨old, Nat.le_succ _, ⟨_, _, hx, rfl, rfl, rfl, rfl⟩, Nat.le_trans (Nat.le_trans (Nat.le_succ _) (Nat.le_succ _)) z, dne, hns⟩⟩
end
theorem relO_fld {v : V} {v' : Value} {f : Str} (r : RelV v v') (g : Str) : RelO (List.lookup g [(f, v)]) (if g = f then some v' else none) := by
  by_cases hw : g = f
  · subst hw
    rw [if_pos rfl, show List.lookup g [(g, v)] = some v by simp [List.lookup]]
    exact r
  · rw [if_neg hw, show List.lookup g [(f, v)] = none by simp [List.lookup, (by simpa using hw : (g == f) = false)]]
    trivial
/-- X(e) -/
def tMkEx (C : Addr) (f : Str) (ta : TA) : L2.St → Hp → XK → Prop := fun σ H Q => ta σ H fun vs H1 => ∃ v, vs = [v] ∧ ∀ d, H1 d = none → Q (.ref C) (some d) (upd H1 d (.xd [(f, v)]))
section
variable {X : Cx} {C fI : Addr} {x f : Str}
theorem pmk_ex {a : Expr} {ta : TA} {p pos : Pos} {k : Nat} (T : ExT X.prog X.K X.mg x f C fI) (hr : Room k X.A) (ha : PA X [a] ta) (hg : Gl X x) (hdb : (x == ("__debug__" : Str)) = false)
    (he : starEach (a :: []) X.env = (false, eval a X.env) :: starEach [] X.env) (hpl : (backTo pos (starEach [] X.env)).any (·.1) = false) : PMk X (.Call (.Name x p) [a] [] pos) (tMkEx C f ta) := by
  intro pins s σ H Q I h
  refine wpAny_Call_Name_kw (ld_glob I hg T.gC ?_ hdb)
  refine PySem.W.callWith_K (h₀ := X.base) I.ok.mod.kin T.kC (thn (ha.run pos pins s σ H _ I h) fun us s1 hh => ?_) he hpl
  obtain ⟨vs, H1, I1, r1, v, ev, q1⟩ := hh
  subst ev
  refine ⟨I1.kIn, ?_⟩
  cases r1 with
  | cons rv rn =>
    rename_i v' us'
    cases rn
    show wpAny _ _ (call (.ref C) [v']) _ _ _
    have hlim := I1.nolimit
    have e0 := I1.env0
    obtain ⟨mb, hb, hbb⟩ := e0.mod.blt
    obtain ⟨hp, g, dr, tk, os⟩ := s1
    refine wpAny_call (ex_made T e0.mod.kin (fun b o z => (e0.bs b o z).1) e0.mod.glob hb (hbb _ (by decide)) e0.bsz hlim (by have := hr.dp; omega) fun h' tk' e d M => ?_)
    show MkP X pins σ Q (.ref e) ⟨h', g, dr, tk', os⟩
    obtain ⟨oe, fv, hoe, hc, hd, hdat, h1⟩ := M.obj
    have hns := M.ns
    obtain ⟨G', g1, g2⟩ := restrict h' fun b => decide (b ≠ e)
    have gk : ∀ b, b ≠ e → G'.get? b = h'.get? b := fun b hb => g1 b (decide_eq_true hb)
    have ge : G'.get? e = none := g2 e (by simp)
    have old : ∀ b o, hp.get? b = some o → G'.get? b = some o := fun b o q => (gk b (Nat.ne_of_lt (Nat.lt_of_lt_of_le (Heap.lt_size q) M.new))).trans (M.keep b o q)
    have ob : ObjOk X.prog X.w (upd H1 d (.xd [(f, v)])) G' d (.xd [(f, v)]) :=
      ⟨_, hns.at (fun o q => (gk d M.dne).trans q), fun g => relO_fld rv g⟩
    have J : Inv X pins σ (upd H1 d (.xd [(f, v)])) ⟨G', g, dr, tk', os⟩ := I1.laid (t' := tk') old M.dbig ob
    refine ⟨e, oe, fv, ⟨G', g, dr, tk', os⟩, _, .ref C, some d, rfl, J, fun b o q => ?_, ge, hoe, ⟨hc, hd⟩, hdat, h1, ?_, rfl, I1.bare, raises_own T.exC T.tyC, q1 d (I1.hok.fresh M.dbig)⟩
    · by_cases hb : b = e
      · have q' : G'.get? b = some o := q
        rw [hb, ge] at q'; cases q'
      · exact (gk b hb).symm.trans q
    · rw [upd_ne (Ne.symm M.dne)]
      exact I1.hok.fresh M.new
end
end GX

namespace GX
open PySem PySem.Spec PyProof.Rows L2
/-! ## several except clauses, each with the same name -/
abbrev Clz := List (Value × (Addr → Value → Option Addr → TS))
@[reducible] def goneI (i : Nat) (D : Ends) : Ends := { nx := fun z G => D.nx (z.set i none) G, rt := D.rt, bk := fun z G => D.bk (z.set i none) G, ct := fun z G => D.ct (z.set i none) G }
def wAsL (K : PySem.W.Frag) (i : Nat) (W0 : WX) (D : Ends) : Clz → WX
  | [] => W0
  | (c, ts) :: r => fun cls d z G => ∃ b, PySem.W.exmOne K cls c = some b ∧ (b = true → ∀ a, G a = none → ts a cls d (goneI i D) (z.set i (some (.ref a))) G) ∧ (b = false → wAsL K i W0 D r cls d z G)
inductive HdsAs (X : Cx) (n : Str) : List ExceptHandler → Clz → Prop
  | nil : HdsAs X n [] []
  | cons {x : Str} {c : Value} {ts : Addr → Value → Option Addr → TS} {s0 : Stmt} {su : List Stmt} {p1 p2 : Pos} {hds : List ExceptHandler} {l : Clz} (hc : Names X x c)
      (hs : ∀ (a : Addr) (oe : Obj) (cls : Value) (d : Option Addr) (pn : List (Addr × Obj)), Zc cls d oe → (∃ vs, oe.data = .fields vs) → PSs (X.suite a ((a, oe) :: pn)) (s0 :: su) (ts a cls d)) (r : HdsAs X n hds l) :
      HdsAs X n (.ExceptHandler (some (.Name x p1)) (some n) (s0 :: su) p2 :: hds) ((c, ts) :: l)
section
variable {X : Cx} {n : Str} {i : Nat} {body : List Stmt} {h0 : ExceptHandler} {hds : List ExceptHandler} {l : Clz} {pos : Pos} {tb : WX → TS} {W0 : WX}
theorem ps_tryA (stk : X.stack = X.env :: X.outer) (frm : X.env.frame = some X.env.locals) (nd : X.N.Nodup) (ni : X.N[i]? = some n) (nl : X.env.kindOf n = some .local) (tk : Takes X W0)
    (bd : ∀ (W : WX) (pn : List (Addr × Obj)) (xe : Value → Shared → Prop), Takes (X.tr pn xe) W → PassesOwn (model X.prog X.w) X.A X.env xe → PSs (X.tr pn xe) body (tb W))
    (hA : HdsAs X n (h0 :: hds) l) : PS X (.Try body (h0 :: hds) [] [] pos) (fun D z G => tb (wAsL X.K i W0 D l) D z G) := by
  refine ⟨fun pins s z G D I hyp => ?_⟩
  have okX := I.ok
  have fr2 : X.A.frames = some (X.env :: X.outer) := okX.frames.trans (by rw [stk])
  have lc : Loc X.env.scope n := .inl nl
  refine wpAny_Try_except (wpAny_mono ((bd (wAsL X.K i W0 D l) (X.pn ++ pins) _ (fun u s' xx => ?_) PassesOwn.looking).run [] s z G D (I.toTry _) hyp) (fun fl s1 q => ?_) fun _ _ q => q)
  rotate_left
  · cases fl with
    | next => obtain ⟨z1, G1, J1, q1⟩ := q; exact wpAny_execs_nil ⟨z1, G1, J1.ofTry okX, q1⟩
    | brk => obtain ⟨z1, G1, J1, q1⟩ := q; exact ⟨z1, G1, J1.ofTry okX, q1⟩
    | cont => obtain ⟨z1, G1, J1, q1⟩ := q; exact ⟨z1, G1, J1.ofTry okX, q1⟩
    | ret u => obtain ⟨v1, z1, G1, J1, r1, q1⟩ := q; exact ⟨v1, z1, G1, J1.ofTry okX, r1, q1⟩
  obtain ⟨a, B, sI, pins1, z1, G1, cls, d, rfl, JT, nb, up, sk, na, eo, ag, w⟩ := xx
  have JX : Inv X pins z1 G1 sI := JT.ofTry okX
  have sk2 : Sky B (X.env :: X.outer) a (Zc cls d) X.env.locals s'.heap := stk ▸ sk
  show wpAny (model X.prog X.w) X.A (noteFrame (.ref a) X.env) _ _ _
  refine Sky.land Zc.steady fr2 frm sk2 fun hB fl up2 => ?_
  have JB : Inv X pins z1 G1 { s' with heap := hB } := JX.landed nb fl.1 (up.trans up2) eo ag
  obtain ⟨oB, vB, eB, zB, dB⟩ := fl.there
  have apart : a ∉ frs (X.env :: X.outer) := fun mem => by
    obtain ⟨_, o1, e1, no1⟩ := fl.2.2.1.mem mem
    rw [eB] at e1; cases e1
    exact no1 _ dB
  have aL : a ≠ X.env.locals := fun e => apart (List.mem_filterMap.mpr ⟨_, List.mem_cons_self, by rw [frm, e]⟩)
  have aF : a ∉ X.fs := fun mem => by
    obtain ⟨e1, m1, q1⟩ := List.mem_filterMap.mp mem
    exact apart (List.mem_filterMap.mpr ⟨e1, List.mem_cons_of_mem _ m1, q1⟩)
  have SB := JB.suite eB dB na aL aF
  have all : ∀ {hs1 : List ExceptHandler} {l1 : Clz}, HdsAs X n hs1 l1 → wAsL X.K i W0 D l1 cls d z1 G1 → wpAny (model X.prog X.w) X.A (handleBy (.ref a) X.env hs1) (SP X pins D) X.xe { s' with heap := hB } := by
    intro hs1 l1 hk
    induction hk with
    | nil =>
      intro w1
      refine wpAny_handleBy_nil ?_
      obtain ⟨y1, y2, y3, o1, v1, T, oT, t1, g1, g2, g3, g4, g5⟩ := id fl
      unfold PySem.passOn
      refine wpAny_bind (wpAny_field g1 g3 g4 ?_)
      rw [if_neg (by simp : ¬ ((Value.ref T == Value.none) = true))]
      have last : wpAny (model X.prog X.w) X.A (setFlight (.ref a) X.env.frame) (fun _ s2 => wpAny (model X.prog X.w) X.A (throw (.ref a) : Sem Flow) (SP X pins D) X.xe s2) X.xe { s' with heap := hB } := by
        rw [frm]
        refine HandSPX.setFlight_upZ fl fun hC fC up3 => wpAny_throw (tk _ _ ?_)
        exact ⟨a, B, sI, pins, z1, G1, cls, d, rfl, JX, nb, (up.trans up2).trans up3, .inr (.inr (by rw [stk]; exact fC)), na, eo, ag, w1⟩
      first | exact wpAny_bind (wpAny_pure (wpAny_bind last)) | exact wpAny_bind last
    | @cons x c ts s0 su p1 p2 hs2 l2 hc hsu r ih =>
      intro w1
      obtain ⟨b, e1, yes, no⟩ := w1
      refine wpAny_handleBy_cons (codeAny_handlers_test ?_) (fun q => nomatch q)
      have ty : PySem.W.Looks (model X.prog X.w) hB (typeOf (.ref a)) cls := fun A Q E s k q => wpAny_typeOf_ref (k _ _ eB) (by rw [zB.1]; exact q)
      have mt := PySem.W.exm_one (M := model X.prog X.w) JB.kIn ty e1
      have named : ∀ {Q : Value → Shared → Prop} {E : Value → Shared → Prop}, Q c { s' with heap := hB } → wpAny (model X.prog X.w) (X.A.mark (some (.ref a))) (eval (.Name x p1) X.env) Q E { s' with heap := hB } := fun {Q E} q => by
        obtain ⟨g1, g2, g3 | ⟨g3, g4, g5⟩⟩ := hc
        · exact ld_glob (X := X.suite a ((a, oB) :: (X.pn ++ pins))) SB g1 g3 q g2
        · exact ld_blt (X := X.suite a ((a, oB) :: (X.pn ++ pins))) SB g1 g3 g4 q g5 g2
      refine named (mt.here ?_)
      cases b with
      | false => exact ih (no rfl)
      | true =>
        refine codeAny_handlers_suite_as (HandSPX.lands_againZ fl fun hC fC up3 => ?_)
        have JC : Inv X pins z1 G1 { s' with heap := hC } := JX.landed nb fC.1 ((up.trans up2).trans up3) eo ag
        obtain ⟨oC, vC, eC, zC, dC⟩ := fC.there
        have SC := JC.suite eC dC na aL aF
        refine store_ok (v := .ref a) (X := X.suite a ((a, oC) :: (X.pn ++ pins))) SC nd ni lc rfl (fun s5 S5 => ?_) (.inr nl)
        refine wpAny_mono ((hsu a oC cls d (X.pn ++ pins) zC ⟨_, dC⟩).run [] s5 _ G1 _ S5 (yes rfl a na)) (fun f s6 q6 => ?_) (fun _ _ q => q.elim)
        have goes : ∀ {z6 : L2.St} {G6 : Hp} {Q : Shared → Prop}, Inv (X.suite a ((a, oC) :: (X.pn ++ pins))) [] z6 G6 s6 → (∀ s7, Inv X pins (z6.set i none) G6 s7 → Q s7) →
            wpAny (model X.prog X.w) X.A (do bindName X.env n .none; unbindBehindTheSuite X.env n p2) (fun _ s7 => Q s7) X.xe s6 := fun S6 q => gone_ok (S6.unsuite okX) nd ni nl q
        cases f with
        | next => obtain ⟨z6, G6, S6, q6⟩ := q6; exact goes S6 fun s7 J7 => ⟨_, _, J7, q6⟩
        | brk => obtain ⟨z6, G6, S6, q6⟩ := q6; exact goes S6 fun s7 J7 => ⟨_, _, J7, q6⟩
        | cont => obtain ⟨z6, G6, S6, q6⟩ := q6; exact goes S6 fun s7 J7 => ⟨_, _, J7, q6⟩
        | ret u => obtain ⟨v6, z6, G6, S6, r6, q6⟩ := q6; exact goes S6 fun s7 J7 => ⟨_, _, _, J7, r6, q6⟩
  exact all hA w
end
end GX

namespace GX
open PySem PySem.Spec PyProof.Rows L2
/-! ## raise X(e); the caught exception -/
/-- the class of a name -/
def clsOf (mg : Str → Option Value) (x : Str) : Value := (mg x).getD .none
theorem ExT.c {P : Program} {K : PySem.W.Frag} {mg : Str → Option Value} {x f : Str} {C fI : Addr} (T : ExT P K mg x f C fI) : clsOf mg x = .ref C := by unfold clsOf; rw [T.gC]; rfl
/-- the error X with a field f -/
def Exc (P : Program) (K : PySem.W.Frag) (mg : Str → Option Value) (x f : Str) : Prop := ∃ C fI, ExT P K mg x f C fI ∧ ExcC K C
/-- of two classes: whether the first one is the second one or below it -/
structure IsP (K : PySem.W.Frag) (mg : Str → Option Value) (y x : Str) (b : Bool) : Prop where
  gl : ∃ C, mg x = some (.ref C)
  m : PySem.W.exmOne K (clsOf mg y) (clsOf mg x) = some b
  k : PySem.W.kitOne K (clsOf mg y) (clsOf mg x) = some b
section
variable {S : Sx} {Γ : List Slot} {a e : Expr} {Q : Da → Prop} {D : EnG} {p p2 p3 pos pos2 : Pos} {x y f g n : Str} {i : Nat} {ad : Addr} {d : Da} {fs : List (Str × Da)} {b : Bool}
theorem es_raise (T : Exc S.P S.K S.mg x f) (hg : GlS S x) (hO : OpsIn S Γ) (h : EvE S Γ a fun d => S.E (clsOf S.mg x) (some [(f, d)])) (hdb : (x == ("__debug__" : Str)) = false := by decide)
    (he : ∀ env, starEach (a :: []) env = (false, eval a env) :: starEach [] env := by intro _; rfl) (hpl : ∀ env, (backTo pos (starEach [] env)).any (·.1) = false := by intro _; rfl) (hc : S.calm = true := by rfl) :
    EvS S Γ (.Raise (some (.Call (.Name x p) [a] [] pos)) none pos2) D := by
  obtain ⟨C, fI, T, _⟩ := T
  refine es_of (fun X ok => ps_raise (ok.calm hc) ok.tk (pmk_ex (x := x) (f := f) (C := C) (fI := fI) (by rw [ok.P, ok.K, ok.mg]; exact T) (ok.room hc) (pa_cons (pu ok) pa_nil (he _)) (hg.gl ok) hdb (he _) (hpl _))) fun PX σ H Hf D' s k => ?_
  refine h PX σ H Hf _ s fun d v Hf1 H1 e1 s1 r q => ⟨v, rfl, fun dd hd => ?_⟩
  obtain ⟨s2, e2⟩ := s1.alloc (o := .xd [(f, v)]) hd
  rw [T.c] at q
  exact s2.wx hO (d := some dd) (fs := some [(f, d)]) ⟨[(f, v)], upd_same, v, [], rfl, Rep.mono e2 _ _ r, rfl⟩ q σ
theorem call_isD {X : Cx} {a D dd : Addr} {oe : Obj} {pn : List (Addr × Obj)} (C : ExcC X.K D) (hz : Zc (.ref D) (some dd) oe) (hf : ∃ vs, oe.data = .fields vs) :
    CallR (X.suite a ((a, oe) :: pn)) (.builtin "isinstance") (fun xs H Q => rIsE X.K D a xs H Q ∧ ∃ gs, H dd = some (.xd gs)) := by
  intro pins s σ H xs us Q I r h
  obtain ⟨⟨c, cv, b, rfl, hcv, e, q⟩, gs, hx⟩ := h
  obtain ⟨u1, u2, rfl, r1, r2⟩ := vals2 r
  cases r1
  have e2 := hcv _ r2
  subst e2
  obtain ⟨hget, _⟩ := I.pin (a, oe) (List.mem_append_left _ List.mem_cons_self)
  obtain ⟨vs, hv⟩ := hf
  obtain ⟨mA, hns, _⟩ := (show ObjOk X.prog X.w H s.heap dd (.xd gs) from I.hok dd _ hx)
  obtain ⟨od, ho, _⟩ := lookIn_ns hns
  have J : PySem.W.InstAt s.heap a oe D (some od) := ⟨hget, hz.1, by unfold PySem.W.notCls; rw [hv] <;> rfl, by rw [hz.2]; exact ho⟩
  have hcl : (PySem.W.clsIn X.K D).isSome = true := by obtain ⟨cd, hc, _⟩ := PySem.W.any_some C.hd; rw [hc]; rfl
  exact PySem.W.kia_one (PySem.W.kitx_exc hcl C.hg C.hk C.hs C.ha C.hn C.ht C.hm) I.kIn J e (fun z => nomatch z) fun tk => ⟨.bl b, H, I.kept (t' := tk) fun _ _ z => z, rfl, q⟩
theorem slot_rf {σ : L2.St} {PX Hf H : Hp} (st : Stt S PX Γ Hf H σ) (hΓ : Γ[i]? = some (.rf ad)) : σ[i]? = some (some (.ref ad)) := by
  have o1 : (σ[i]?).join = some (V.ref ad) := st.at_ i _ hΓ
  cases z : σ[i]? with
  | none => rw [z] at o1; cases o1
  | some o => rw [z] at o1; exact congrArg some o1
/-- isinstance(e, X), e the caught exception -/
theorem ev_isE {dd : Addr} (T : Exc S.P S.K S.mg y f) (B : IsP S.K S.mg y x b) (hN : S.N[i]? = some n) (hv : Vis S.sc n) (hΓ : Γ[i]? = some (.rf ad)) (hx : S.xc = some (ad, clsOf S.mg y, some dd, some fs)) (hg : GlS S "isinstance") (hm : S.mg "isinstance" = none) (hgx : GlS S x) (q : Q (.bl b))
    (hdb : (x == ("__debug__" : Str)) = false := by decide) (hdn : (n == ("__debug__" : Str)) = false := by decide) (hcd : (n == ("__classdict__" : Str)) = false := by decide) :
    EvE S Γ (.Call (.Name "isinstance" p) [.Name n p2, .Name x p3] [] pos) Q := by
  obtain ⟨D, fI, T, EC⟩ := T
  obtain ⟨⟨C, gC⟩, _, hk⟩ := B
  have eC : clsOf S.mg x = .ref C := by unfold clsOf; rw [gC]; rfl
  rw [T.c, eC] at hk
  rw [T.c] at hx
  refine ev_of (t := fun σ H Q => σ[i]? = some (some (.ref ad)) ∧ Sub S.F0 H ∧ Q (.bl b) H) (fun X ok => ⟨fun pins s σ H Q I hyp => ?_⟩) fun PX σ H Hf k st hkk => ?_
  · obtain ⟨X0, oe, pn, eX, hz, hf, xr⟩ := ok.xc _ _ _ _ hx
    subst eX
    obtain ⟨h1, h2, h3⟩ := hyp
    obtain ⟨gs, x1, _⟩ := xr
    have cr := call_isD (X := X0) (dd := dd) (pn := pn) (a := ad) (by rw [show X0.K = S.K from ok.K]; exact EC) hz hf
    have z := pe_callB (X := X0.suite ad ((ad, oe) :: pn)) (p := p) (pos := pos) cr (hg.gl ok) (by rw [ok.mg]; exact hm) bt_isinstance (pa_cons (pe_var (i := i) (pos := p2) (by rw [ok.N]; exact hN) (by rw [ok.sc]; exact hv) hdn hcd) (pa_cons (pe_glob (v := .ref C) (pos := p3) (hgx.gl ok) (by rw [ok.mg]; exact gC) rfl hdb) pa_nil))
    refine z.run pins s σ H Q I ⟨.ref ad, h1, ⟨⟨.ref C, .ref C, b, rfl, fun u hu => hu, ?_, h3⟩, gs, h2 _ _ x1⟩⟩
    rw [show X0.K = S.K from ok.K]
    exact hk
  · exact ⟨slot_rf st hΓ, st.ex0.trans st.ex, hkk (.bl b) _ Hf H (Sub.refl _) st rfl q⟩
theorem RepF.look {K : PySem.W.Frag} {H : Hp} {f : Str} {d : Da} : ∀ {fs : List (Str × Da)} {gs : List (Str × V)}, RepF K H fs gs → fs.lookup f = some d → ∃ v, gs.lookup f = some v ∧ Rep K H d v
  | [], _, _, h => by cases h
  | (g, e) :: fs, _, r, h => by
    obtain ⟨v, l, rfl, r1, r2⟩ := r
    rw [List.lookup_cons] at h ⊢
    cases c : f == g with
    | true =>
      rw [c] at h
      cases h
      exact ⟨v, rfl, r1⟩
    | false =>
      rw [c] at h
      exact RepF.look r2 h
/-- e.f, e the caught exception -/
theorem ev_exf {dd : Addr} (T : Exc S.P S.K S.mg y g) (hN : S.N[i]? = some n) (hv : Vis S.sc n) (hΓ : Γ[i]? = some (.rf ad)) (hx : S.xc = some (ad, clsOf S.mg y, some dd, some fs)) (hgf : g = f) (hl : fs.lookup f = some d) (q : Q d)
    (hdn : (n == ("__debug__" : Str)) = false := by decide) (hcd : (n == ("__classdict__" : Str)) = false := by decide) (hb : ∀ env, attributeBase (.Name n p2) f env (eval (.Name n p2) env) = eval (.Name n p2) env := by intro _; rfl) :
    EvE S Γ (.Attribute (.Name n p2) f pos) Q := by
  obtain ⟨D, fI, T, EC⟩ := T
  subst hgf
  have hx0 := hx
  rw [T.c] at hx
  refine ev_of (t := fun σ H Q => σ[i]? = some (some (.ref ad)) ∧ Sub S.F0 H ∧ ∀ v, Rep S.K S.F0 d v → Q v H) (fun X ok => ⟨fun pins s σ H Q I hyp => ?_⟩) fun PX σ H Hf k st hkk => ?_
  · obtain ⟨X0, oe, pn, eX, hz, hf, xr⟩ := ok.xc _ _ _ _ hx
    subst eX
    obtain ⟨h1, h2, h3⟩ := hyp
    obtain ⟨gs, x1, x2⟩ := xr
    obtain ⟨v, l1, r1⟩ := x2.look hl
    have z := pe_xf (X := X0) (pn := pn) (a := ad) (pos := pos) (n := g) (C := D) ⟨by rw [show X0.K = S.K from ok.K]; exact T.ga, by rw [show X0.K = S.K from ok.K]; exact T.gg, by rw [show X0.K = S.K from ok.K]; exact T.exC, by rw [show X0.K = S.K from ok.K]; exact T.hdC⟩ (by rw [show X0.K = S.K from ok.K]; exact T.noN) hz hf
      (pe_var (i := i) (pos := p2) (by rw [ok.N]; exact hN) (by rw [ok.sc]; exact hv) hdn hcd) (hb _)
    exact z.run pins s σ H Q I ⟨.ref ad, h1, rfl, rfl, dd, gs, v, rfl, h2 _ _ x1, l1, h3 v r1⟩
  · exact ⟨slot_rf st hΓ, st.ex0.trans st.ex, fun v r => hkk d v Hf H (Sub.refl _) st (Rep.mono st.ex0 _ _ r) q⟩end
end GX

namespace GX
open PySem PySem.Spec PyProof.Rows L2 LamX
/-! ## g(lambda: e), where g says try: a() / except ..; the lambda reads the names around it -/
section
variable {X : Cx} {pins : List (Addr × Obj)} {σ : L2.St} {H : Hp} {s : Shared}
abbrev lamQ (X : Cx) : Str := X.env.qual ++ "<lambda>"
abbrev tab' (ps : Array Value) (pos : Pos) (c' : Addr) : HO := .tbl (ps ++ #[rawInt pos.line, rawInt pos.col, .ref c'])
/-- the lambda is made -/
theorem lam_mkC {c P : Addr} {params : Arguments} {body : Expr} {scope : Scope} {pos : Pos} {E Q : Value → Shared → Prop} {ps : Array Value} {R : Addr → Hp → Prop} (I : Inv X pins σ H s) (TB : TabB X.base X.mg c P) (hcode : X.env.code = .ref c)
    (hP : H P = some (.tbl ps)) (ht : TriplesOk ps.toList) (hdef : defaultsOf params X.env = ([], [])) (free : ∀ y ∈ scope.names, y.2 = .free → ∃ c, X.env.cells.lookup y.1 = some c)
    (hit : ∀ cv, codeAmong pos ps.toList = some cv → ∃ c', cv = .ref c' ∧ H c' = some (CodeO c' (lamQ X)) ∧ R c' H)
    (miss : codeAmong pos ps.toList = none → ∀ c', H c' = none → R c' (upd (upd H P (tab' ps pos c')) c' (CodeO c' (lamQ X))))
    (h : ∀ (f c' : Addr) (pm ctv : Value) (H1 : Hp) (s' : Shared), Inv X pins σ H1 s' → s'.heap.get? f = some (PySem.W.kla_obj "<lambda>" (lamQ X) params body scope (cloFrom X.env.cells scope.names []) pm c' ctv) →
      H1 f = none → f ∉ frs X.stack → H1 c' = some (CodeO c' (lamQ X)) → R c' H1 → Q (.ref f) s') : wpAny (model X.prog X.w) X.A (eval (.Lambda params body scope pos) X.env) Q E s := by
  refine PySem.W.kla_eval hdef ?_
  have bP := TB.bm.keeps I.bk
  have gP : s.heap.get? P = some { cls := .none, data := .fields ps } := I.hok P _ hP
  have out : ∀ f, s.heap.objs.size ≤ f → f ∉ frs X.stack := fun f hf m => by
    rcases List.mem_cons.mp (I.stkSub _ m) with e | e
    · exact Nat.lt_irrefl _ (Nat.lt_of_lt_of_le (e ▸ I.lt) hf)
    · exact I.nofs hf e
  cases hc : codeAmong pos ps.toList with
  | some cv =>
    obtain ⟨c', rfl, co, r⟩ := hit cv hc
    refine PySem.W.kla_makeFunctionHit (c := c) (P := P) (mg := X.mg) (ps := ps) (closure_ok free) I.ok.glob (I.mod.glob.keeps I.bk) hcode (TB.code.keeps I.bk) gP ht hc bP fun ctv h' tk hx hz => ?_
    have J : Inv X pins σ H { s with heap := h'.push (PySem.W.kla_obj "<lambda>" (lamQ X) params body scope (cloFrom X.env.cells scope.names []) ((X.mg "__name__").getD .none) c' ctv), toks := tk } := I.kept fun b o e => Heap.get?_push_of_some _ (hx b o e)
    exact h _ c' _ ctv H _ J (Heap.get?_push_size _ rfl) (I.hok.fresh hz) (out _ hz) co r
  | none =>
    refine PySem.W.kla_makeFunction (c := c) (P := P) (mg := X.mg) (ps := ps) (closure_ok free) I.ok.glob (I.mod.glob.keeps I.bk) hcode (TB.code.keeps I.bk) gP ht hc TB.gP bP fun c' ctv h' tk hx ge lt rec tb => ?_
    obtain ⟨c2, oc, vs, t, e2, r1, r2, r3⟩ := rec
    cases e2
    have hz : s.heap.objs.size ≤ h'.objs.size := Nat.le_trans ge (Nat.le_of_lt lt)
    have nC : H c' = none := I.hok.fresh ge
    have J := inv_table (t' := tk) (q := lamQ X) (h' := h'.push (PySem.W.kla_obj "<lambda>" (lamQ X) params body scope (cloFrom X.env.cells scope.names []) ((X.mg "__name__").getD .none) c' ctv)) (more := #[rawInt pos.line, rawInt pos.col, .ref c']) I hP (fun b o hb e => Heap.get?_push_of_some _ (hx b o hb e)) (Heap.get?_push_of_some _ tb) ge
      ⟨oc, vs, t, Heap.get?_push_of_some _ r1, r2, r3⟩
    refine h h'.objs.size c' _ ctv _ _ J (Heap.get?_push_size _ rfl) ?_ (out _ hz) upd_same (miss hc c' nC)
    have nP : h'.objs.size ≠ P := Nat.ne_of_gt (Nat.lt_of_lt_of_le (Heap.lt_size gP) hz)
    rw [upd_ne (Nat.ne_of_gt lt), upd_ne nP]
    exact I.hok.fresh hz
/-- what a callee lets out at σ is taken -/
theorem passSt {W : WX} (tk : Takes X W) {e : Value} {s' : Shared} (I : Inv X pins σ H s) (c : L2.CX X.prog X.w X.stack H s (fun cls d H' => W cls d σ H') e s') : X.xe e s' := tk e s' (XE.of_call I (fun _ _ _ h => h) c)
/-- a(), in the def that got the lambda -/
theorem pe_actC {CXg : CXT} {Eg : XK} {Ng : List Str} {qg : Str} {sg : Scope} {g f c' : Addr} {cdg pm ctv : Value} {params : Arguments} {body : Expr} {scope : Scope} {k i : Nat} {a : Str} {pn : List (Addr × Obj)} {xe : Value → Shared → Prop} {W : WX} {tb : XK → TE} {p1 p2 : Pos}
    (I : Inv X pins σ H s) (L : LamS X.env.scope scope) (hf : s.heap.get? f = some (PySem.W.kla_obj "<lambda>" (lamQ X) params body scope (cloFrom X.env.cells scope.names []) pm c' ctv)) (hfn : H f = none) (hfr : f ∉ frs X.stack) (gd : X.A.guards = some [])
    (hbind : bindArgs (PySem.W.kla_fn "<lambda>" (lamQ X) params body scope (cloFrom X.env.cells scope.names []) pm (.ref c') ctv) ⟨[], []⟩ = pure [])
    (tk : Takes ((cxOf CXg X.prog X.w X.K X.mg X.base Ng qg sg g cdg X.A X.stack s H Eg).tr pn xe) W) (hr : Room (k + 1) (X.A.deeper (envOfC qg sg s.heap.objs.size g cdg)))
    (hbody : ∀ (A : Around) (outer : List Env) (s : Shared) (H : Hp) (E : XK), A.guards = some [] → Room k (A.deeper (lamEnv X scope s.heap.objs.size f c')) → PE (lamCx X A outer s H E scope f c') body (tb E))
    (hN : Ng[i]? = some a) (hv : Vis sg a) (hd : (a == ("__debug__" : Str)) = false) (hcd : (a == ("__classdict__" : Str)) = false) :
    PE ((cxOf CXg X.prog X.w X.K X.mg X.base Ng qg sg g cdg X.A X.stack s H Eg).tr pn xe) (.Call (.Name a p1) [] [] p2)
      (fun z G Q => z[i]? = some (some (.ref f)) ∧ G c' = some (CodeO c' (lamQ X)) ∧ tb (fun cls d G' => W cls d z G') σ G Q) := by
  refine ⟨fun pins2 s2 z G Q I2 ⟨h1, h2, h3⟩ => wpAny_Call_Name_kw (thn ((pe_var (pos := p1) (i := i) hN hv hd hcd).run pins2 s2 z G (fun v G1 => v = .ref f ∧ G1 = G) I2 ⟨.ref f, h1, rfl, rfl⟩) fun u s3 ⟨v, G1, I3, r3, q3⟩ => ?_)⟩
  obtain ⟨ev, eG⟩ := q3
  subst ev
  rw [eG] at I3
  obtain rfl : u = Value.ref f := r3
  have o3 := I3.base.keep f _ hf hfn hfr (fun m => nomatch (show f ∈ ([] : List Addr) from m))
  refine PySem.W.callWith_F0 ⟨_, _, _, _, o3⟩ (wpAny_call (codeAny_mono (R := CR (L2.CX X.prog X.w) (envOfC qg sg s.heap.objs.size g cdg :: X.stack) X.prog X.w G s3 Q (fun cls d G' => W cls d z G')) ?_ fun res s4 hq => ?_))
  · obtain ⟨⟨oc, vs, t, hoc, hdc, hvc⟩, _, _⟩ := I3.hok c' _ h2
    show codeAny _ _ (.call (.ref f) ⟨[], []⟩) _ _
    refine PySem.W.kla_callFunE hr.depth o3 rfl L.co L.gen rfl ⟨c', oc, vs, t, rfl, hoc, hdc, hvc⟩ ?_
    rw [hbind]
    refine wpAny_pure (wpAny_newFunctionEnv (fun y hy => (L.own y hy).2) (fun y hy => absurd hy (by simp)) (fun h₁ hns hsb => ⟨I3.nolimit.fresh _ hsb, ?_⟩) L.kind)
    have kp : ∀ b o, s3.heap.get? b = some o → h₁.get? b = some o := fun b o e => hsb.extBut b o (Nat.ne_of_lt (Heap.lt_size e)) (Heap.get?_push_of_some _ e)
    have un : Un (frs X.stack) [] H G s.heap s3.heap := I3.base
    have J := lam_start2 (tk := s3.toks + ([] : List (Str × Value)).length) (E := fun cls d G' => W cls d z G') (f := f) (c' := c') I L I3.env0 hr.hd un hns kp
    refine PySem.W.kla_codeExpr (wpAny_mono ((hbody (X.A.deeper (envOfC qg sg s.heap.objs.size g cdg)) (envOfC qg sg s.heap.objs.size g cdg :: X.stack) s3 G _ gd (hr.deeper _)).run [] _ _ G Q J h3) (fun v s5 ⟨w1, G5, J5, r5, q5⟩ => ?_) fun e s5 hq => hq)
    exact ⟨w1, G5, J5.os, J5.bare, J5.base, J5.hok, r5, q5⟩
  · match res, hq with
    | .error e, hq => exact passSt tk I3 hq
    | .ok (.ret u), hq => exact I3.after hq
    | .ok .next, hq => exact hq.elim
    | .ok .brk, hq => exact hq.elim
    | .ok .cont, hq => exact hq.elim
/-- the def's own context -/
abbrev cxG (X : Cx) (Ng : List Str) (x : Str) (st : Stmt) (s : Shared) (H : Hp) (g : Addr) (cdv : Value) : Cx := (cxOf C8.CX0 X.prog X.w X.K X.mg X.base Ng x (defScope st) g cdv X.A X.stack s H C8.E0).nox
@[reducible] def endR (Q : VK) : Ends := { nx := fun _ G => Q .non G, rt := Q }
/-- from the lambda on -/
def goR (K : PySem.W.Frag) (Ng : List Str) (i : Nat) (l : Clz) (tr : TS) (t : XK → TE) (σ : L2.St) (Q : VK) (H1 : Hp) : Prop := ∀ f, H1 f = none →
  t (fun cls d G => wAsL K i (fun _ _ _ _ => False) { endR Q with nx := tr (endR Q) } l cls d (L2.start Ng [.ref f]) G) σ H1 (fun _ G => tr (endR Q) (L2.start Ng [.ref f]) G)
def tRefC (K : PySem.W.Frag) (P : Addr) (q : Str) (lpos : Pos) (Ng : List Str) (i : Nat) (l : Clz) (tr : TS) (t : XK → TE) : TE := fun σ H Q => ∃ ps, H P = some (.tbl ps) ∧ TriplesOk ps.toList ∧
  (∀ cv, codeAmong lpos ps.toList = some cv → ∃ c', cv = .ref c' ∧ H c' = some (CodeO c' q) ∧ goR K Ng i l tr t σ Q H) ∧
  (codeAmong lpos ps.toList = none → ∀ c', H c' = none → goR K Ng i l tr t σ Q (upd (upd H P (tab' ps lpos c')) c' (CodeO c' q)))
theorem pe_refC {x a n : Str} {st : Stmt} {Ng : List Str} {i k : Nat} {g c P : Addr} {fd : FuncData} {t : XK → TE} {tr : TS} {l : Clz} {h0 : ExceptHandler} {hds : List ExceptHandler} {rest : List Stmt} {params : Arguments} {body : Expr} {scope : Scope} {p p1 p2 p3 p8 lpos pos : Pos}
    (hg : Gl X x) (F : Fun X.K x x st g fd) (hm : X.mg x = some (.ref g)) (bp : BindP fd [a]) (C : FnScope Ng [a] (defScope st)) (hN0 : Ng[0]? = some a) (hva : Vis (defScope st) a)
    (hb : defBody st = .Try [.Expr (.Call (.Name a p1) [] [] p2) p3] (h0 :: hds) [] [] p8 :: rest) (ni : Ng[i]? = some n) (nl : (defScope st).names.lookup n = some .local)
    (TB : TabB X.base X.mg c P) (hcode : X.env.code = .ref c) (hr : Room (k + 2) X.A) (gd : X.A.guards = some []) (L : LamS X.env.scope scope) (hdef : defaultsOf params X.env = ([], []))
    (hbind : ∀ (q : Str) (cl : List (Str × Addr)) (pm cv ctv : Value), bindArgs (PySem.W.kla_fn "<lambda>" q params body scope cl pm cv ctv) ⟨[], []⟩ = pure [])
    (hbody : ∀ (A : Around) (outer : List Env) (s : Shared) (H : Hp) (E : XK) (f c' : Addr), A.guards = some [] → Room k (A.deeper (lamEnv X scope s.heap.objs.size f c')) → PE (lamCx X A outer s H E scope f c') body (t E))
    (hA : ∀ s H cdv, CdIs X.K x x st g cdv → Room (k + 1) (X.A.deeper (envOfC x (defScope st) s.heap.objs.size g cdv)) → HdsAs (cxG X Ng x st s H g cdv) n (h0 :: hds) l) (hR : ∀ s H cdv, CdIs X.K x x st g cdv → Room (k + 1) (X.A.deeper (envOfC x (defScope st) s.heap.objs.size g cdv)) → PSs (cxG X Ng x st s H g cdv) rest tr)
    (hdx : (x == ("__debug__" : Str)) = false) (hda : (a == ("__debug__" : Str)) = false) (hca : (a == ("__classdict__" : Str)) = false) :
    PE X (.Call (.Name x p) [.Lambda params body scope lpos] [] pos) (tRefC X.K P (lamQ X) lpos Ng i l tr t) := by
  refine ⟨fun pins s σ H Q I ⟨ps, hP, ht, hit, miss⟩ => wpAny_Call_Name_kw (ld_glob I hg hm ?_ hdx)⟩
  refine PySem.W.callWith_K (h₀ := X.base) I.ok.mod.kin F.kp ?_ (by rfl) (by rfl)
  show wpAny _ _ (spliced ((false, eval (.Lambda params body scope lpos) X.env) :: backTo pos (starEach [] X.env))) _ _ s
  refine Calls.spliced_cons (lam_mkC (R := fun _ H1 => goR X.K Ng i l tr t σ Q H1) I TB hcode hP ht hdef (L.has I.ok) hit miss fun f c' pm ctv H1 s1 J hf hfn hfr hco go => ?_)
  refine Calls.spliced_nil ⟨J.kIn, ?_⟩
  obtain ⟨oc, od, kV, doc, pmv, an, cdv, ct, osl, rfl, lk, hcd⟩ := F.ex
  have rc : codeAny (model X.prog X.w) X.A (.call (.ref g) ⟨[.ref f], []⟩) (CR C8.CX0 X.stack X.prog X.w H1 s1 Q C8.E0) s1 := by
    refine run_ofS (N := Ng) (ps := [a]) (us := [.ref f]) (vs := [.ref f]) lk hcd C hr J.env0 (.of_eq (bp [.ref f] rfl)) (.cons rfl .nil) rfl fun hr2 => ?_
    have cdi : CdIs X.K x x st g cdv := ⟨_, _, _, _, _, _, _, _, lk⟩
    have sl : (L2.start Ng [.ref f])[0]? = some (some (.ref f)) := start_get rfl
    have act := fun (W : WX) (pn : List (Addr × Obj)) (xe : Value → Shared → Prop) (tk : Takes ((cxOf C8.CX0 X.prog X.w X.K X.mg X.base Ng x (defScope st) g cdv X.A X.stack s1 H1 C8.E0).tr pn xe) W) =>
      pe_actC (i := 0) (p1 := p1) (p2 := p2) J L hf hfn hfr gd (hbind _ _ _ _ _) tk hr2 (fun A outer s H E g2 r2 => hbody A outer s H E f c' g2 r2) hN0 hva hda hca
    have tk0 : Takes (cxG X Ng x st s1 H1 g cdv) (fun _ _ _ _ => False) := fun _ _ xx => by
      obtain ⟨_, _, _, _, _, _, _, _, _, _, _, _, _, _, _, _, w⟩ := xx
      exact w.elim
    have tr2 := ps_tryA (X := cxG X Ng x st s1 H1 g cdv) (body := [.Expr (.Call (.Name a p1) [] [] p2) p3]) (i := i) (n := n) (pos := p8) (tb := fun W D z G => z[0]? = some (some (.ref f)) ∧ G c' = some (CodeO c' (lamQ X)) ∧ t (fun cls d G' => W cls d z G') σ G (fun _ G' => D.nx z G')) rfl rfl C.nd ni nl tk0
      (fun W pn xe tk _ => pss_one (ps_expr (act W pn xe tk) (by rfl))) (hA s1 H1 cdv cdi hr2)
    have bd := pss_cons tr2 (hR s1 H1 cdv cdi hr2)
    rw [← hb] at bd
    exact ⟨_, bd.nox, sl, hco, go f hfn⟩
  refine wpAny_call (codeAny_mono rc fun r s2 hq => ?_)
  match r, hq with
  | .error e, hq => exact (show False from hq).elim
  | .ok (.ret u), hq => exact J.after hq
  | .ok .next, hq => exact hq.elim
  | .ok .brk, hq => exact hq.elim
  | .ok .cont, hq => exact hq.elim
end
end GX

namespace GX
open PySem PySem.Spec PyProof.Rows L2 LamX
/-! ## g(lambda: e): what the lambda's walk says, what g says of it -/
def ownOf : Slot → Option (Addr × Kd × (List Da → Prop))
  | .ow p k I => some (p, k, I)
  | _ => none
def ownsOf (Γ : List Slot) : List (Addr × Kd × (List Da → Prop)) := Γ.filterMap ownOf
theorem ownsOf_in {Γ : List Slot} {q : Addr × Kd × (List Da → Prop)} : q ∈ ownsOf Γ ↔ Slot.ow q.1 q.2.1 q.2.2 ∈ Γ := by
  unfold ownsOf
  rw [List.mem_filterMap]
  constructor
  · rintro ⟨s, h1, h2⟩
    cases s <;> cases h2
    exact h1
  · intro h
    exact ⟨_, h, rfl⟩
theorem ownsOf_at {Γ : List Slot} {p : Addr} (h : p ∈ (ownsOf Γ).map (·.1)) : ∃ (i : Nat) (k : Kd) (I : List Da → Prop), Γ[i]? = some (.ow p k I) := by
  obtain ⟨q, h1, h2⟩ := List.mem_map.mp h
  obtain ⟨i, hi⟩ := List.mem_iff_getElem?.mp (ownsOf_in.mp h1)
  subst h2
  exact ⟨i, _, _, hi⟩
theorem ownsOf_mem {Γ : List Slot} {i : Nat} {p : Addr} {k : Kd} {I : List Da → Prop} (h : Γ[i]? = some (.ow p k I)) : p ∈ (ownsOf Γ).map (·.1) :=
  List.mem_map.mpr ⟨(p, k, I), ownsOf_in.mpr (List.mem_of_getElem? h), rfl⟩
/-- the lambda's own setting -/
@[reducible] def Sx.lam (S : Sx) (k : Nat) (scope : Scope) (F0 H0 : Hp) (Γ : List Slot) (E : Er) : Sx :=
  { S with sc := scope, k := k, F0 := F0, H0 := H0, op := ownsOf Γ, E := E, stor := fun _ => false, cd := .none, ql := "", calm := true, xc := none, cel := [], ce := none, top := false }
theorem ops_lam {S : Sx} {k : Nat} {scope : Scope} {F0 H0 : Hp} {Γ : List Slot} {E : Er} : OpsIn (S.lam k scope F0 H0 Γ E) Γ := fun _ h => ⟨_, ownsOf_in.mp h, fun _ z => z⟩
section
variable {S : Sx} {PX Hf Hf' H H' : Hp} {Γ : List Slot} {σ : L2.St} {k : Nat} {scope : Scope} {E : Er}
theorem Stt.toLam (st : Stt S PX Γ Hf H σ) : Stt (S.lam k scope Hf (strip S.T H) Γ E) PX Γ Hf H σ := by
  refine ⟨⟨st.z.len, Sub.refl _, st.z.ex, fun q o h _ => h, fun q h => ?_, st.z.at_, fun i p k I h => .inl (ownsOf_mem h), fun p h1 h2 => absurd h2 h1, st.z.px, st.z.pf, st.z.pi, st.z.sep⟩, st.tb⟩
  obtain ⟨i, hi⟩ := List.mem_iff_getElem?.mp (ownsOf_in.mp h)
  exact st.z.ownH hi
theorem Stt.unlam (st : Stt S PX Γ Hf H σ) (z : Stt (S.lam k scope Hf (strip S.T H) Γ E) PX Γ Hf' H' σ) : Stt S PX Γ Hf' H' σ := by
  have kp : ∀ q o, strip S.T H q = some o → q ∉ (ownsOf Γ).map (·.1) → strip S.T H' q = some o := z.z.keep
  refine ⟨⟨z.z.len, st.ex0.trans z.z.ex0, z.z.ex, fun q o h1 h2 => kp q o (st.z.keep q o h1 h2) fun m => ?_, fun q h => ?_, z.z.at_, st.z.new, fun p h1 h2 => ?_, z.z.px, z.z.pf, z.z.pi, z.z.sep⟩, z.tb⟩
  · obtain ⟨i, k, I, hi⟩ := ownsOf_at m
    rcases st.z.new i _ _ _ hi with c | c
    · exact h2 c
    · rw [h1] at c; cases c
  · by_cases c : q.1 ∈ (ownsOf Γ).map (·.1)
    · obtain ⟨i, k, I, hi⟩ := ownsOf_at c
      exact z.z.ownH hi
    · cases e : strip S.T H q.1 with
      | none => exact absurd e (st.z.ops q h)
      | some o => rw [kp _ _ e c]; exact fun z => nomatch z
  · by_cases c : Hf p = none
    · exact st.z.fresh0 (z.z.fr p h1 c)
    · exact st.z.fr p c h2
theorem Stt.ofWX (st : Stt S PX Γ Hf H σ) {cls : Value} {d : Option Addr} {σ' : L2.St} (w : (S.lam k scope Hf (strip S.T H) Γ E).WX cls d σ' H') :
    ∃ Hf' fs, Stt S PX Γ Hf' H' σ ∧ Sub Hf Hf' ∧ XRep S.K Hf' d fs ∧ E cls fs := by
  obtain ⟨Hf', fs, a1, a2, a3, a4, a5, a6, a7, a8⟩ := w
  have a3 : ∀ p, Hf' p ≠ none → Hf p = none → strip S.T H p = none := a3
  have a4 : ∀ q o, strip S.T H q = some o → q ∉ (ownsOf Γ).map (·.1) → strip S.T H' q = some o := a4
  have ow : ∀ i p k I, Γ[i]? = some (Slot.ow p k I) → OwnK S.K Hf' (strip S.T H') p k I := fun i p k I h => a5 (p, k, I) (ownsOf_in.mpr (List.mem_of_getElem? h))
  have z : Stt (S.lam k scope Hf (strip S.T H) Γ E) PX Γ Hf' H' σ := by
    refine ⟨⟨st.z.len, a1, a2, a4, fun q h => ?_, fun i s h => ?_, fun i p k I h => .inl (ownsOf_mem h), a3, fun a o h => ?_, fun p h => ?_, st.z.pi, st.z.sep⟩, a8⟩
    · obtain ⟨i, hi⟩ := List.mem_iff_getElem?.mp (ownsOf_in.mp h)
      obtain ⟨o, e⟩ := (ow i _ _ _ hi).at
      show strip S.T H' q.1 ≠ none
      rw [e]; exact fun z => nomatch z
    · cases s with
      | no => trivial
      | dat d => exact (st.z.at_ i _ h).more a1 fun _ _ _ z => nomatch z
      | ow p k I => exact ⟨(st.z.ownK h).1, ow i p k I h⟩
      | rf a => exact st.z.at_ i _ h
      | vd d v => exact (st.z.at_ i _ h).more a1 fun _ _ _ z => nomatch z
    · refine a4 a o (st.z.px a o h) fun m => ?_
      obtain ⟨i, k, I, hi⟩ := ownsOf_at m
      rw [st.z.pi i _ _ _ hi] at h; cases h
    · cases c : Hf' p with
      | none => rfl
      | some u =>
        have n := a3 p (by rw [c]; exact fun z => nomatch z) (st.z.pf p h)
        exact absurd (st.z.px.free n) h
  exact ⟨Hf', fs, st.unlam z, a1, a6, a7⟩
theorem Sx.Ok.lam {X : Cx} {A : Around} {outer : List Env} {s : Shared} {F0 H0 HZ : Hp} {EX : XK} {f c' : Addr} (ok : S.Ok X) (hr : Room k (A.deeper (lamEnv X scope s.heap.objs.size f c'))) (hgd : A.guards = some [])
    (hE : ∀ cls d σ H', (S.lam k scope F0 H0 Γ E).WX cls d σ H' → EX cls d H') : (S.lam k scope F0 H0 Γ E).Ok (lamCx X A outer s HZ EX scope f c') where
  P := ok.P
  w := ok.w
  K := ok.K
  mg := ok.mg
  base := ok.base
  N := ok.N
  sc := rfl
  calm := fun _ => rfl
  room := fun _ => hr
  un := Nat.lt_of_le_of_lt (Nat.add_le_add_right (Nat.le_add_right _ (16 * k)) 200) hr.un
  gd := hgd
  nd := ok.nd
  tk := (takes_of (E := EX) rfl rfl rfl rfl).imp fun c d σ H' h => hE c d σ H' h
  po := passes_of rfl
  fn := fun _ h => nomatch h
  cd := fun z => absurd rfl z
  ql := fun z => absurd rfl z
  cel := fun _ z => nomatch z
  ce := fun _ z => nomatch z
  top := fun z => nomatch z
  xc := fun _ _ _ _ z => nomatch z
end
/-! ### the def that is handed the lambda -/
section
variable (Tq : List (Addr × Str)) (P : Program) (w : World) (K : PySem.W.Frag) (mg : Str → Option Value) (base : Heap) (N : List Str) (sc : Scope) (k : Nat)
@[reducible] def gS (F0 H0 : Hp) : Sx := mkS Tq P w K mg base N sc k F0 H0 [] (fun _ _ => False) .none ""
@[reducible] def suS (F0 H0 : Hp) (a : Addr) (cls : Value) (d : Option Addr) (fs : Option (List (Str × Da))) : Sx := { gS Tq P w K mg base N sc k F0 H0 with calm := false, xc := some (a, cls, d, fs), top := false }
def trG (rest : List Stmt) : TS := fun D z G => ∃ F0 H0, tUB (gS Tq P w K mg base N sc k F0 H0) rest D z G
def tsG (su : List Stmt) : Addr → Value → Option Addr → TS := fun a cls d D z G => ∃ F0 H0 fs, XRep K F0 d fs ∧ tUB (suS Tq P w K mg base N sc k F0 H0 a cls d fs) su D z G
def clzG : List ExceptHandler → Clz
  | .ExceptHandler (some (.Name x _)) (some _) su _ :: hds => (clsOf mg x, tsG Tq P w K mg base N sc k su) :: clzG hds
  | _ => []
end
/-- clauses: except X as n, X a class of the module -/
def hdsB (sc : Scope) (n : Str) : List ExceptHandler → Bool
  | [] => true
  | .ExceptHandler (some (.Name x _)) (some m) (_ :: _) _ :: hds => decide (sc.names.lookup x = some .globalImplicit) && !(x == ("__debug__" : Str)) && decide (m = n) && hdsB sc n hds
  | _ => false
def hdsM (mg : Str → Option Value) : List ExceptHandler → Prop
  | .ExceptHandler (some (.Name x _)) _ _ _ :: hds => (∃ C, mg x = some (.ref C)) ∧ hdsM mg hds
  | _ => True
section
variable {Tq : List (Addr × Str)} {P : Program} {w : World} {K : PySem.W.Frag} {mg : Str → Option Value} {base : Heap} {N : List Str} {st : Stmt} {k m : Nat} {S : Sx} {X : Cx} {x n : Str} {s : Shared} {H : Hp} {g : Addr} {cdv : Value}
theorem ok_gS {F0 H0 : Hp} (ok : S.Ok X) (nd : N.Nodup) (hk : k ≤ m) (hr : Room m (X.A.deeper (envOfC x (defScope st) s.heap.objs.size g cdv))) :
    (gS S.T S.P S.w S.K S.mg S.base N (defScope st) k F0 H0).Ok (cxG X N x st s H g cdv) where
  P := ok.P
  w := ok.w
  K := ok.K
  mg := ok.mg
  base := ok.base
  N := rfl
  sc := rfl
  calm := fun _ => rfl
  room := fun _ => hr.mono hk
  un := Nat.lt_of_le_of_lt (Nat.add_le_add_right (Nat.le_add_right _ (16 * m)) 200) hr.un
  gd := ok.gd
  nd := nd
  tk := fun _ _ xx => by
    obtain ⟨_, _, _, _, _, _, _, _, _, _, _, _, _, _, _, _, w⟩ := xx
    obtain ⟨_, _, _, _, _, _, _, _, z, _⟩ := w
    exact z.elim
  po := fun _ _ h => h.elim
  fn := fun _ _ => .inl rfl
  cd := fun z => absurd rfl z
  ql := fun z => absurd rfl z
  cel := fun _ z => nomatch z
  ce := fun _ z => nomatch z
  top := fun _ => ⟨rfl, rfl, fun _ => rfl⟩
  xc := fun _ _ _ _ z => nomatch z
theorem ok_suS {F0 H0 : Hp} {a : Addr} {oe : Obj} {pn : List (Addr × Obj)} {cls : Value} {d : Option Addr} {fs : Option (List (Str × Da))} (ok : S.Ok X) (nd : N.Nodup) (hr : Room m (X.A.deeper (envOfC x (defScope st) s.heap.objs.size g cdv)))
    (hz : Zc cls d oe) (hv : ∃ vs, oe.data = .fields vs) (xr : XRep S.K F0 d fs) :
    (suS S.T S.P S.w S.K S.mg S.base N (defScope st) k F0 H0 a cls d fs).Ok ((cxG X N x st s H g cdv).suite a ((a, oe) :: pn)) where
  P := ok.P
  w := ok.w
  K := ok.K
  mg := ok.mg
  base := ok.base
  N := rfl
  sc := rfl
  calm := fun z => nomatch z
  room := fun z => nomatch z
  un := Nat.lt_of_le_of_lt (Nat.add_le_add_right (Nat.le_add_right _ (16 * m)) 200) hr.un
  gd := ok.gd
  nd := nd
  tk := fun _ _ xx => by
    obtain ⟨_, _, _, _, _, _, _, _, _, _, _, _, _, _, _, _, w⟩ := xx
    obtain ⟨_, _, _, _, _, _, _, _, z, _⟩ := w
    exact z.elim
  po := fun _ _ h => h.elim
  fn := fun _ _ => .inl rfl
  cd := fun z => absurd rfl z
  ql := fun z => absurd rfl z
  cel := fun _ z => nomatch z
  ce := fun _ z => nomatch z
  top := fun z => nomatch z
  xc := fun a' cls' d' fs' z => by
    cases z
    exact ⟨_, oe, pn, rfl, hz, hv, xr⟩
theorem hdsA (ok : S.Ok X) (nd : N.Nodup) (hr : Room m (X.A.deeper (envOfC x (defScope st) s.heap.objs.size g cdv))) : ∀ {hds : List ExceptHandler}, hdsB (defScope st) n hds = true → hdsM S.mg hds →
    HdsAs (cxG X N x st s H g cdv) n hds (clzG S.T S.P S.w S.K S.mg S.base N (defScope st) k hds)
  | [], _, _ => .nil
  | .ExceptHandler (some (.Name y p)) (some j) (s0 :: su) p2 :: hds, h, hm => by
    unfold hdsB at h
    rw [Bool.and_eq_true, Bool.and_eq_true, Bool.and_eq_true, decide_eq_true_eq, decide_eq_true_eq, Bool.not_eq_true'] at h
    obtain ⟨⟨⟨h1, h2⟩, e⟩, h4⟩ := h
    have e := e.symm
    subst e
    obtain ⟨⟨C, hC⟩, hm⟩ := hm
    refine .cons (c := clsOf S.mg y) ⟨h1, h2, .inl ?_⟩ (fun a oe cls d pn hz hv => ⟨fun pins s z G D I ⟨F0, H0, fs, xr, q⟩ => ?_⟩) (hdsA ok nd hr h4 hm)
    · show X.mg y = _
      rw [ok.mg]; unfold clsOf; rw [hC]; rfl
    · exact (puB (ok_suS (H0 := H0) (k := k) ok nd hr hz hv xr)).run pins s z G D I q
  | .ExceptHandler none _ _ _ :: _, h, _ => by simp [hdsB] at h
  | .ExceptHandler (some (.Name _ _)) none _ _ :: _, h, _ => by simp [hdsB] at h
  | .ExceptHandler (some (.Name _ _)) (some _) [] _ :: _, h, _ => by simp [hdsB] at h
end
/-! ### the contract of such a def -/
@[reducible] def rfS (f : Addr) (N : List Str) : List Slot := .rf f :: List.replicate (N.length - 1) .no
def hW (Tq : List (Addr × Str)) (P : Program) (w : World) (K : PySem.W.Frag) (mg : Str → Option Value) (base : Heap) (N : List Str) (sc : Scope) (k i : Nat) (Q : Da → Prop) : List ExceptHandler → Er
  | .ExceptHandler (some (.Name x _)) (some _) su _ :: hds => fun cls fs => ∃ b, PySem.W.exmOne K cls (clsOf mg x) = some b ∧
      (b = true → ∀ a f d F0 H0, XRep K F0 d fs → EvB (suS Tq P w K mg base N sc k F0 H0 a cls d fs) ((rfS f N).set i (.rf a)) su { nx := fun _ => False, rt := Q }) ∧ (b = false → hW Tq P w K mg base N sc k i Q hds cls fs)
  | _ => fun _ _ => False
structure RefC (Tq : List (Addr × Str)) (P : Program) (w : World) (K : PySem.W.Frag) (mg : Str → Option Value) (base : Heap) (x : Str) (st : Stmt) (k : Nat) (nq : (Da → Prop) → Prop) (xq : (Da → Prop) → Er) : Prop where
  df : Def K mg x st
  dx : (x == ("__debug__" : Str)) = false
  ex : ∃ (N : List Str) (a n : Str) (i : Nat) (p1 p2 p3 p8 : Pos) (h0 : ExceptHandler) (hds : List ExceptHandler) (rest : List Stmt),
    FnScope N [a] (defScope st) ∧ N[0]? = some a ∧ Vis (defScope st) a ∧ (a == ("__debug__" : Str)) = false ∧ (a == ("__classdict__" : Str)) = false ∧
    defBody st = .Try [.Expr (.Call (.Name a p1) [] [] p2) p3] (h0 :: hds) [] [] p8 :: rest ∧ N[i]? = some n ∧ (defScope st).names.lookup n = some .local ∧ hdsB (defScope st) n (h0 :: hds) = true ∧ hdsM mg (h0 :: hds) ∧
    (∀ (kV doc pm : Value) (an : Option Addr) (cdv ct : Value) (us : List Value), us.length = 1 → bindArgs (PySem.W.fnOf x x (defArgs st) (defBody st) (defScope st) .none kV doc pm an cdv ct) ⟨us, []⟩ = pure ([a].zip us)) ∧
    (∀ Q, nq Q → ∀ F0 H0 f, EvB (gS Tq P w K mg base N (defScope st) k F0 H0) (rfS f N) rest { nx := fun _ => Q .non, rt := Q }) ∧
    ∀ Q cls fs, xq Q cls fs → hW Tq P w K mg base N (defScope st) k i Q (h0 :: hds) cls fs
section
variable {S : Sx} {Γ : List Slot} {Q : Da → Prop} {x y q : Str} {st sty : Stmt} {k m : Nat} {nq : (Da → Prop) → Prop} {xq : (Da → Prop) → Er} {params : Arguments} {body : Expr} {scope : Scope} {p lpos pos : Pos}
theorem stt_rf {N : List Str} {sc : Scope} {F0 Hf H : Hp} {PX : Hp} {Γ : List Slot} {σ : L2.St} {f : Addr} (st : Stt S PX Γ Hf H σ) (hN : 1 ≤ N.length) :
    Stt (gS S.T S.P S.w S.K S.mg S.base N sc k Hf (strip S.T H)) (fun _ => none) (rfS f N) Hf H (L2.start N [.ref f]) := by
  have sl : ∀ {i : Nat} {s : Slot}, (rfS f N)[i]? = some s → (i = 0 ∧ s = .rf f) ∨ s = .no := fun {i s} h => by
    cases i with
    | zero => cases h; exact .inl ⟨rfl, rfl⟩
    | succ i =>
      have h : (List.replicate (N.length - 1) Slot.no)[i]? = some s := h
      rw [List.getElem?_replicate] at h
      split at h <;> cases h
      exact .inr rfl
  refine ⟨⟨?_, Sub.refl _, st.z.ex, fun q o h _ => h, fun q h => (nomatch h), fun i s h => ?_, fun i p k I h => ?_, fun p h1 h2 => absurd h2 h1, fun _ _ z => (nomatch z), fun p h => absurd rfl h, fun _ _ _ _ _ => rfl, fun i j p k l I J h => ?_⟩, st.tb⟩
  · unfold L2.start
    show _ = (Slot.rf f :: List.replicate (N.length - 1) Slot.no).length
    rw [List.length_append, List.length_map, List.length_replicate, List.length_cons (as := List.replicate _ _), List.length_replicate]
    show 1 + (N.length - 1) = N.length - 1 + 1
    omega
  · rcases sl h with ⟨rfl, rfl⟩ | rfl
    · show _ = _
      rw [start_get (vs := [.ref f]) (v := .ref f) rfl]; rfl
    · trivial
  · rcases sl h with ⟨_, z⟩ | z <;> cases z
  · rcases sl h with ⟨_, z⟩ | z <;> cases z
theorem stt_rfA {N : List Str} {sc : Scope} {Hf H : Hp} {PX : Hp} {Γ : List Slot} {σ : L2.St} {f a : Addr} {i : Nat} {n : Str} {cls : Value} {d : Option Addr} {fs : Option (List (Str × Da))} (st : Stt S PX Γ Hf H σ) (hN : 1 ≤ N.length) (hi : N[i]? = some n) :
    Stt (suS S.T S.P S.w S.K S.mg S.base N sc k Hf (strip S.T H) a cls d fs) (fun _ => none) ((rfS f N).set i (.rf a)) Hf H ((L2.start N [.ref f]).set i (some (.ref a))) := by
  have z : Stt (gS S.T S.P S.w S.K S.mg S.base N sc k Hf (strip S.T H)) (fun _ => none) (rfS f N) Hf H (L2.start N [.ref f]) := stt_rf (F0 := Hf) st hN
  have hl : i < (L2.start N [.ref f]).length := by
    rw [z.len]
    have := (List.getElem?_eq_some_iff.mp hi).1
    show i < (rfS f N).length
    rw [List.length_cons, List.length_replicate]
    omega
  have sl : ∀ {j : Nat} {s : Slot}, ((rfS f N).set i (.rf a))[j]? = some s → (j = i ∧ s = .rf a) ∨ (j ≠ i ∧ (rfS f N)[j]? = some s) := fun {j s} h => by
    by_cases e : i = j
    · subst e
      rw [List.getElem?_set_self (by rw [← z.len]; exact hl)] at h
      cases h; exact .inl ⟨rfl, rfl⟩
    · rw [List.getElem?_set_ne e] at h
      exact .inr ⟨fun c => e c.symm, h⟩
  have no : ∀ {j : Nat} {p : Addr} {k : Kd} {I : List Da → Prop}, ((rfS f N).set i (.rf a))[j]? ≠ some (.ow p k I) := fun {j p k I} h => by
    rcases sl h with ⟨_, c⟩ | ⟨_, c⟩
    · cases c
    · cases j with
      | zero => cases c
      | succ j =>
        have c : (List.replicate (N.length - 1) Slot.no)[j]? = some (.ow p k I) := c
        rw [List.getElem?_replicate] at c
        split at c <;> cases c
  refine ⟨⟨?_, z.z.ex0, z.z.ex, z.z.keep, z.z.ops, fun j s h => ?_, fun i p k I h => absurd h no, z.z.fr, z.z.px, z.z.pf, fun _ _ _ _ h => absurd h no, fun i j p k l I J h => absurd h no⟩, z.tb⟩
  · rw [List.length_set, List.length_set]; exact z.z.len
  · rcases sl h with ⟨rfl, rfl⟩ | ⟨e, c⟩
    · show _ = _
      rw [List.getElem?_set_self hl]; rfl
    · rw [List.getElem?_set_ne (fun z => e z.symm)]
      exact z.z.at_ j s c
theorem hW_ok {N : List Str} {sc : Scope} {i : Nat} {n : Str} {Hf H : Hp} {PX : Hp} {σ : L2.St} {f : Addr} {kk : VK} {tr : L2.St → Hp → Prop} (st : Stt S PX Γ Hf H σ) (hN : 1 ≤ N.length) (hi : N[i]? = some n)
    (hk : ∀ d v Hf' H', Sub Hf Hf' → Stt S PX Γ Hf' H' σ → Rep S.K Hf' d v → Q d → kk v H') {cls : Value} {d : Option Addr} {fs : Option (List (Str × Da))} (xr : XRep S.K Hf d fs) : ∀ {hds : List ExceptHandler}, hW S.T S.P S.w S.K S.mg S.base N sc k i Q hds cls fs →
    wAsL S.K i (fun _ _ _ _ => False) { endR kk with nx := tr } (clzG S.T S.P S.w S.K S.mg S.base N sc k hds) cls d (L2.start N [.ref f]) H
  | .ExceptHandler (some (.Name y _)) (some _) su _ :: hds, h => by
    unfold hW at h
    obtain ⟨b, h1, h2, h3⟩ := h
    refine ⟨b, h1, fun e a _ => ?_, fun e => hW_ok st hN hi hk xr (h3 e)⟩
    refine ⟨Hf, strip S.T H, fs, xr, ?_⟩
    refine h2 e a f d Hf (strip S.T H) xr (fun _ => none) _ H Hf _ (stt_rfA st hN hi) ⟨fun _ _ _ _ _ _ z => z.elim, fun d v Γ' σ' Hf' H' e2 z _ r q => ?_, fun _ _ _ _ _ _ z => z.elim, fun _ _ _ _ _ _ z => z.elim, fun _ _ _ _ _ _ _ _ _ _ _ _ _ z => z.elim⟩
    exact hk d v Hf' H' e2 (st.grow z.z.ex0 z.z.ex (fun a o h => z.z.keep a o h (by exact List.not_mem_nil)) z.z.fr z.tb) r q
theorem ev_ref (R : RefC S.T S.P S.w S.K S.mg S.base x st k nq xq) (hk : k ≤ m + 1) (hm : m + 2 ≤ S.k) (hg : GlS S x) (t : LamTab S.K S.mg S.base S.T y sty q) (hc : ∃ f, S.mg y = some (.ref f) ∧ CdIs S.K y y sty f S.cd) (hq : S.ql ++ "<lambda>" = q) (L : LamS S.sc scope)
    (h : ∀ F0 H0, EvE (S.lam m scope F0 H0 Γ (xq Q)) Γ body fun _ => nq Q)
    (hdef : ∀ env, defaultsOf params env = ([], []) := by intro _; rfl)
    (hbind : ∀ (q : Str) (cl : List (Str × Addr)) (pm cv ctv : Value), bindArgs (PySem.W.kla_fn "<lambda>" q params body scope cl pm cv ctv) ⟨[], []⟩ = pure [] := by intro _ _ _ _ _; rfl) (hcm : S.calm = true := by rfl) :
    EvE S Γ (.Call (.Name x p) [.Lambda params body scope lpos] [] pos) Q := by
  obtain ⟨c, P, hcd, TB, hT, hu⟩ := t.ex
  obtain ⟨fy, hmy, hiy⟩ := hc
  have hcd := hcd fy _ hmy hiy
  have ncd : S.cd ≠ .none := by rw [hcd]; exact fun z => nomatch z
  obtain ⟨g, fd, F, hmg⟩ := R.df
  obtain ⟨N, a, n, i, p1, p2, p3, p8, h0, hds, rest, C, hN0, hva, hda, hca, hb, ni, nl, hB, hM, bp, hn, hx⟩ := R.ex
  have bpF : BindP fd [a] := by
    obtain ⟨oc, od, kV, doc, pm, an, cdv, ct, osl, rfl, lk, hcd⟩ := F.ex
    exact fun us h => bp kV doc pm an cdv ct us h
  have N1 : 1 ≤ N.length := (List.getElem?_eq_some_iff.mp hN0).1
  let tb : XK → TE := fun EX σ H Q' => ∃ F0 H0 er, (∀ cls d σ' H', (S.lam m scope F0 H0 Γ er).WX cls d σ' H' → EX cls d H') ∧ tU (S.lam m scope F0 H0 Γ er) body σ H Q'
  refine ev_of (t := tRefC S.K P q lpos N i (clzG S.T S.P S.w S.K S.mg S.base N (defScope st) k (h0 :: hds)) (trG S.T S.P S.w S.K S.mg S.base N (defScope st) k rest) tb) (fun X ok => ?_) fun PX σ H Hf kk s hkk => ?_
  · have z := pe_refC (X := X) (P := P) (c := c) (k := m) (t := tb) (tr := trG S.T S.P S.w S.K S.mg S.base N (defScope st) k rest) (l := clzG S.T S.P S.w S.K S.mg S.base N (defScope st) k (h0 :: hds)) (p := p) (lpos := lpos) (pos := pos) (params := params) (body := body) (scope := scope) (hg.gl ok) (by rw [ok.K]; exact F) (by rw [ok.mg]; exact hmg) bpF C hN0 hva hb ni nl (by rw [ok.base, ok.mg]; exact TB) (by rw [ok.cd ncd]; exact hcd)
      ((ok.room hcm).mono hm) ok.gd (by rw [show X.env.scope = S.sc from ok.sc]; exact L) (hdef _) hbind (fun A outer s H E f c' gd hr => ⟨fun pins s1 σ H1 Q1 I ⟨F0, H0, er, e1, q1⟩ => ?_⟩) (fun s H cdv _ hr => hdsA ok C.nd hr hB hM)
      (fun s H cdv _ hr => ⟨fun pins s1 z G D I ⟨F0, H0, q1⟩ => ?_⟩) R.dx hda hca
    · have e : lamQ X = q := by unfold lamQ; rw [ok.ql ncd]; exact hq
      rw [e, show X.K = S.K from ok.K] at z
      exact z
    · exact (pu (ok.lam hr gd e1)).run pins s1 σ H1 Q1 I q1
    · exact (puB (ok_gS ok C.nd hk hr)).run pins s1 z G D I q1
  · have go : ∀ Hf1 H1, Sub Hf Hf1 → Stt S PX Γ Hf1 H1 σ → goR S.K N i (clzG S.T S.P S.w S.K S.mg S.base N (defScope st) k (h0 :: hds)) (trG S.T S.P S.w S.K S.mg S.base N (defScope st) k rest) tb σ kk H1 := fun Hf1 H1 e1 s1 f _ => by
      refine ⟨Hf1, strip S.T H1, xq Q, fun cls d σ' H' w => ?_, ?_⟩
      · obtain ⟨Hf', fs, s2, e2, xr, er⟩ := s1.ofWX w
        exact hW_ok s2 N1 ni (fun d v Hf3 H3 e3 => hkk d v Hf3 H3 ((e1.trans e2).trans e3)) xr (hx Q cls fs er)
      · refine h Hf1 (strip S.T H1) PX σ H1 Hf1 _ s1.toLam fun d v Hf2 H2 e2 s2' _ nn => ?_
        have s2 := s1.unlam s2'
        refine ⟨Hf2, strip S.T H2, ?_⟩
        refine hn Q nn Hf2 (strip S.T H2) f (fun _ => none) _ H2 Hf2 _ (stt_rf (F0 := Hf2) s2 N1) ⟨fun Γ' σ' Hf' H' e3 z q => ?_, fun d v Γ' σ' Hf' H' e3 z _ r q => ?_, fun _ _ _ _ _ _ z => z.elim, fun _ _ _ _ _ _ z => z.elim, fun _ _ _ _ _ _ _ _ _ _ _ _ _ z => z.elim⟩
        · exact hkk .non .non Hf' H' ((e1.trans e2).trans e3) (s2.grow z.z.ex0 z.z.ex (fun a o h => z.z.keep a o h (by exact List.not_mem_nil)) z.z.fr z.tb) rfl q
        · exact hkk d v Hf' H' ((e1.trans e2).trans e3) (s2.grow z.z.ex0 z.z.ex (fun a o h => z.z.keep a o h (by exact List.not_mem_nil)) z.z.fr z.tb) r q
    obtain ⟨ps, hP, ht, hcc⟩ := s.tb _ hT
    refine ⟨ps, hP, ht, fun cv hcv => ?_, fun hn c' nC => ?_⟩
    · obtain ⟨c', rfl, e⟩ := hcc lpos cv hcv
      exact ⟨c', rfl, s.ex _ _ e, go Hf H (Sub.refl _) s⟩
    · have hPT : P ∈ S.T.map (·.1) := List.mem_map.mpr ⟨_, hT, rfl⟩
      have n' := s.tb.out nC
      have nP : P ≠ c' := fun z => n' (z ▸ hPT)
      have eP : strip S.T (upd H P (tab' ps lpos c')) = strip S.T H := by
        funext b
        by_cases mb : b ∈ S.T.map (·.1)
        · unfold strip; rw [if_pos mb, if_pos mb]
        · rw [strip_at mb, strip_at mb, upd_ne (fun z => mb (by rw [z]; exact hPT))]
      obtain ⟨z1, e1⟩ := s.z.alloc (o := CodeO c' q) (strip_none nC)
      refine go (upd Hf c' (CodeO c' q)) _ e1 ⟨by rw [strip_upd n', eP]; exact z1, fun r hr => ?_⟩
      by_cases hb : r.1 = P
      · refine ⟨_, by rw [hb, upd_ne nP, upd_same], by rw [Array.toList_append]; exact PySem.TriplesOk_snoc _ _ _ _ ht, fun p' cv hcv => ?_⟩
        rw [Array.toList_append] at hcv
        rcases among_app _ ht hcv with z | z
        · obtain ⟨c0, a1, a2⟩ := hcc p' cv z
          exact ⟨c0, a1, by rw [hu r hr hb]; exact e1 _ _ a2⟩
        · exact ⟨c', z, by rw [hu r hr hb]; exact upd_same⟩
      · obtain ⟨ps', a1, a2, a3⟩ := s.tb r hr
        refine ⟨ps', by rw [upd_ne (fun z => n' (List.mem_map.mpr ⟨r, hr, z⟩)), upd_ne hb]; exact a1, a2, fun p' cv hcv => ?_⟩
        obtain ⟨c0, b1, b2⟩ := a3 p' cv hcv
        exact ⟨c0, b1, e1 _ _ b2⟩
end
end GX

namespace GX
open PySem PySem.Spec PyProof.Rows L2
/-! ## the facts of a class of errors, as the end of a text hands them -/
section
variable {P : Program} {K : PySem.W.Frag} {h : Heap} {mg : Str → Option Value} {x y f : Str} {C D fI cda cc : Addr} {b : Bool}
theorem isP_of (X : K.In h) (G : h.Ns mainGlobals mg) (ay : PySem.W.nsIn K mainGlobals y = some (some (.ref D))) (ax : PySem.W.nsIn K mainGlobals x = some (some (.ref C))) (m : PySem.W.exmOne K (.ref D) (.ref C) = some b) (k : PySem.W.kitOne K (.ref D) (.ref C) = some b) : IsP K mg y x b := by
  have ey : clsOf mg y = .ref D := by unfold clsOf; rw [PySem.W.mg_of X G ay]; rfl
  have ex : clsOf mg x = .ref C := by unfold clsOf; rw [PySem.W.mg_of X G ax]; rfl
  exact ⟨⟨C, PySem.W.mg_of X G ax⟩, by rw [ey, ex]; exact m, by rw [ey, ex]; exact k⟩
theorem exc_of (X : K.In h) (G : h.Ns mainGlobals mg) (fd : Fld f) (a1 : PySem.W.nsIn K mainGlobals x = some (some (.ref C))) {oC oF oK oc : Obj} {nm q : Str} {N : Addr} {bs bm : List Value} {sn : List Str} {sub : List Value} {ab : Bool} {col : Option Bool} {dd : Option Addr} {k0 k1 k2 k3 k5 : Option Value}
    (lC : K.lookup C = some oC) (eC : oC = excClassObj nm q C N bs bm true sn sub ab col dd k0 k1 k2 k3 k5 "ValueError.__new__") (vC : HandSPX.refsVE bm = true) (ini : PySem.W.excInitIn K C HandSPX.veTail "ValueError.__new__" = true)
    (al : PySem.W.ks_superIn K C C "__init__" = some (some (.builtin "ValueError.__init__"))) (sf : PySem.W.mroIn K C (.ref C) = some true) (ve : PySem.W.subIn K (.ref C) (.type "ValueError") = some true) (tp : PySem.W.nsIn K cStatics "thirdparty.any" = some none)
    (sup : PySem.W.nsIn K mainGlobals "super" = some none) (sa : PySem.W.findIn K (.ref C) "__setattr__" = some (some (.builtin "object.__setattr__"))) (ga : PySem.W.findIn K (.ref C) "__getattribute__" = some (some (.builtin "BaseException.__getattribute__")))
    (gg : PySem.W.findIn K (.ref C) "__getattr__" = some none) (noN : PySem.W.findIn K (.ref C) f = some none) (iC : PySem.W.findIn K (.ref C) "__init__" = some (some (.ref fI))) (tC : PySem.W.typeIn K (.ref fI) = some (.type "function")) (kC : PySem.W.keepIn K (.ref C) = true)
    (exC : PySem.W.subIn K (.ref C) (.type "BaseException") = some true) (tyC : PySem.W.typeIn K (.ref C) = some (.type "type")) (hdC : PySem.W.hasDictIn K C = true) (top : (P.main.scope.names.lookup ("super" : Str)).isSome = false)
    {of : Value} {od : Option Addr} {doc pm : Value} {an : Option Addr} {ct : Value} {osl : Array (Option Value)} {p1 p2 q1 q2 q3 q4 q5 q6 q7 q8 q9 q10 : Pos} {qn : Str} {kc : Value} {kd : Option Addr} {vs : Array Value} {ks : Array (Option Value)} {file : Str} {tf : Tok} {lc : Value} {ld : Option Addr} {ls : Array (Option Value)}
    (lF : K.lookup fI = some oF) (eF : oF = ⟨of, od, .func (PySem.W.fnX "__init__" qn (iniA f p1 p2) (iniB f q1 q2 q3 q4 q5 q6 q7 q8 q9 q10) (iniS f) [("__class__", cc)] .none .none doc pm an (.ref cda) ct), osl⟩) (cF : PySem.W.codeIn K (.ref cda) qn = true)
    (lK : K.lookup cda = some oK) (eK : oK = ⟨kc, kd, .fields vs, ks⟩) (v2 : vs[2]? = some (.str file tf)) (fl : ((P.main.file : Str) == file) = true) (lc0 : K.lookup cc = some oc) (ec : oc = ⟨lc, ld, .cell (some (.ref C)), ls⟩) (hl : (q3.endLine == q5.line) = true)
    (ha : PySem.W.findIn K (.ref C) "__class__" = some (some (.builtin "object.__class__"))) (hn : PySem.W.specialIn K (.builtin "object.__class__") "__get__" = some (some (.builtin "getset_descriptor.__get__"))) (ht : PySem.W.takesIn K (.builtin "object.__class__") = some true) (hm : PySem.W.mroIn K C (.type "object") = some true) :
    Exc P K mg x f := by
  subst eC eF eK ec
  exact ⟨C, fI, ⟨fd, PySem.W.mg_of X G a1, ⟨nm, q, N, bs, bm, sn, sub, ab, col, dd, k0, k1, k2, k3, k5, lC, vC⟩, ini, al, sf, ve, tp, PySem.W.mg_none_of X G sup, sa, ga, gg, noN, iC, tC, kC, exC, tyC, hdC, top,
    ⟨of, od, doc, pm, an, cda, cc, ct, osl, p1, p2, q1, q2, q3, q4, q5, q6, q7, q8, q9, q10, qn, kc, kd, vs, ks, file, tf, lc, ld, ls, lF, cF, lK, v2, fl, lc0, hl⟩⟩, ⟨ga, gg, exC, hdC, ha, hn, ht, hm⟩⟩
end
end GX

namespace GX
open PySem PySem.Spec PyProof.Rows L2
/-! ## a, *b = a tuple; a, b, c = [], x, y -/
section
variable {prog : Program} {w : World} {A : Around} {E : Value → Shared → Prop} {s : Shared}
theorem unpack_star {t : Addr} {items : Array Value} {n i : Nat} {Q : List Value → Shared → Prop} (ht : IsTup s.heap t items) (hh : A.handled = none) (hi : i < n) (hn : n ≤ items.size + 1) (hz : items.size ≤ 16384)
    (q : ∀ (D : Addr) (h' : Heap) (tk : Nat), s.heap.get? D = none → (∀ b o, s.heap.get? b = some o → h'.get? b = some o) → h'.get? D = some { cls := .type "list", data := .seq ((items.toList.drop i).take (items.size + 1 - n)).toArray } →
      Q (items.toList.take i ++ .ref D :: (items.toList.drop i).drop (items.size + 1 - n)) { s with heap := h', toks := tk }) : wpAny (model prog w) A (unpackItems (.ref t) n (some i)) Q E s := by
  have tn : t ≠ s.heap.objs.size := Nat.ne_of_lt (by obtain ⟨_, e, _⟩ := ht; exact Heap.lt_size e)
  have L0 : (items.toList.take i).length = i := by rw [List.length_take, Array.length_toList]; omega
  have L1 : (items.toList.drop i).length = items.size - i := by rw [List.length_drop, Array.length_toList]
  have L2 : (items.toList.drop i).length - (n - 1 - i) = items.size + 1 - n := by rw [L1]; omega
  unfold unpackItems notIterableAtAll
  refine wpAny_bind (wpAny_bind (wpAny_specialOf ht.typeIs slot_tuple_iter.lookup (wpAny_pure ?_)))
  show wpAny _ _ ((holding [.ref t] (pyIter (.ref t))) >>= _) _ _ _
  refine wpAny_bind (wpAny_holding (iter_tuple ht (wpAny_bind (wpAny_holding (draw_tuple tn i 0 _ _ ⟨_, Heap.get?_push_size _ rfl, rfl, rfl⟩ (ht.push _) (by omega) fun h1 w1 b1 => ?_)))))
  have k1 : ∀ b o, b ≠ s.heap.objs.size → s.heap.get? b = some o → h1.get? b = some o := fun b o hb e => b1.extBut b o hb (Heap.get?_push_of_some _ e)
  have t1 : IsTup h1 t items := (ht.push _).extBut b1.extBut tn
  rw [Nat.zero_add] at w1
  rw [List.drop_zero, if_neg (show ¬ ((items.toList.take i).length < i) by omega)]
  have lt1 : s.heap.objs.size < h1.objs.size := by obtain ⟨_, e, _⟩ := id w1; exact Heap.lt_size e
  have lt2 : t < h1.objs.size := by obtain ⟨_, e, _⟩ := id t1; exact Heap.lt_size e
  refine wpAny_bind (wpAny_holding (PySem.W.kun_collect (s := { s with heap := h1 }) (k := i) (T := "tuple_iterator") (.inr (.inr (.inr rfl))) (Walks.tuple (A := A.in1) hh s.heap.objs.size t tn items) (fun _ _ z => z.1.typeIs) (by omega) ⟨w1, t1⟩ lt1 lt2 (fun h2 tk k2 => ?_) (by rw [sizeLine_eq]; omega)))
  show wpAny _ _ (if (items.toList.drop i).length < n - 1 - i then _ else _) _ _ _
  rw [if_neg (by omega)]
  show wpAny _ _ (newList ((items.toList.drop i).take ((items.toList.drop i).length - (n - 1 - i))) >>= fun d => pure (items.toList.take i ++ [d] ++ (items.toList.drop i).drop ((items.toList.drop i).length - (n - 1 - i)))) _ _ _
  rw [L2]
  refine wpAny_bind (wpAny_newList (wpAny_pure ?_))
  have st : ∀ b o, s.heap.get? b = some o → h2.get? b = some o := fun b o e => k2 b o (Nat.ne_of_lt (Heap.lt_size e)) (k1 b o (Nat.ne_of_lt (Heap.lt_size e)) e)
  have up : s.heap.get? h2.objs.size = none := by
    cases c : s.heap.get? h2.objs.size with
    | none => rfl
    | some o => exact absurd (Heap.lt_size (st _ _ c)) (Nat.lt_irrefl _)
  rw [List.append_assoc]
  exact q h2.objs.size _ tk up (fun b o e => Heap.get?_push_of_some _ (st b o e)) (Heap.get?_push_size _ rfl)
end
section
variable {X : Cx} {pins : List (Addr × Obj)} {σ : L2.St} {H : Hp} {s : Shared} {h' : Heap} {a : Addr} {o : HO} {t' : Nat}
/-- laid at an address that had no object -/
theorem inv_laid0 (I : Inv X pins σ H s) (k : ∀ b u, s.heap.get? b = some u → h'.get? b = some u) (e : s.heap.get? a = none) (nH : H a = none) (new : ObjOk X.prog X.w (upd H a o) h' a o) : Inv X pins σ (upd H a o) { s with heap := h', toks := t' } := by
  have ne : ∀ b u, s.heap.get? b = some u → b ≠ a := fun b u z c => by rw [c, e] at z; cases z
  have nb : ∀ b u, H b = some u → b ≠ a := fun b u z c => by rw [c, nH] at z; cases z
  refine I.un ⟨fun b u z _ _ _ => k b u z, fun b u z _ _ _ => ⟨_, k b u z⟩, fun b u z n _ => ?_, fun b u z _ => ⟨u, k b u z⟩, fun b xs z => ?_, fun b u xs z => ?_, fun b ps z => ⟨#[], ?_⟩⟩ fun b u z => ?_
  · rw [upd_ne (ne b u z)]; exact n
  · rw [upd_ne (nb b _ z)]; exact z
  · rw [upd_ne (nb b _ z)]; exact z
  · rw [upd_ne (nb b _ z), z, Array.append_empty]
  · by_cases c : b = a
    · subst c
      rw [upd_same] at z; cases z
      exact new
    · rw [upd_ne c] at z
      exact (I.hok b u z).stay (fun b' u' _ y => k b' u' y) (fun b' y => by rw [upd_ne (nb b' _ y)]; exact y) fun b' xs y => by rw [upd_ne (nb b' _ y)]; exact y
theorem obj_at {P : Program} {w : World} {h : Heap} (z : ObjOk P w H h a o) : ∃ u, h.get? a = some u := by
  cases o with
  | lst xs => exact let ⟨_, _, _, _, e⟩ := z; ⟨_, e⟩
  | tup xs => exact let ⟨_, _, _, p⟩ := z; let ⟨_, e, _⟩ := p; ⟨_, e⟩
  | dK kvs => exact let ⟨_, _, _, _, _, _, _, e, _⟩ := z; ⟨_, e⟩
  | dT kvs => exact let ⟨_, _, _, _, _, _, _, e, _⟩ := z; ⟨_, e⟩
  | set S n => exact let ⟨_, _, _, _, e, _⟩ := z; ⟨_, e⟩
  | ins C dx fs => exact let ⟨_, _, _, e, _⟩ := z; ⟨_, e⟩
  | own y => exact z
  | xd fs => exact let ⟨_, ⟨_, _, _, e, _⟩, _⟩ := z; ⟨_, e⟩
  | rng lo hi => exact let ⟨_, _, _, e⟩ := z; ⟨_, e⟩
  | frz ob u => exact ⟨_, z.1⟩
  | tbl ps => exact ⟨_, z⟩
  | met f y => exact ⟨_, z⟩
  | ext φ => exact z.2.1
theorem inv_free0 (I : Inv X pins σ H s) (e : s.heap.get? a = none) : H a = none := by
  cases c : H a with
  | none => rfl
  | some o =>
    obtain ⟨u, z⟩ := obj_at (I.hok a o c)
    rw [e] at z; cases z
/-- (a, .., *b, .., c) = a tuple -/
def gStar (K : PySem.W.Frag) (n i : Nat) (t : TGs) : TG := fun v σ H Q => ∃ a xs, v = .ref a ∧ SqT K H a xs ∧ (i < n ∧ n ≤ xs.length + 1 ∧ xs.length ≤ 16384) ∧
  ∀ D, H D = none → t (xs.take i ++ .ref D :: (xs.drop i).drop (xs.length + 1 - n)) σ (upd H D (.lst ((xs.drop i).take (xs.length + 1 - n)))) Q
theorem pg_star {es : List Expr} {k n i : Nat} {pos : Pos} {t : TGs} (hc : X.calm = true) (h : PGs X es t) (hn : (assignEach es X.env).length = n) (hst : (assignEach es X.env).findIdx? (·.1) = some i) : PG X (.Tuple es k pos) (gStar X.K n i t) := by
  refine ⟨fun pins s σ H v u Q I r hw => ?_⟩
  obtain ⟨a, xs, e1, hq, ⟨h1, h2, h3⟩, hw⟩ := hw
  subst e1
  cases r
  obtain ⟨its, rv, ht, _⟩ := I.tuple hq
  have le := rv.length
  rw [assign_Tuple]
  refine wpAny_bind (wpAny_standAt ?_)
  unfold unpack
  rw [hn, hst]
  refine wpAny_bind (wpAny_holding (unpack_star ht (I.ok.hd hc) h1 (by simpa [← le] using h2) (by simpa [← le] using h3) fun D h' tk eD kp gD => ?_))
  have nD := inv_free0 I eD
  have J : Inv X pins σ (upd H D (.lst ((xs.drop i).take (xs.length + 1 - n)))) { s with heap := h', toks := tk } := by
    refine inv_laid0 I kp eD nD ⟨?_, ((its.drop i).take (xs.length + 1 - n)), 0, ?_, ?_⟩
    · rw [List.length_take, sizeLine_eq]; omega
    · exact (rv.drop i).take _
    · rw [gD, le]; rfl
  refine h.run pins _ σ _ _ _ Q J ?_ (hw D nD)
  rw [show (List.toArray its).size = xs.length by simp [← le]]
  refine (rv.take i).append (.cons rfl ?_)
  exact (rv.drop i).drop _
theorem pgs_star {e : Expr} {es : List Expr} {p : Pos} {t : TG} {u : TGs} (h1 : PG X e t) (h2 : PGs X es u) (hs : (assignEach (.Starred e p :: es) X.env).map (·.2) = assign e X.env :: (assignEach es X.env).map (·.2)) : PGs X (.Starred e p :: es) (gCons t u) := by
  refine ⟨fun pins s σ H vs us Q I r ⟨v, l, e1, q⟩ => ?_⟩
  subst e1
  cases r with
  | cons rv rl =>
    rw [hs]
    exact assignInOrder_cons (thn (h1.run pins s σ H _ _ _ I rv q) fun _ s1 ⟨σ1, H1, I1, q1⟩ => h2.run pins s1 σ1 H1 _ _ Q I1 rl q1)
end
section
variable {S : Sx} {W : Nat → Bool} {Γ : List Slot} {e : Expr} {es : List Expr} {Q : List Slot → Prop} {d : Da} {ds : List Da} {p pos : Pos}
theorem egs_star (h : EvG S W Γ e d fun Γ' => EvGs S W Γ' es ds Q) (hs : ∀ env, (assignEach (.Starred e p :: es) env).map (·.2) = assign e env :: (assignEach es env).map (·.2) := by intro _; rfl) : EvGs S W Γ (.Starred e p :: es) (d :: ds) Q := fun PX vs σ H Hf k st r hk => by
  unfold Reps at r
  obtain ⟨v, l, rfl, r1, r2⟩ := r
  exact ⟨_, fun X ok => pgs_star (puG ok) (puGs ok) (hs _), v, l, rfl, h PX v σ H Hf _ st r1 fun Γ1 σ1 Hf1 H1 e1 st1 a1 q1 => q1 PX l σ1 H1 Hf1 k st1 (Reps.mono e1 _ _ r2) fun Γ' σ' Hf' H' e2 s2 a2 => hk Γ' σ' Hf' H' (e1.trans e2) s2 (a1.trans a2)⟩
theorem eg_star (n i : Nat) {kk : Nat} (h : (i < n ∧ n ≤ ds.length + 1 ∧ ds.length ≤ 16384) ∧ EvGs S W Γ es (ds.take i ++ .lst ((ds.drop i).take (ds.length + 1 - n)) :: (ds.drop i).drop (ds.length + 1 - n)) Q)
    (hn : ∀ env, (assignEach es env).length = n := by intro _; rfl) (hst : ∀ env, (assignEach es env).findIdx? (·.1) = some i := by intro _; rfl) (hc : S.calm = true := by rfl) : EvG S W Γ (.Tuple es kk pos) (.tup ds) Q := fun PX v σ H Hf k st r hk => by
  unfold Rep at r
  obtain ⟨a, xs, rfl, r1, r2⟩ := r
  have le := r2.len
  refine ⟨gStar S.K n i (tUGs S es), fun X ok => by have z := pg_star (X := X) (pos := pos) (k := kk) (ok.calm hc) (puGs (es := es) ok) (hn _) (hst _); rw [ok.K] at z; exact z, a, xs, rfl, st.ex.st r1, by rw [le]; exact h.1, fun D nD => ?_⟩
  obtain ⟨s2, e2⟩ := st.alloc (o := .lst ((xs.drop i).take (xs.length + 1 - n))) nD
  have rm := Reps.mono e2 _ _ r2
  refine h.2 PX _ σ _ _ k s2 ?_ fun Γ' σ' Hf' H' e3 => hk Γ' σ' Hf' H' (e2.trans e3)
  rw [← le]
  refine Reps.app (ds := ds.take i) (vs := xs.take i) ?_ (rm.take i)
  exact ⟨.ref D, _, rfl, ⟨D, _, rfl, SqL.of upd_same, (rm.drop i).take _⟩, (rm.drop i).drop _⟩
end
/-! a, b, c = [], y, z; a, b, c = x, y, [] -/
section
variable {S : Sx} {Γ : List Slot} {a b c : Expr} {D : EnG} {spos p : Pos} {x y z : Str} {i j l : Nat} {py pz pt pt2 : Pos} {kt k2 : Nat}
theorem es_parNEE (hN : S.N[i]? = some x) (hM : S.N[j]? = some y) (hL : S.N[l]? = some z) (hij : i ≠ j) (hil : i ≠ l) (hjl : j ≠ l) (hx : S.sc.names.lookup x = some .local) (hy : S.sc.names.lookup y = some .local) (hz : S.sc.names.lookup z = some .local)
    (hw : ∀ env : Env, env.scope = S.sc → swappedStores [.Tuple [.Name x p, .Name y py, .Name z pz] kt pt] (.Tuple [a, b, c] k2 pt2) env = pure (some [x, y, z]))
    (h : EvN S Γ a fun d => EvE S Γ b fun d' => EvE S Γ c fun d'' => ∀ A, A ∉ S.op.map (·.1) → D.nx (((Γ.set i (.inv A fun ys => ys = d)).set j (.dat d')).set l (.dat d'')))
    (he : ∀ env, starEach [a, b, c] env = (false, eval a env) :: starEach [b, c] env := by intro _; rfl) (he2 : ∀ env, starEach [b, c] env = (false, eval b env) :: starEach [c] env := by intro _; rfl) (he3 : ∀ env, starEach [c] env = (false, eval c env) :: starEach [] env := by intro _; rfl)
    (hs : ∀ env, swapsWithSole [.Tuple [.Name x p, .Name y py, .Name z pz] kt pt] (.Tuple [a, b, c] k2 pt2) spos.line env = pure false := by intro _; rfl) (hc : S.calm = true := by rfl) :
    EvS S Γ (.Assign [.Tuple [.Name x p, .Name y py, .Name z pz] kt pt] (.Tuple [a, b, c] k2 pt2) spos) D :=
  es_of (fun X ok => ps_par3 (ok.calm hc) (by rw [ok.N]; exact ok.nd) (by rw [ok.N]; exact hN) (by rw [ok.N]; exact hM) (by rw [ok.N]; exact hL) hij hil hjl (by rw [ok.sc]; exact hx) (by rw [ok.sc]; exact hy) (by rw [ok.sc]; exact hz)
    (pa_cons (pu ok) (pa_cons (pu ok) (pa_cons (pu ok) pa_nil (he3 _)) (he2 _)) (he _)) (hw _ ok.sc) (hs _)) fun PX σ H Hf D' s k => h PX σ H Hf _ s fun A ds vs Hf1 H1 e1 hP h0 hop s1 r q => q _ σ H1 Hf1 _ s1 fun d' v' Hf2 H2 e2 s2 r2 q2 => q2 _ σ H2 Hf2 _ s2 fun d'' v'' Hf3 H3 e3 s3 r3 q3 => by
      have s4 := (s3.set (Rep.mono e3 _ _ r2) j).set r3 l
      have s5 := s4.setO (I := fun ys => ys = ds) hP h0 (Reps.mono (e2.trans e3) _ _ r) rfl i
      refine ⟨.ref A, v', v'', rfl, k.nx _ _ Hf3 H3 ((e1.trans e2).trans e3) ?_ (q3 A hop)⟩
      rw [List.set_comm (i := i) (j := j) _ _ hij, List.set_comm (i := i) (j := l) _ _ hil, List.set_comm (i := i) (j := j) _ _ hij, List.set_comm (i := i) (j := l) _ _ hil]; exact s5
theorem es_parEEN (hN : S.N[i]? = some x) (hM : S.N[j]? = some y) (hL : S.N[l]? = some z) (hij : i ≠ j) (hil : i ≠ l) (hjl : j ≠ l) (hx : S.sc.names.lookup x = some .local) (hy : S.sc.names.lookup y = some .local) (hz : S.sc.names.lookup z = some .local)
    (hw : ∀ env : Env, env.scope = S.sc → swappedStores [.Tuple [.Name x p, .Name y py, .Name z pz] kt pt] (.Tuple [a, b, c] k2 pt2) env = pure (some [x, y, z]))
    (h : EvE S Γ a fun d => EvE S Γ b fun d' => EvN S Γ c fun d'' => ∀ A, A ∉ S.op.map (·.1) → D.nx (((Γ.set i (.dat d)).set j (.dat d')).set l (.inv A fun ys => ys = d'')))
    (he : ∀ env, starEach [a, b, c] env = (false, eval a env) :: starEach [b, c] env := by intro _; rfl) (he2 : ∀ env, starEach [b, c] env = (false, eval b env) :: starEach [c] env := by intro _; rfl) (he3 : ∀ env, starEach [c] env = (false, eval c env) :: starEach [] env := by intro _; rfl)
    (hs : ∀ env, swapsWithSole [.Tuple [.Name x p, .Name y py, .Name z pz] kt pt] (.Tuple [a, b, c] k2 pt2) spos.line env = pure false := by intro _; rfl) (hc : S.calm = true := by rfl) :
    EvS S Γ (.Assign [.Tuple [.Name x p, .Name y py, .Name z pz] kt pt] (.Tuple [a, b, c] k2 pt2) spos) D :=
  es_of (fun X ok => ps_par3 (ok.calm hc) (by rw [ok.N]; exact ok.nd) (by rw [ok.N]; exact hN) (by rw [ok.N]; exact hM) (by rw [ok.N]; exact hL) hij hil hjl (by rw [ok.sc]; exact hx) (by rw [ok.sc]; exact hy) (by rw [ok.sc]; exact hz)
    (pa_cons (pu ok) (pa_cons (pu ok) (pa_cons (pu ok) pa_nil (he3 _)) (he2 _)) (he _)) (hw _ ok.sc) (hs _)) fun PX σ H Hf D' s k => h PX σ H Hf _ s fun d v Hf1 H1 e1 s1 r q => q PX σ H1 Hf1 _ s1 fun d' v' Hf2 H2 e2 s2 r2 q2 => q2 _ σ H2 Hf2 _ s2 fun A ds vs Hf3 H3 e3 hP h0 hop s3 r3 q3 => by
      have s4 := (s3.set (Rep.mono (e2.trans e3) _ _ r) i).set (Rep.mono e3 _ _ r2) j
      exact ⟨v, v', .ref A, rfl, k.nx _ _ Hf3 H3 ((e1.trans e2).trans e3) (s4.setO (I := fun ys => ys = ds) hP h0 r3 rfl l) (q3 A hop)⟩
end
end GX

namespace GX
open PySem PySem.Spec PyProof.Rows L2
section
variable {S : Sx} {Γ : List Slot} {a b : Expr} {QN : List Da → Prop} {pos : Pos}
/-- a + b, a fresh list of the def's own -/
theorem en_add (h : EvE S Γ a fun d => EvE S Γ b fun d' => ∃ xs ys, d = .lst xs ∧ d' = .lst ys ∧ xs.length + ys.length ≤ 100000 ∧ QN (xs ++ ys)) : EvN S Γ (.BinOp a .Add b pos) QN :=
  en_of (t := tOp (rCatS S.K) (tU S a) (tU S b)) (fun X ok => by
    have z := pe_op (pos := pos) (op_catS (X := X)) (pu (e := a) ok) (pu (e := b) ok)
    rw [ok.K] at z; exact z) fun PX σ H Hf k st hk => h PX σ H Hf _ st fun d v Hf1 H1 e1 st1 r q => q PX σ H1 Hf1 _ st1 fun d' v' Hf2 H2 e2 st2 r' q2 => by
    obtain ⟨xs, ys, rfl, rfl, hl, q2⟩ := q2
    obtain ⟨l, vs, rfl, s1, r1⟩ := (Rep.mono e2 _ _ r).lst_
    obtain ⟨m, ws, rfl, s2, r2⟩ := r'.lst_
    exact ⟨l, m, vs, ws, rfl, rfl, st2.ex.sl s1, st2.ex.sl s2, by rw [r1.len, r2.len]; exact Nat.le_trans hl (by decide), fun p hp => hk p (xs ++ ys) (vs ++ ws) Hf2 _ (e1.trans e2) (st2.px.free hp) (st2.fresh0 hp) (st2.opn hp) (st2.frame hp) (Reps.app r2 r1) q2⟩
end
end GX

namespace GX
open PySem PySem.Spec PyProof.Rows L2
/-! ## x.count(y), x.index(y), x a list of data; isinstance(e, a built-in class) of the caught exception -/
section
variable {X : Cx}
def rCntF (K : PySem.W.Frag) : V → List V → Hp → VK → Prop := fun x xs H Q => ∃ (p : Addr) (ys : List V) (y : V), x = .ref p ∧ xs = [y] ∧ SqL K H p ys ∧ flatV y = true ∧ ys.all flatV = true ∧ Q (.int ((ys.countP fun z => eqV z y : Nat) : Int)) H
theorem cnt_flat {y : V} : ∀ {ys : List V} {us : List Value}, Vals ys us → ys.all flatV = true → us.countP (eqU y) = ys.countP fun z => eqV z y
  | _, _, .nil, _ => rfl
  | z :: ys, u :: us, .cons r t, f => by
    rw [List.all_cons, Bool.and_eq_true] at f
    rw [List.countP_cons, List.countP_cons, cnt_flat t f.2, eqU_of r f.1]
theorem mt_cntF : MtR X "list.count" (rCntF X.K) := by
  intro pins s σ H x xs v us Q I rx rxs ⟨p, ys, y, e1, e2, hs, fy, fys, q⟩
  subst e1 e2
  cases rx
  cases rxs with
  | @cons _ uy _ _ ry rt =>
    cases rt
    obtain ⟨its, rv, ⟨⟨cls, dd, data, sl⟩, n, ho, hc, hdn, hd⟩, _⟩ := I.list hs
    simp only at hc hd
    subst hc hd
    refine call_meets PySem.F.slot_list_count ⟨_, ho, rfl⟩ PySem.F.entry_list_count (PySem.F.args_list_count_2 _ _) (SeqAt.list_countAt p its.toArray n dd sl uy (eqU y)) ⟨ho, fun u hu => mem_eqAt ry fy rv fys u (by simpa using hu), ?_⟩
    refine ⟨.int ((ys.countP fun z => eqV z y : Nat) : Int), H, I.tok _, ⟨s.toks, ?_⟩, q⟩
    rw [show its.toArray.toList = its from rfl, cnt_flat rv fys]
end
section
variable {S : Sx} {Γ : List Slot} {o e : Expr} {Q : Da → Prop} {apos cpos : Pos}
theorem Reps.cnt {K : PySem.W.Frag} {H : Hp} {d : Da} {v : V} (r0 : Rep K H d v) (h0 : d.flat = true) : ∀ {ds : List Da} {vs : List V}, Reps K H ds vs → ds.all Da.flat = true → (vs.countP fun z => eqV z v) = ds.countP fun z => GX.eqF z d
  | [], _, r, _ => by unfold Reps at r; subst r; rfl
  | y :: ds, _, r, h => by
    obtain ⟨u, l, rfl, r1, r2⟩ := r
    rw [List.all_cons, Bool.and_eq_true] at h
    rw [List.countP_cons, List.countP_cons, Reps.cnt r0 h0 r2 h.2, Rep.eqF r1 r0 h.1 h0]
/-- x.count(y) -/
theorem ev_count (h : EvE S Γ o fun d => asLst d fun xs => EvE S Γ e fun y => y.flat = true ∧ xs.all Da.flat = true ∧ Q (.int ((xs.countP fun z => eqF z y : Nat) : Int))) (hbase : ∀ env : Env, attributeBase o "count" env (eval o env) = eval o env := by intro _; rfl)
    (hfew : ∀ env, ((backTo cpos (starEach [e] env)).all (fun x => !x.1) && (backToKw cpos (keywordEach [] env)).all (fun x => x.1.isSome) && decide ([e].length + ([] : List Keyword).length + (if ([] : List Keyword).isEmpty then 0 else 1) < 30)) = true := by intro _; rfl)
    (hline : (apos.endLine == cpos.line) = true := by rfl) (hs : ∀ env, starEach [e] env = (false, eval e env) :: starEach [] env := by intro _; rfl) (hpl : ∀ env, (backTo cpos (starEach [] env)).any (·.1) = false := by intro _; rfl) :
    EvE S Γ (.Call (.Attribute o "count" apos) [e] [] cpos) Q := by
  refine ev_of (t := tBM S.K "list" (rCntF S.K) (tU S o) (tCons (tU S e) tNil)) (fun X ok => ?_) fun PX σ H Hf k st hk => ?_
  · have z := pe_bm (X := X) (cpos := cpos) (apos := apos) PySem.F.plainAttrs_list PySem.F.slot_list_count (by first | rfl | decide +kernel | kernel_rfl) mt_cntF (pu (e := o) ok) (pa_cons (pu (e := e) ok) pa_nil (hs _)) (hbase _) (hfew _) hline (hs _) (hpl _)
    rw [ok.K] at z; exact z
  refine h PX σ H Hf _ st fun d v Hf1 H1 e1 st1 r q0 => ?_
  obtain ⟨xs, rfl, q⟩ := asLst_ q0
  obtain ⟨l, vs, rfl, s1, r1⟩ := r.lst_
  refine ⟨.inl ⟨rfl, vs, st1.ex.sl s1⟩, ?_⟩
  refine q PX σ H1 Hf1 _ st1 fun y w Hf2 H2 e2 st2 r2 ⟨fy, fys, q2⟩ => ?_
  have rr := Reps.mono e2 _ _ r1
  refine ⟨l, vs, w, rfl, rfl, st2.ex.sl (e2.sl s1), r2.flat fy, (Reps.flat r2 fy rr fys).1, ?_⟩
  rw [Reps.cnt r2 fy rr fys]
  exact hk (.int ((xs.countP fun z => eqF z y : Nat) : Int)) _ Hf2 H2 (e1.trans e2) st2 rfl q2
/-- x.index(y), at the place j -/
theorem ev_index (h : EvE S Γ o fun d => asLst d fun xs => EvE S Γ e fun y => y.flat = true ∧ xs.all Da.flat = true ∧ ∃ j : Nat, (∃ d, xs[j]? = some d ∧ eqF d y = true) ∧ (∀ (m : Nat) d', m < j → xs[m]? = some d' → eqF d' y = false) ∧ Q (.int (j : Nat))) (hbase : ∀ env : Env, attributeBase o "index" env (eval o env) = eval o env := by intro _; rfl)
    (hfew : ∀ env, ((backTo cpos (starEach [e] env)).all (fun x => !x.1) && (backToKw cpos (keywordEach [] env)).all (fun x => x.1.isSome) && decide ([e].length + ([] : List Keyword).length + (if ([] : List Keyword).isEmpty then 0 else 1) < 30)) = true := by intro _; rfl)
    (hline : (apos.endLine == cpos.line) = true := by rfl) (hs : ∀ env, starEach [e] env = (false, eval e env) :: starEach [] env := by intro _; rfl) (hpl : ∀ env, (backTo cpos (starEach [] env)).any (·.1) = false := by intro _; rfl) :
    EvE S Γ (.Call (.Attribute o "index" apos) [e] [] cpos) Q := by
  refine ev_of (t := tBM S.K "list" (rIndex S.K) (tU S o) (tCons (tU S e) tNil)) (fun X ok => ?_) fun PX σ H Hf k st hk => ?_
  · have z := pe_bm (X := X) (cpos := cpos) (apos := apos) PySem.F.plainAttrs_list PySem.F.slot_list_index (by first | rfl | decide +kernel | kernel_rfl) mt_index (pu (e := o) ok) (pa_cons (pu (e := e) ok) pa_nil (hs _)) (hbase _) (hfew _) hline (hs _) (hpl _)
    rw [ok.K] at z; exact z
  refine h PX σ H Hf _ st fun d v Hf1 H1 e1 st1 r q0 => ?_
  obtain ⟨xs, rfl, q⟩ := asLst_ q0
  obtain ⟨l, vs, rfl, s1, r1⟩ := r.lst_
  refine ⟨.inl ⟨rfl, vs, st1.ex.sl s1⟩, ?_⟩
  refine q PX σ H1 Hf1 _ st1 fun y w Hf2 H2 e2 st2 r2 ⟨fy, fys, j, ⟨d, h1, h2⟩, h3, q2⟩ => ?_
  have rr := Reps.mono e2 _ _ r1
  obtain ⟨z, g1, g2⟩ := rr.get h1
  refine ⟨l, vs, w, j, z, rfl, rfl, st2.ex.sl (e2.sl s1), r2.flat fy, (Reps.flat r2 fy rr fys).1, g1, ?_, fun m z' hm hz => ?_, hk (.int (j : Nat)) _ Hf2 H2 (e1.trans e2) st2 rfl q2⟩
  · rw [Rep.eqF g2 r2 (List.all_eq_true.mp fys d (List.mem_of_getElem? h1)) fy]; exact h2
  · have hml : m < xs.length := by rw [← rr.len]; exact (List.getElem?_eq_some_iff.mp hz).1
    obtain ⟨z2, g3, g4⟩ := rr.get (List.getElem?_eq_getElem hml)
    rw [hz] at g3
    cases g3
    rw [Rep.eqF g4 r2 (List.all_eq_true.mp fys _ (List.getElem_mem hml)) fy]
    exact h3 m _ hm (List.getElem?_eq_getElem hml)
end
theorem bt_ValueError : bootBuiltins "ValueError" = some (.type "ValueError") := by decide +kernel
/-- of a class of the module and a built-in one -/
structure IsB (K : PySem.W.Frag) (mg : Str → Option Value) (y : Str) (n : String) (b : Bool) : Prop where
  k : PySem.W.kitOne K (clsOf mg y) (.type n) = some b
theorem isB_of {K : PySem.W.Frag} {h : Heap} {mg : Str → Option Value} {y : Str} {D : Addr} {n : String} {b : Bool} (X : K.In h) (G : h.Ns mainGlobals mg) (ay : PySem.W.nsIn K mainGlobals y = some (some (.ref D))) (k : PySem.W.kitOne K (.ref D) (.type n) = some b) : IsB K mg y n b := by
  have ey : clsOf mg y = .ref D := by unfold clsOf; rw [PySem.W.mg_of X G ay]; rfl
  exact ⟨by rw [ey]; exact k⟩
section
variable {S : Sx} {Γ : List Slot} {Q : Da → Prop} {p p2 p3 pos : Pos} {x y f n : Str} {i : Nat} {ad : Addr} {fs : List (Str × Da)} {b : Bool}
theorem ev_isEB {dd : Addr} {tn : String} (T : Exc S.P S.K S.mg y f) (B : IsB S.K S.mg y tn b) (hN : S.N[i]? = some n) (hv : Vis S.sc n) (hΓ : Γ[i]? = some (.rf ad)) (hx : S.xc = some (ad, clsOf S.mg y, some dd, some fs)) (hg : GlS S "isinstance") (hm : S.mg "isinstance" = none) (hgx : GlS S x)
    (hmx : S.mg x = none) (hbx : bootBuiltins x = some (.type tn)) (q : Q (.bl b)) (hnx : x ≠ "__name__" := by decide)
    (hdb : (x == ("__debug__" : Str)) = false := by decide) (hdn : (n == ("__debug__" : Str)) = false := by decide) (hcd : (n == ("__classdict__" : Str)) = false := by decide) :
    EvE S Γ (.Call (.Name "isinstance" p) [.Name n p2, .Name x p3] [] pos) Q := by
  obtain ⟨D, fI, T, EC⟩ := T
  have hk := B.k
  rw [T.c] at hk hx
  refine ev_of (t := fun σ H Q => σ[i]? = some (some (.ref ad)) ∧ Sub S.F0 H ∧ Q (.bl b) H) (fun X ok => ⟨fun pins s σ H Q I hyp => ?_⟩) fun PX σ H Hf k st hkk => ?_
  · obtain ⟨X0, oe, pn, eX, hz, hf, xr⟩ := ok.xc _ _ _ _ hx
    subst eX
    obtain ⟨h1, h2, h3⟩ := hyp
    obtain ⟨gs, x1, _⟩ := xr
    have cr := call_isD (X := X0) (dd := dd) (pn := pn) (a := ad) (by rw [show X0.K = S.K from ok.K]; exact EC) hz hf
    have z := pe_callB (X := X0.suite ad ((ad, oe) :: pn)) (p := p) (pos := pos) cr (hg.gl ok) (by rw [ok.mg]; exact hm) bt_isinstance (pa_cons (pe_var (i := i) (pos := p2) (by rw [ok.N]; exact hN) (by rw [ok.sc]; exact hv) hdn hcd) (pa_cons (pe_bltn (v := .ty tn) (pos := p3) (hgx.gl ok) (by rw [ok.mg]; exact hmx) hbx rfl hnx hdb) pa_nil))
    refine z.run pins s σ H Q I ⟨.ref ad, h1, ⟨⟨.ty tn, .type tn, b, rfl, fun u hu => hu, ?_, h3⟩, gs, h2 _ _ x1⟩⟩
    rw [show X0.K = S.K from ok.K]
    exact hk
  · exact ⟨slot_rf st hΓ, st.ex0.trans st.ex, hkk (.bl b) _ Hf H (Sub.refl _) st rfl q⟩
end
end GX

namespace GX
open PySem PySem.Spec PyProof.Rows L2
/-! ## a, b = a list -/
section
variable {X : Cx}
def gTupL (K : PySem.W.Frag) (n : Nat) (t : TGs) : TG := fun v σ H Q => ∃ a xs, v = .ref a ∧ SqL K H a xs ∧ xs.length = n ∧ t xs σ H Q
theorem pg_tupL {es : List Expr} {k n : Nat} {pos : Pos} {t : TGs} (hc : X.calm = true) (h : PGs X es t) (hn : (assignEach es X.env).length = n) (hst : (assignEach es X.env).findIdx? (·.1) = none) : PG X (.Tuple es k pos) (gTupL X.K n t) := by
  refine ⟨fun pins s σ H v u Q I r hw => ?_⟩
  obtain ⟨a, xs, e1, hq, hl, hw⟩ := hw
  subst e1
  cases r
  obtain ⟨its, rv, pl, _⟩ := I.list hq
  have z := PySem.W.kun_itemsOf (prog := X.prog) (w := X.w) (A := X.A) (E := X.xe) (Q := fun vs s' => wpAny (model X.prog X.w) X.A (assignInOrder ((assignEach es X.env).map (·.2)) vs) (fun _ s' => ∃ σ' H', Inv X pins σ' H' s' ∧ Q σ' H') X.xe s') (I.ok.hd hc) pl.isList fun h' hx => by
    have J : Inv X pins σ H { s with heap := h' } := I.kept (t' := s.toks) fun b o e => hx b o (Nat.ne_of_lt (Heap.lt_size e)) e
    exact h.run pins _ σ H xs _ Q J (by simpa using rv) hw
  rw [assign_Tuple]
  refine wpAny_bind (wpAny_standAt ?_)
  unfold unpack
  rw [hn, hst, ← hl, rv.length]
  exact wpAny_bind (wpAny_holding (by simpa using z))
end
section
variable {S : Sx} {W : Nat → Bool} {Γ : List Slot} {es : List Expr} {Q : List Slot → Prop} {ds : List Da} {pos : Pos}
theorem eg_tupL {kk : Nat} (h : EvGs S W Γ es ds Q) (hn : ∀ env, (assignEach es env).length = ds.length := by intro _; rfl) (hst : ∀ env, (assignEach es env).findIdx? (·.1) = none := by intro _; rfl) (hc : S.calm = true := by rfl) : EvG S W Γ (.Tuple es kk pos) (.lst ds) Q := fun PX v σ H Hf k st r hk => by
  obtain ⟨a, xs, rfl, r1, r2⟩ := r.lst_
  exact ⟨gTupL S.K ds.length (tUGs S es), fun X ok => by have z := pg_tupL (X := X) (pos := pos) (k := kk) (ok.calm hc) (puGs (es := es) ok) (hn _) (hst _); rw [ok.K] at z; exact z, a, xs, rfl, st.ex.sl r1, r2.len, h PX xs σ H Hf k st r2 hk⟩
end
end GX

namespace GX
open PySem PySem.Spec PyProof.Rows L2
/-! ## what shows is a text that can be compared -/
abbrev lowT (x : Str) : Prop := ∀ k ∈ x.cps.toList, k < 0x110000
theorem low_ok {x : Str} (h : lowT x) : PyData.strOk x = true := by
  unfold PyData.strOk
  rw [← Array.all_toList]
  exact List.all_eq_true.mpr fun k hk => decide_eq_true (h k hk)
mutual
def Da.txO : Da → Bool
  | .str x => (reprText x).cps.toList.all fun k => decide (k < 0x110000)
  | .lst xs => Da.txOs xs
  | .tup xs => Da.txOs xs
  | .non => true
  | .bl _ => true
  | .int _ => true
  | _ => false
def Da.txOs : List Da → Bool
  | [] => true
  | x :: xs => x.txO && Da.txOs xs
end
theorem low_join {ts : List Str} (h : ∀ t ∈ ts, lowT t) : lowT (Str.join ", " ts) := fun k hk => by
  rw [mem_join] at hk
  rcases hk with ⟨t, ht, hc⟩ | ⟨_, hc⟩
  · exact h t ht k hc
  · rw [signs_sep] at hc
    simp only [List.mem_cons, List.not_mem_nil, or_false] at hc
    omega
theorem low_app {a b : Str} (ha : lowT a) (hb : lowT b) : lowT (a ++ b) := fun k hk => by
  rcases mem_cps_append.mp hk with h | h
  · exact ha k h
  · exact hb k h
theorem low_t1 : lowT (("(" : String) : Str) := by decide
theorem low_t2 : lowT (((",)" : String)) : Str) := by decide
theorem low_t3 : lowT ((")" : String) : Str) := by decide
theorem low_l1 : lowT (("[" : String) : Str) := by decide
theorem low_l2 : lowT (("]" : String) : Str) := by decide
mutual
theorem low_shown : ∀ d : Da, d.txO = true → lowT d.py.shown
  | .non, _ => by unfold Da.py; rw [PyData.shown_none]; decide
  | .bl b, _ => by unfold Da.py; rw [PyData.shown_bool]; cases b <;> decide
  | .int i, _ => fun k hk => by
    unfold Da.py at hk
    rcases Nat.lt_or_ge k 0x110000 with c | c
    · exact c
    · exact absurd hk (shown_int_free' ⟨by omega, .inr (by omega)⟩ i)
  | .str x, h => fun k hk => by
    unfold Da.txO at h
    unfold Da.py at hk
    rw [PyData.shown_str] at hk
    exact of_decide_eq_true (List.all_eq_true.mp h k hk)
  | .lst xs, h => by
    unfold Da.txO at h
    unfold Da.py
    rw [PyData.shown_list]
    exact low_app (low_app low_l1 (low_join (low_showns xs h))) low_l2
  | .tup xs, h => by
    unfold Da.txO at h
    unfold Da.py
    rw [PyData.shown_tuple]
    refine low_app (low_app low_t1 (low_join (low_showns xs h))) ?_
    split
    · exact low_t2
    · exact low_t3
  | .dct _, h => by unfold Da.txO at h; cases h
  | .ins _ _, h => by unfold Da.txO at h; cases h
  | .lm _, h => by unfold Da.txO at h; cases h
  | .clo _ _, h => by unfold Da.txO at h; cases h
  | .ty _, h => by unfold Da.txO at h; cases h
theorem low_showns : ∀ ds : List Da, Da.txOs ds = true → ∀ t ∈ PyData.shownAll (Da.pys ds), lowT t
  | [], _, t, ht => by unfold Da.pys at ht; rw [PyData.shownAll_nil] at ht; cases ht
  | d :: ds, h, t, ht => by
    unfold Da.txOs at h
    rw [Bool.and_eq_true] at h
    unfold Da.pys at ht
    rw [PyData.shownAll_cons] at ht
    rcases List.mem_cons.mp ht with e | ht
    · rw [e]; exact low_shown d h.1
    · exact low_showns ds h.2 t ht
end
theorem shown_ok {d : Da} (h : d.txO = true) : PyData.strOk d.py.shown = true := low_ok (low_shown d h)
end GX

namespace GX
open PySem PySem.Spec PyProof.Rows L2
/-! ## more arguments -/
@[reducible] def as5 (ds : List Da) (k : Da → Da → Da → Da → Da → Prop) : Prop := match ds with | [d0, d1, d2, d3, d4] => k d0 d1 d2 d3 d4 | _ => False
theorem as5_ {ds : List Da} {k : Da → Da → Da → Da → Da → Prop} (h : as5 ds k) : ∃ d0 d1 d2 d3 d4, ds = [d0, d1, d2, d3, d4] ∧ k d0 d1 d2 d3 d4 := by
  match ds, h with
  | [d0, d1, d2, d3, d4], h => exact ⟨d0, d1, d2, d3, d4, rfl, h⟩
theorem as5_len {ds : List Da} {k : Da → Da → Da → Da → Da → Prop} (h : as5 ds k) : ds.length = 5 := by obtain ⟨_, _, _, _, _, rfl, _⟩ := as5_ h; rfl
@[reducible] def as6 (ds : List Da) (k : Da → Da → Da → Da → Da → Da → Prop) : Prop := match ds with | [d0, d1, d2, d3, d4, d5] => k d0 d1 d2 d3 d4 d5 | _ => False
theorem as6_ {ds : List Da} {k : Da → Da → Da → Da → Da → Da → Prop} (h : as6 ds k) : ∃ d0 d1 d2 d3 d4 d5, ds = [d0, d1, d2, d3, d4, d5] ∧ k d0 d1 d2 d3 d4 d5 := by
  match ds, h with
  | [d0, d1, d2, d3, d4, d5], h => exact ⟨d0, d1, d2, d3, d4, d5, rfl, h⟩
theorem as6_len {ds : List Da} {k : Da → Da → Da → Da → Da → Da → Prop} (h : as6 ds k) : ds.length = 6 := by obtain ⟨_, _, _, _, _, _, rfl, _⟩ := as6_ h; rfl
@[reducible] def as7 (ds : List Da) (k : Da → Da → Da → Da → Da → Da → Da → Prop) : Prop := match ds with | [d0, d1, d2, d3, d4, d5, d6] => k d0 d1 d2 d3 d4 d5 d6 | _ => False
theorem as7_ {ds : List Da} {k : Da → Da → Da → Da → Da → Da → Da → Prop} (h : as7 ds k) : ∃ d0 d1 d2 d3 d4 d5 d6, ds = [d0, d1, d2, d3, d4, d5, d6] ∧ k d0 d1 d2 d3 d4 d5 d6 := by
  match ds, h with
  | [d0, d1, d2, d3, d4, d5, d6], h => exact ⟨d0, d1, d2, d3, d4, d5, d6, rfl, h⟩
theorem as7_len {ds : List Da} {k : Da → Da → Da → Da → Da → Da → Da → Prop} (h : as7 ds k) : ds.length = 7 := by obtain ⟨_, _, _, _, _, _, _, rfl, _⟩ := as7_ h; rfl
@[reducible] def as8 (ds : List Da) (k : Da → Da → Da → Da → Da → Da → Da → Da → Prop) : Prop := match ds with | [d0, d1, d2, d3, d4, d5, d6, d7] => k d0 d1 d2 d3 d4 d5 d6 d7 | _ => False
theorem as8_ {ds : List Da} {k : Da → Da → Da → Da → Da → Da → Da → Da → Prop} (h : as8 ds k) : ∃ d0 d1 d2 d3 d4 d5 d6 d7, ds = [d0, d1, d2, d3, d4, d5, d6, d7] ∧ k d0 d1 d2 d3 d4 d5 d6 d7 := by
  match ds, h with
  | [d0, d1, d2, d3, d4, d5, d6, d7], h => exact ⟨d0, d1, d2, d3, d4, d5, d6, d7, rfl, h⟩
theorem as8_len {ds : List Da} {k : Da → Da → Da → Da → Da → Da → Da → Da → Prop} (h : as8 ds k) : ds.length = 8 := by obtain ⟨_, _, _, _, _, _, _, _, rfl, _⟩ := as8_ h; rfl
end GX

namespace GX
open PySem PySem.Spec PyProof.Rows L2
/-! ## lists and dicts of the def's own: compared, added to, popped, looked up; join -/
section
variable {S : Sx} {Γ : List Slot} {a b c e : Expr} {Q : Da → Prop} {QC : Da → List Slot → Prop} {QN : List Da → Prop} {p pos p2 apos cpos : Pos} {x : Str} {i : Nat} {A : Addr} {I I' : List Da → Prop}
theorem Stt.ownR {PX Hf H : Hp} {σ : L2.St} (st : Stt S PX Γ Hf H σ) (hΓ : Γ[i]? = some (.inv A I)) : ∃ ds, I ds ∧ Rep S.K H (.lst ds) (.ref A) := by
  obtain ⟨_, _, vs, ds, hA, rr, hI⟩ := st.own hΓ
  exact ⟨ds, hI, A, vs, rfl, SqL.of hA, Reps.mono st.ex _ _ rr⟩
/-- x == e, x a list of the def's own -/
theorem ev_eqO (hN : S.N[i]? = some x) (hv : Vis S.sc x) (hΓ : Γ[i]? = some (.inv A I)) (h : EvE S Γ b fun d => EqOk d ∧ ∀ ds, I ds → EqOk (.lst ds) ∧ Q (.bl (PyData.eqv (Da.lst ds).py d.py)))
    (hd : (x == ("__debug__" : Str)) = false := by decide) (hcd : (x == ("__classdict__" : Str)) = false := by decide) (hm : behindInMarks .Eq b = false := by first | exact nomark _ | rfl) : EvE S Γ (.Compare (.Name x p) [.Eq] [b] pos) Q :=
  ev_of (t := tOp (rEqD S.K) (tVar i) (tU S b)) (fun X ok => by
    have z := pe_cmpR (pos := pos) (op_eqD (X := X) ok.units) (pe_var (pos := p) (i := i) (by rw [ok.N]; exact hN) (by rw [ok.sc]; exact hv) hd hcd) (pu (e := b) ok) hm
    rw [ok.K] at z; exact z) fun PX σ H Hf k st hk => by
    refine ⟨.ref A, slot_of st hΓ, ?_⟩
    refine h PX σ H Hf _ st fun d v Hf1 H1 e1 st1 r ⟨q1, q2⟩ => ?_
    obtain ⟨ds, hI, ro⟩ := st1.ownR hΓ
    obtain ⟨q3, q4⟩ := q2 ds hI
    exact ⟨_, _, Rep.dp _ _ q3.p ro, Rep.dp _ _ q1.p (Rep.mono st1.ex _ _ r), q3.s, q1.s, hk (.bl _) _ Hf1 H1 e1 st1 rfl q4⟩
theorem ev_neO (hN : S.N[i]? = some x) (hv : Vis S.sc x) (hΓ : Γ[i]? = some (.inv A I)) (h : EvE S Γ b fun d => EqOk d ∧ ∀ ds, I ds → EqOk (.lst ds) ∧ Q (.bl (!PyData.eqv (Da.lst ds).py d.py)))
    (hd : (x == ("__debug__" : Str)) = false := by decide) (hcd : (x == ("__classdict__" : Str)) = false := by decide) (hm : behindInMarks .NotEq b = false := by first | exact nomark _ | rfl) : EvE S Γ (.Compare (.Name x p) [.NotEq] [b] pos) Q :=
  ev_of (t := tOp (rNeD S.K) (tVar i) (tU S b)) (fun X ok => by
    have z := pe_cmpR (pos := pos) (op_neD (X := X) ok.units) (pe_var (pos := p) (i := i) (by rw [ok.N]; exact hN) (by rw [ok.sc]; exact hv) hd hcd) (pu (e := b) ok) hm
    rw [ok.K] at z; exact z) fun PX σ H Hf k st hk => by
    refine ⟨.ref A, slot_of st hΓ, ?_⟩
    refine h PX σ H Hf _ st fun d v Hf1 H1 e1 st1 r ⟨q1, q2⟩ => ?_
    obtain ⟨ds, hI, ro⟩ := st1.ownR hΓ
    obtain ⟨q3, q4⟩ := q2 ds hI
    exact ⟨_, _, Rep.dp _ _ q3.p ro, Rep.dp _ _ q1.p (Rep.mono st1.ex _ _ r), q3.s, q1.s, hk (.bl _) _ Hf1 H1 e1 st1 rfl q4⟩
theorem et_eqO {QT : Bool → Prop} (hN : S.N[i]? = some x) (hv : Vis S.sc x) (hΓ : Γ[i]? = some (.inv A I)) (h : EvE S Γ b fun d => EqOk d ∧ ∀ ds, I ds → EqOk (.lst ds) ∧ QT (PyData.eqv (Da.lst ds).py d.py))
    (hd : (x == ("__debug__" : Str)) = false := by decide) (hcd : (x == ("__classdict__" : Str)) = false := by decide) (hm : behindInMarks .Eq b = false := by first | exact nomark _ | rfl) : EvT S Γ (.Compare (.Name x p) [.Eq] [b] pos) QT := fun PX σ H Hf k st hk => by
  refine ⟨_, fun X ok => by
    have z := pt_cmpR (pos := pos) (op_eqD (X := X) ok.units) (pe_var (pos := p) (i := i) (by rw [ok.N]; exact hN) (by rw [ok.sc]; exact hv) hd hcd) (pu (e := b) ok) hm
    rw [ok.K] at z; exact z, ?_⟩
  refine ⟨.ref A, slot_of st hΓ, ?_⟩
  refine h PX σ H Hf _ st fun d v Hf1 H1 e1 st1 r ⟨q1, q2⟩ => ?_
  obtain ⟨ds, hI, ro⟩ := st1.ownR hΓ
  obtain ⟨q3, q4⟩ := q2 ds hI
  exact ⟨_, _, Rep.dp _ _ q3.p ro, Rep.dp _ _ q1.p (Rep.mono st1.ex _ _ r), q3.s, q1.s, _, rfl, hk _ Hf1 H1 e1 st1 q4⟩
theorem et_neO {QT : Bool → Prop} (hN : S.N[i]? = some x) (hv : Vis S.sc x) (hΓ : Γ[i]? = some (.inv A I)) (h : EvE S Γ b fun d => EqOk d ∧ ∀ ds, I ds → EqOk (.lst ds) ∧ QT (!PyData.eqv (Da.lst ds).py d.py))
    (hd : (x == ("__debug__" : Str)) = false := by decide) (hcd : (x == ("__classdict__" : Str)) = false := by decide) (hm : behindInMarks .NotEq b = false := by first | exact nomark _ | rfl) : EvT S Γ (.Compare (.Name x p) [.NotEq] [b] pos) QT := fun PX σ H Hf k st hk => by
  refine ⟨_, fun X ok => by
    have z := pt_cmpR (pos := pos) (op_neD (X := X) ok.units) (pe_var (pos := p) (i := i) (by rw [ok.N]; exact hN) (by rw [ok.sc]; exact hv) hd hcd) (pu (e := b) ok) hm
    rw [ok.K] at z; exact z, ?_⟩
  refine ⟨.ref A, slot_of st hΓ, ?_⟩
  refine h PX σ H Hf _ st fun d v Hf1 H1 e1 st1 r ⟨q1, q2⟩ => ?_
  obtain ⟨ds, hI, ro⟩ := st1.ownR hΓ
  obtain ⟨q3, q4⟩ := q2 ds hI
  exact ⟨_, _, Rep.dp _ _ q3.p ro, Rep.dp _ _ q1.p (Rep.mono st1.ex _ _ r), q3.s, q1.s, _, rfl, hk _ Hf1 H1 e1 st1 q4⟩
/-- x + e, x a list of the def's own -/
theorem en_addO (hN : S.N[i]? = some x) (hv : Vis S.sc x) (hΓ : Γ[i]? = some (.inv A I)) (h : EvE S Γ b fun d => asLst d fun ys => ∀ ds, I ds → ds.length + ys.length ≤ 100000 ∧ QN (ds ++ ys))
    (hd : (x == ("__debug__" : Str)) = false := by decide) (hcd : (x == ("__classdict__" : Str)) = false := by decide) : EvN S Γ (.BinOp (.Name x p) .Add b pos) QN :=
  en_of (t := tOp (rCatS S.K) (tVar i) (tU S b)) (fun X ok => by
    have z := pe_op (pos := pos) (op_catS (X := X)) (pe_var (pos := p) (i := i) (by rw [ok.N]; exact hN) (by rw [ok.sc]; exact hv) hd hcd) (pu (e := b) ok)
    rw [ok.K] at z; exact z) fun PX σ H Hf k st hk => by
    refine ⟨.ref A, slot_of st hΓ, ?_⟩
    refine h PX σ H Hf _ st fun d v Hf1 H1 e1 st1 r q => ?_
    obtain ⟨ys, rfl, q⟩ := asLst_ q
    obtain ⟨_, _, vs, ds, hA, rr, hI⟩ := st1.own hΓ
    obtain ⟨hl, q2⟩ := q ds hI
    obtain ⟨l, ws, rfl, s1, r1⟩ := r.lst_
    exact ⟨A, l, vs, ws, rfl, rfl, SqL.of hA, st1.ex.sl s1, by rw [r1.len, rr.len]; exact Nat.le_trans hl (by decide), fun p hp => hk p (ds ++ ys) (vs ++ ws) Hf1 _ e1 (st1.px.free hp) (st1.fresh0 hp) (st1.opn hp) (st1.frame hp) (Reps.app r1 rr) q2⟩
/-- x.pop() -/
theorem ec_pop0 (hN : S.N[i]? = some x) (hv : Vis S.sc x) (hΓ : Γ[i]? = some (.inv A I)) (h : ∀ ds, I ds → ∃ y, ds[ds.length - 1]? = some y ∧ ∃ I' : List Da → Prop, I' ds.dropLast ∧ QC y (Γ.set i (.inv A I')))
    (hd : (x == ("__debug__" : Str)) = false := by decide) (hcd : (x == ("__classdict__" : Str)) = false := by decide)
    (hbase : ∀ env : Env, attributeBase (.Name x p) "pop" env (eval (.Name x p) env) = eval (.Name x p) env := by intro _; rfl) (hline : (apos.endLine == cpos.line) = true := by rfl) :
    EvC S Γ (.Call (.Attribute (.Name x p) "pop" apos) [] [] cpos) QC := fun PX σ H Hf k st hk => by
  refine ⟨tBM0 S.K "list" rPop (tVar i), fun X ok => ?_, ?_⟩
  · have z := pe_bm0 (X := X) (cpos := cpos) (apos := apos) PySem.F.plainAttrs_list PySem.F.slot_list_pop (by first | rfl | decide +kernel | kernel_rfl) mt_pop (pe_var (pos := p) (i := i) (by rw [ok.N]; exact hN) (by rw [ok.sc]; exact hv) hd hcd) (hbase _) hline
    rw [ok.K] at z; exact z
  obtain ⟨_, _, vs, ds, hA, rr, hI⟩ := st.own hΓ
  obtain ⟨y, h1, I', q4, q5⟩ := h ds hI
  obtain ⟨u, h3, h4⟩ := rr.get h1
  refine ⟨.ref A, slot_of st hΓ, .inl ⟨rfl, vs, SqL.of hA⟩, ?_⟩
  refine ⟨A, vs, u, rfl, rfl, hA, by rw [rr.len]; exact h3, ?_⟩
  have rd : Reps S.K Hf ds.dropLast vs.dropLast := by
    have z := rr.erase (ds.length - 1)
    rw [List.eraseIdx_length_sub_one] at z
    rw [show vs.dropLast = vs.eraseIdx (ds.length - 1) by rw [← rr.len, List.eraseIdx_length_sub_one]]
    exact z
  exact hk y u _ Hf _ (Sub.refl _) (st.put hΓ rd q4) h4 q5
/-- a[b], a changes what is the def's own -/
theorem ec_ix (h : EvC S Γ a fun d Γ' => EvE S Γ' b fun j => asSeq d fun ds => asInt j fun i => ∃ d, atI ds i = some d ∧ QC d Γ') (hs : ∀ o i, subscripted b false o i = operate [o, i] (getItem o i) := by intro _ _; rfl) : EvC S Γ (.Subscript a b pos) QC := fun PX σ H Hf k st hk => by
  refine ⟨tOp (rIx S.K) (tU S a) (tU S b), fun X ok => by have z := pe_ix (pos := pos) ix_seq (pu (e := a) ok) (pu (e := b) ok) hs; rw [ok.K] at z; exact z, ?_⟩
  refine h PX σ H Hf _ st fun d v Γ' Hf1 H1 e1 st1 r1 q => q PX σ H1 Hf1 _ st1 fun j u Hf2 H2 e2 st2 r2 q2 => ?_
  obtain ⟨ds, P, xs, rfl, hq, rr, q3⟩ := (Rep.mono e2 _ _ r1).seq q2
  obtain ⟨i, rfl, dd, hi, q4⟩ := asInt_ q3
  obtain ⟨w, h1, h2⟩ := atI_rep rr hi
  have e' : u = .int i := r2
  subst e'
  rcases hq with hq | hq
  · exact .inl ⟨P, xs, i, w, rfl, rfl, st2.ex.sl hq, h1, hk dd w Γ' Hf2 H2 (e1.trans e2) st2 h2 q4⟩
  · exact .inr (.inl ⟨P, xs, i, w, rfl, rfl, st2.ex.st hq, h1, hk dd w Γ' Hf2 H2 (e1.trans e2) st2 h2 q4⟩)
/-- a if c else b, either may change what is the def's own -/
theorem ec_ifx (h : EvT S Γ c fun t => cond t (EvC S Γ a QC) (EvC S Γ b QC)) : EvC S Γ (.IfExp c a b pos) QC := fun PX σ H Hf k st hk => by
  refine ⟨_, fun X ok => pe_ifExp (puT ok) (pu ok) (pu ok), ?_⟩
  refine h PX σ H Hf _ st fun t Hf1 H1 e1 st1 q => cond_ite ?_
  cases t with
  | true => exact q PX σ H1 Hf1 k st1 fun d v Γ' Hf' H' e => hk d v Γ' Hf' H' (e1.trans e)
  | false => exact q PX σ H1 Hf1 k st1 fun d v Γ' Hf' H' e => hk d v Γ' Hf' H' (e1.trans e)
/-- x.get(k, e), x a dict of the def's own -/
theorem ev_getO (hN : S.N[i]? = some x) (hv : Vis S.sc x) (hΓ : Γ[i]? = some (.ow A .d I)) (h : EvE S Γ b fun j => asKey j fun j => EvE S Γ c fun d => ∀ ks, I [.dct ks] → Q ((getK ks j).getD d))
    (hd : (x == ("__debug__" : Str)) = false := by decide) (hcd : (x == ("__classdict__" : Str)) = false := by decide)
    (hbase : ∀ env : Env, attributeBase (.Name x p) "get" env (eval (.Name x p) env) = eval (.Name x p) env := by intro _; rfl)
    (hfew : ∀ env, ((backTo cpos (starEach [b, c] env)).all (fun x => !x.1) && (backToKw cpos (keywordEach [] env)).all (fun x => x.1.isSome) && decide (([b, c] : List Expr).length + ([] : List Keyword).length + (if ([] : List Keyword).isEmpty then 0 else 1) < 30)) = true := by intro _; rfl)
    (hline : (apos.endLine == cpos.line) = true := by rfl) (ht : ∀ env, backTo cpos (starEach [b, c] env) = [(false, eval b env), (false, eval c env)] := by intro _; rfl) :
    EvE S Γ (.Call (.Attribute (.Name x p) "get" apos) [b, c] [] cpos) Q :=
  ev_of (fun X ok => pe_dget2 (by have := ok.un; omega) (pe_var (pos := p) (i := i) (by rw [ok.N]; exact hN) (by rw [ok.sc]; exact hv) hd hcd) (pu ok) (pu ok) ⟨hbase _, hfew _, hline, ht _⟩) fun PX σ H Hf k st hk => by
    have sl : σ[i]? = some (some (V.ref A)) := by
      have z := (st.ownK hΓ).1
      cases e : σ[i]? with
      | none => rw [e] at z; cases z
      | some o => rw [e] at z; exact congrArg some z
    obtain ⟨_, kvs, ks, hA, rr, hI⟩ := (st.ownK hΓ).2
    refine ⟨.ref A, sl, A, rfl, .inl ⟨kvs, .inl hA⟩, ?_⟩
    refine h PX σ H Hf _ st fun jd v Hf1 H1 e1 st1 r1 q0 => ?_
    obtain ⟨j, rfl, q⟩ := asKey_ q0
    refine q PX σ H1 Hf1 _ st1 fun d u Hf2 H2 e2 st2 r2 q2 => ?_
    obtain ⟨_, kvs, ks, hA, rr, hI⟩ := (st2.ownK hΓ).2
    have ev := rep_keyV r1
    refine ⟨valV kvs j, .inl ⟨kvs, j, .inl hA, ev, rfl⟩, ?_⟩
    rcases rr.val (k := j) with ⟨g1, g2⟩ | ⟨y, w, g1, g2, g3⟩
    · have q3 := q2 ks hI
      rw [g1] at q3
      rw [g2]
      exact hk d u Hf2 H2 (e1.trans e2) st2 r2 q3
    · have q3 := q2 ks hI
      rw [g1] at q3
      rw [g2]
      exact hk y w Hf2 H2 (e1.trans e2) st2 g3 q3
theorem reps_strs2 {K : PySem.W.Frag} {H : Hp} : ∀ {ys : List Str} {vs : List V}, Reps K H (ys.map Da.str) vs → vs = ys.map V.str
  | [], _, r => r
  | b :: bs, _, r => by
    obtain ⟨v, l, rfl, r1, r2⟩ := r
    have e : v = .str b := r1
    rw [e, reps_strs2 r2]; rfl
/-- a.join(e) -/
theorem ev_join (h : EvE S Γ a fun d => asStr d fun z => EvE S Γ b fun l => asSeq l fun xs => ∃ ys : List Str, xs = ys.map Da.str ∧ (ys.map (·.length)).sum + ys.length * z.length ≤ 16777216 ∧ Q (.str (Txt.join z ys)))
    (hs : ∀ env, starEach [b] env = [(false, eval b env)] := by intro _; rfl) (hbase : ∀ env, attributeBase a "join" env (eval a env) = eval a env := by intro _; rfl) (hline : (apos.endLine == cpos.line) = true := by rfl) :
    EvE S Γ (.Call (.Attribute a "join" apos) [b] [] cpos) Q :=
  ev_of (t := tM1 (fun x xs H Q => ∃ a p, ∃ ys : List Str, x = .str a ∧ xs = [.ref p] ∧ (SqL S.K H p (ys.map V.str) ∨ SqT S.K H p (ys.map V.str)) ∧
      (ys.map (·.length)).sum + ys.length * a.length ≤ 16777216 ∧ Q (.str (Txt.join a ys)) H) (tU S a) (tU S b)) (fun X ok => by
      have z := pe_join (X := X) (apos := apos) (pos := cpos) (pu (e := a) ok) (pu (e := b) ok) (hs _) (hbase _) hline
      rw [ok.K] at z; exact z) fun PX σ H Hf k st hk => by
    refine h PX σ H Hf _ st fun d v Hf1 H1 e1 st1 r1 q => ?_
    obtain ⟨z, rfl, q⟩ := asStr_ q
    have e : v = .str z := r1
    subst e
    refine ⟨⟨z, rfl⟩, ?_⟩
    refine q PX σ H1 Hf1 _ st1 fun l u Hf2 H2 e2 st2 r2 q2 => ?_
    obtain ⟨xs, P, vs, rfl, hq, rr, ys, rfl, hz, q3⟩ := r2.seq q2
    have e3 := reps_strs2 rr
    subst e3
    exact ⟨z, P, ys, rfl, rfl, hq.imp st2.ex.sl st2.ex.st, hz, hk (.str _) _ Hf2 H2 (e1.trans e2) st2 rfl q3⟩
@[reducible] def ixQ (d j : Da) (Q : Da → Prop) : Prop := match d, j with
  | .lst ds, .int i => ∃ d, atI ds i = some d ∧ Q d
  | .tup ds, .int i => ∃ d, atI ds i = some d ∧ Q d
  | .str z, .int i => z.length ≤ 1000000 ∧ ∃ c, atI z.cps.toList i = some c ∧ Q (.str ⟨#[c]⟩)
  | _, _ => False
/-- a[b], a list, a tuple, a text -/
theorem ev_ixA (h : EvE S Γ a fun d => EvE S Γ b fun j => ixQ d j Q) (hs : ∀ o i, subscripted b false o i = operate [o, i] (getItem o i) := by intro _ _; rfl) : EvE S Γ (.Subscript a b pos) Q :=
  ev_of (t := tOp (rIx S.K) (tU S a) (tU S b)) (fun X ok => by have z := pe_ix (pos := pos) ix_seq (pu (e := a) ok) (pu (e := b) ok) hs; rw [ok.K] at z; exact z) fun PX σ H Hf k st hk => h PX σ H Hf _ st fun d v Hf1 H1 e1 st1 r1 q => q PX σ H1 Hf1 _ st1 fun j u Hf2 H2 e2 st2 r2 q2 => by
    have r1 := Rep.mono e2 _ _ r1
    have q2 : ixQ d j Q := q2
    unfold ixQ at q2
    split at q2
    · obtain ⟨dd, hi, q4⟩ := q2
      obtain ⟨P, xs, rfl, hq, rr⟩ := r1
      obtain ⟨w, h1, h2⟩ := atI_rep rr hi
      exact .inl ⟨P, xs, _, w, rfl, r2, st2.ex.sl hq, h1, hk dd w Hf2 H2 (e1.trans e2) st2 h2 q4⟩
    · obtain ⟨dd, hi, q4⟩ := q2
      obtain ⟨P, xs, rfl, hq, rr⟩ := r1
      obtain ⟨w, h1, h2⟩ := atI_rep rr hi
      exact .inr (.inl ⟨P, xs, _, w, rfl, r2, st2.ex.st hq, h1, hk dd w Hf2 H2 (e1.trans e2) st2 h2 q4⟩)
    · obtain ⟨hz, c, hc, q4⟩ := q2
      exact .inr (.inr ⟨_, _, c, r1, r2, Nat.le_trans hz (by decide), hc, hk (.str ⟨#[c]⟩) _ Hf2 H2 (e1.trans e2) st2 rfl q4⟩)
    · exact q2.elim
/-- a[b], a dict -/
theorem ev_ixD (h : EvE S Γ a fun d => asDct d fun ks => EvE S Γ b fun j => asKey j fun j => ∃ d, getK ks j = some d ∧ Q d) (hs : NoSl b := by intro _ _; rfl) : EvE S Γ (.Subscript a b pos) Q :=
  ev_of (t := tDGet (tU S a) (tU S b)) (fun X ok => pe_dget (by have := ok.un; omega) (pu ok) (pu ok) hs) fun PX σ H Hf k st hk => h PX σ H Hf _ st fun d v Hf1 H1 e1 st1 r1 q => by
    obtain ⟨ks, rfl, q'⟩ := asDct_ q
    obtain ⟨P, kvs, rfl, hP, rr⟩ := r1
    refine q' PX σ H1 Hf1 _ st1 fun jd u Hf2 H2 e2 st2 r2 q0 => ?_
    obtain ⟨j, rfl, dd, g, q2⟩ := asKey_ q0
    rcases (RepK.mono e2 _ _ rr).val (k := j) with ⟨g1, g2⟩ | ⟨y, w, g1, g2, g3⟩
    · rw [g] at g1; cases g1
    · rw [g] at g1
      cases g1
      exact ⟨P, w, rfl, .inl ⟨kvs, j, st2.ex.rd (e2.rd hP), rep_keyV r2, g2.symm⟩, hk dd w Hf2 H2 (e1.trans e2) st2 g3 q2⟩
end
end GX

namespace GX
open PySem PySem.Spec PyProof.Rows L2
/-! ## try: f(e, ..) except X as n: .. -/
section
variable {X : Cx} {k i : Nat} {f : Addr} {fd : FuncData} {ps : List Str} {sp : Sp} {x n : Str} {p pos : Pos} {e : Expr} {es : List Expr} {t : TA} {W : WX}
/-- a call; what is raised is wished for at the caller's slots -/
theorem peGS (F : FnG X.prog X.w X.K X.mg X.base k f fd ps sp) (hr : Room k X.A) (hgd : X.A.guards = some []) (hg : Gl X x) (hm : X.mg x = some (.ref f)) (hk : PySem.W.keepIn X.K (.ref f) = true) (hb : BindP fd ps) (tk : Takes X W)
    (ha : PA X (e :: es) t) (hd : (x == ("__debug__" : Str)) = false) (he : starEach (e :: es) X.env = (false, eval e X.env) :: starEach es X.env) (hpl : (backTo pos (starEach es X.env)).any (·.1) = false) :
    PE X (.Call (.Name x p) (e :: es) [] pos) (fun σ H Q => t σ H fun vs H1 => sp vs H1 Q (fun cls d H' => W cls d σ H')) := by
  refine ⟨fun pins s σ H Q I h => wpAny_Call_Name_kw (ld_glob I hg hm ?_ hd)⟩
  refine PySem.W.callWith_K (h₀ := X.base) I.ok.mod.kin hk (thn (ha.run pos pins s σ H _ I h) fun us s1 hh => ?_) he hpl
  obtain ⟨vs, H1, I1, r, q⟩ := hh
  refine ⟨I1.kIn, wpAny_call (codeAny_mono (F.run X.A X.stack s1 H1 ⟨us, []⟩ us vs _ _ hr hgd I1.env0 (.of_eq (hb us (by rw [← r.length]; exact F.len _ _ _ _ q))) r q) fun res s' hq => ?_)⟩
  match res, hq with
  | .error e, hq => exact passSt tk I1 hq
  | .ok (.ret u), hq => exact I1.after hq
  | .ok .next, hq => exact False.elim hq
  | .ok .brk, hq => exact False.elim hq
  | .ok .cont, hq => exact False.elim hq
end
/-- in an except suite of the def's own -/
@[reducible] def Sx.su (S : Sx) (F0 H0 : Hp) (a : Addr) (cls : Value) (d : Option Addr) (fs : Option (List (Str × Da))) : Sx :=
  { S with F0 := F0, H0 := H0, op := [], E := fun _ _ => False, calm := false, xc := some (a, cls, d, fs), top := false, cel := [], ce := none }
@[reducible] def Sx.still (S : Sx) : Sx := { S with E := fun _ _ => False, cel := [], ce := none, top := false, xc := none }
section
variable (S : Sx) (su : List Stmt)
def tsS : Addr → Value → Option Addr → TS := fun a cls d D z G => ∃ F0 H0 fs, XRep S.K F0 d fs ∧ tUB (S.su F0 H0 a cls d fs) su D z G
def clzS (S : Sx) : List ExceptHandler → Clz
  | .ExceptHandler (some (.Name x _)) (some _) su _ :: hds => (clsOf S.mg x, tsS S su) :: clzS S hds
  | _ => []
def hWS (S : Sx) (Γ : List Slot) (i : Nat) (Q : Da → Prop) : List ExceptHandler → Er
  | .ExceptHandler (some (.Name x _)) (some _) su _ :: hds => fun cls fs => ∃ b, PySem.W.exmOne S.K cls (clsOf S.mg x) = some b ∧
      (b = true → ∀ a d F0 H0, XRep S.K F0 d fs → EvB (S.su F0 H0 a cls d fs) (Γ.set i (.rf a)) su { nx := fun _ => False, rt := Q }) ∧ (b = false → hWS S Γ i Q hds cls fs)
  | _ => fun _ _ => False
end
section
variable {S : Sx} {Γ : List Slot} {X : Cx} {n x qual : Str} {i k : Nat} {st : Stmt} {ps : List Str} {spec : Fd} {e : Expr} {es : List Expr} {h0 : ExceptHandler} {hds : List ExceptHandler} {D : EnG} {p1 p2 p3 p8 : Pos}
theorem Sx.Ok.suS (ok : S.Ok X) {F0 H0 : Hp} {a : Addr} {oe : Obj} {pn : List (Addr × Obj)} {cls : Value} {d : Option Addr} {fs : Option (List (Str × Da))} (hz : Zc cls d oe) (hv : ∃ vs, oe.data = .fields vs) (xr : XRep S.K F0 d fs) :
    (S.su F0 H0 a cls d fs).Ok (X.suite a ((a, oe) :: pn)) where
  P := ok.P
  w := ok.w
  K := ok.K
  mg := ok.mg
  base := ok.base
  N := ok.N
  sc := ok.sc
  calm := fun z => nomatch z
  room := fun z => nomatch z
  un := ok.un
  gd := ok.gd
  nd := ok.nd
  tk := fun _ _ xx => by
    obtain ⟨_, _, _, _, _, _, _, _, _, _, _, _, _, _, _, _, w⟩ := xx
    obtain ⟨_, _, _, _, _, _, _, _, z, _⟩ := w
    exact z.elim
  po := fun _ _ h => h.elim
  fn := ok.fn
  cd := ok.cd
  ql := ok.ql
  cel := fun _ z => nomatch z
  ce := fun _ z => nomatch z
  top := fun z => nomatch z
  xc := fun a' cls' d' fs' z => by
    cases z
    exact ⟨_, oe, pn, rfl, hz, hv, xr⟩
theorem hdsS (ok : S.Ok X) : ∀ {hds : List ExceptHandler}, hdsB S.sc n hds = true → hdsM S.mg hds → HdsAs X n hds (clzS S hds)
  | [], _, _ => .nil
  | .ExceptHandler (some (.Name y p)) (some j) (s0 :: su) p2 :: hds, h, hm => by
    unfold hdsB at h
    rw [Bool.and_eq_true, Bool.and_eq_true, Bool.and_eq_true, decide_eq_true_eq, decide_eq_true_eq, Bool.not_eq_true'] at h
    obtain ⟨⟨⟨h1, h2⟩, e⟩, h4⟩ := h
    have e := e.symm
    subst e
    obtain ⟨⟨C, hC⟩, hm⟩ := hm
    refine .cons (c := clsOf S.mg y) ⟨?_, h2, .inl ?_⟩ (fun a oe cls d pn hz hv => ⟨fun pins s z G D I ⟨F0, H0, fs, xr, q⟩ => ?_⟩) (hdsS ok h4 hm)
    · show X.env.scope.names.lookup y = _
      rw [ok.sc]; exact h1
    · rw [ok.mg]; unfold clsOf; rw [hC]; rfl
    · exact (puB (ok.suS (H0 := H0) hz hv xr)).run pins s z G D I q
  | .ExceptHandler none _ _ _ :: _, h, _ => by simp [hdsB] at h
  | .ExceptHandler (some (.Name _ _)) none _ _ :: _, h, _ => by simp [hdsB] at h
  | .ExceptHandler (some (.Name _ _)) (some _) [] _ :: _, h, _ => by simp [hdsB] at h
theorem Sx.Ok.stillT (ok : S.Ok X) (pn : List (Addr × Obj)) (xe : Value → Shared → Prop) (po : PassesOwn (model X.prog X.w) X.A X.env xe) : S.still.Ok (X.tr pn xe) where
  P := ok.P
  w := ok.w
  K := ok.K
  mg := ok.mg
  base := ok.base
  N := ok.N
  sc := ok.sc
  calm := ok.calm
  room := ok.room
  un := ok.un
  gd := ok.gd
  nd := ok.nd
  tk := fun _ _ xx => by
    obtain ⟨_, _, _, _, _, _, _, _, _, _, _, _, _, _, _, _, w⟩ := xx
    obtain ⟨_, _, _, _, _, _, _, _, z, _⟩ := w
    exact z.elim
  po := po
  fn := ok.fn
  cd := ok.cd
  ql := ok.ql
  cel := fun _ z => nomatch z
  ce := fun _ z => nomatch z
  top := fun z => nomatch z
  xc := fun _ _ _ _ z => nomatch z
theorem Stt.still {PX Hf H : Hp} {σ : L2.St} (st : Stt S PX Γ Hf H σ) : Stt S.still PX Γ Hf H σ := ⟨⟨st.z.len, st.z.ex0, st.z.ex, st.z.keep, st.z.ops, st.z.at_, st.z.new, st.z.fr, st.z.px, st.z.pf, st.z.pi, st.z.sep⟩, st.tb⟩
theorem Stt.unstill {PX Hf H : Hp} {σ : L2.St} (st : Stt S.still PX Γ Hf H σ) : Stt S PX Γ Hf H σ := ⟨⟨st.z.len, st.z.ex0, st.z.ex, st.z.keep, st.z.ops, st.z.at_, st.z.new, st.z.fr, st.z.px, st.z.pf, st.z.pi, st.z.sep⟩, st.tb⟩
def noOw (Γ : List Slot) : Prop := ∀ (j : Nat) p k I, Γ[j]? ≠ some (.ow p k I)
theorem stt_suS {PX Hf H : Hp} {σ : L2.St} {a : Addr} {cls : Value} {d : Option Addr} {fs : Option (List (Str × Da))} (st : Stt S PX Γ Hf H σ) (hno : noOw Γ) (hi : i < Γ.length) :
    Stt (S.su Hf (strip S.T H) a cls d fs) (fun _ => none) (Γ.set i (.rf a)) Hf H (σ.set i (some (.ref a))) := by
  have sl : ∀ {j : Nat} {s : Slot}, (Γ.set i (.rf a))[j]? = some s → (j = i ∧ s = .rf a) ∨ (j ≠ i ∧ Γ[j]? = some s) := fun {j s} h => by
    by_cases e : i = j
    · subst e
      rw [List.getElem?_set_self hi] at h
      cases h; exact .inl ⟨rfl, rfl⟩
    · rw [List.getElem?_set_ne e] at h
      exact .inr ⟨fun c => e c.symm, h⟩
  have no : ∀ {j : Nat} {p : Addr} {k : Kd} {I : List Da → Prop}, (Γ.set i (.rf a))[j]? ≠ some (.ow p k I) := fun {j p k I} h => by
    rcases sl h with ⟨_, c⟩ | ⟨_, c⟩
    · cases c
    · exact hno _ _ _ _ c
  refine ⟨⟨?_, Sub.refl _, st.z.ex, fun q o h _ => h, fun q h => (nomatch h), fun j s h => ?_, fun i p k I h => absurd h no, fun p h1 h2 => absurd h2 h1, fun _ _ z => (nomatch z), fun p h => absurd rfl h, fun _ _ _ _ h => absurd h no, fun i j p k l I J h => absurd h no⟩, st.tb⟩
  · rw [List.length_set, List.length_set]; exact st.len
  · rcases sl h with ⟨rfl, rfl⟩ | ⟨e, c⟩
    · show _ = _
      rw [List.getElem?_set_self (by rw [st.len]; exact hi)]; rfl
    · rw [List.getElem?_set_ne (fun z => e z.symm)]
      exact st.z.at_ j s c
theorem hWS_ok {PX Hf H : Hp} {σ : L2.St} {D' : Ends} {cls : Value} {d : Option Addr} {fs : Option (List (Str × Da))} (st : Stt S PX Γ Hf H σ) (hno : noOw Γ) (hi : i < Γ.length) (hop : S.op = []) (kk : EnOk S PX Hf D D') (xr : XRep S.K Hf d fs) :
    ∀ {hds : List ExceptHandler}, hWS S Γ i D.rt hds cls fs → wAsL S.K i S.WX D' (clzS S hds) cls d σ H
  | .ExceptHandler (some (.Name y _)) (some _) su _ :: hds, h => by
    unfold hWS at h
    obtain ⟨b, h1, h2, h3⟩ := h
    refine ⟨b, h1, fun e a _ => ?_, fun e => hWS_ok st hno hi hop kk xr (h3 e)⟩
    refine ⟨Hf, strip S.T H, fs, xr, ?_⟩
    refine h2 e a d Hf (strip S.T H) xr (fun _ => none) _ H Hf _ (stt_suS st hno hi) ⟨fun _ _ _ _ _ _ z => z.elim, fun d v Γ' σ' Hf' H' e2 z _ r q => ?_, fun _ _ _ _ _ _ z => z.elim, fun _ _ _ _ _ _ z => z.elim, fun _ _ _ _ _ _ _ _ _ _ _ _ _ z => z.elim⟩
    exact kk.rt d v Γ σ Hf' H' e2 (st.grow z.z.ex0 z.z.ex (fun a o h => z.z.keep a o h (by exact List.not_mem_nil)) z.z.fr z.tb) (ops0 hop) r q
theorem es_tryC (c : Cal S.P S.w S.K S.mg S.base x qual st k ps (SpD S.K S.T spec)) (hk : k ≤ S.k) (hg : GlS S x) (hop : S.op = []) (hno : noOw Γ) (hi : i < Γ.length) (ni : S.N[i]? = some n) (nl : S.sc.names.lookup n = some .local) {sc0 : Scope} (hsc : S.sc = sc0) (hB0 : hdsB sc0 n (h0 :: hds) = true) (hM : hdsM S.mg (h0 :: hds))
    (h : EvA S.still Γ (e :: es) fun ds => spec ds (fun _ => D.nx Γ) (hWS S Γ i D.rt (h0 :: hds)))
    (hd : (x == ("__debug__" : Str)) = false := by decide) (he : ∀ env, starEach (e :: es) env = (false, eval e env) :: starEach es env := by intro _; rfl) (hpl : ∀ env, (backTo p2 (starEach es env)).any (·.1) = false := by intro _; rfl)
    (hs : ∀ env, swapsWith (.Call (.Name x p1) (e :: es) [] p2) none p3.line env = pure false := by intro _; rfl) (hc : S.calm = true := by rfl) (ht : S.top = true := by rfl) :
    EvS S Γ (.Try [.Expr (.Call (.Name x p1) (e :: es) [] p2) p3] (h0 :: hds) [] [] p8) D := by
  have hB : hdsB S.sc n (h0 :: hds) = true := by rw [hsc]; exact hB0
  obtain ⟨f, fd, F, hm, G⟩ := c.ex
  refine es_of (t := fun D z G => tUA S.still (e :: es) z G fun vs H1 => SpD S.K S.T spec vs H1 (fun _ H2 => D.nx z H2) (fun cls d H' => wAsL S.K i S.WX D (clzS S (h0 :: hds)) cls d z H')) (fun X ok => ?_) fun PX σ H Hf D' s kk => ?_
  · obtain ⟨t1, t2, _⟩ := ok.top ht
    have z := ps_tryA (X := X) (body := [.Expr (.Call (.Name x p1) (e :: es) [] p2) p3]) (i := i) (n := n) (pos := p8) (W0 := S.WX) (l := clzS S (h0 :: hds)) (tb := fun W D z G => tUA S.still (e :: es) z G fun vs H1 => SpD S.K S.T spec vs H1 (fun _ H2 => D.nx z H2) (fun cls d H' => W cls d z H'))
      t1 t2 (by rw [ok.N]; exact ok.nd) (by rw [ok.N]; exact ni) (by show X.env.scope.names.lookup n = _; rw [ok.sc]; exact nl) ok.tk (fun W pn xe tk po => pss_one (ps_expr (peGS (X := X.tr pn xe) (sp := SpD S.K S.T spec) (by show FnG X.prog X.w X.K X.mg X.base k f fd ps _; rw [ok.P, ok.w, ok.K, ok.mg, ok.base]; exact G) ((ok.room hc).mono hk) ok.gd (by show X.env.scope.names.lookup x = _; rw [ok.sc]; exact hg) (by show X.mg x = _; rw [ok.mg]; exact hm) (by show PySem.W.keepIn X.K _ = _; rw [ok.K]; exact F.kp) (c.bind F) tk (puA (ok.stillT pn xe po)) hd (he _) (hpl _)) (hs _)))
      (hdsS ok hB hM)
    rw [ok.K] at z
    exact z
  · refine h PX σ H Hf _ s.still fun ds vs Hf1 H1 e1 s1' r q => ?_
    have s1 := s1'.unstill
    refine ⟨ds, Hf1, _, _, s1.z.ex, s1.tb, r, q, fun d v Hf' H' g kp t rr qq => ?_, fun cls dd fs Hf' H' g kp t xr er => ?_⟩
    · exact kk.nx Γ σ Hf' H' (e1.trans g.f) (s1.grow g.f g.e kp g.n t) qq
    · exact hWS_ok (s1.grow g.f g.e kp g.n t) hno hi hop (kk.mono (e1.trans g.f)) xr er
end
end GX

namespace GX
open PySem PySem.Spec PyProof.Rows L2
/-! ## x, y = a, [..] by way of a tuple (where a name is captured) -/
section
variable {S : Sx} {Γ : List Slot} {a b : Expr} {i j : Nat} {x y : Str} {D : EnG} {p py pt pt2 spos : Pos} {kt k2}
theorem es_asgEN (hN : S.N[i]? = some x) (hM : S.N[j]? = some y) (hij : i ≠ j) (hx : Loc S.sc x) (hy : Loc S.sc y) (hw : ∀ env : Env, env.scope = S.sc → swappedStores [.Tuple [.Name x p, .Name y py] kt pt] (.Tuple [a, b] k2 pt2) env = pure none)
    (h : EvE S Γ a fun d => EvN S Γ b fun ys => ∀ A, A ∉ S.op.map (·.1) → D.nx ((Γ.set i (.dat d)).set j (.inv A fun zs => zs = ys)))
    (he : ∀ env, starEach [a, b] env = (false, eval a env) :: starEach [b] env := by intro _; rfl) (he2 : ∀ env, starEach [b] env = (false, eval b env) :: starEach [] env := by intro _; rfl)
    (hs : ∀ env, swapsWithSole [.Tuple [.Name x p, .Name y py] kt pt] (.Tuple [a, b] k2 pt2) spos.line env = pure false := by intro _; rfl) (h1 : ∀ env, (assignEach [.Tuple [.Name x p, .Name y py] kt pt] env).map (·.2) = [assign (.Tuple [.Name x p, .Name y py] kt pt) env] := by intro _; rfl)
    (hn : ∀ env, (assignEach [.Name x p, .Name y py] env).length = 2 := by intro _; rfl) (hst : ∀ env, (assignEach [.Name x p, .Name y py] env).findIdx? (·.1) = none := by intro _; rfl) (hc : S.calm = true := by rfl) (hsx : S.stor x = true := by rfl) (hsy : S.stor y = true := by rfl) :
    EvS S Γ (.Assign [.Tuple [.Name x p, .Name y py] kt pt] (.Tuple [a, b] k2 pt2) spos) D := by
  refine es_of (t := fun D z G => (tTup (tCons (tU S a) (tCons (tU S b) tNil))) z G fun v G1 => gTup S.K 2 (gCons (gName i) (gCons (gName j) gNil)) v z G1 D.nx) (fun X ok => ?_) fun PX σ H Hf D' s k => ?_
  · have z := ps_asg (X := X) (pos := spos) (pe_tup (x1 := k2) (pos := pt2) (pa_cons (pu (e := a) ok) (pa_cons (pu (e := b) ok) pa_nil (he2 _)) (he _))) (pg_tup (k := kt) (pos := pt) (ok.calm hc) (pgs_cons (pg_name (pos := p) (i := i) (by rw [ok.N]; exact ok.nd) (by rw [ok.N]; exact hN) (by rw [ok.sc]; exact hx) (ok.fn x hsx)) (pgs_cons (pg_name (pos := py) (i := j) (by rw [ok.N]; exact ok.nd) (by rw [ok.N]; exact hM) (by rw [ok.sc]; exact hy) (ok.fn y hsy)) pgs_nil)) (hn X.env) (hst X.env)) (hs _) (hw _ ok.sc) (h1 _)
    rw [ok.K] at z
    exact z
  · refine h PX σ H Hf _ s fun d v Hf1 H1 e1 s1 r1 q1 => ?_
    refine q1 PX σ H1 Hf1 _ s1 fun A ys vs Hf2 H2 e2 hP h0 hop s2 r2 q2 => ?_
    refine ⟨(show 2 ≤ sizeLine by decide), fun P hp => ?_⟩
    obtain ⟨s3, e3⟩ := s2.alloc (o := .tup [v, .ref A]) hp
    refine ⟨P, [v, .ref A], rfl, SqT.of upd_same, rfl, v, [.ref A], rfl, .ref A, [], rfl, rfl, ?_⟩
    have s4 := s3.set (Rep.mono (e2.trans e3) _ _ r1) i
    have s5 := s4.setO (I := fun zs => zs = ys) hP h0 (Reps.mono e3 _ _ r2) rfl j
    exact k.nx _ _ _ _ ((e1.trans e2).trans e3) s5 (q2 A hop)
/-- what the def's own object holds, from here on told -/
theorem eb_pinO {sts : List Stmt} {A : Addr} {k : Kd} {I : List Da → Prop} (hΓ : Γ[i]? = some (.ow A k I)) (h : ∀ ds, I ds → EvB S (Γ.set i (.ow A k fun ys => ys = ds)) sts D) : EvB S Γ sts D := fun PX σ H Hf D' st kk => by
  have hi : i < Γ.length := (List.getElem?_eq_some_iff.mp hΓ).1
  obtain ⟨ds, hI, ow⟩ : ∃ ds, I ds ∧ OwnK S.K Hf (strip S.T H) A k fun ys => ys = ds := by
    have z := (st.z.ownK hΓ).2
    cases k with
    | l => obtain ⟨a, vs, xs, b, c, d⟩ := z; exact ⟨xs, d, a, vs, xs, b, c, rfl⟩
    | d => obtain ⟨a, vs, xs, b, c, d⟩ := z; exact ⟨_, d, a, vs, xs, b, c, rfl⟩
    | o => obtain ⟨a, C, dx, gs, fs, b, c, d⟩ := z; exact ⟨_, d, a, C, dx, gs, fs, b, c, rfl⟩
  have sl : ∀ {j : Nat} {s : Slot}, (Γ.set i (.ow A k fun ys => ys = ds))[j]? = some s → (j = i ∧ s = .ow A k fun ys => ys = ds) ∨ (j ≠ i ∧ Γ[j]? = some s) := fun {j s} e => by
    by_cases c : i = j
    · subst c
      rw [List.getElem?_set_self hi] at e
      cases e; exact .inl ⟨rfl, rfl⟩
    · rw [List.getElem?_set_ne c] at e
      exact .inr ⟨fun z => c z.symm, e⟩
  have so : ∀ {j : Nat} {p : Addr} {k' : Kd} {I' : List Da → Prop}, (Γ.set i (.ow A k fun ys => ys = ds))[j]? = some (.ow p k' I') → ∃ I'', Γ[j]? = some (.ow p k' I'') := fun {j p k' I'} e => by
    rcases sl e with ⟨rfl, z⟩ | ⟨_, z⟩
    · cases z; exact ⟨I, hΓ⟩
    · exact ⟨_, z⟩
  refine h ds hI PX σ H Hf D' ⟨⟨by rw [List.length_set]; exact st.z.len, st.z.ex0, st.z.ex, st.z.keep, st.z.ops, fun j s e => ?_, fun j p k' I' e => ?_, st.z.fr, st.z.px, st.z.pf, fun j p k' I' e => ?_, fun j1 j2 p k1 k2 I1 I2 e1 e2 => ?_⟩, st.tb⟩ kk
  · rcases sl e with ⟨rfl, rfl⟩ | ⟨_, e⟩
    · exact ⟨(st.z.ownK hΓ).1, ow⟩
    · exact st.z.at_ j s e
  · obtain ⟨I'', z⟩ := so e
    exact st.z.new j p k' I'' z
  · obtain ⟨I'', z⟩ := so e
    exact st.z.pi j p k' I'' z
  · obtain ⟨_, z1⟩ := so e1
    obtain ⟨_, z2⟩ := so e2
    exact st.z.sep j1 j2 p k1 k2 _ _ z1 z2
end
end GX

namespace GX
open PySem PySem.Spec PyProof.Rows L2
/-! ## sorted texts -/
def leS (a b : Str) : Bool := decide (a.cps.toList ≤ b.cps.toList)
theorem leD_str (a b : Str) : leD (.str a) (.str b) = leS a b := by
  have z := PySem.W.dataLe_str (fun b : Str => b)
  have y := congrFun (congrFun z a) b
  exact y
theorem sortOk_str {ws : List Str} (h : ∀ w ∈ ws, PyData.strOk w = true) : SortOk (ws.map Da.str) := by
  have hs : ∀ d ∈ ws.map Da.str, ∃ w, w ∈ ws ∧ d = .str w := fun d hd => by obtain ⟨w, hw, rfl⟩ := List.mem_map.mp hd; exact ⟨w, hw, rfl⟩
  refine ⟨fun d hd d' hd' => ?_, .inr fun d hd => ?_, fun d hd => ?_⟩
  · obtain ⟨x, hx, rfl⟩ := List.mem_map.mp hd
    obtain ⟨y, hy, rfl⟩ := List.mem_map.mp hd'
    obtain ⟨i, _, rfl⟩ := hs x hx
    obtain ⟨j, _, rfl⟩ := hs y hy
    rfl
  · obtain ⟨x, hx, rfl⟩ := List.mem_map.mp hd
    obtain ⟨i, hi, rfl⟩ := hs x hx
    exact ⟨(fun z => nomatch z), (fun _ z => nomatch z)⟩
  · obtain ⟨i, hi, rfl⟩ := hs d hd
    exact ⟨h i hi, Nat.zero_le _⟩
theorem sort_strs (ws : List Str) : (ws.map Da.str).mergeSort leD = (ws.mergeSort leS).map Da.str := (List.map_mergeSort fun a _ b _ => (leD_str a b).symm).symm
theorem sortS_pw (ws : List Str) : (ws.mergeSort leS).Pairwise fun a b => a.cps.toList ≤ b.cps.toList := by
  refine (List.pairwise_mergeSort (fun a b c h1 h2 => ?_) (fun a b => ?_) ws).imp fun h => of_decide_eq_true h
  · exact decide_eq_true (List.le_trans (of_decide_eq_true h1) (of_decide_eq_true h2))
  · rw [Bool.or_eq_true]
    exact (List.le_total a.cps.toList b.cps.toList).imp decide_eq_true decide_eq_true
theorem c_sortedS {S : Sx} : CallG S (.builtin "sorted") fun ds Q => as1 ds fun d => asLst d fun xs => ∃ ws : List Str, xs = ws.map Da.str ∧ (∀ w ∈ ws, PyData.strOk w = true) ∧ ∀ ss : List Str, ss.Perm ws → ss.Pairwise (fun a b => a.cps.toList ≤ b.cps.toList) → Q (.lst (ss.map Da.str)) := by
  obtain ⟨r, h1, h2⟩ := (c_sortedD : CallG S (.builtin "sorted") _)
  refine ⟨r, h1, fun PX Γ σ Hf H ds vs Q k st r h hk => h2 PX Γ σ Hf H ds vs Q k st r ?_ hk⟩
  obtain ⟨d, rfl, h⟩ := as1_ h
  obtain ⟨xs, rfl, ws, rfl, ok, q⟩ := asLst_ h
  refine ⟨sortOk_str ok, ?_⟩
  rw [sort_strs]
  exact q _ (List.mergeSort_perm _ _) (sortS_pw ws)
end GX

namespace GX
open PySem PySem.Spec PyProof.Rows L2
/-! ## closures: functions made in a def, lambdas that capture; what their cells hold is carried along -/
/-- the cells that are known as a def is called -/
def CelAt (cel : List (Addr × V)) (outer : List Env) (H : Hp) (h : Heap) : Prop := ∀ p ∈ cel, H p.1 = none ∧ p.1 ∉ frs outer ∧ ∃ u, RelV p.2 u ∧ h.IsCell p.1 (some u)
theorem CelAt.nil {outer : List Env} {H : Hp} {h : Heap} : CelAt [] outer H h := fun _ z => nomatch z
/-- all that F captured is known -/
def Clo.In (F : Clo) (cel : List (Addr × V)) : Prop := ∀ (i : Nat) (y : Str) (c : Addr) (v : V), F.fr[i]? = some y → F.cl.lookup y = some c → F.ws[i]? = some v → (c, v) ∈ cel
def Clo.cel (F : Clo) : List (Addr × V) := (F.fr.zip F.ws).filterMap fun p => (F.cl.lookup p.1).map fun c => (c, p.2)
theorem Clo.in_cel (F : Clo) : F.In F.cel := fun i y c v h1 h2 h3 => by
  unfold Clo.cel
  rw [List.mem_filterMap]
  refine ⟨(y, v), List.mem_iff_getElem?.mpr ⟨i, ?_⟩, by rw [h2]; rfl⟩
  rw [List.getElem?_zip_eq_some]
  exact ⟨h1, h3⟩
theorem Clo.of_cel {F : Clo} {p : Addr × V} (h : p ∈ F.cel) : ∃ (i : Nat) (y : Str), F.fr[i]? = some y ∧ F.cl.lookup y = some p.1 ∧ F.ws[i]? = some p.2 := by
  unfold Clo.cel at h
  rw [List.mem_filterMap] at h
  obtain ⟨⟨y, v⟩, hm, he⟩ := h
  obtain ⟨i, hi⟩ := List.mem_iff_getElem?.mp hm
  rw [List.getElem?_zip_eq_some] at hi
  cases hc : F.cl.lookup y with
  | none => rw [hc] at he; cases he
  | some c => rw [hc] at he; cases he; exact ⟨i, y, hi.1, hc, hi.2⟩
theorem Clo.In.mono {F : Clo} {cel cel' : List (Addr × V)} (h : F.In cel) (s : ∀ p ∈ cel, p ∈ cel') : F.In cel' := fun i y c v h1 h2 h3 => s _ (h i y c v h1 h2 h3)
section
variable {S : Sx} {X : Cx} {pins : List (Addr × Obj)} {σ : L2.St} {H : Hp} {s : Shared}
/-- what was known as the def began is known -/
theorem celat (ok : S.Ok X) (I : Inv X pins σ H s) : CelAt S.cel X.stack H s.heap := fun p hp => by
  obtain ⟨h1, h2, h3, u, r, o, ho, hd⟩ := ok.cel p hp
  refine ⟨I.base.free _ o ho h1 h3, fun m => ?_, u, r, o, I.base.keep _ o ho h1 h2 h3, hd⟩
  rcases List.mem_cons.mp (I.stkSub _ m) with e | e
  · exact absurd (Heap.lt_size ho) (Nat.not_lt.mpr (by rw [e]; exact I.ok.above))
  · exact h2 e
/-- the def's own cells -/
def Own1 (S : Sx) (σ : L2.St) (p : Addr × V) : Prop := S.top = true ∧ ∃ (l : List (Str × Addr)) (y : Str) (i : Nat), S.ce = some l ∧ l.lookup y = some p.1 ∧ S.N[i]? = some y ∧ σ[i]? = some (some p.2) ∧ S.sc.names.lookup y = some .cell
theorem own_cel {p : Addr × V} (ok : S.Ok X) (I : Inv X pins σ H s) (h : Own1 S σ p) : H p.1 = none ∧ p.1 ∉ frs X.stack ∧ ∃ u, RelV p.2 u ∧ s.heap.IsCell p.1 (some u) := by
  obtain ⟨ht, l, y, i, hl, ly, hN, hs, hk⟩ := h
  have el : X.env.cells = l := ok.ce l hl
  subst el
  obtain ⟨_, _, hfn⟩ := ok.top ht
  obtain ⟨m, hn, hloc⟩ := I.loc
  have hk' : X.env.scope.names.lookup y = some .cell := by rw [ok.sc]; exact hk
  obtain ⟨u, r, lk⟩ := hloc i y p.2 (by rw [ok.N]; exact hN) hs (.inr (.inl hk'))
  have ic : s.heap.IsCell p.1 (some u) := by
    rcases lk with ⟨z, _⟩ | ⟨_, c, hc, z⟩
    · have z : X.env.scope.names.lookup y = some .local := z
      rw [hk'] at z; cases z
    · rw [ly] at hc; cases hc; exact z
  refine ⟨I.freeC y _ ly, fun mm => ?_, u, r, ic⟩
  have ge := I.ok.cab y _ (hfn y) ly
  rcases List.mem_cons.mp (I.stkSub _ mm) with e | e
  · obtain ⟨o, ho, hd⟩ := ic
    obtain ⟨o', es, ep, ho', hd', _⟩ := hn
    rw [e, ho'] at ho
    cases ho
    rw [hd'] at hd; cases hd
  · obtain ⟨_, o, ho, _⟩ := I.ok.funs.mem e
    exact absurd (Heap.lt_size ho) (Nat.not_lt.mpr ge)
theorem celat2 {cel : List (Addr × V)} (ok : S.Ok X) (I : Inv X pins σ H s) (h : ∀ p ∈ cel, p ∈ S.cel ∨ Own1 S σ p) : CelAt cel X.stack H s.heap := fun p hp => (h p hp).elim (fun z => celat ok I p z) fun z => own_cel ok I z
end
/-! ### what a function that was handed on promises -/
def Da.isFn : Da → Bool
  | .lm _ => true
  | .clo _ _ => true
  | _ => false
theorem lamO_at {P : Program} {w : World} {H : Hp} {h : Heap} {f c' : Addr} {L : LamD} (hok : HOk P w H h) (e : H f = some (LamO f L c')) : ∃ pm ctv : Value, h.get? f = some (PySem.W.kla_obj "<lambda>" L.q L.params L.body L.scope [] pm c' ctv) := by
  obtain ⟨z, _, _⟩ := hok f _ e
  exact z
theorem fnC_at {P : Program} {w : World} {H : Hp} {h : Heap} {f : Addr} {F : Clo} (hok : HOk P w H h) (e : H f = some (FnC f F)) : ∃ (od : Option Addr) (sl : Array (Option Value)) (doc pm ctv : Value), h.get? f = some (⟨.type "function", od, .func (F.fd doc pm ctv), sl⟩ : Obj) := by
  obtain ⟨z, _, _⟩ := hok f _ e
  exact z
theorem codeO_rec {P : Program} {w : World} {H : Hp} {h : Heap} {c : Addr} {q : Str} (hok : HOk P w H h) (e : H c = some (LamX.CodeO c q)) : h.CodeRec (.ref c) q := by
  obtain ⟨⟨oc, vs, t, h1, h2, h3⟩, _, _⟩ := hok c _ e
  exact ⟨c, oc, vs, t, rfl, h1, h2, h3⟩
/-- the object of F, whether it was made in a def or is one of the module -/
theorem fnHas_at {P : Program} {w : World} {K : PySem.W.Frag} {H : Hp} {h : Heap} {f : Addr} {F : Clo} (hok : HOk P w H h) (KX : K.In h) (e : FnHas K H f F) : (∃ (oc : Value) (od : Option Addr) (sl : Array (Option Value)) (doc pm ctv : Value), h.get? f = some (⟨oc, od, .func (F.fd doc pm ctv), sl⟩ : Obj)) ∧ h.CodeRec (.ref F.c) F.qual := by
  rcases e with ⟨e1, e2⟩ | ⟨_, ⟨oc, od, sl, doc, pm, ctv, lk⟩, hc, _⟩
  · obtain ⟨od, sl, doc, pm, ctv, z⟩ := fnC_at hok e1
    exact ⟨⟨_, od, sl, doc, pm, ctv, z⟩, codeO_rec hok e2⟩
  · exact ⟨⟨oc, od, sl, doc, pm, ctv, KX _ _ lk⟩, PySem.W.codeRec_of KX hc⟩
theorem rep_fnAt {P : Program} {w : World} {K : PySem.W.Frag} {H : Hp} {h : Heap} {f : Da} {v : V} (hf : f.isFn = true) (hok : HOk P w H h) (KX : K.In h) (r : Rep K H f v) : ∃ a, v = .ref a ∧ PySem.W.FnAt a h := by
  cases f <;> first | cases hf | skip
  · unfold Rep at r
    obtain ⟨a, c', rfl, h1, h2⟩ := r
    obtain ⟨pm, ctv, z⟩ := lamO_at hok h1
    exact ⟨a, rfl, _, _, _, _, z⟩
  · unfold Rep at r
    obtain ⟨a, rfl, h1, _⟩ := r
    obtain ⟨⟨oc, od, sl, doc, pm, ctv, z⟩, _⟩ := fnHas_at hok KX h1
    exact ⟨a, rfl, _, _, _, _, z⟩
def spF (f : Da) (spec : Fd) : Fd := fun ds q er => ∃ r, ds = f :: r ∧ spec r q er
theorem spF_rep {K : PySem.W.Frag} {Tq : List (Addr × Str)} {f : Da} {spec : Fd} {v : V} {vs : List V} {H : Hp} {Q : VK} {E : XK} (h : SpD K Tq (spF f spec) (v :: vs) H Q E) : Rep K H f v := by
  obtain ⟨ds, Hf, q, er, e, tb, r, ⟨d2, rfl, _⟩, _⟩ := h
  unfold Reps at r
  obtain ⟨x, l, e2, r1, _⟩ := r
  cases e2
  exact Rep.mono (e.trans strip_sub) _ _ r1
theorem spF_spec {K : PySem.W.Frag} {Tq : List (Addr × Str)} {f : Da} {spec : Fd} {v : V} {vs : List V} {H : Hp} {Q : VK} {E : XK} (h : SpD K Tq (spF f spec) (v :: vs) H Q E) : SpD K Tq spec vs H Q E := by
  obtain ⟨ds, Hf, q, er, e, tb, r, ⟨d2, rfl, hs⟩, h1, h2⟩ := h
  unfold Reps at r
  obtain ⟨x, l, e2, _, r2⟩ := r
  cases e2
  exact ⟨d2, Hf, q, er, e, tb, r2, hs, h1, h2⟩
/-- the data f is a function that keeps the promise, where the cells cel are known -/
structure CallC (P : Program) (w : World) (K : PySem.W.Frag) (mg : Str → Option Value) (base : Heap) (k : Nat) (Tq : List (Addr × Str)) (cel : List (Addr × V)) (f : Da) (n : Nat) (spec : Fd) : Prop where
  fn : f.isFn = true
  len : ∀ ds q er, spec ds q er → ds.length = n
  run : ∀ (A : Around) (outer : List Env) (s : Shared) (H : Hp) (a : Addr) (us : List Value) (vs : List V) (Q : VK) (E : XK), Room k A → A.guards = some [] → Env0 P w K mg base A outer s H → CelAt cel outer H s.heap → Vals vs us →
    SpD K Tq (spF f spec) (.ref a :: vs) H Q E → codeAny (model P w) A (.call (.ref a) ⟨us, []⟩) (CR (L2.CX P w) outer P w H s Q E) s
section
variable {P : Program} {w : World} {K : PySem.W.Frag} {mg : Str → Option Value} {base : Heap} {j k n : Nat} {Tq : List (Addr × Str)} {cel cel' : List (Addr × V)} {f : Da} {spec spec' : Fd}
theorem CallC.mono (c : CallC P w K mg base j Tq cel f n spec) (h : j ≤ k) : CallC P w K mg base k Tq cel f n spec := ⟨c.fn, c.len, fun A outer s H a us vs Q E hr => c.run A outer s H a us vs Q E (hr.mono h)⟩
theorem CallC.more (c : CallC P w K mg base k Tq cel f n spec) (h : ∀ p ∈ cel, p ∈ cel') : CallC P w K mg base k Tq cel' f n spec := ⟨c.fn, c.len, fun A outer s H a us vs Q E hr g e0 hc => c.run A outer s H a us vs Q E hr g e0 fun p hp => hc p (h p hp)⟩
theorem CallC.imp (c : CallC P w K mg base k Tq cel f n spec) (h : ∀ ds q er, spec' ds q er → spec ds q er) : CallC P w K mg base k Tq cel f n spec' :=
  ⟨c.fn, fun ds q er z => c.len ds q er (h _ _ _ z), fun A outer s H a us vs Q E hr g e0 hc rv ⟨ds, Hf, q, er, z1, z2, z3, ⟨r, e, z4⟩, z5⟩ => c.run A outer s H a us vs Q E hr g e0 hc rv ⟨ds, Hf, q, er, z1, z2, z3, ⟨r, e, h _ _ _ z4⟩, z5⟩⟩
/-- a lambda that captures nothing -/
theorem CallC.lm {L : LamD} {ps : List Str} (G : LamG P w K mg base k L ps (SpD K Tq spec)) (hb : LBind L ps) (hl : ∀ ds q er, spec ds q er → ds.length = ps.length) : CallC P w K mg base k Tq cel (.lm L) ps.length spec :=
  ⟨rfl, hl, fun A outer s H a us vs Q E hr g e0 _ rv q => by
    have r := spF_rep q
    have q := spF_spec q
    unfold Rep at r
    obtain ⟨f, c', ea, h1, h2⟩ := r
    cases ea
    obtain ⟨pm, ctv, ho⟩ := lamO_at e0.hok h1
    obtain ⟨⟨oc, xs, tt, c1, c2, c3⟩, _, _⟩ := e0.hok c' _ h2
    exact G.run A outer s H a c' pm ctv ⟨us, []⟩ us vs Q E hr g e0 ho ⟨oc, xs, tt, c1, c2, c3⟩ (.of_eq (hb _ _ _ us (by rw [← rv.length]; exact G.len _ _ _ _ q))) rv q⟩
end
/-- a(..), a a name that holds a function -/
theorem peV {X : Cx} {a : Str} {i k n : Nat} {Tq : List (Addr × Str)} {cel : List (Addr × V)} {f : Da} {spec : Fd} {E : XK} {e : Expr} {es : List Expr} {t : TA} {p pos : Pos} (hN : X.N[i]? = some a) (hv : Vis X.env.scope a) (G : CallC X.prog X.w X.K X.mg X.base k Tq cel f n spec) (hr : Room k X.A) (hgd : X.A.guards = some [])
    (hcel : ∀ (pins : List (Addr × Obj)) (σ : L2.St) (H : Hp) (s : Shared), Inv X pins σ H s → CelAt cel X.stack H s.heap) (hx : Passes (L2.CX X.prog X.w) X E) (ha : PA X (e :: es) t) (hd : (a == ("__debug__" : Str)) = false) (hcd : (a == ("__classdict__" : Str)) = false)
    (he : starEach (e :: es) X.env = (false, eval e X.env) :: starEach es X.env) (hpl : (backTo pos (starEach es X.env)).any (·.1) = false) :
    PE X (.Call (.Name a p) (e :: es) [] pos) (fun σ H Q => ∃ v, σ[i]? = some (some v) ∧ Rep X.K H f v ∧ t σ H fun vs H1 => SpD X.K Tq (spF f spec) (v :: vs) H1 Q E) := by
  refine ⟨fun pins s σ H Q I ⟨v, hs, hf, h⟩ => wpAny_Call_Name_kw (thn ((pe_var (pos := p) (i := i) hN hv hd hcd).run pins s σ H (fun v1 H1 => v1 = v ∧ H1 = H) I ⟨v, hs, rfl, rfl⟩) fun u s1 ⟨v1, H1, I1, r1, q1⟩ => ?_)⟩
  obtain ⟨ev, eH⟩ := q1
  subst ev
  rw [eH] at I1
  obtain ⟨b, rfl, hb⟩ := rep_fnAt G.fn I1.hok I1.kIn hf
  obtain rfl : u = Value.ref b := r1
  refine PySem.W.callWith_F hb (thn (ha.run pos pins s1 σ H _ I1 h) fun us s2 ⟨vs, H2, I2, r, q⟩ => ?_) he hpl
  obtain ⟨b2, e2, hb2⟩ := rep_fnAt G.fn I2.hok I2.kIn (spF_rep q)
  cases e2
  refine ⟨hb2, wpAny_call (codeAny_mono (G.run X.A X.stack s2 H2 b us vs Q E hr hgd I2.env0 (hcel _ _ _ _ I2) r q) fun res s' hq => ?_)⟩
  match res, hq with
  | .error e, hq => exact hx pins σ H2 s2 e s' I2 hq
  | .ok (.ret u), hq => exact I2.after hq
  | .ok .next, hq => exact False.elim hq
  | .ok .brk, hq => exact False.elim hq
  | .ok .cont, hq => exact False.elim hq
theorem peV0 {X : Cx} {a : Str} {i k n : Nat} {Tq : List (Addr × Str)} {cel : List (Addr × V)} {f : Da} {spec : Fd} {E : XK} {p pos : Pos} (hN : X.N[i]? = some a) (hv : Vis X.env.scope a) (G : CallC X.prog X.w X.K X.mg X.base k Tq cel f n spec) (hr : Room k X.A) (hgd : X.A.guards = some [])
    (hcel : ∀ (pins : List (Addr × Obj)) (σ : L2.St) (H : Hp) (s : Shared), Inv X pins σ H s → CelAt cel X.stack H s.heap) (hx : Passes (L2.CX X.prog X.w) X E) (hd : (a == ("__debug__" : Str)) = false) (hcd : (a == ("__classdict__" : Str)) = false) :
    PE X (.Call (.Name a p) [] [] pos) (fun σ H Q => ∃ v, σ[i]? = some (some v) ∧ SpD X.K Tq (spF f spec) [v] H Q E) := by
  refine ⟨fun pins s σ H Q I ⟨v, hs, q⟩ => wpAny_Call_Name_kw (thn ((pe_var (pos := p) (i := i) hN hv hd hcd).run pins s σ H (fun v1 H1 => v1 = v ∧ H1 = H) I ⟨v, hs, rfl, rfl⟩) fun u s1 ⟨v1, H1, I1, r1, q1⟩ => ?_)⟩
  obtain ⟨ev, eH⟩ := q1
  subst ev
  rw [eH] at I1
  obtain ⟨b, rfl, hb⟩ := rep_fnAt G.fn I1.hok I1.kIn (spF_rep q)
  obtain rfl : u = Value.ref b := r1
  refine PySem.W.callWith_F0 (first := []) hb ?_
  refine wpAny_call (codeAny_mono (G.run X.A X.stack s1 H b [] [] Q E hr hgd I1.env0 (hcel _ _ _ _ I1) .nil q) fun res s' hq => ?_)
  match res, hq with
  | .error e, hq => exact hx pins σ H s1 e s' I1 hq
  | .ok (.ret u), hq => exact I1.after hq
  | .ok .next, hq => exact False.elim hq
  | .ok .brk, hq => exact False.elim hq
  | .ok .cont, hq => exact False.elim hq
section
variable {S : Sx} {Γ : List Slot} {e : Expr} {es : List Expr} {Q : Da → Prop} {p pos : Pos} {a : Str} {i k n : Nat} {spec : Fd} {f : Da} {D : EnG}
theorem slot_fn {s : Option Slot} (hΓ : Γ[i]? = some (.dat f) ∨ ∃ v, Γ[i]? = some (.vd f v)) {PX Hf H : Hp} {σ : L2.St} (st : Stt S PX Γ Hf H σ) : ∃ v, σ[i]? = some (some v) ∧ Rep S.K Hf f v := by
  obtain ⟨v, ev, r⟩ : ∃ v, (σ[i]?).join = some v ∧ Rep S.K Hf f v := by
    rcases hΓ with h | ⟨v, h⟩
    · exact st.at_ i _ h
    · exact ⟨v, st.at_ i _ h⟩
  refine ⟨v, ?_, r⟩
  cases z : σ[i]? with
  | none => rw [z] at ev; cases ev
  | some o => rw [z] at ev; exact congrArg some ev
/-- x(..), x a name that holds a function -/
theorem ev_callV (G : CallC S.P S.w S.K S.mg S.base k S.T S.cel f n spec) (hk : k ≤ S.k) (hO : OpsIn S Γ) (hN : S.N[i]? = some a) (hv : Vis S.sc a) (hΓ : Γ[i]? = some (.dat f)) (h : EvA S Γ (e :: es) fun ds => spec ds Q S.E)
    (hd : (a == ("__debug__" : Str)) = false := by decide) (hcd : (a == ("__classdict__" : Str)) = false := by decide) (he : ∀ env, starEach (e :: es) env = (false, eval e env) :: starEach es env := by intro _; rfl) (hpl : ∀ env, (backTo pos (starEach es env)).any (·.1) = false := by intro _; rfl) (hc : S.calm = true := by rfl) :
    EvE S Γ (.Call (.Name a p) (e :: es) [] pos) Q := by
  refine ev_of (t := fun σ H Q => ∃ v, σ[i]? = some (some v) ∧ Rep S.K H f v ∧ (tUA S (e :: es)) σ H fun vs H1 => SpD S.K S.T (spF f spec) (v :: vs) H1 Q (fun cls d H => S.WX cls d [] H)) (fun X ok => ?_) ?_
  · have z := peV (X := X) (p := p) (pos := pos) (i := i) (spec := spec) (E := fun cls d H => S.WX cls d [] H) (by rw [ok.N]; exact hN) (by rw [ok.sc]; exact hv) (by rw [ok.P, ok.w, ok.K, ok.mg, ok.base]; exact G) ((ok.room hc).mono hk) ok.gd (fun pins σ H s I => celat ok I) ok.passes (puA ok) hd hcd (he _) (hpl _)
    rw [ok.K] at z
    exact z
  intro PX σ H Hf k st hk
  obtain ⟨v, ev, r⟩ := slot_fn (s := none) (.inl hΓ) st
  refine ⟨v, ev, Rep.mono st.ex _ _ r, ?_⟩
  refine h PX σ H Hf _ st fun ds vs Hf1 H1 e1 st1 r1 q1 => ?_
  exact sp_call (ds := f :: ds) st1 hO ⟨v, vs, rfl, Rep.mono e1 _ _ r, r1⟩ ⟨ds, rfl, q1⟩ fun d v Hf' H' e2 => hk d v Hf' H' (e1.trans e2)
theorem ev_callV0 (G : CallC S.P S.w S.K S.mg S.base k S.T S.cel f n spec) (hk : k ≤ S.k) (hO : OpsIn S Γ) (hN : S.N[i]? = some a) (hv : Vis S.sc a) (hΓ : Γ[i]? = some (.dat f)) (h : spec [] Q S.E)
    (hd : (a == ("__debug__" : Str)) = false := by decide) (hcd : (a == ("__classdict__" : Str)) = false := by decide) (hc : S.calm = true := by rfl) :
    EvE S Γ (.Call (.Name a p) [] [] pos) Q := by
  refine ev_of (t := fun σ H Q => ∃ v, σ[i]? = some (some v) ∧ SpD S.K S.T (spF f spec) [v] H Q (fun cls d H => S.WX cls d [] H)) (fun X ok => ?_) ?_
  · have z := peV0 (X := X) (p := p) (pos := pos) (i := i) (spec := spec) (E := fun cls d H => S.WX cls d [] H) (by rw [ok.N]; exact hN) (by rw [ok.sc]; exact hv) (by rw [ok.P, ok.w, ok.K, ok.mg, ok.base]; exact G) ((ok.room hc).mono hk) ok.gd (fun pins σ H s I => celat ok I) ok.passes hd hcd
    rw [ok.K] at z
    exact z
  intro PX σ H Hf k st hk
  obtain ⟨v, ev, r⟩ := slot_fn (s := none) (.inl hΓ) st
  exact ⟨v, ev, sp_call (ds := [f]) st hO ⟨v, [], rfl, r, rfl⟩ ⟨[], rfl, h⟩ fun d v Hf' H' e2 => hk d v Hf' H' e2⟩
/-- a name whose value is told -/
theorem ev_varV {x : Str} {d : Da} {v : V} (hN : S.N[i]? = some x) (hv : Vis S.sc x) (hΓ : Γ[i]? = some (.vd d v)) (q : Q d)
    (hd : (x == ("__debug__" : Str)) = false := by decide) (hcd : (x == ("__classdict__" : Str)) = false := by decide) : EvE S Γ (.Name x pos) Q :=
  ev_of (fun X ok => pe_var (i := i) (by rw [ok.N]; exact hN) (by rw [ok.sc]; exact hv) hd hcd) fun PX σ H Hf k st hk => by
    obtain ⟨e, r⟩ := st.at_ i _ hΓ
    refine ⟨v, ?_, hk d v Hf H (Sub.refl _) st r q⟩
    cases z : σ[i]? with
    | none => rw [z] at e; cases e
    | some o => rw [z] at e; exact congrArg some e
/-- a slot's value is told from here on -/
theorem eb_pin {sts : List Stmt} {d : Da} (hΓ : Γ[i]? = some (.dat d)) (h : ∀ v, EvB S (Γ.set i (.vd d v)) sts D) : EvB S Γ sts D := fun PX σ H Hf D' st kk => by
  have hi : i < Γ.length := (List.getElem?_eq_some_iff.mp hΓ).1
  obtain ⟨v, ev, r⟩ := st.z.at_ i _ hΓ
  have sl : ∀ {j : Nat} {s : Slot}, (Γ.set i (.vd d v))[j]? = some s → (j = i ∧ s = .vd d v) ∨ (j ≠ i ∧ Γ[j]? = some s) := fun {j s} e => by
    by_cases c : i = j
    · subst c
      rw [List.getElem?_set_self hi] at e
      cases e; exact .inl ⟨rfl, rfl⟩
    · rw [List.getElem?_set_ne c] at e
      exact .inr ⟨fun z => c z.symm, e⟩
  have so : ∀ {j : Nat} {p : Addr} {k' : Kd} {I' : List Da → Prop}, (Γ.set i (.vd d v))[j]? = some (.ow p k' I') → Γ[j]? = some (.ow p k' I') := fun {j p k' I'} e => by
    rcases sl e with ⟨rfl, z⟩ | ⟨_, z⟩
    · cases z
    · exact z
  refine h v PX σ H Hf D' ⟨⟨by rw [List.length_set]; exact st.z.len, st.z.ex0, st.z.ex, st.z.keep, st.z.ops, fun j s e => ?_, fun j p k' I' e => st.z.new j p k' I' (so e), st.z.fr, st.z.px, st.z.pf, fun j p k' I' e => st.z.pi j p k' I' (so e), fun j1 j2 p k1 k2 I1 I2 e1 e2 => st.z.sep j1 j2 p k1 k2 _ _ (so e1) (so e2)⟩, st.tb⟩ kk
  rcases sl e with ⟨rfl, rfl⟩ | ⟨_, e⟩
  · exact ⟨ev, r⟩
  · exact st.z.at_ j s e
end
end GX

namespace GX
open PySem PySem.Spec PyProof.Rows L2
/-! ## a function made in a def, by its body -/
abbrev nfOf (F : Clo) : NdefX.NF := ⟨F.name, F.qual, F.params, [], F.scope, F.cl, F.c⟩
theorem clo_cells {F : Clo} {cel : List (Addr × V)} {outer : List Env} {H : Hp} {h : Heap} (wf : CloWf F) (hi : F.In cel) (hc : CelAt cel outer H h) : NdefX.CellsAt F.cl F.fr (F.ws.map some) h H := by
  have at_ : ∀ (i : Nat) (y : Str), F.fr[i]? = some y → ∀ c, F.cl.lookup y = some c → ∃ v, F.ws[i]? = some v ∧ (c, v) ∈ cel := fun i y e c ec => by
    have hlt : i < F.ws.length := by rw [wf.len]; exact (List.getElem?_eq_some_iff.mp e).1
    exact ⟨F.ws[i], List.getElem?_eq_getElem hlt, hi i y c _ e ec (List.getElem?_eq_getElem hlt)⟩
  refine ⟨by rw [List.length_map]; exact wf.len, fun y c e => ?_, wf.inj, fun i y e => ?_⟩
  · obtain ⟨i, hi'⟩ := List.mem_iff_getElem?.mp (wf.sub y c e)
    obtain ⟨v, _, m⟩ := at_ i y hi' c e
    obtain ⟨h1, _, u, _, ic⟩ := hc _ m
    exact ⟨h1, _, ic⟩
  · obtain ⟨c, ec⟩ := wf.has y (List.mem_of_getElem? e)
    refine ⟨c, ec, fun v ev => ?_⟩
    obtain ⟨v', hv, m⟩ := at_ i y e c ec
    rw [List.getElem?_map, hv] at ev
    cases ev
    obtain ⟨_, _, u, r, ic⟩ := hc _ m
    exact ⟨u, r, ic⟩
section
variable {CX : CXT} {P : Program} {w : World} {K : PySem.W.Frag} {mg : Str → Option Value} {base : Heap} {N ps : List Str} {F : Clo} {k : Nat} {A : Around} {outer : List Env} {s : Shared} {H : Hp} {f : Addr} {us : List Value} {vs : List V} {Q : VK} {E : XK} {oc doc pm ctv : Value} {od : Option Addr} {sl : Array (Option Value)}
theorem clo_runS {b : List Stmt} (C : NdefX.NScope N ps F.fr F.scope) (hB : F.body = .stmts b) (ho : s.heap.get? f = some (⟨oc, od, .func (F.fd doc pm ctv), sl⟩ : Obj)) (hcode : s.heap.CodeRec (.ref F.c) F.qual) (hr : Room (k + 1) A) (e0 : Env0 P w K mg base A outer s H)
    (hb : bindArgs (F.fd doc pm ctv) ⟨us, []⟩ = pure (ps.zip us)) (r : Vals vs us) (hl : vs.length = ps.length) (cells : NdefX.CellsAt F.cl F.fr (F.ws.map some) s.heap H)
    (hbody : Room k (A.deeper (NdefX.envF (nfOf F) f s.heap.objs.size)) → ∃ t, PSs (NdefX.ncx CX P w K mg base N (nfOf F) f A outer s H E) b t ∧ t { nx := fun _ H' => Q .non H', rt := Q } (NdefX.startF N vs (F.ws.map some)) H) :
    codeAny (model P w) A (.call (.ref f) ⟨us, []⟩) (CR CX outer P w H s Q E) s := by
  have lim : s.heap.NoLimit := e0.mod.nolimit.keeps fun b o e => (e0.bs b o e).1
  refine codeAny_call_function hr.depth ho rfl C.co C.gen hB hcode ?_
  rw [hb]
  refine wpAny_pure (wpAny_newFunctionEnv C.nocell (fun ⟨n, _⟩ hy => C.par n (List.of_mem_zip hy).1) (fun h₁ hns hsb => ⟨lim.fresh _ hsb, ?_⟩) C.kind)
  show codeAny _ _ (.func b (NdefX.envF (nfOf F) f s.heap.objs.size)) _ _
  refine codeAny_func ?_
  have kp : ∀ b o, s.heap.get? b = some o → h₁.get? b = some o := fun b o e => hsb.extBut b o (Nat.ne_of_lt (Heap.lt_size e)) (Heap.get?_push_of_some _ e)
  obtain ⟨t, ht, hq⟩ := hbody (hr.deeper _)
  have I : Inv (NdefX.ncx CX P w K mg base N (nfOf F) f A outer s H E) [] (NdefX.startF N vs (F.ws.map some)) H { s with heap := h₁, toks := s.toks + (ps.zip us).length } := NdefX.inv_startN C hr.hd e0 hl r cells hns kp
  refine wpAny_mono (ht.run [] _ (NdefX.startF N vs (F.ws.map some)) H _ I hq) (fun fl s' hs => ?_) fun e s' hs => hs
  match fl, hs with
  | .ret u, ⟨v, _, H', J, rv, q⟩ => exact ⟨v, H', J.os, J.bare, J.base, J.hok, rv, q⟩
  | .next, ⟨_, H', J, q⟩ => exact ⟨V.non, H', J.os, J.bare, J.base, J.hok, rfl, q⟩
  | .brk, ⟨_, _, _, q⟩ => exact False.elim q
  | .cont, ⟨_, _, _, q⟩ => exact False.elim q
theorem clo_runE {b : Expr} (C : NdefX.NScope N ps F.fr F.scope) (hB : F.body = .expr b) (ho : s.heap.get? f = some (⟨oc, od, .func (F.fd doc pm ctv), sl⟩ : Obj)) (hcode : s.heap.CodeRec (.ref F.c) F.qual) (hr : Room (k + 1) A) (e0 : Env0 P w K mg base A outer s H)
    (hb : bindArgs (F.fd doc pm ctv) ⟨us, []⟩ = pure (ps.zip us)) (r : Vals vs us) (hl : vs.length = ps.length) (cells : NdefX.CellsAt F.cl F.fr (F.ws.map some) s.heap H)
    (hbody : Room k (A.deeper (NdefX.envF (nfOf F) f s.heap.objs.size)) → ∃ t : TE, PE (NdefX.ncx CX P w K mg base N (nfOf F) f A outer s H E) b t ∧ t (NdefX.startF N vs (F.ws.map some)) H Q) :
    codeAny (model P w) A (.call (.ref f) ⟨us, []⟩) (CR CX outer P w H s Q E) s := by
  have lim : s.heap.NoLimit := e0.mod.nolimit.keeps fun b o e => (e0.bs b o e).1
  refine PySem.W.kla_callFunE hr.depth ho rfl C.co C.gen hB hcode ?_
  rw [hb]
  refine wpAny_pure (wpAny_newFunctionEnv C.nocell (fun ⟨n, _⟩ hy => C.par n (List.of_mem_zip hy).1) (fun h₁ hns hsb => ⟨lim.fresh _ hsb, ?_⟩) C.kind)
  show codeAny _ _ (.expr b (NdefX.envF (nfOf F) f s.heap.objs.size)) _ _
  refine PySem.W.kla_codeExpr ?_
  have kp : ∀ b o, s.heap.get? b = some o → h₁.get? b = some o := fun b o e => hsb.extBut b o (Nat.ne_of_lt (Heap.lt_size e)) (Heap.get?_push_of_some _ e)
  obtain ⟨t, ht, hq⟩ := hbody (hr.deeper _)
  have I : Inv (NdefX.ncx CX P w K mg base N (nfOf F) f A outer s H E) [] (NdefX.startF N vs (F.ws.map some)) H { s with heap := h₁, toks := s.toks + (ps.zip us).length } := NdefX.inv_startN C hr.hd e0 hl r cells hns kp
  exact wpAny_mono (ht.run [] _ (NdefX.startF N vs (F.ws.map some)) H _ I hq) (fun u s' ⟨v, H', J, rv, q⟩ => ⟨v, H', J.os, J.bare, J.base, J.hok, rv, q⟩) fun e s' hs => hs
end
/-- the frame of such a function -/
def mkN (Tq : List (Addr × Str)) (P : Program) (w : World) (K : PySem.W.Frag) (mg : Str → Option Value) (base : Heap) (N : List Str) (sc : Scope) (k : Nat) (F0 H0 : Hp) (E : Er) (cel : List (Addr × V)) : Sx :=
  ⟨P, w, K, mg, base, N, sc, k, F0, H0, [], E, fun x => decide (sc.names.lookup x = some .local), Tq, .none, "", true, none, cel, none, false⟩
section
variable {Tq : List (Addr × Str)} {P : Program} {w : World} {K : PySem.W.Frag} {mg : Str → Option Value} {base : Heap} {k : Nat} {N ps : List Str} {F : Clo} {cel : List (Addr × V)} {caps : List Da} {spec : Fd}
theorem ok_clo {f : Addr} {A : Around} {outer : List Env} {s : Shared} {H F0 H0 : Hp} {E : XK} {er : Er} (hr : Room k (A.deeper (NdefX.envF (nfOf F) f s.heap.objs.size))) (hgd : A.guards = some []) (nd : N.Nodup) (hc : CelAt cel outer H s.heap)
    (hE : ∀ cls d σ H', (mkN Tq P w K mg base N F.scope k F0 H0 er cel).WX cls d σ H' → E cls d H') : (mkN Tq P w K mg base N F.scope k F0 H0 er cel).Ok (NdefX.ncx (L2.CX P w) P w K mg base N (nfOf F) f A outer s H E) where
  P := rfl
  w := rfl
  K := rfl
  mg := rfl
  base := rfl
  N := rfl
  sc := rfl
  calm := fun _ => rfl
  room := fun _ => hr
  un := Nat.lt_of_le_of_lt (Nat.add_le_add_right (Nat.le_add_right _ (16 * k)) 200) hr.un
  cel := fun p hp => by
    obtain ⟨h1, h2, h3⟩ := hc p hp
    exact ⟨h1, h2, List.not_mem_nil, h3⟩
  ce := fun _ z => nomatch z
  top := fun z => nomatch z
  xc := fun _ _ _ _ z => nomatch z
  gd := hgd
  nd := nd
  tk := (takes_of (E := E) rfl rfl rfl rfl).imp fun c d σ H' h => hE c d σ H' h
  po := passes_of rfl
  fn := fun x h => .inr (of_decide_eq_true h)
  cd := fun z => (z rfl).elim
  ql := fun z => (z rfl).elim
theorem startF_eq {vs ws : List V} : NdefX.startF N vs (ws.map some) = L2.start N (vs ++ ws) := by
  unfold NdefX.startF L2.start
  rw [List.map_append, List.append_assoc, List.length_append, List.length_map, Nat.sub_sub]
theorem clo_stt {Hf H : Hp} {ds : List Da} {vs : List V} {er : Er} (e : Sub Hf (strip Tq H)) (tb : TabF Tq Hf H) (r : Reps K Hf (ds ++ caps) vs) :
    Stt (mkN Tq P w K mg base N F.scope k Hf (strip Tq H) er cel) (fun _ => none) (st0 (ds ++ caps) N.length) Hf H (L2.start N vs) := by
  refine ⟨?_, tb⟩
  refine ⟨?_, Sub.refl _, e, fun q o h _ => h, fun q h => (nomatch h), fun i s h => ?_, fun i p k I h => ?_, fun p h1 h2 => absurd h2 h1, fun _ _ z => (nomatch z), fun p h => absurd rfl h, fun _ _ _ _ _ => rfl, fun i j p k l I J h => ?_⟩
  · unfold L2.start st0
    rw [List.length_append, List.length_map, List.length_replicate, List.length_append, List.length_map, List.length_replicate, r.len]
  · rcases st0_get h with ⟨d, h1, rfl⟩ | rfl
    · obtain ⟨v, h2, h3⟩ := r.get h1
      exact ⟨v, by rw [start_get h2]; rfl, h3⟩
    · trivial
  · rcases st0_get h with ⟨d, h1, z⟩ | z <;> cases z
  · rcases st0_get h with ⟨d, h1, z⟩ | z <;> cases z
theorem Reps.append {H : Hp} : ∀ {ds : List Da} {vs : List V} {es : List Da} {ws : List V}, Reps K H ds vs → Reps K H es ws → Reps K H (ds ++ es) (vs ++ ws)
  | [], _, _, _, h, h2 => by unfold Reps at h; subst h; exact h2
  | d :: ds, _, _, _, h, h2 => by
    unfold Reps at h
    obtain ⟨x, l, rfl, h, h3⟩ := h
    exact ⟨x, _, rfl, h, Reps.append h3 h2⟩
theorem spF_clo {v : V} {vs : List V} {H : Hp} {Q : VK} {E : XK} {F : Clo} (h : SpD K Tq (spF (.clo F caps) spec) (v :: vs) H Q E) : ∃ ds Hf q er, Sub Hf (strip Tq H) ∧ TabF Tq Hf H ∧ Reps K Hf (ds ++ caps) (vs ++ F.ws) ∧ vs.length = ds.length ∧ spec ds q er ∧
    (∀ d v Hf' H', Gr Hf (strip Tq H) Hf' (strip Tq H') → Sub (strip Tq H) (strip Tq H') → TabF Tq Hf' H' → Rep K Hf' d v → q d → Q v H') ∧
    (∀ cls x fs Hf' H', Gr Hf (strip Tq H) Hf' (strip Tq H') → Sub (strip Tq H) (strip Tq H') → TabF Tq Hf' H' → XRep K Hf' x fs → er cls fs → E cls x H') := by
  obtain ⟨ds, Hf, q, er, e, tb, r, ⟨d2, rfl, hs⟩, h1, h2⟩ := h
  unfold Reps at r
  obtain ⟨x, l, e2, r1, r2⟩ := r
  cases e2
  unfold Rep at r1
  obtain ⟨f, _, _, _, rc⟩ := r1
  exact ⟨d2, Hf, q, er, e, tb, r2.append rc, r2.len, hs, h1, h2⟩
/-- THE RULE: a function made in a def, by its body -/
theorem cloD {b : List Stmt} (C : NdefX.NScope N ps F.fr F.scope) (hB : F.body = .stmts b) (hb : ∀ (doc pm ctv : Value) (us : List Value), us.length = ps.length → bindArgs (F.fd doc pm ctv) ⟨us, []⟩ = pure (ps.zip us)) (hi : F.In cel) (len : ∀ ds q er, spec ds q er → ds.length = ps.length)
    (body : ∀ (F0 H0 : Hp) ds q er, spec ds q er → EvB (mkN Tq P w K mg base N F.scope k F0 H0 er cel) (st0 (ds ++ caps) N.length) b { nx := fun _ => q .non, rt := q }) : CallC P w K mg base (k + 1) Tq cel (.clo F caps) ps.length spec := by
  refine ⟨rfl, len, fun A outer s H a us vs Q E hr hgd e0 hc rv q => ?_⟩
  have r := spF_rep q
  unfold Rep at r
  obtain ⟨f, ea, hh, wf, _⟩ := r
  cases ea
  have KX : K.In s.heap := e0.mod.kin.keeps fun b o e => (e0.bs b o e).1
  obtain ⟨⟨oc, od, sl, doc, pm, ctv, ho⟩, hcode⟩ := fnHas_at e0.hok KX hh
  obtain ⟨ds, Hf, q, er, e, tb, rr, hl0, h, hQ, hE⟩ := spF_clo q
  have hl : vs.length = ps.length := hl0.trans (len ds q er h)
  refine clo_runS C hB ho hcode hr e0 (hb doc pm ctv us (by rw [← rv.length]; exact hl)) rv hl (clo_cells wf hi hc) fun hr' => ?_
  have st0' := clo_stt (P := P) (w := w) (mg := mg) (base := base) (k := k) (N := N) (F := F) (cel := cel) (er := er) e tb rr
  have gr : ∀ {Γ σ Hf' H'}, Stt (mkN Tq P w K mg base N F.scope k Hf (strip Tq H) er cel) (fun _ => none) Γ Hf' H' σ → (Gr Hf (strip Tq H) Hf' (strip Tq H') ∧ Sub (strip Tq H) (strip Tq H')) ∧ TabF Tq Hf' H' := fun z => ⟨⟨⟨z.z.ex0, z.z.ex, z.z.fr⟩, fun a o h => z.z.keep a o h (by exact List.not_mem_nil)⟩, z.tb⟩
  obtain ⟨t, h1, h2⟩ := body Hf (strip Tq H) ds q er h (fun _ => none) (L2.start N (vs ++ F.ws)) H Hf { nx := fun _ H' => Q .non H', rt := Q } st0' ⟨fun Γ σ Hf' H' _ z q => hQ .non .non Hf' H' (gr z).1.1 (gr z).1.2 (gr z).2 rfl q, fun d v Γ σ Hf' H' _ z _ rr q => hQ d v Hf' H' (gr z).1.1 (gr z).1.2 (gr z).2 rr q, fun _ _ _ _ _ _ z => z, fun _ _ _ _ _ _ z => z, fun _ _ _ _ _ _ _ _ _ _ _ _ _ z => z.elim⟩
  refine ⟨t, h1 _ (ok_clo hr' hgd C.nd hc fun cls d σ H' hw => ?_), by rw [startF_eq]; exact h2⟩
  obtain ⟨Hf', fs, a1, a2, a4, a3, _, a5, a6, a7⟩ := hw
  exact hE cls d fs Hf' H' ⟨a1, a2, a4⟩ (fun a o h => a3 a o h (by exact List.not_mem_nil)) a7 a5 a6
/-- .. a lambda -/
theorem cloE {b : Expr} (C : NdefX.NScope N ps F.fr F.scope) (hB : F.body = .expr b) (hb : ∀ (doc pm ctv : Value) (us : List Value), us.length = ps.length → bindArgs (F.fd doc pm ctv) ⟨us, []⟩ = pure (ps.zip us)) (hi : F.In cel) (len : ∀ ds q er, spec ds q er → ds.length = ps.length)
    (body : ∀ (F0 H0 : Hp) ds q er, spec ds q er → EvE (mkN Tq P w K mg base N F.scope k F0 H0 er cel) (st0 (ds ++ caps) N.length) b q) : CallC P w K mg base (k + 1) Tq cel (.clo F caps) ps.length spec := by
  refine ⟨rfl, len, fun A outer s H a us vs Q E hr hgd e0 hc rv q => ?_⟩
  have r := spF_rep q
  unfold Rep at r
  obtain ⟨f, ea, hh, wf, _⟩ := r
  cases ea
  have KX : K.In s.heap := e0.mod.kin.keeps fun b o e => (e0.bs b o e).1
  obtain ⟨⟨oc, od, sl, doc, pm, ctv, ho⟩, hcode⟩ := fnHas_at e0.hok KX hh
  obtain ⟨ds, Hf, q, er, e, tb, rr, hl0, h, hQ, hE⟩ := spF_clo q
  have hl : vs.length = ps.length := hl0.trans (len ds q er h)
  refine clo_runE C hB ho hcode hr e0 (hb doc pm ctv us (by rw [← rv.length]; exact hl)) rv hl (clo_cells wf hi hc) fun hr' => ?_
  have st0' := clo_stt (P := P) (w := w) (mg := mg) (base := base) (k := k) (N := N) (F := F) (cel := cel) (er := er) e tb rr
  obtain ⟨t, h1, h2⟩ := body Hf (strip Tq H) ds q er h (fun _ => none) (L2.start N (vs ++ F.ws)) H Hf Q st0' fun d v Hf' H' _ z rv q => hQ d v Hf' H' ⟨z.z.ex0, z.z.ex, z.z.fr⟩ (fun a o h => z.z.keep a o h (by exact List.not_mem_nil)) z.tb rv q
  refine ⟨t, h1 _ (ok_clo hr' hgd C.nd hc fun cls d σ H' hw => ?_), by rw [startF_eq]; exact h2⟩
  obtain ⟨Hf', fs, a1, a2, a4, a3, _, a5, a6, a7⟩ := hw
  exact hE cls d fs Hf' H' ⟨a1, a2, a4⟩ (fun a o h => a3 a o h (by exact List.not_mem_nil)) a7 a5 a6
end
end GX

namespace GX
open PySem PySem.Spec PyProof.Rows L2
/-! ## defs that are handed functions, defs that make them -/
/-- a def keeps its promise where the cells cel are known -/
structure FnGC (P : Program) (w : World) (K : PySem.W.Frag) (mg : Str → Option Value) (base : Heap) (k : Nat) (f : Addr) (fd : FuncData) (ps : List Str) (cel : List (Addr × V)) (sp : Sp) : Prop where
  len : ∀ vs H Q E, sp vs H Q E → vs.length = ps.length
  run : ∀ (A : Around) (outer : List Env) (s : Shared) (H : Hp) (args : Args) (us : List Value) (vs : List V) (Q : VK) (E : XK), Room k A → A.guards = some [] → CelAt cel outer H s.heap →
    Env0 P w K mg base A outer s H → BindsTo s fd args (ps.zip us) → Vals vs us → sp vs H Q E → codeAny (model P w) A (.call (.ref f) args) (CR (L2.CX P w) outer P w H s Q E) s
theorem FnGC.plain {P : Program} {w : World} {K : PySem.W.Frag} {mg : Str → Option Value} {base : Heap} {k : Nat} {f : Addr} {fd : FuncData} {ps : List Str} {sp : Sp} (F : FnGC P w K mg base k f fd ps [] sp) : FnG P w K mg base k f fd ps sp :=
  ⟨F.len, fun A outer s H args us vs Q E hr g e0 hb r q => F.run A outer s H args us vs Q E hr g CelAt.nil e0 hb r q⟩
/-- the cells of a frame -/
structure CeOk (sc : Scope) (l : List (Str × Addr)) : Prop where
  inj : ∀ x y c, l.lookup x = some c → l.lookup y = some c → x = y
  has : ∀ x, sc.names.lookup x = some .cell ∨ sc.names.lookup x = some .free → ∃ c, l.lookup x = some c
def mkSC (Tq : List (Addr × Str)) (P : Program) (w : World) (K : PySem.W.Frag) (mg : Str → Option Value) (base : Heap) (N : List Str) (sc : Scope) (k : Nat) (F0 H0 : Hp) (E : Er) (cd : Value) (ql : Str) (cel : List (Addr × V)) (l : List (Str × Addr)) : Sx :=
  ⟨P, w, K, mg, base, N, sc, k, F0, H0, [], E, fun _ => true, Tq, cd, ql, true, none, cel, some l, true⟩
section
variable {Tq : List (Addr × Str)} {P : Program} {w : World} {K : PySem.W.Frag} {mg : Str → Option Value} {base : Heap} {k : Nat} {f : Addr} {fd : FuncData} {x qual : Str} {st : Stmt} {N ps : List Str} {sp : Sp} {cel : List (Addr × V)}
theorem Fun.okGC (F : Fun K x qual st f fd) (C : FnScope N ps (defScope st)) (len : ∀ vs H Q E, sp vs H Q E → vs.length = ps.length)
    (hbody : ∀ (cdv : Value), CdIs K x qual st f cdv → ∀ (A : Around) (outer : List Env) (s : Shared) (H : Hp) (vs : List V) (Q : VK) (E : XK), Room k (A.deeper (envOfC qual (defScope st) s.heap.objs.size f cdv)) → A.guards = some [] → CelAt cel outer H s.heap → CeOk (defScope st) (envOfC qual (defScope st) s.heap.objs.size f cdv).cells → sp vs H Q E →
      ∃ t, PSs (cxOf (L2.CX P w) P w K mg base N qual (defScope st) f cdv A outer s H E) (defBody st) t ∧ t { nx := fun _ H' => Q .non H', rt := Q } (L2.start N vs) H) :
    FnGC P w K mg base (k + 1) f fd ps cel sp := by
  obtain ⟨oc, od, kV, doc, pm, an, cdv, ct, osl, rfl, lk, hcd⟩ := F.ex
  refine ⟨len, fun A outer s H args us vs Q E hr hgd hc e0 hb r hsp => ?_⟩
  have hl := len _ _ _ _ hsp
  have KX : K.In s.heap := e0.mod.kin.keeps fun b o e => (e0.bs b o e).1
  have lim : s.heap.NoLimit := e0.mod.nolimit.keeps fun b o e => (e0.bs b o e).1
  refine codeAny_call_function hr.depth (KX _ _ lk) rfl C.co C.gen rfl (PySem.W.codeRec_of KX hcd) (hb _ _ _ _ ?_)
  refine wpAny_newFunctionEnv_cells C.kind (fun y hy => ?_) fun env he s1 z => ?_
  · rcases C.par y.1 (List.of_mem_zip (a := y.1) (b := y.2) hy).1 with q | q
    · exact .inl q
    · exact .inr ⟨q, PySem.W.cellsFrom_some _ _ _ (.inl q)⟩
  subst he
  refine ⟨lim.keeps z.toInCall.keep, codeAny_func ?_⟩
  have I0 : Inv (cxOf (L2.CX P w) P w K mg base N qual (defScope st) f cdv A outer s H E) [] (L2.start N vs) H s1 := inv_start C hr.hd e0 hl r z
  obtain ⟨t, ht, hq⟩ := hbody cdv ⟨_, _, _, _, _, _, _, _, lk⟩ A outer s H vs Q E (hr.deeper _) hgd hc ⟨I0.ok.inj, I0.ok.has⟩ hsp
  refine wpAny_mono (ht.run [] s1 (L2.start N vs) H _ I0 hq) (fun fl s' hs => ?_) fun e s' hs => hs
  match fl, hs with
  | .ret u, ⟨v, _, H', J, rv, q⟩ => exact ⟨v, H', J.os, J.bare, J.base, J.hok, rv, q⟩
  | .next, ⟨_, H', J, q⟩ => exact ⟨V.non, H', J.os, J.bare, J.base, J.hok, rfl, q⟩
  | .brk, ⟨_, _, _, q⟩ => exact False.elim q
  | .cont, ⟨_, _, _, q⟩ => exact False.elim q
theorem ok_bodyC {cdv : Value} {A : Around} {outer : List Env} {s : Shared} {H F0 H0 : Hp} {E : XK} {er : Er} (hr : Room k (A.deeper (envOfC qual (defScope st) s.heap.objs.size f cdv))) (hgd : A.guards = some []) (nd : N.Nodup) (hc : CelAt cel outer H s.heap)
    (hE : ∀ cls d σ H', (mkSC Tq P w K mg base N (defScope st) k F0 H0 er cdv (qlOf qual (defScope st)) cel (envOfC qual (defScope st) s.heap.objs.size f cdv).cells).WX cls d σ H' → E cls d H') :
    (mkSC Tq P w K mg base N (defScope st) k F0 H0 er cdv (qlOf qual (defScope st)) cel (envOfC qual (defScope st) s.heap.objs.size f cdv).cells).Ok (cxOf (L2.CX P w) P w K mg base N qual (defScope st) f cdv A outer s H E) where
  P := rfl
  w := rfl
  K := rfl
  mg := rfl
  base := rfl
  N := rfl
  sc := rfl
  calm := fun _ => rfl
  room := fun _ => hr
  un := Nat.lt_of_le_of_lt (Nat.add_le_add_right (Nat.le_add_right _ (16 * k)) 200) hr.un
  cel := fun p hp => by
    obtain ⟨h1, h2, h3⟩ := hc p hp
    exact ⟨h1, h2, List.not_mem_nil, h3⟩
  ce := fun l e => Option.some.inj e
  top := fun _ => ⟨rfl, rfl, fun _ => rfl⟩
  xc := fun _ _ _ _ z => nomatch z
  gd := hgd
  nd := nd
  tk := (takes_of (E := E) rfl rfl rfl rfl).imp fun c d σ H' h => hE c d σ H' h
  po := passes_of rfl
  fn := fun _ _ => .inl rfl
  cd := fun _ => rfl
  ql := fun _ => rfl
theorem fnDC {F : Fun K x qual st f fd} {spec : Fd} (C : FnScope N ps (defScope st)) (len : ∀ ds q er, spec ds q er → ds.length = ps.length)
    (body : ∀ (cdv : Value), CdIs K x qual st f cdv → ∀ (l : List (Str × Addr)), CeOk (defScope st) l → ∀ (F0 H0 : Hp) ds q er, spec ds q er → EvB (mkSC Tq P w K mg base N (defScope st) k F0 H0 er cdv (qlOf qual (defScope st)) cel l) (st0 ds N.length) (defBody st) { nx := fun _ => q .non, rt := q }) :
    FnGC P w K mg base (k + 1) f fd ps cel (SpD K Tq spec) := by
  refine Fun.okGC F C (fun vs H Q E h => ?_) fun cdv hcdv A outer s H vs Q E hr hgd hc ceok h => ?_
  · obtain ⟨ds, Hf, q, er, _, _, r, h, _⟩ := h
    rw [r.len]; exact len ds q er h
  · obtain ⟨ds, Hf, q, er, e, tb, r, h, hQ, hE⟩ := h
    have hl := len ds q er h
    have hb := body cdv hcdv _ ceok Hf (strip Tq H) ds q er h
    have st0' : Stt (mkSC Tq P w K mg base N (defScope st) k Hf (strip Tq H) er cdv (qlOf qual (defScope st)) cel (envOfC qual (defScope st) s.heap.objs.size f cdv).cells) (fun _ => none) (st0 ds N.length) Hf H (L2.start N vs) := by
      refine ⟨?_, tb⟩
      refine ⟨?_, Sub.refl _, e, fun q o h _ => h, fun q h => (nomatch h), fun i s h => ?_, fun i p k I h => ?_, fun p h1 h2 => absurd h2 h1, fun _ _ z => (nomatch z), fun p h => absurd rfl h, fun _ _ _ _ _ => rfl, fun i j p k l I J h => ?_⟩
      · unfold L2.start st0
        rw [List.length_append, List.length_map, List.length_replicate, List.length_append, List.length_map, List.length_replicate, r.len]
      · rcases st0_get h with ⟨d, h1, rfl⟩ | rfl
        · obtain ⟨v, h2, h3⟩ := r.get h1
          exact ⟨v, by rw [start_get h2]; rfl, h3⟩
        · trivial
      · rcases st0_get h with ⟨d, h1, z⟩ | z <;> cases z
      · rcases st0_get h with ⟨d, h1, z⟩ | z <;> cases z
    have gr : ∀ {Γ σ Hf' H'}, Stt (mkSC Tq P w K mg base N (defScope st) k Hf (strip Tq H) er cdv (qlOf qual (defScope st)) cel (envOfC qual (defScope st) s.heap.objs.size f cdv).cells) (fun _ => none) Γ Hf' H' σ → (Gr Hf (strip Tq H) Hf' (strip Tq H') ∧ Sub (strip Tq H) (strip Tq H')) ∧ TabF Tq Hf' H' := fun z => ⟨⟨⟨z.z.ex0, z.z.ex, z.z.fr⟩, fun a o h => z.z.keep a o h (by exact List.not_mem_nil)⟩, z.tb⟩
    obtain ⟨t, h1, h2⟩ := hb (fun _ => none) (L2.start N vs) H Hf { nx := fun _ H' => Q .non H', rt := Q } st0' ⟨fun Γ σ Hf' H' _ z q => hQ .non .non Hf' H' (gr z).1.1 (gr z).1.2 (gr z).2 rfl q, fun d v Γ σ Hf' H' _ z _ rr q => hQ d v Hf' H' (gr z).1.1 (gr z).1.2 (gr z).2 rr q, fun _ _ _ _ _ _ z => z, fun _ _ _ _ _ _ z => z, fun _ _ _ _ _ _ _ _ _ _ _ _ _ z => z.elim⟩
    refine ⟨t, h1 _ (ok_bodyC hr hgd C.nd hc fun cls d σ H' hw => ?_), h2⟩
    obtain ⟨Hf', fs, a1, a2, a4, a3, _, a5, a6, a7⟩ := hw
    exact hE cls d fs Hf' H' ⟨a1, a2, a4⟩ (fun a o h => a3 a o h (by exact List.not_mem_nil)) a7 a5 a6
end
/-- a def of the module that is handed functions -/
structure CalC (P : Program) (w : World) (K : PySem.W.Frag) (mg : Str → Option Value) (base : Heap) (x qual : Str) (st : Stmt) (k : Nat) (ps : List Str) (Tq : List (Addr × Str)) (spc : List (Addr × V) → Fd) : Prop where
  ex : ∃ f fd, Fun K x qual st f fd ∧ mg x = some (.ref f) ∧ ∀ cel, FnGC P w K mg base k f fd ps cel (SpD K Tq (spc cel))
  bp : ∀ (kV doc pm : Value) (an : Option Addr) (cdv ct : Value) (us : List Value), us.length = ps.length → bindArgs (PySem.W.fnOf x qual (defArgs st) (defBody st) (defScope st) .none kV doc pm an cdv ct) ⟨us, []⟩ = pure (ps.zip us)
theorem CalC.bind {P : Program} {w : World} {K : PySem.W.Frag} {mg : Str → Option Value} {base : Heap} {x qual : Str} {st : Stmt} {k : Nat} {ps : List Str} {Tq : List (Addr × Str)} {spc : List (Addr × V) → Fd} (c : CalC P w K mg base x qual st k ps Tq spc) {f : Addr} {fd : FuncData} (F : Fun K x qual st f fd) : BindP fd ps := by
  obtain ⟨oc, od, kV, doc, pm, an, cdv, ct, osl, rfl, lk, hcd⟩ := F.ex
  exact fun us h => c.bp kV doc pm an cdv ct us h
section
variable {Tq : List (Addr × Str)} {P : Program} {w : World} {K : PySem.W.Frag} {mg : Str → Option Value} {base : Heap} {x : Str} {st : Stmt} {k : Nat} {N ps : List Str} {spc : List (Addr × V) → Fd} {spec : Fd}
/-- .. by its body -/
theorem calDC (h : Def K mg x st) (C : FnScope N ps (defScope st))
    (bp : ∀ (kV doc pm : Value) (an : Option Addr) (cdv ct : Value) (us : List Value), us.length = ps.length → bindArgs (PySem.W.fnOf x x (defArgs st) (defBody st) (defScope st) .none kV doc pm an cdv ct) ⟨us, []⟩ = pure (ps.zip us))
    (len : ∀ cel ds q er, spc cel ds q er → ds.length = ps.length)
    (body : ∀ (cel : List (Addr × V)) (cdv : Value), (∃ f, mg x = some (.ref f) ∧ CdIs K x x st f cdv) → ∀ (l : List (Str × Addr)), CeOk (defScope st) l → ∀ (F0 H0 : Hp) ds q er, spc cel ds q er → EvB (mkSC Tq P w K mg base N (defScope st) k F0 H0 er cdv (qlOf x (defScope st)) cel l) (st0 ds N.length) (defBody st) { nx := fun _ => q .non, rt := q }) :
    CalC P w K mg base x x st (k + 1) ps Tq spc := by
  obtain ⟨f, fd, F, hm⟩ := h
  exact ⟨⟨f, fd, F, hm, fun cel => fnDC (F := F) C (len cel) fun cdv h => body cel cdv ⟨f, hm, h⟩⟩, bp⟩
/-- a def that makes functions -/
theorem calDM (h : Def K mg x st) (C : FnScope N ps (defScope st))
    (bp : ∀ (kV doc pm : Value) (an : Option Addr) (cdv ct : Value) (us : List Value), us.length = ps.length → bindArgs (PySem.W.fnOf x x (defArgs st) (defBody st) (defScope st) .none kV doc pm an cdv ct) ⟨us, []⟩ = pure (ps.zip us))
    (len : ∀ ds q er, spec ds q er → ds.length = ps.length)
    (body : ∀ (cdv : Value), (∃ f, mg x = some (.ref f) ∧ CdIs K x x st f cdv) → ∀ (l : List (Str × Addr)), CeOk (defScope st) l → ∀ (F0 H0 : Hp) ds q er, spec ds q er → EvB (mkSC Tq P w K mg base N (defScope st) k F0 H0 er cdv (qlOf x (defScope st)) [] l) (st0 ds N.length) (defBody st) { nx := fun _ => q .non, rt := q }) :
    Cal P w K mg base x x st (k + 1) ps (SpD K Tq spec) := by
  obtain ⟨f, fd, F, hm⟩ := h
  exact ⟨⟨f, fd, F, hm, (fnDC (F := F) (cel := []) C len fun cdv h => body cdv ⟨f, hm, h⟩).plain⟩, bp⟩
end
/-! ### calls of such defs -/
section
variable {S : Sx} {X : Cx} {k : Nat} {f : Addr} {fd : FuncData} {ps : List Str} {sp : Sp} {E : XK} {x : Str} {p pos : Pos} {e : Expr} {es : List Expr} {t : TA}
/-- what is known at a call: the cells of the frame whose names stand told, those that were known as it began -/
def Cel1 (S : Sx) (Γ : List Slot) (p : Addr × V) : Prop := p ∈ S.cel ∨ (S.top = true ∧ ∃ (l : List (Str × Addr)) (y : Str) (i : Nat) (d : Da), S.ce = some l ∧ l.lookup y = some p.1 ∧ S.N[i]? = some y ∧ Γ[i]? = some (.vd d p.2) ∧ S.sc.names.lookup y = some .cell)
def CelIn (S : Sx) (Γ : List Slot) (cel : List (Addr × V)) : Prop := ∀ p ∈ cel, Cel1 S Γ p
theorem CelIn.nil {Γ : List Slot} : CelIn S Γ [] := fun _ z => nomatch z
theorem CelIn.same {Γ : List Slot} : CelIn S Γ S.cel := fun _ z => .inl z
theorem CelIn.app {Γ : List Slot} {a b : List (Addr × V)} (h1 : CelIn S Γ a) (h2 : CelIn S Γ b) : CelIn S Γ (a ++ b) := fun p h => (List.mem_append.mp h).elim (h1 p) (h2 p)
theorem CelIn.own {Γ : List Slot} {cel : List (Addr × V)} (h : CelIn S Γ cel) {PX Hf H : Hp} {σ : L2.St} (st : Stt S PX Γ Hf H σ) : ∀ p ∈ cel, p ∈ S.cel ∨ Own1 S σ p := fun p hp => (h p hp).imp id fun ⟨ht, l, y, i, d, h1, h2, h3, h4, h5⟩ => by
  refine ⟨ht, l, y, i, h1, h2, h3, ?_, h5⟩
  obtain ⟨e, _⟩ := st.at_ i _ h4
  cases z : σ[i]? with
  | none => rw [z] at e; cases e
  | some o => rw [z] at e; exact congrArg some e
theorem peGC {spc : List (Addr × V) → Sp} {kn : L2.St → List (Addr × V) → Prop} (F : ∀ cel, FnGC X.prog X.w X.K X.mg X.base k f fd ps cel (spc cel)) (hr : Room k X.A) (hgd : X.A.guards = some []) (hg : Gl X x) (hm : X.mg x = some (.ref f)) (hk : PySem.W.keepIn X.K (.ref f) = true) (hb : BindP fd ps) (hx : Passes (L2.CX X.prog X.w) X E)
    (hcel : ∀ (pins : List (Addr × Obj)) (σ : L2.St) (H : Hp) (s : Shared) (cel : List (Addr × V)), Inv X pins σ H s → kn σ cel → CelAt cel X.stack H s.heap)
    (ha : PA X (e :: es) t) (hd : (x == ("__debug__" : Str)) = false) (he : starEach (e :: es) X.env = (false, eval e X.env) :: starEach es X.env) (hpl : (backTo pos (starEach es X.env)).any (·.1) = false) :
    PE X (.Call (.Name x p) (e :: es) [] pos) (fun σ H Q => t σ H fun vs H1 => ∃ cel, kn σ cel ∧ spc cel vs H1 Q E) := by
  refine ⟨fun pins s σ H Q I h => wpAny_Call_Name_kw (ld_glob I hg hm ?_ hd)⟩
  refine PySem.W.callWith_K (h₀ := X.base) I.ok.mod.kin hk (thn (ha.run pos pins s σ H _ I h) fun us s1 hh => ?_) he hpl
  obtain ⟨vs, H1, I1, r, cel, hkn, q⟩ := hh
  refine ⟨I1.kIn, ?_⟩
  refine wpAny_call (codeAny_mono ((F cel).run X.A X.stack s1 H1 ⟨us, []⟩ us vs Q E hr hgd (hcel _ _ _ _ _ I1 hkn) I1.env0 (.of_eq (hb us (by rw [← r.length]; exact (F cel).len _ _ _ _ q))) r q) fun res s' hq => ?_)
  match res, hq with
  | .error e, hq => exact hx pins σ H1 s1 e s' I1 hq
  | .ok (.ret u), hq => exact I1.after hq
  | .ok .next, hq => exact False.elim hq
  | .ok .brk, hq => exact False.elim hq
  | .ok .cont, hq => exact False.elim hq
end
section
variable {S : Sx} {Γ : List Slot} {e : Expr} {es : List Expr} {Q : Da → Prop} {p pos : Pos} {x qual : Str} {st : Stmt} {k : Nat} {ps : List Str} {spc : List (Addr × V) → Fd}
theorem ev_callC (c : CalC S.P S.w S.K S.mg S.base x qual st k ps S.T spc) (hk : k ≤ S.k) (hg : GlS S x) (hO : OpsIn S Γ) (h : EvA S Γ (e :: es) fun ds => ∃ cel, CelIn S Γ cel ∧ spc cel ds Q S.E)
    (hd : (x == ("__debug__" : Str)) = false := by decide) (he : ∀ env, starEach (e :: es) env = (false, eval e env) :: starEach es env := by intro _; rfl) (hpl : ∀ env, (backTo pos (starEach es env)).any (·.1) = false := by intro _; rfl) (hc : S.calm = true := by rfl) :
    EvE S Γ (.Call (.Name x p) (e :: es) [] pos) Q := by
  obtain ⟨f, fd, F, hm, G⟩ := c.ex
  refine ev_of (t := fun σ H Q => (tUA S (e :: es)) σ H fun vs H1 => ∃ cel, (∀ p ∈ cel, p ∈ S.cel ∨ Own1 S σ p) ∧ SpD S.K S.T (spc cel) vs H1 Q (fun cls d H => S.WX cls d [] H)) (fun X ok => ?_) ?_
  · exact peGC (X := X) (p := p) (pos := pos) (kn := fun σ cel => ∀ p ∈ cel, p ∈ S.cel ∨ Own1 S σ p) (spc := fun cel => SpD S.K S.T (spc cel)) (E := fun cls d H => S.WX cls d [] H) (by rw [ok.P, ok.w, ok.K, ok.mg, ok.base]; exact G) ((ok.room hc).mono hk) ok.gd (hg.gl ok) (by rw [ok.mg]; exact hm) (by rw [ok.K]; exact F.kp) (c.bind F) ok.passes
      (fun pins σ H s cel I hkn => celat2 ok I hkn) (puA ok) hd (he _) (hpl _)
  intro PX σ H Hf k st hk
  refine h PX σ H Hf _ st fun ds vs Hf1 H1 e1 st1 r1 ⟨cel, hci, q1⟩ => ?_
  exact ⟨cel, hci.own st1, sp_call st1 hO r1 q1 fun d v Hf' H' e2 => hk d v Hf' H' (e1.trans e2)⟩
end
end GX

namespace GX
open PySem PySem.Spec PyProof.Rows L2
/-! ## functions are made -/
/-- a function is made, of the code object whose table is at P: its own code object is found there, or new -/
def tClo (P : Addr) (mk : Addr → Clo) (q : Str) (pos : Pos) : TE := fun _ H Q => ∃ ps, H P = some (.tbl ps) ∧ TriplesOk ps.toList ∧
  (∀ cv, codeAmong pos ps.toList = some cv → ∃ c', cv = .ref c' ∧ ∀ f, H f = none → Q (.ref f) (upd H f (FnC f (mk c')))) ∧
  (codeAmong pos ps.toList = none → ∀ c' f, H c' = none → H f = none → c' ≠ f →
    Q (.ref f) (upd (upd (upd H P (.tbl (ps ++ #[rawInt pos.line, rawInt pos.col, .ref c']))) c' (LamX.CodeO c' q)) f (FnC f (mk c'))))
theorem fnC_ok {prog : Program} {w : World} {H : Hp} {h : Heap} {f : Addr} {F : Clo} {od : Option Addr} {sl : Array (Option Value)} {doc pm ctv : Value} (e : h.get? f = some (⟨.type "function", od, .func (F.fd doc pm ctv), sl⟩ : Obj)) : ObjOk prog w H h f (FnC f F) :=
  ⟨⟨od, sl, doc, pm, ctv, e⟩, ⟨_, e⟩, fun h1 h2 ⟨od, sl, d, p, t, z⟩ st => ⟨od, sl, d, p, t, st _ z⟩⟩
section
variable {X : Cx} {pins : List (Addr × Obj)} {σ : L2.St} {H : Hp} {s : Shared} {c P : Addr} {name q : Str} {params : Arguments} {scope : Scope} {pos : Pos} {l : List (Str × Addr)} {fr : List Str} {ws : List V} {E : Value → Shared → Prop} {Q : VK}
theorem clo_mkS {b : List Stmt} (I : Inv X pins σ H s) (TB : LamX.TabB X.base X.mg c P) (hcode : X.env.code = .ref c) (hl : X.env.cells = l) (free : ∀ y ∈ scope.names, y.2 = .free → ∃ c, X.env.cells.lookup y.1 = some c)
    (h : tClo P (fun c' => ⟨name, q, params, .stmts b, scope, cloFrom l scope.names [], c', fr, ws⟩) q pos σ H Q) :
    wpAny (model X.prog X.w) X.A (makeFunction name q params (.stmts b) scope X.env [] [] [] pos pos.line) (EP X pins σ Q) E s := by
  subst hl
  obtain ⟨ps, hP, ht, hit, miss⟩ := h
  have bP : s.heap.BuiltinsAt X.mg P := TB.bm.keeps I.bk
  have hP' : s.heap.get? P = some { cls := .none, data := .fields ps } := I.hok P _ hP
  cases hc : codeAmong pos ps.toList with
  | some cv =>
    obtain ⟨c', rfl, h⟩ := hit cv hc
    refine PySem.W.makeFunction_hit (mg := X.mg) (c := c) (P := P) (ps := ps) (closure_ok free) I.ok.glob (I.mod.glob.keeps I.bk) hcode (TB.code.keeps I.bk) hP' ht hc bP fun ctv doc h' tk hx hsz => ?_
    have e := Heap.get?_push_size (o := PySem.W.fnMade name q params b scope (cloFrom X.env.cells scope.names []) doc ((X.mg "__name__").getD .none) c' ctv) h' rfl
    have hn : H h'.objs.size = none := I.hok.fresh hsz
    exact ⟨.ref h'.objs.size, _, I.laid (t' := tk) (o := FnC h'.objs.size ⟨name, q, params, .stmts b, scope, cloFrom X.env.cells scope.names [], c', fr, ws⟩) (fun b o q => Heap.get?_push_of_some _ (hx b o q)) hsz (fnC_ok e), rfl, h _ hn⟩
  | none =>
    refine PySem.W.makeFunction_K (mg := X.mg) (c := c) (P := P) (ps := ps) (closure_ok free) I.ok.glob (I.mod.glob.keeps I.bk) hcode (TB.code.keeps I.bk) hP' ht hc TB.gP bP fun c' ctv doc h' tk hx hge hlt hrec htb => ?_
    obtain ⟨c2, oc, vs, t, e2, r1, r2, r3⟩ := hrec
    cases e2
    have hsz : s.heap.objs.size ≤ h'.objs.size := Nat.le_trans hge (Nat.le_of_lt hlt)
    have I1 := LamX.inv_table (t' := tk) (q := q) (more := #[rawInt pos.line, rawInt pos.col, .ref c']) I hP hx htb hge ⟨oc, vs, t, r1, r2, r3⟩
    have e := Heap.get?_push_size (o := PySem.W.fnMade name q params b scope (cloFrom X.env.cells scope.names []) doc ((X.mg "__name__").getD .none) c' ctv) h' rfl
    have nC : H c' = none := I.hok.fresh hge
    have nF : H h'.objs.size = none := I.hok.fresh hsz
    exact ⟨.ref h'.objs.size, _, I1.laid (t' := tk) (o := FnC h'.objs.size ⟨name, q, params, .stmts b, scope, cloFrom X.env.cells scope.names [], c', fr, ws⟩) (fun b o q => Heap.get?_push_of_some _ q) (Nat.le_refl _) (fnC_ok e), rfl, miss hc c' _ nC nF (Nat.ne_of_lt hlt)⟩
theorem clo_mkE {b : Expr} (I : Inv X pins σ H s) (TB : LamX.TabB X.base X.mg c P) (hcode : X.env.code = .ref c) (hl : X.env.cells = l) (free : ∀ y ∈ scope.names, y.2 = .free → ∃ c, X.env.cells.lookup y.1 = some c)
    (h : tClo P (fun c' => ⟨name, q, params, .expr b, scope, cloFrom l scope.names [], c', fr, ws⟩) q pos σ H Q) :
    wpAny (model X.prog X.w) X.A (makeFunction name q params (.expr b) scope X.env [] [] [] pos pos.line) (EP X pins σ Q) E s := by
  subst hl
  obtain ⟨ps, hP, ht, hit, miss⟩ := h
  have bP : s.heap.BuiltinsAt X.mg P := TB.bm.keeps I.bk
  have hP' : s.heap.get? P = some { cls := .none, data := .fields ps } := I.hok P _ hP
  cases hc : codeAmong pos ps.toList with
  | some cv =>
    obtain ⟨c', rfl, h⟩ := hit cv hc
    refine PySem.W.kla_makeFunctionHit (mg := X.mg) (c := c) (P := P) (ps := ps) (closure_ok free) I.ok.glob (I.mod.glob.keeps I.bk) hcode (TB.code.keeps I.bk) hP' ht hc bP fun ctv h' tk hx hsz => ?_
    have e := Heap.get?_push_size (o := PySem.W.kla_obj name q params b scope (cloFrom X.env.cells scope.names []) ((X.mg "__name__").getD .none) c' ctv) h' rfl
    have hn : H h'.objs.size = none := I.hok.fresh hsz
    exact ⟨.ref h'.objs.size, _, I.laid (t' := tk) (o := FnC h'.objs.size ⟨name, q, params, .expr b, scope, cloFrom X.env.cells scope.names [], c', fr, ws⟩) (fun b o q => Heap.get?_push_of_some _ (hx b o q)) hsz (fnC_ok e), rfl, h _ hn⟩
  | none =>
    refine PySem.W.kla_makeFunction (mg := X.mg) (c := c) (P := P) (ps := ps) (closure_ok free) I.ok.glob (I.mod.glob.keeps I.bk) hcode (TB.code.keeps I.bk) hP' ht hc TB.gP bP fun c' ctv h' tk hx hge hlt hrec htb => ?_
    obtain ⟨c2, oc, vs, t, e2, r1, r2, r3⟩ := hrec
    cases e2
    have hsz : s.heap.objs.size ≤ h'.objs.size := Nat.le_trans hge (Nat.le_of_lt hlt)
    have I1 := LamX.inv_table (t' := tk) (q := q) (more := #[rawInt pos.line, rawInt pos.col, .ref c']) I hP hx htb hge ⟨oc, vs, t, r1, r2, r3⟩
    have e := Heap.get?_push_size (o := PySem.W.kla_obj name q params b scope (cloFrom X.env.cells scope.names []) ((X.mg "__name__").getD .none) c' ctv) h' rfl
    have nC : H c' = none := I.hok.fresh hge
    have nF : H h'.objs.size = none := I.hok.fresh hsz
    exact ⟨.ref h'.objs.size, _, I1.laid (t' := tk) (o := FnC h'.objs.size ⟨name, q, params, .expr b, scope, cloFrom X.env.cells scope.names [], c', fr, ws⟩) (fun b o q => Heap.get?_push_of_some _ q) (Nat.le_refl _) (fnC_ok e), rfl, miss hc c' _ nC nF (Nat.ne_of_lt hlt)⟩
end
section
variable {S : Sx} {Γ : List Slot} {PX Hf H : Hp} {σ : L2.St} {P : Addr} {q : Str} {pos : Pos} {mk : Addr → Clo} {k : VK}
/-- .. among what the def knows -/
theorem stt_clo (hT : (P, q) ∈ S.T) (hu : ∀ p ∈ S.T, p.1 = P → p.2 = q) (st : Stt S PX Γ Hf H σ) (h : ∀ (f c' : Addr) (Hf' H' : Hp), Sub Hf Hf' → Stt S PX Γ Hf' H' σ → Hf' f = some (FnC f (mk c')) → Hf' c' = some (LamX.CodeO c' q) → k (.ref f) H') : tClo P mk q pos σ H k := by
  obtain ⟨ps, hP, ht, hc⟩ := st.tb _ hT
  refine ⟨ps, hP, ht, fun cv hcv => ?_, fun hn c' f nC nF ne => ?_⟩
  · obtain ⟨c', rfl, e⟩ := hc pos cv hcv
    refine ⟨c', rfl, fun f nF => ?_⟩
    obtain ⟨st2, e2⟩ := st.alloc (o := FnC f (mk c')) nF
    exact h f c' _ _ e2 st2 upd_same (e2 _ _ e)
  · have hPT : P ∈ S.T.map (·.1) := List.mem_map.mpr ⟨_, hT, rfl⟩
    have n' := st.tb.out nC
    have nP : P ≠ c' := fun z => n' (z ▸ hPT)
    have eP : strip S.T (upd H P (.tbl (ps ++ #[rawInt pos.line, rawInt pos.col, .ref c']))) = strip S.T H := by
      funext a
      by_cases m : a ∈ S.T.map (·.1)
      · unfold strip; rw [if_pos m, if_pos m]
      · rw [strip_at m, strip_at m, upd_ne (fun z => m (by rw [z]; exact hPT))]
    obtain ⟨z1, e1⟩ := st.z.alloc (o := LamX.CodeO c' q) (strip_none nC)
    have st1 : Stt S PX Γ (upd Hf c' (LamX.CodeO c' q)) (upd (upd H P (.tbl (ps ++ #[rawInt pos.line, rawInt pos.col, .ref c']))) c' (LamX.CodeO c' q)) σ := by
      refine ⟨by rw [strip_upd n', eP]; exact z1, fun p hp => ?_⟩
      by_cases hb : p.1 = P
      · refine ⟨_, by rw [hb, upd_ne nP, upd_same], by rw [Array.toList_append]; exact PySem.TriplesOk_snoc _ _ _ _ ht, fun p' cv hcv => ?_⟩
        rw [Array.toList_append] at hcv
        rcases LamX.among_app _ ht hcv with z | z
        · obtain ⟨c0, a1, a2⟩ := hc p' cv z
          exact ⟨c0, a1, by rw [hu p hp hb]; exact e1 _ _ a2⟩
        · exact ⟨c', z, by rw [hu p hp hb]; exact upd_same⟩
      · obtain ⟨ps', a1, a2, a3⟩ := st.tb p hp
        refine ⟨ps', by rw [upd_ne (fun z => n' (List.mem_map.mpr ⟨p, hp, z⟩)), upd_ne hb]; exact a1, a2, fun p' cv hcv => ?_⟩
        obtain ⟨c0, b1, b2⟩ := a3 p' cv hcv
        exact ⟨c0, b1, e1 _ _ b2⟩
    have nfP : f ≠ P := fun z => by rw [z, hP] at nF; cases nF
    have nF1 : (upd (upd H P (.tbl (ps ++ #[rawInt pos.line, rawInt pos.col, .ref c']))) c' (LamX.CodeO c' q)) f = none := by rw [upd_ne ne.symm, upd_ne nfP]; exact nF
    obtain ⟨st2, e2⟩ := st1.alloc (o := FnC f (mk c')) nF1
    exact h f c' _ _ (e1.trans e2) st2 upd_same (e2 _ _ upd_same)
end
/-- how a function's captured names lie among the def's: (where, what, its value) -/
structure Capt (S : Sx) (Γ : List Slot) (l : List (Str × Addr)) (scope : Scope) (fr : List Str) (cs : List (Nat × Da × V)) : Prop where
  ce : S.ce = some l
  ok : CeOk S.sc l
  nd : NdefX.ndefB S.sc scope fr = true
  frB : (scope.names.all fun y => !decide (y.2 = .free) || decide (y.1 ∈ fr)) = true
  nm : cs.map (fun p => S.N[p.1]?) = fr.map some
  sl : cs.map (fun p => Γ[p.1]?) = cs.map (fun p => some (.vd p.2.1 p.2.2))
/-- the function that is made -/
abbrev cloOf (name q : Str) (params : Arguments) (body : FuncBody) (scope : Scope) (l : List (Str × Addr)) (fr : List Str) (cs : List (Nat × Da × V)) (c' : Addr) : Clo := ⟨name, q, params, body, scope, cloFrom l scope.names [], c', fr, cs.map (·.2.2)⟩
section
variable {S : Sx} {Γ : List Slot} {name q : Str} {params : Arguments} {body : FuncBody} {scope : Scope} {l : List (Str × Addr)} {fr : List Str} {cs : List (Nat × Da × V)} {c' : Addr}
theorem Capt.free (C : Capt S Γ l scope fr cs) : ∀ y ∈ scope.names, y.2 = .free → ∃ c, l.lookup y.1 = some c := fun y hy e => C.ok.has _ (NdefX.ndef_free C.nd y hy e)
theorem Capt.at_ (C : Capt S Γ l scope fr cs) {i : Nat} {y : Str} (h : fr[i]? = some y) : ∃ j d v, cs[i]? = some (j, d, v) ∧ S.N[j]? = some y ∧ Γ[j]? = some (.vd d v) := by
  have e : (cs.map fun p => S.N[p.1]?)[i]? = some (some y) := by rw [C.nm, List.getElem?_map, h]; rfl
  rw [List.getElem?_map] at e
  cases hc : cs[i]? with
  | none => rw [hc] at e; cases e
  | some p =>
    obtain ⟨j, d, v⟩ := p
    rw [hc] at e
    have e2 : (cs.map fun p => Γ[p.1]?)[i]? = (cs.map fun p => some (Slot.vd p.2.1 p.2.2))[i]? := by rw [C.sl]
    rw [List.getElem?_map, List.getElem?_map, hc] at e2
    exact ⟨j, d, v, rfl, Option.some.inj e, Option.some.inj e2⟩
theorem Capt.wf (C : Capt S Γ l scope fr cs) : CloWf (cloOf name q params body scope l fr cs c') where
  sub := fun y c e => by
    rcases cloFrom_mem (PySem.mem_of_lookup e) with hm | ⟨h1, _⟩
    · cases hm
    · have z := List.all_eq_true.mp C.frB _ h1
      simp only [Bool.or_eq_true, Bool.not_eq_true', decide_eq_true_eq, decide_eq_false_iff_not] at z
      exact z.elim (fun z => absurd True.intro z) id
  has := fun y hy => by
    have hm := NdefX.ndef_fr C.nd y hy
    obtain ⟨c, hc⟩ := C.free _ hm rfl
    exact ⟨c, NdefX.clo_has C.free hm hc⟩
  inj := fun x y c e1 e2 => C.ok.inj x y c (NdefX.clo_cm C.free e1) (NdefX.clo_cm C.free e2)
  len := by
    have e := congrArg List.length C.nm
    rw [List.length_map, List.length_map] at e
    show (cs.map (·.2.2)).length = fr.length
    rw [List.length_map]; exact e
theorem Capt.caps (C : Capt S Γ l scope fr cs) {PX Hf H : Hp} {σ : L2.St} (st : Stt S PX Γ Hf H σ) : Reps S.K Hf (cs.map (·.2.1)) (cs.map (·.2.2)) := by
  have sl := C.sl
  clear C
  induction cs with
  | nil => rfl
  | cons p cs ih =>
    rw [List.map_cons, List.map_cons] at sl
    obtain ⟨_, r⟩ := st.at_ p.1 _ (List.cons.inj sl).1
    exact ⟨_, _, rfl, r, ih (List.cons.inj sl).2⟩
/-- what F captured is known where the names stand told -/
theorem Capt.cel (C : Capt S Γ l scope fr cs) (ht : S.top = true) (hcell : (fr.all fun y => decide (S.sc.names.lookup y = some .cell)) = true) : CelIn S Γ (cloOf name q params body scope l fr cs c').cel := fun p hp => by
  obtain ⟨i, y, h1, h2, h3⟩ := Clo.of_cel hp
  obtain ⟨j, d, v, e1, e2, e3⟩ := C.at_ h1
  have h3 : (cs.map (·.2.2))[i]? = some p.2 := h3
  rw [List.getElem?_map, e1] at h3
  cases h3
  refine .inr ⟨ht, l, y, j, d, C.ce, NdefX.clo_cm C.free h2, e2, e3, ?_⟩
  exact of_decide_eq_true (List.all_eq_true.mp hcell y (List.mem_of_getElem? h1))
end
section
variable {S : Sx} {Γ : List Slot} {D : EnG} {Q : Da → Prop} {c P : Addr} {i : Nat} {name q : Str} {params : Arguments} {scope : Scope} {pos : Pos} {l : List (Str × Addr)} {fr : List Str} {cs : List (Nat × Da × V)}
/-- def name(..): .. in a def -/
theorem es_ndef {b : List Stmt} (hT : (P, q) ∈ S.T) (hu : ∀ p ∈ S.T, p.1 = P → p.2 = q) (hcd : S.cd = .ref c) (hql : S.ql ++ name = q) (TB : LamX.TabB S.base S.mg c P) (C : Capt S Γ l scope fr cs) (hN : S.N[i]? = some name) (hx : Loc S.sc name) (hsx : S.stor name = true)
    (h : ∀ c', D.nx (Γ.set i (.dat (.clo (cloOf name q params (.stmts b) scope l fr cs c') (cs.map (·.2.1))))))
    (hd0 : params.defaults = [] := by rfl) (hk0 : params.kw_defaults = [] := by rfl) (ha : ∀ env, annTrees params none env = [] := by intro _; rfl) : EvS S Γ (.FunctionDef name params b [] none [] scope none name pos) D := by
  refine es_of (t := fun D σ H => tClo P (cloOf name q params (.stmts b) scope l fr cs) q pos σ H fun v G => D.nx (σ.set i (some v)) G) (fun X ok => ?_) fun PX σ H Hf D' st kk => ?_
  · refine ⟨fun pins s σ H D I h => ?_⟩
    have hx' : Loc X.env.scope name := by rw [ok.sc]; exact hx
    have el : X.env.cells = l := ok.ce l C.ce
    have hcn : S.cd ≠ .none := by rw [hcd]; exact fun z => nomatch z
    have hq : qualnameIn X.env name name = X.env.qual ++ name := by
      have hk : X.env.kindOf name = some .local ∨ X.env.kindOf name = some .cell := hx'
      unfold qualnameIn
      rcases hk with k | k <;> rw [k] <;> first | rfl | exact if_neg (by decide)
    refine PySem.W.nestDef_K hd0 hk0 (ha _) ?_
    rw [hq, ok.ql hcn, hql]
    refine wpAny_mono (clo_mkS (c := c) (l := l) I (by rw [ok.base, ok.mg]; exact TB) ((ok.cd hcn).trans hcd) el (by rw [el]; exact C.free) h) (fun u s1 ⟨v, H1, I1, r1, q1⟩ => ?_) fun _ _ z => z
    exact store_ok I1 (by rw [ok.N]; exact ok.nd) (by rw [ok.N]; exact hN) hx' r1 (fun s'' J => ⟨_, H1, J, q1⟩) (ok.fn name hsx)
  · refine stt_clo hT hu st fun f c' Hf' H' e st' e1 e2 => ?_
    have r : Rep S.K Hf' (.clo (cloOf name q params (.stmts b) scope l fr cs c') (cs.map (·.2.1))) (.ref f) := ⟨f, rfl, .inl ⟨e1, e2⟩, C.wf, C.caps st'⟩
    exact kk.nx _ _ _ _ e (st'.set r i) (h c')
/-- lambda ..: .. that captures names, as a value -/
theorem ev_lamC {b : Expr} (hT : (P, q) ∈ S.T) (hu : ∀ p ∈ S.T, p.1 = P → p.2 = q) (hcd : S.cd = .ref c) (hql : S.ql ++ "<lambda>" = q) (TB : LamX.TabB S.base S.mg c P) (C : Capt S Γ l scope fr cs) (h : ∀ c', Q (.clo (cloOf "<lambda>" q params (.expr b) scope l fr cs c') (cs.map (·.2.1))))
    (hdef : ∀ env, defaultsOf params env = ([], []) := by intro _; rfl) : EvE S Γ (.Lambda params b scope pos) Q := by
  refine ev_of (t := tClo P (cloOf "<lambda>" q params (.expr b) scope l fr cs) q pos) (fun X ok => ?_) fun PX σ H Hf k st hk => ?_
  · refine ⟨fun pins s σ H Q I h => PySem.W.kla_eval (hdef _) ?_⟩
    have el : X.env.cells = l := ok.ce l C.ce
    have hcn : S.cd ≠ .none := by rw [hcd]; exact fun z => nomatch z
    rw [ok.ql hcn, hql]
    exact clo_mkE (c := c) (l := l) I (by rw [ok.base, ok.mg]; exact TB) ((ok.cd hcn).trans hcd) el (by rw [el]; exact C.free) h
  · refine stt_clo hT hu st fun f c' Hf' H' e st' e1 e2 => ?_
    have r : Rep S.K Hf' (.clo (cloOf "<lambda>" q params (.expr b) scope l fr cs c') (cs.map (·.2.1))) (.ref f) := ⟨f, rfl, .inl ⟨e1, e2⟩, C.wf, C.caps st'⟩
    exact hk _ _ _ _ e st' r (h c')
/-- .. by the table of the def x -/
theorem es_ndefT {x : Str} {st : Stmt} {b : List Stmt} (t : LamTab S.K S.mg S.base S.T x st q) (hc : ∃ f, S.mg x = some (.ref f) ∧ CdIs S.K x x st f S.cd) (hql : S.ql ++ name = q) (C : Capt S Γ l scope fr cs) (hN : S.N[i]? = some name) (hx : Loc S.sc name)
    (h : ∀ c', D.nx (Γ.set i (.dat (.clo (cloOf name q params (.stmts b) scope l fr cs c') (cs.map (·.2.1))))))
    (hsx : S.stor name = true := by rfl) (hd0 : params.defaults = [] := by rfl) (hk0 : params.kw_defaults = [] := by rfl) (ha : ∀ env, annTrees params none env = [] := by intro _; rfl) : EvS S Γ (.FunctionDef name params b [] none [] scope none name pos) D := by
  obtain ⟨c, tb, h1, h2, h3, h4⟩ := t.ex
  obtain ⟨f, hm, hi⟩ := hc
  exact es_ndef h3 h4 (h1 f _ hm hi) hql h2 C hN hx hsx h hd0 hk0 ha
/-- .. for a statement that has a name in the proof -/
theorem es_ndefS {x : Str} {st0 st : Stmt} (hst : st = .FunctionDef name (defArgs st) (defBody st) [] none [] (defScope st) none name pos) (t : LamTab S.K S.mg S.base S.T x st0 q) (hc : ∃ f, S.mg x = some (.ref f) ∧ CdIs S.K x x st0 f S.cd) (hql : S.ql ++ name = q) (C : Capt S Γ l (defScope st) fr cs) (hN : S.N[i]? = some name) (hx : Loc S.sc name)
    (h : ∀ c', D.nx (Γ.set i (.dat (.clo (cloOf name q (defArgs st) (.stmts (defBody st)) (defScope st) l fr cs c') (cs.map (·.2.1))))))
    (hsx : S.stor name = true := by rfl) (hd0 : (defArgs st).defaults = [] := by rfl) (hk0 : (defArgs st).kw_defaults = [] := by rfl) (ha : ∀ env, annTrees (defArgs st) none env = [] := by intro _; rfl) : EvS S Γ st D := by
  have z := es_ndefT (S := S) (Γ := Γ) (D := D) (i := i) (pos := pos) (b := defBody st) t hc hql C hN hx h hsx hd0 hk0 ha
  rw [← hst] at z
  exact z
theorem ev_lamCT {x : Str} {st : Stmt} {b : Expr} (t : LamTab S.K S.mg S.base S.T x st q) (hc : ∃ f, S.mg x = some (.ref f) ∧ CdIs S.K x x st f S.cd) (hql : S.ql ++ "<lambda>" = q) (C : Capt S Γ l scope fr cs) (h : ∀ c', Q (.clo (cloOf "<lambda>" q params (.expr b) scope l fr cs c') (cs.map (·.2.1))))
    (hdef : ∀ env, defaultsOf params env = ([], []) := by intro _; rfl) : EvE S Γ (.Lambda params b scope pos) Q := by
  obtain ⟨c, tb, h1, h2, h3, h4⟩ := t.ex
  obtain ⟨f, hm, hi⟩ := hc
  exact ev_lamC h3 h4 (h1 f _ hm hi) hql h2 C h hdef
end
end GX

namespace GX
open PySem PySem.Spec PyProof.Rows L2
/-! ## <, <=, >, >= of data of one kind (texts, tuples) -/
def rOrdD (K : PySem.W.Frag) (g : PyData → PyData → Bool) : R2 := fun x y H Q => ∃ d e, Dp K H x d ∧ Dp K H y e ∧ PySem.W.alike d e = true ∧ d ≠ .none ∧ d.depth ≤ 60 ∧ Q (.bl (g d e)) H
section
variable {X : Cx}
theorem op_ltA (hu : X.A.units + 100 < cLine) : OpR X (compareOp .Lt) (rOrdD X.K PySem.W.dataLt) := by
  intro pins s σ H x y v u Q I rx ry ⟨d, e, hd, he, h1, h2, h3, q⟩
  obtain ⟨as, ra⟩ := Dp.reads I _ _ _ hd rx
  obtain ⟨bs, rb⟩ := Dp.reads I _ _ _ he ry
  exact PySem.W.lt_data ra rb h1 h2 (by have := Nat.min_le_left d.depth e.depth; omega) ⟨.bl (PySem.W.dataLt d e), H, I, rfl, q⟩
theorem op_leA (hu : X.A.units + 100 < cLine) : OpR X (compareOp .LtE) (rOrdD X.K fun d e => !PySem.W.dataLt e d) := by
  intro pins s σ H x y v u Q I rx ry ⟨d, e, hd, he, h1, h2, h3, q⟩
  obtain ⟨as, ra⟩ := Dp.reads I _ _ _ hd rx
  obtain ⟨bs, rb⟩ := Dp.reads I _ _ _ he ry
  exact PySem.W.le_data ra rb h1 h2 (by have := Nat.min_le_left d.depth e.depth; omega) ⟨.bl (!PySem.W.dataLt e d), H, I, rfl, q⟩
theorem op_gtA (hu : X.A.units + 100 < cLine) : OpR X (compareOp .Gt) (rOrdD X.K fun d e => PySem.W.dataLt e d) := by
  intro pins s σ H x y v u Q I rx ry ⟨d, e, hd, he, h1, h2, h3, q⟩
  obtain ⟨as, ra⟩ := Dp.reads I _ _ _ hd rx
  obtain ⟨bs, rb⟩ := Dp.reads I _ _ _ he ry
  exact PySem.W.gt_data ra rb h1 h2 (by have := Nat.min_le_left d.depth e.depth; omega) ⟨.bl (PySem.W.dataLt e d), H, I, rfl, q⟩
theorem op_geA (hu : X.A.units + 100 < cLine) : OpR X (compareOp .GtE) (rOrdD X.K fun d e => !PySem.W.dataLt d e) := by
  intro pins s σ H x y v u Q I rx ry ⟨d, e, hd, he, h1, h2, h3, q⟩
  obtain ⟨as, ra⟩ := Dp.reads I _ _ _ hd rx
  obtain ⟨bs, rb⟩ := Dp.reads I _ _ _ he ry
  exact PySem.W.ge_data ra rb h1 h2 (by have := Nat.min_le_left d.depth e.depth; omega) ⟨.bl (!PySem.W.dataLt d e), H, I, rfl, q⟩
end
/-- the two may be asked for their order -/
structure LtOk (x y : Da) : Prop where
  p : x.pure = true
  q : y.pure = true
  a : PySem.W.alike x.py y.py = true
  n : x.py ≠ .none
  d : x.py.depth ≤ 60
section
variable {S : Sx}
theorem ord_any {f : Value → Value → Sem Value} {g : PyData → PyData → Bool} (h : ∀ X, S.Ok X → OpR X f (rOrdD S.K g)) : OpG S f fun x y Q => LtOk x y ∧ Q (.bl (g x.py y.py)) :=
  .pure _ h fun Hf H x y v u Q k e rx ry ⟨o, q⟩ hk => ⟨x.py, y.py, Rep.dp x v o.p (Rep.mono e _ _ rx), Rep.dp y u o.q (Rep.mono e _ _ ry), o.a, o.n, o.d, hk (.bl (g x.py y.py)) _ rfl q⟩
theorem g_ltA : OpG S (compareOp .Lt) fun x y Q => LtOk x y ∧ Q (.bl (PySem.W.dataLt x.py y.py)) := ord_any fun X ok => by have z := op_ltA (X := X) (by have := ok.un; omega); rw [ok.K] at z; exact z
theorem g_leA : OpG S (compareOp .LtE) fun x y Q => LtOk x y ∧ Q (.bl (!PySem.W.dataLt y.py x.py)) := ord_any (g := fun d e => !PySem.W.dataLt e d) fun X ok => by have z := op_leA (X := X) (by have := ok.un; omega); rw [ok.K] at z; exact z
theorem g_gtA : OpG S (compareOp .Gt) fun x y Q => LtOk x y ∧ Q (.bl (PySem.W.dataLt y.py x.py)) := ord_any (g := fun d e => PySem.W.dataLt e d) fun X ok => by have z := op_gtA (X := X) (by have := ok.un; omega); rw [ok.K] at z; exact z
theorem g_geA : OpG S (compareOp .GtE) fun x y Q => LtOk x y ∧ Q (.bl (!PySem.W.dataLt x.py y.py)) := ord_any (g := fun d e => !PySem.W.dataLt d e) fun X ok => by have z := op_geA (X := X) (by have := ok.un; omega); rw [ok.K] at z; exact z
end
theorem ltOk_str {x y : Str} : LtOk (.str x) (.str y) where
  p := rfl
  q := rfl
  a := by
    show PySem.W.alike (.str x) (.str y) = true
    simp only [PySem.W.alike]
  n := fun e => by cases e
  d := by
    show (PyData.str x).depth ≤ 60
    simp only [PyData.depth]
    omega
theorem lt_strA {x y : Str} : PySem.W.dataLt (Da.str x).py (Da.str y).py = decide (x.cps.toList < y.cps.toList) := PySem.W.dataLt_str x y
end GX

namespace GX
open PySem PySem.Spec PyProof.Rows L2
/-! ## instances of own classes: made by __init__, frozen behind it -/
abbrev Fi := List Da → (List (Str × Da) → Prop) → Er → Prop
/-- __init__'s promise: its first argument is a new instance without attributes -/
def SpI (K : PySem.W.Frag) (T : List (Addr × Str)) (C : Addr) (f : Fi) : Sp := fun vs H Q E => ∃ p dx us ds Hf q er, vs = .ref p :: us ∧ Sub Hf (strip T H) ∧ TabF T Hf H ∧ Hf p = none ∧ strip T H p = some (.ins C dx []) ∧ Reps K Hf ds us ∧ f ds q er ∧
  (∀ fs gs dx' Hf' H', Gr Hf (strip T H) Hf' (strip T H') → (∀ a o, a ≠ p → strip T H a = some o → strip T H' a = some o) → TabF T Hf' H' → Hf' p = none → strip T H' p = some (.ins C dx' gs) → RepF K Hf' fs gs → q fs → Q .non H') ∧
  (∀ cls x fs Hf' H', Gr Hf (strip T H) Hf' (strip T H') → (∀ a o, a ≠ p → strip T H a = some o → strip T H' a = some o) → TabF T Hf' H' → XRep K Hf' x fs → er cls fs → E cls x H')
section
variable {Tq : List (Addr × Str)} {P : Program} {w : World} {K : PySem.W.Frag} {mg : Str → Option Value} {base : Heap} {k : Nat} {f : Addr} {fd : FuncData} {x qual : Str} {st : Stmt} {N ps : List Str}
theorem fnI {C0 : Addr} {F : Fun K x qual st f fd} {spec : Fi} (C : FnScope N ps (defScope st)) (len : ∀ ds q er, spec ds q er → ds.length + 1 = ps.length)
    (body : ∀ (cdv : Value), CdIs K x qual st f cdv → ∀ (F0 H0 : Hp) (p : Addr) ds q er, spec ds q er → EvB (mkS Tq P w K mg base N (defScope st) k F0 H0 [(p, .o, fun _ => True)] er cdv (qlOf qual (defScope st))) (.ow p .o (fun ys => ys = [.ins C0 []]) :: st0 ds (N.length - 1)) (defBody st) { nx := fun Γ => ∃ fs, Slot.ow p .o (fun ys => ys = [.ins C0 fs]) ∈ Γ ∧ q fs, rt := fun _ => False }) :
    FnG P w K mg base (k + 1) f fd ps (SpI K Tq C0 spec) := by
  refine Fun.okG F C (fun vs H Q E h => ?_) fun cdv hcdv A outer s H vs Q E hr hgd h => ?_
  · obtain ⟨p, dx, us, ds, Hf, q, er, rfl, _, _, _, _, r, h, _⟩ := h
    rw [List.length_cons, r.len]; exact len ds q er h
  · obtain ⟨p, dx, us, ds, Hf, q, er, rfl, e, tb, hfp, hsp0, r, h, hQ, hE⟩ := h
    have ow : OwnK K Hf (strip Tq H) p .o fun ys => ys = [.ins C0 []] := ⟨hfp, C0, dx, [], [], hsp0, rfl, rfl⟩
    have hl := len ds q er h
    have hb := body cdv hcdv Hf (strip Tq H) p ds q er h
    have es : L2.start N (V.ref p :: us) = some (V.ref p) :: (us.map some ++ List.replicate (N.length - 1 - us.length) none) := by
      unfold L2.start
      rw [List.map_cons, List.cons_append, List.length_cons, show N.length - (us.length + 1) = N.length - 1 - us.length by omega]
    have hsp : strip Tq H p ≠ none := by
      rw [hsp0]; exact fun z => nomatch z
    have st0' : Stt (mkS Tq P w K mg base N (defScope st) k Hf (strip Tq H) [(p, .o, fun _ => True)] er cdv (qlOf qual (defScope st))) (fun _ => none) (.ow p .o (fun ys => ys = [.ins C0 []]) :: st0 ds (N.length - 1)) Hf H (L2.start N (V.ref p :: us)) := by
      refine ⟨?_, tb⟩
      refine ⟨?_, Sub.refl _, e, fun q o h _ => h, fun q h => ?_, fun i s h => ?_, fun i p' k' I' h => ?_, fun p h1 h2 => absurd h2 h1, fun _ _ z => (nomatch z), fun p h => absurd rfl h, fun _ _ _ _ _ => rfl, fun i j p' k' l' I' J h1 h2 => ?_⟩
      · rw [es, List.length_cons, List.length_cons]
        unfold st0
        rw [List.length_append, List.length_map, List.length_replicate, List.length_append, List.length_map, List.length_replicate, r.len]
      · rw [List.mem_singleton.mp h]; exact hsp
      · cases i with
        | zero =>
          cases h
          exact ⟨by rw [es]; rfl, ow⟩
        | succ i =>
          rcases st0_get (show (st0 ds (N.length - 1))[i]? = some s from h) with ⟨d, h1, rfl⟩ | rfl
          · obtain ⟨v, h2, h3⟩ := r.get h1
            refine ⟨v, ?_, h3⟩
            have hi : i < us.length := (List.getElem?_eq_some_iff.mp h2).1
            rw [es, List.getElem?_cons_succ, List.getElem?_append_left (by simpa using hi), List.getElem?_map, h2]; rfl
          · trivial
      · cases i with
        | zero => cases h; exact .inl (by exact List.mem_singleton.mpr rfl)
        | succ i => rcases st0_get (show (st0 ds (N.length - 1))[i]? = _ from h) with ⟨d, h1, z⟩ | z <;> cases z
      · cases i with
        | succ i => rcases st0_get (show (st0 ds (N.length - 1))[i]? = _ from h1) with ⟨d, h1, z⟩ | z <;> cases z
        | zero =>
          cases j with
          | zero => rfl
          | succ j => rcases st0_get (show (st0 ds (N.length - 1))[j]? = _ from h2) with ⟨d, h1, z⟩ | z <;> cases z
    have gr : ∀ {Γ σ Hf' H'}, Stt (mkS Tq P w K mg base N (defScope st) k Hf (strip Tq H) [(p, .o, fun _ => True)] er cdv (qlOf qual (defScope st))) (fun _ => none) Γ Hf' H' σ → (Gr Hf (strip Tq H) Hf' (strip Tq H') ∧ (∀ a o, a ≠ p → strip Tq H a = some o → strip Tq H' a = some o)) ∧ TabF Tq Hf' H' :=
      fun z => ⟨⟨⟨z.z.ex0, z.z.ex, z.z.fr⟩, fun a o n h => z.z.keep a o h (fun m => n (List.mem_singleton.mp m))⟩, z.tb⟩
    have nxk : ∀ {Γ σ Hf' H'}, Stt (mkS Tq P w K mg base N (defScope st) k Hf (strip Tq H) [(p, .o, fun _ => True)] er cdv (qlOf qual (defScope st))) (fun _ => none) Γ Hf' H' σ → (∃ fs, Slot.ow p .o (fun ys => ys = [.ins C0 fs]) ∈ Γ ∧ q fs) → Q .non H' := fun {Γ σ Hf' H'} z ⟨fs, m, qf⟩ => by
      obtain ⟨i, hi⟩ := List.mem_iff_getElem?.mp m
      obtain ⟨b, C1, dx1, gs1, fs1, h3, h4, h5⟩ := (z.z.ownK hi).2
      cases h5
      exact hQ fs gs1 dx1 Hf' H' (gr z).1.1 (gr z).1.2 (gr z).2 b h3 h4 qf
    obtain ⟨t, h1, h2⟩ := hb (fun _ => none) (L2.start N (V.ref p :: us)) H Hf { nx := fun _ H' => Q .non H', rt := Q } st0' ⟨fun Γ σ Hf' H' _ z q => nxk z q, fun d v Γ σ Hf' H' _ z oi rr q => q.elim, fun _ _ _ _ _ _ z => z, fun _ _ _ _ _ _ z => z, fun _ _ _ _ _ _ _ _ _ _ _ _ _ z => z.elim⟩
    refine ⟨t, h1 _ (ok_body hr hgd C.nd fun cls d σ H' hw => ?_), h2⟩
    obtain ⟨Hf', fs, a1, a2, a4, a3, _, a5, a6, a7⟩ := hw
    exact hE cls d fs Hf' H' ⟨a1, a2, a4⟩ (fun a o n h => a3 a o h (fun m => n (List.mem_singleton.mp m))) a7 a5 a6
end
/-! ### attributes -/
def putFD (f : Str) (d : Da) : List (Str × Da) → List (Str × Da)
  | [] => [(f, d)]
  | (g, x) :: r => if g = f then (g, d) :: r else (g, x) :: putFD f d r
section
variable {K : PySem.W.Frag} {H : Hp}
theorem RepF.put {f : Str} {d : Da} {v : V} (r : Rep K H d v) : ∀ {fs : List (Str × Da)} {gs : List (Str × V)}, RepF K H fs gs → RepF K H (putFD f d fs) (putF f v gs)
  | [], _, h => by
    unfold RepF at h; subst h
    exact ⟨v, [], rfl, r, rfl⟩
  | (g, x) :: fs, _, h => by
    unfold RepF at h
    obtain ⟨y, l, rfl, h1, h2⟩ := h
    by_cases c : g = f
    · unfold putFD putF
      rw [if_pos c, if_pos c]
      exact ⟨v, l, rfl, r, h2⟩
    · unfold putFD putF
      rw [if_neg c, if_neg c]
      exact ⟨y, _, rfl, h1, RepF.put r h2⟩
theorem RepF.lookK {f : Str} {d : Da} : ∀ {fs : List (Str × Da)} {gs : List (Str × V)}, RepF K H fs gs → fs.lookup f = some d → ∃ v, gs.lookup f = some v ∧ Rep K H d v
  | [], _, _, h => by cases h
  | (g, x) :: fs, _, h, hl => by
    unfold RepF at h
    obtain ⟨y, l, rfl, h1, h2⟩ := h
    rw [List.lookup_cons] at hl ⊢
    cases c : f == g with
    | true => rw [c] at hl; cases hl; exact ⟨y, rfl, h1⟩
    | false => rw [c] at hl; exact RepF.lookK h2 hl
theorem RepF.len : ∀ {fs : List (Str × Da)} {gs : List (Str × V)}, RepF K H fs gs → gs.length = fs.length
  | [], _, h => by unfold RepF at h; subst h; rfl
  | (g, x) :: fs, _, h => by
    unfold RepF at h
    obtain ⟨y, l, rfl, h1, h2⟩ := h
    rw [List.length_cons, List.length_cons, RepF.len h2]
end
section
variable {S : Sx} {Γ : List Slot} {e : Expr} {Q : Da → Prop} {D : EnG} {p pos pos' : Pos} {x f : Str} {i : Nat} {A C : Addr} {fs : List (Str × Da)}
/-- self.f = e, in __init__ -/
theorem es_setF (hN : S.N[i]? = some x) (hv : Vis S.sc x) (c : Cls S.K C) (n : NoAttr S.K C f) (hΓ : Γ[i]? = some (.ow A .o fun ys => ys = [.ins C fs])) (h : EvE S Γ e fun d => fs.length < 1000 ∧ D.nx (Γ.set i (.ow A .o fun ys => ys = [.ins C (putFD f d fs)])))
    (hd : (x == ("__debug__" : Str)) = false := by decide) (hcd : (x == ("__classdict__" : Str)) = false := by decide) (hs : ∀ env, swapsWith e (some (.Attribute (.Name x p) f pos')) pos.line env = pure false := by intro _; rfl) :
    EvS S Γ (.Assign [.Attribute (.Name x p) f pos'] e pos) D := by
  refine es_of (t := sFld S.K (tVar i) (tU S e) f) (fun X ok => ?_) fun PX σ H Hf D' st k => ?_
  · have z := ps_fld (X := X) (pos := pos) (pos' := pos') (f := f) (pe_var (pos := p) (i := i) (by rw [ok.N]; exact hN) (by rw [ok.sc]; exact hv) hd hcd) (pu (e := e) ok) (hs _)
    rw [ok.K] at z
    exact z
  · refine h PX σ H Hf _ st fun d v Hf1 H1 e1 st1 r1 ⟨q1, q2⟩ => ?_
    refine ⟨.ref A, slot_of st1 hΓ, ?_⟩
    obtain ⟨b, C1, dx, gs, fs1, h3, h4, h5⟩ := (st1.ownK hΓ).2
    cases h5
    refine ⟨A, C, dx, gs, rfl, h3, c, n, by rw [h4.len]; exact q1, ?_⟩
    exact k.nx _ _ _ _ e1 (st1.putK (kd' := .o) (I' := fun ys => ys = [.ins C (putFD f d fs)]) hΓ ⟨b, C, dx, _, _, upd_same, h4.put r1, rfl⟩) q2
/-- e.f of an instance -/
theorem ev_fld (h : EvE S Γ e fun d => ∃ C fs v, d = .ins C fs ∧ Cls S.K C ∧ NoAttr S.K C f ∧ fs.lookup f = some v ∧ Q v) (hb : ∀ env, attributeBase e f env (eval e env) = eval e env := by intro _; rfl) : EvE S Γ (.Attribute e f pos) Q := by
  refine ev_of (t := tFld S.K (tU S e) f) (fun X ok => ?_) fun PX σ H Hf k st hk => ?_
  · have z := pe_fld (X := X) (pos := pos) (f := f) (pu (e := e) ok) (hb _)
    rw [ok.K] at z
    exact z
  · refine h PX σ H Hf _ st fun d v Hf1 H1 e1 st1 r1 ⟨C, fs, y, ed, c, n, hl, q⟩ => ?_
    subst ed
    unfold Rep at r1
    obtain ⟨a, dx, gs, rfl, h1, h2⟩ := r1
    obtain ⟨u, hu, ru⟩ := h2.lookK hl
    exact ⟨a, C, dx, gs, u, rfl, st1.ex _ _ h1, c, n, hu, hk y u Hf1 H1 e1 st1 ru q⟩
end
end GX

namespace GX
open PySem PySem.Spec PyProof.Rows L2
/-! ## C(..): a new instance -/
theorem make_guards {A : Around} {C : Addr} {us : List Value} {kw : List (Str × Value)} (h : A.guards = some []) : (A.under (.builtin "type.__call__" ⟨.ref C :: us, kw⟩)).guards = some [] := by
  unfold Around.under
  simp [h, Code.guards, pushGuards, Code.isGuard, guardIds]
section
variable {X : Cx} {k : Nat} {f C : Addr} {fd : FuncData} {ps : List Str} {sp : Sp} {E : XK} {x : Str} {p pos : Pos} {e : Expr} {es : List Expr} {kws : List Keyword} {t tk : TA}
theorem run_makeG {pins : List (Addr × Obj)} {σ : L2.St} {H : Hp} {s : Shared} {Q : VK} {us ws : List Value} {vs zs : List V} {ks : List Str} {n : Nat} {pm : List Nat} (M : Mk X.K C f) (F : FnG X.prog X.w X.K X.mg X.base k f fd ps sp) (hr : Room (k + 1) X.A) (hgd : X.A.guards = some []) (hb : BindK fd ps (n + 1) ks pm) (hx : Passes (L2.CX X.prog X.w) X E)
    (I : Inv X pins σ H s) (r : Vals vs us) (rz : Vals zs ws) (l1 : vs.length = n) (l2 : zs.length = ks.length)
    (h : ∀ x dx, H x = none → H dx = none → dx ≠ x → sp (perm pm (.ref x :: vs) zs) (upd (upd H dx (.own x)) x (.ins C dx [])) (fun v H2 => v = .non ∧ Q (.ref x) H2) E) :
    wpAny (model X.prog X.w) X.A (call (.ref C) us (ks.zip ws)) (EP X pins σ Q) X.xe s := by
  have hq := h (s.heap.objs.size + 1) s.heap.objs.size (I.hok.fresh (Nat.le_succ _)) (I.hok.fresh (Nat.le_refl _)) (Nat.ne_of_lt (Nat.lt_succ_self _))
  have I2 := Inv.made (C := C) I
  have r1 : Vals (V.ref (s.heap.objs.size + 1) :: vs) (Value.ref (s.heap.objs.size + 1) :: us) := .cons rfl r
  have e1 : (Value.ref (s.heap.objs.size + 1) :: us).length = n + 1 := r1.length.symm.trans (congrArg Nat.succ l1)
  have e2 : ws.length = ks.length := rz.length.symm.trans l2
  refine wpAny_call (make_map (f := f) I.kIn M.makes M.init (beq_iff_eq.mp M.fn) (codeAny_mono (F.run _ X.stack _ _ ⟨Value.ref (s.heap.objs.size + 1) :: us, ks.zip ws⟩ (perm pm (Value.ref (s.heap.objs.size + 1) :: us) ws) _ _ E (hr.make C us (ks.zip ws)) (make_guards hgd)
    (I2.env0.make C us (ks.zip ws)) (.of_eq (hb _ _ e1 e2)) (Vals.perm r1 rz) hq) fun r s' hq' => ?_))
  match r, hq' with
  | .error e, hq' => exact hx pins σ _ _ e s' I2 hq'
  | .ok (.ret u), hq' =>
    obtain ⟨v, H', I3, rv, ev, q3⟩ := I2.after hq'
    subst ev
    exact ⟨rv, ⟨V.ref (s.heap.objs.size + 1), H', I3, rfl, q3⟩⟩
  | .ok .next, hq' => exact False.elim hq'
  | .ok .brk, hq' => exact False.elim hq'
  | .ok .cont, hq' => exact False.elim hq'
/-- by place -/
theorem peMake {n : Nat} (M : Mk X.K C f) (F : FnG X.prog X.w X.K X.mg X.base k f fd ps sp) (hr : Room (k + 1) X.A) (hgd : X.A.guards = some []) (hg : Gl X x) (hm : X.mg x = some (.ref C)) (hb : BindP fd ps) (hx : Passes (L2.CX X.prog X.w) X E)
    (ha : PA X (e :: es) t) (hd : (x == ("__debug__" : Str)) = false) (he : starEach (e :: es) X.env = (false, eval e X.env) :: starEach es X.env) (hpl : (backTo pos (starEach es X.env)).any (·.1) = false) :
    PE X (.Call (.Name x p) (e :: es) [] pos) (fun σ H Q => t σ H fun vs H1 => ∀ x dx, H1 x = none → H1 dx = none → dx ≠ x → sp (.ref x :: vs) (upd (upd H1 dx (.own x)) x (.ins C dx [])) (fun v H2 => v = .non ∧ Q (.ref x) H2) E) := by
  refine ⟨fun pins s σ H Q I h => wpAny_Call_Name_kw (ld_glob I hg hm ?_ hd)⟩
  refine PySem.W.callWith_K (h₀ := X.base) I.ok.mod.kin M.kp (thn (ha.run pos pins s σ H _ I h) fun us s1 ⟨vs, H1, I1, r, q⟩ => ⟨I1.kIn, ?_⟩) he hpl
  have hq := q (s1.heap.objs.size + 1) s1.heap.objs.size (I1.hok.fresh (Nat.le_succ _)) (I1.hok.fresh (Nat.le_refl _)) (Nat.ne_of_lt (Nat.lt_succ_self _))
  have I2 := Inv.made (C := C) I1
  have r1 : Vals (V.ref (s1.heap.objs.size + 1) :: vs) (Value.ref (s1.heap.objs.size + 1) :: us) := .cons rfl r
  refine wpAny_call (make_map (f := f) I1.kIn M.makes M.init (beq_iff_eq.mp M.fn) (codeAny_mono (F.run _ X.stack _ _ ⟨Value.ref (s1.heap.objs.size + 1) :: us, []⟩ (Value.ref (s1.heap.objs.size + 1) :: us) _ _ E (hr.make C us []) (make_guards hgd)
    (I2.env0.make C us []) (.of_eq (hb _ (by rw [← r1.length]; exact F.len _ _ _ _ hq))) r1 hq) fun r s' hq' => ?_))
  match r, hq' with
  | .error e, hq' => exact hx pins σ _ _ e s' I2 hq'
  | .ok (.ret u), hq' =>
    obtain ⟨v, H', I3, rv, ev, q3⟩ := I2.after hq'
    subst ev
    exact ⟨rv, ⟨V.ref (s1.heap.objs.size + 1), H', I3, rfl, q3⟩⟩
  | .ok .next, hq' => exact False.elim hq'
  | .ok .brk, hq' => exact False.elim hq'
  | .ok .cont, hq' => exact False.elim hq'
/-- by name alone -/
theorem peMakeK0 {ks : List Str} {pm : List Nat} (M : Mk X.K C f) (F : FnG X.prog X.w X.K X.mg X.base k f fd ps sp) (hr : Room (k + 1) X.A) (hgd : X.A.guards = some []) (hg : Gl X x) (hm : X.mg x = some (.ref C)) (hb : BindK fd ps 1 ks pm) (hx : Passes (L2.CX X.prog X.w) X E) (hkw : PK X kws tk)
    (hall : (backToKw pos (keywordEach kws X.env)).all (·.1.isSome) = true) (hks : (backToKw pos (keywordEach kws X.env)).filterMap (·.1) = ks)
    (hd : (x == ("__debug__" : Str)) = false) (hpl : (backToKw pos (keywordEach kws X.env)).any (·.1.isNone) = false) :
    PE X (.Call (.Name x p) [] kws pos) (fun σ H Q => tk σ H fun zs H1 => zs.length = ks.length ∧ ∀ x dx, H1 x = none → H1 dx = none → dx ≠ x → sp (perm pm [.ref x] zs) (upd (upd H1 dx (.own x)) x (.ins C dx [])) (fun v H2 => v = .non ∧ Q (.ref x) H2) E) := by
  refine ⟨fun pins s σ H Q I h => wpAny_Call_Name_kw (ld_glob I hg hm ?_ hd)⟩
  refine PySem.W.callWith_KW0 (h₀ := X.base) I.ok.mod.kin M.kp hall (thn (hkw.run pos pins s σ H _ I h) fun ws s2 ⟨zs, H2, I2, rz, hl, q2⟩ => ?_) hpl
  rw [hks]
  exact ⟨I2.kIn, run_makeG (us := []) (n := 0) M F hr hgd hb hx I2 .nil rz rfl hl q2⟩
end
/-- a class of the module whose __init__ keeps a promise -/
structure ClsG (P : Program) (w : World) (K : PySem.W.Frag) (mg : Str → Option Value) (base : Heap) (x qual : Str) (st : Stmt) (k : Nat) (ps : List Str) (Tq : List (Addr × Str)) (C : Addr) (spec : Fi) : Prop where
  gm : mg x = some (.ref C)
  cls : Cls K C
  ex : ∃ f fd, Fun K "__init__" qual st f fd ∧ Mk K C f ∧ FnG P w K mg base k f fd ps (SpI K Tq C spec)
  bp : ∀ (kV doc pm : Value) (an : Option Addr) (cdv ct : Value) (us : List Value), us.length = ps.length → bindArgs (PySem.W.fnOf "__init__" qual (defArgs st) (defBody st) (defScope st) .none kV doc pm an cdv ct) ⟨us, []⟩ = pure (ps.zip us)
section
variable {S : Sx} {Γ : List Slot} {e : Expr} {es : List Expr} {kws : List Keyword} {Q : Da → Prop} {p pos : Pos} {x qual : Str} {st : Stmt} {k : Nat} {ps : List Str} {spec : Fi} {C : Addr}
/-- the new instance is frozen behind __init__ -/
theorem spI_made {PX Hf H : Hp} {σ : L2.St} {ds : List Da} {vs : List V} {Q' : VK} (st1 : Stt S PX Γ Hf H σ) (hO : OpsIn S Γ) (r : Reps S.K Hf ds vs) (q : spec ds (fun fs => Q (.ins C fs)) S.E)
    (hk : ∀ d v Hf' H', Sub Hf Hf' → Stt S PX Γ Hf' H' σ → Rep S.K Hf' d v → Q d → Q' v H') {x dx : Addr} (hx : H x = none) (hdx : H dx = none) (ne : dx ≠ x) :
    SpI S.K S.T C spec (.ref x :: vs) (upd (upd H dx (.own x)) x (.ins C dx [])) (fun v H2 => v = .non ∧ Q' (.ref x) H2) (fun cls d H => S.WX cls d [] H) := by
  obtain ⟨st2, e2⟩ := st1.alloc (o := .own x) hdx
  have hx2 : upd H dx (.own x) x = none := by rw [upd_ne ne.symm]; exact hx
  have nT := st2.tb.out hx2
  have hs2 : strip S.T (upd H dx (.own x)) x = none := strip_none hx2
  have f2 : upd Hf dx (.own x) x = none := st2.z.ex.free hs2
  have e3 : strip S.T (upd (upd H dx (.own x)) x (.ins C dx [])) = upd (strip S.T (upd H dx (.own x))) x (.ins C dx []) := strip_upd nT
  have kp : ∀ {H' : Hp}, (∀ a o, a ≠ x → strip S.T (upd (upd H dx (.own x)) x (.ins C dx [])) a = some o → strip S.T H' a = some o) → Sub (strip S.T (upd H dx (.own x))) (strip S.T H') := fun {H'} kk a o ha => by
    have na : a ≠ x := fun z => by rw [z, hs2] at ha; cases ha
    exact kk a o na (by rw [e3, upd_ne na]; exact ha)
  refine ⟨x, dx, vs, ds, upd Hf dx (.own x), fun fs => Q (.ins C fs), S.E, rfl, ?_, st2.tb.upd (Sub.refl _) nT, f2, by rw [e3]; exact upd_same, Reps.mono e2 _ _ r, q, fun fs gs dx' Hf' H' g kk t h1 h2 h3 q2 => ⟨rfl, ?_⟩, fun cls d fs Hf' H' g kk t xr er => ?_⟩
  · rw [e3]; exact st2.z.ex.upd hs2
  · have e4 : Sub Hf' (upd Hf' x (.ins C dx' gs)) := Sub.upd0 (Sub.refl _) h1
    have st3 : Stt S PX Γ (upd Hf' x (.ins C dx' gs)) H' σ := st2.grow (g.f.trans e4) (fun a o ha => by
      by_cases c : a = x
      · subst c; rw [upd_same] at ha; cases ha; exact h2
      · rw [upd_ne c] at ha; exact g.e a o ha) (kp kk) (fun a ha hb => by
      by_cases c : a = x
      · rw [c]; exact hs2
      · rw [upd_ne c] at ha
        have z := g.n a ha hb
        rw [e3, upd_ne c] at z
        exact z) (t.mono e4 fun _ _ => rfl)
    exact hk (.ins C fs) _ _ _ ((e2.trans g.f).trans e4) st3 ⟨x, dx', gs, rfl, upd_same, RepF.mono e4 _ _ h3⟩ q2
  · refine (st2.grow g.f g.e (kp kk) (fun a ha hb => ?_) t).wx hO xr er []
    by_cases c : a = x
    · rw [c]; exact hs2
    · have z := g.n a ha hb
      rw [e3, upd_ne c] at z
      exact z
/-- C(e, ..) -/
theorem ev_make (c : ClsG S.P S.w S.K S.mg S.base x qual st k ps S.T C spec) (hk : k + 1 ≤ S.k) (hg : GlS S x) (hO : OpsIn S Γ) (h : EvA S Γ (e :: es) fun ds => spec ds (fun fs => Q (.ins C fs)) S.E)
    (hd : (x == ("__debug__" : Str)) = false := by decide) (he : ∀ env, starEach (e :: es) env = (false, eval e env) :: starEach es env := by intro _; rfl) (hpl : ∀ env, (backTo pos (starEach es env)).any (·.1) = false := by intro _; rfl) (hc : S.calm = true := by rfl) :
    EvE S Γ (.Call (.Name x p) (e :: es) [] pos) Q := by
  obtain ⟨f, fd, F, M, G⟩ := c.ex
  have hb : BindP fd ps := by
    obtain ⟨oc, od, kV, doc, pm, an, cdv, ct, osl, rfl, lk, hcd⟩ := F.ex
    exact fun us h => c.bp kV doc pm an cdv ct us h
  refine ev_of (fun X ok => peMake (n := 0) (C := C) (sp := SpI S.K S.T C spec) (E := fun cls d H => S.WX cls d [] H) (by rw [ok.K]; exact M) (by rw [ok.P, ok.w, ok.K, ok.mg, ok.base]; exact G) ((ok.room hc).mono hk) ok.gd (hg.gl ok) (by rw [ok.mg]; exact c.gm) hb ok.passes (puA ok) hd (he _) (hpl _)) ?_
  intro PX σ H Hf k st hk
  refine h PX σ H Hf _ st fun ds vs Hf1 H1 e1 st1 r1 q1 x dx hx hdx ne => ?_
  exact spI_made st1 hO r1 q1 (fun d v Hf' H' e2 => hk d v Hf' H' (e1.trans e2)) hx hdx ne
end
end GX

namespace GX
open PySem PySem.Spec PyProof.Rows L2
theorem perm_self {α : Type} (pm : List Nat) (a : α) (zs : List α) : perm (0 :: pm.map (· + 1)) [a] zs = a :: perm pm [] zs := by
  unfold perm
  rw [List.filterMap_cons]
  show a :: _ = _
  congr 1
  rw [List.filterMap_map]
  rfl
section
variable {S : Sx} {Γ : List Slot} {e : Expr} {es : List Expr} {kws : List Keyword} {Q : Da → Prop} {p pos : Pos} {x qual : Str} {st : Stmt} {k : Nat} {ps : List Str} {spec : Fi} {C : Addr}
/-- C(k = v, ..) -/
theorem ev_makeK0 {ks : List Str} {pm : List Nat} (c : ClsG S.P S.w S.K S.mg S.base x qual st k ps S.T C spec) (hb : BK "__init__" qual st ps 1 ks (0 :: pm.map (· + 1))) (hk : k + 1 ≤ S.k) (hg : GlS S x) (hO : OpsIn S Γ)
    (h : EvK S Γ kws fun zs => zs.length = ks.length ∧ spec (perm pm [] zs) (fun fs => Q (.ins C fs)) S.E)
    (hall : ∀ env, (backToKw pos (keywordEach kws env)).all (·.1.isSome) = true := by intro _; rfl) (hks : ∀ env, (backToKw pos (keywordEach kws env)).filterMap (·.1) = ks := by intro _; rfl)
    (hd : (x == ("__debug__" : Str)) = false := by decide) (hpl : ∀ env, (backToKw pos (keywordEach kws env)).any (·.1.isNone) = false := by intro _; rfl) (hc : S.calm = true := by rfl) : EvE S Γ (.Call (.Name x p) [] kws pos) Q := by
  obtain ⟨f, fd, F, M, G⟩ := c.ex
  refine ev_of (fun X ok => peMakeK0 (C := C) (sp := SpI S.K S.T C spec) (E := fun cls d H => S.WX cls d [] H) (by rw [ok.K]; exact M) (by rw [ok.P, ok.w, ok.K, ok.mg, ok.base]; exact G) ((ok.room hc).mono hk) ok.gd (hg.gl ok) (by rw [ok.mg]; exact c.gm) (hb.bind F) ok.passes (puK ok) (hall _) (hks _) hd (hpl _)) ?_
  intro PX σ H Hf k st hk
  refine h PX σ H Hf _ st fun ds vs Hf1 H1 e1 st1 r1 q1 => ⟨by rw [r1.len]; exact q1.1, fun x dx hx hdx ne => ?_⟩
  rw [perm_self]
  exact spI_made st1 hO (Reps.perm (ds := []) (vs := []) rfl r1) q1.2 (fun d v Hf' H' e2 => hk d v Hf' H' (e1.trans e2)) hx hdx ne
end
/-! ### methods and properties -/
section
variable {X : Cx} {k : Nat} {C pa g a dx : Addr} {fs : List (Str × V)} {f : Str} {fd : FuncData} {ps : List Str} {sp : Sp} {E : XK} {e : Expr} {pos : Pos} {ta : TE}
theorem getprop_okG {pins : List (Addr × Obj)} {σ : L2.St} {H : Hp} {s : Shared} {Q : VK} {b : Bool} {E' : Value → Shared → Prop} (I : Inv X pins σ H s) (ea : H a = some (.ins C dx fs)) (c : Cls X.K C) (hp : PropOf X.K C f pa g)
    (F : FnG X.prog X.w X.K X.mg X.base k g fd ps sp) (hr : Room (k + 1) X.A) (hgd : X.A.guards = some []) (hb : BindP fd ps) (hx : Passes (L2.CX X.prog X.w) X.nox E) (h : sp [.ref a] H Q E) :
    wpAny (model X.prog X.w) X.A (getAttr (.ref a) f b) (EP X pins σ Q) E' s := by
  obtain ⟨mA, O, _, _, _, _⟩ := ins_get I.hok ea
  obtain ⟨od, J, _⟩ := O.look
  obtain ⟨rest, hrec⟩ := hp.rec_
  have I1 := I.tok (s.toks + 1)
  have hl : [Value.ref a].length = ps.length := by rw [← F.len _ _ _ _ h]; rfl
  have hc : (PySem.W.clsIn X.K C).isSome = true := by
    obtain ⟨cd, hc, _⟩ := PySem.W.any_some c.hd
    rw [hc]
    rfl
  refine PySem.W.get_bind I.kIn J (PySem.W.plainGet_of (c.get f)).1 (PySem.W.findObj_data hc hp.at_ hp.get hp.tak) (PySem.W.plainGet_of (c.get f)).2 (wpAny_call (PySem.W.prop_get (s := { s with toks := s.toks + 1 }) I.kIn hrec ?_))
  refine codeAny_mono (F.run X.A.in1 X.stack { s with toks := s.toks + 1 } H ⟨[.ref a], []⟩ [.ref a] [.ref a] Q E hr.in1 hgd I1.env0.in1 (.of_eq (hb _ hl)) (.cons rfl .nil) h) fun r s' hq => ?_
  match r, hq with
  | .error er, hq => exact False.elim (hx pins σ H { s with toks := s.toks + 1 } er s' (I1.wish _) hq)
  | .ok (.ret u), hq =>
    obtain ⟨v, H', I3, rv, q3⟩ := I1.after hq
    show wpAny _ _ (handedOut u) _ _ _
    rw [PySem.W.handedOut_of (handed_of rv)]
    exact wpAny_pure ⟨v, H', I3, rv, q3⟩
  | .ok .next, hq => exact False.elim hq
  | .ok .brk, hq => exact False.elim hq
  | .ok .cont, hq => exact False.elim hq
theorem peProp (he : PE X e ta) (c : Cls X.K C) (hp : PropOf X.K C f pa g) (F : FnG X.prog X.w X.K X.mg X.base k g fd ps sp) (hr : Room (k + 1) X.A) (hgd : X.A.guards = some []) (hb : BindP fd ps) (hx : Passes (L2.CX X.prog X.w) X.nox E)
    (hab : attributeBase e f X.env (eval e X.env) = eval e X.env) : PE X (.Attribute e f pos) (fun σ H Q => ta σ H fun x H1 => ∃ a dx fs, x = .ref a ∧ H1 a = some (.ins C dx fs) ∧ sp [.ref a] H1 Q E) := by
  refine ⟨fun pins s σ H Q I h => ?_⟩
  refine attr_of hab (thn (he.run pins s σ H _ I h) fun u s1 ⟨x, H1, I1, rx, a, dx, fs, ex, ea, q⟩ => ?_)
  subst ex
  obtain rfl : u = Value.ref a := rx
  exact getprop_okG I1 ea c hp F hr hgd hb hx q
end
/-- a property of the class at C, its getter keeps a promise and raises nothing -/
structure PropG (P : Program) (w : World) (K : PySem.W.Frag) (mg : Str → Option Value) (base : Heap) (C : Addr) (f qual : Str) (st : Stmt) (k : Nat) (ps : List Str) (Tq : List (Addr × Str)) (spec : Fd) : Prop where
  cls : Cls K C
  ex : ∃ p g fd, PropOf K C f p g ∧ Fun K f qual st g fd ∧ FnG P w K mg base k g fd ps (SpD K Tq spec)
  bp : ∀ (kV doc pm : Value) (an : Option Addr) (cdv ct : Value) (us : List Value), us.length = ps.length → bindArgs (PySem.W.fnOf f qual (defArgs st) (defBody st) (defScope st) .none kV doc pm an cdv ct) ⟨us, []⟩ = pure (ps.zip us)
section
variable {S : Sx} {Γ : List Slot} {e : Expr} {Q : Da → Prop} {pos : Pos} {f qual : Str} {st : Stmt} {k : Nat} {ps : List Str} {spec : Fd} {C : Addr}
theorem no_pass {X : Cx} {P : Program} {w : World} : Passes (L2.CX P w) X (fun _ _ _ => False) := by
  intro pins σ H s e s' I c
  obtain ⟨_, _, _, _, _, _, _, _, _, _, _, _, _, _, _, _, w⟩ := c
/-- e.f, a property -/
theorem ev_prop (c : PropG S.P S.w S.K S.mg S.base C f qual st k ps S.T spec) (hk : k + 1 ≤ S.k) (h : EvE S Γ e fun d => ∃ fs, d = .ins C fs ∧ spec [d] Q fun _ _ => False)
    (hab : ∀ env, attributeBase e f env (eval e env) = eval e env := by intro _; rfl) (hc : S.calm = true := by rfl) : EvE S Γ (.Attribute e f pos) Q := by
  obtain ⟨pa, g, fd, hp, F, G⟩ := c.ex
  have hb : BindP fd ps := by
    obtain ⟨oc, od, kV, doc, pm, an, cdv, ct, osl, rfl, lk, hcd⟩ := F.ex
    exact fun us h => c.bp kV doc pm an cdv ct us h
  refine ev_of (fun X ok => peProp (sp := SpD S.K S.T spec) (E := fun _ _ _ => False) (pu (e := e) ok) (by rw [ok.K]; exact c.cls) (by rw [ok.K]; exact hp) (by rw [ok.P, ok.w, ok.K, ok.mg, ok.base]; exact G) ((ok.room hc).mono hk) ok.gd hb no_pass (hab _)) ?_
  intro PX σ H Hf k st hk
  refine h PX σ H Hf _ st fun d v Hf1 H1 e1 st1 r1 ⟨fs, ed, q1⟩ => ?_
  subst ed
  have r0 := r1
  unfold Rep at r1
  obtain ⟨a, dx, gs, rfl, h1, h2⟩ := r1
  refine ⟨a, dx, gs, rfl, st1.ex _ _ h1, [.ins C fs], Hf1, Q, fun _ _ => False, st1.z.ex, st1.tb, ⟨_, [], rfl, r0, rfl⟩, q1, fun d v Hf' H' g kp t rr qq => hk d v Hf' H' (e1.trans g.f) (st1.grow g.f g.e kp g.n t) rr qq, fun _ _ _ _ _ _ _ _ _ z => z.elim⟩
end
section
variable {Tq : List (Addr × Str)} {P : Program} {w : World} {K : PySem.W.Frag} {mg : Str → Option Value} {base : Heap} {x f qual : Str} {st : Stmt} {k : Nat} {N ps : List Str} {C : Addr}
/-- a class by the body of its __init__ -/
theorem clsI {spec : Fi} (gm : mg x = some (.ref C)) (cls : Cls K C) (h : ∃ f fd, Fun K "__init__" qual st f fd ∧ Mk K C f) (Sc : FnScope N ps (defScope st))
    (bp : ∀ (kV doc pm : Value) (an : Option Addr) (cdv ct : Value) (us : List Value), us.length = ps.length → bindArgs (PySem.W.fnOf "__init__" qual (defArgs st) (defBody st) (defScope st) .none kV doc pm an cdv ct) ⟨us, []⟩ = pure (ps.zip us))
    (len : ∀ ds q er, spec ds q er → ds.length + 1 = ps.length)
    (body : ∀ (cdv : Value), ∀ (F0 H0 : Hp) (p : Addr) ds q er, spec ds q er → EvB (mkS Tq P w K mg base N (defScope st) k F0 H0 [(p, .o, fun _ => True)] er cdv (qlOf qual (defScope st))) (.ow p .o (fun ys => ys = [.ins C []]) :: st0 ds (N.length - 1)) (defBody st) { nx := fun Γ => ∃ fs, Slot.ow p .o (fun ys => ys = [.ins C fs]) ∈ Γ ∧ q fs, rt := fun _ => False }) :
    ClsG P w K mg base x qual st (k + 1) ps Tq C spec := by
  obtain ⟨f, fd, F, M⟩ := h
  exact ⟨gm, cls, ⟨f, fd, F, M, fnI (F := F) Sc len fun cdv _ => body cdv⟩, bp⟩
/-- a property by its getter's body -/
theorem propD {spec : Fd} (cls : Cls K C) (h : ∃ p g fd, PropOf K C f p g ∧ Fun K f qual st g fd) (Sc : FnScope N ps (defScope st))
    (bp : ∀ (kV doc pm : Value) (an : Option Addr) (cdv ct : Value) (us : List Value), us.length = ps.length → bindArgs (PySem.W.fnOf f qual (defArgs st) (defBody st) (defScope st) .none kV doc pm an cdv ct) ⟨us, []⟩ = pure (ps.zip us))
    (len : ∀ ds q er, spec ds q er → ds.length = ps.length)
    (body : ∀ (cdv : Value), ∀ (F0 H0 : Hp) ds q er, spec ds q er → EvB (mkS Tq P w K mg base N (defScope st) k F0 H0 [] er cdv (qlOf qual (defScope st))) (st0 ds N.length) (defBody st) { nx := fun _ => q .non, rt := q }) :
    PropG P w K mg base C f qual st (k + 1) ps Tq spec := by
  obtain ⟨p, g, fd, hp, F⟩ := h
  exact ⟨cls, ⟨p, g, fd, hp, F, fnD (F := F) Sc len fun cdv _ => body cdv⟩, bp⟩
end
/-! ### isinstance of an own class -/
structure IsC (K : PySem.W.Frag) (mg : Str → Option Value) (x : Str) (C : Addr) : Prop where
  gm : mg x = some (.ref C)
  cls : Cls K C
  ha : PySem.W.findIn K (.ref C) "__class__" = some (some (.builtin "object.__class__"))
  hn : PySem.W.specialIn K (.builtin "object.__class__") "__get__" = some (some (.builtin "getset_descriptor.__get__"))
  htk : PySem.W.takesIn K (.builtin "object.__class__") = some true
  hm : PySem.W.mroIn K C (.type "object") = some true
  own : PySem.W.kitOne K (.ref C) (.ref C) = some true
  no : ∀ n ∈ ["NoneType", "bool", "int", "str", "list", "tuple", "dict"], PySem.W.kitOne K (.type n) (.ref C) = some false
@[reducible] def isIns (C : Addr) (d : Da) : Bool := match d with | .ins D _ => decide (D = C) | _ => false
/-- of it isinstance may be asked -/
@[reducible] def kinC (C : Addr) (d : Da) : Prop := match d with | .ins D _ => D = C | d => d.known = true
theorem tyn_mem {d : Da} (h : d.known = true) : d.tyn ∈ ["NoneType", "bool", "int", "str", "list", "tuple", "dict"] := by
  have z : ∀ s ∈ ["NoneType", "bool", "int", "str", "list", "tuple", "dict"], s ∈ ["NoneType", "bool", "int", "str", "list", "tuple", "dict"] := fun _ h => h
  cases d with
  | non => exact z "NoneType" (by decide)
  | bl b => exact z "bool" (by decide)
  | int i => exact z "int" (by decide)
  | str i => exact z "str" (by decide)
  | lst i => exact z "list" (by decide)
  | tup i => exact z "tuple" (by decide)
  | dct i => exact z "dict" (by decide)
  | _ => exact nomatch h
section
variable {S : Sx} {Γ : List Slot} {e : Expr} {Q : Da → Prop} {p p2 pos : Pos} {x : Str} {C : Addr}
theorem ev_isC (B : IsC S.K S.mg x C) (hg : GlS S "isinstance") (hm : S.mg "isinstance" = none) (hgx : GlS S x) (h : EvE S Γ e fun d => kinC C d ∧ Q (.bl (isIns C d)))
    (hdb : (x == ("__debug__" : Str)) = false := by decide) (he : ∀ env, starEach [e, .Name x p2] env = (false, eval e env) :: starEach [.Name x p2] env := by intro _; rfl) (he2 : ∀ env, starEach [.Name x p2] env = (false, eval (.Name x p2) env) :: starEach [] env := by intro _; rfl)
    (hpl : ∀ env, (backTo pos (starEach [.Name x p2] env)).any (·.1) = false := by intro _; rfl) : EvE S Γ (.Call (.Name "isinstance" p) [e, .Name x p2] [] pos) Q := by
  refine ev_of (t := tCB (rIsi S.K) (tCons (tU S e) (tCons (tC (.ref C)) tNil))) (fun X ok => ?_) fun PX σ H Hf k st hk => ?_
  · have z := pe_callB (X := X) (p := p) (pos := pos) (call_isi (X := X)) (hg.gl ok) (by rw [ok.mg]; exact hm) bt_isinstance (pa_cons (pu (e := e) ok) (pa_cons (pe_glob (x := x) (v := .ref C) (u := .ref C) (pos := p2) (hgx.gl ok) (by rw [ok.mg]; exact B.gm) rfl hdb) pa_nil (he2 _)) (he _)) (by decide) (by decide) (he _) (hpl _)
    rw [ok.K] at z
    exact z
  · refine h PX σ H Hf _ st fun d v Hf1 H1 e1 st1 r1 ⟨q1, q2⟩ => ?_
    cases d with
    | ins D fs =>
      have q1 : D = C := q1
      subst q1
      unfold Rep at r1
      obtain ⟨a, dx, gs, rfl, h1, h2⟩ := r1
      refine ⟨.ref a, .ref D, .ref D, .ref D, true, rfl, .own D, .base (.ins (st1.ex _ _ h1) B.cls B.ha B.hn B.htk B.hm), B.own, hk (.bl true) _ Hf1 H1 e1 st1 rfl ?_⟩
      rw [show isIns D (.ins D fs) = true from decide_eq_true rfl] at q2
      exact q2
    | _ => first
      | exact ⟨v, .ref C, _, .ref C, false, rfl, .own C, Rep.tyx q1 (Rep.mono st1.ex _ _ r1), B.no _ (tyn_mem q1), hk (.bl false) _ Hf1 H1 e1 st1 rfl q2⟩
      | cases q1
end
end GX

namespace GX
open PySem PySem.Spec PyProof.Rows L2 PySem.W
/-! ## == and != of instances with an own __eq__ -/
section
variable {prog : Program} {w : World} {A : Around} {E : Value → Shared → Prop} {s : Shared} {K : PySem.W.Frag} {x C f : Addr} {ox : Obj} {od : Option Obj} {name : Str} {b tb : Value}
/-- a truth comes back -/
def BoolIs (Q : Bool → Shared → Prop) (v : Value) (s' : Shared) : Prop := ∃ r, v = .bool r ∧ Q r s'
theorem eq_bound {Q : Bool → Shared → Prop} (X : K.In s.heap) (I : InstAt s.heap x ox C od) (hs : findIn K (.ref C) "__eq__" = some (some (.ref f))) (hf : isFn K (.ref f) = true)
    (h : wpAny (model prog w) A (call (.ref f) [.ref x, b]) (BoolIs Q) E s) : wpAny (model prog w) A (callSpecialIfBound? (.ref x) "__eq__" [b]) (fun r s' => ∃ t, r = some (.bool t) ∧ Q t s') E s :=
  ifBound_K X I hs hf (wpAny_mono h (fun v s' ⟨r, e, q⟩ => ⟨r, by rw [e], q⟩) fun _ _ z => z)
theorem eq_try {Q : Bool → Shared → Prop} (X : K.In s.heap) (I : InstAt s.heap x ox C od) (hs : findIn K (.ref C) "__eq__" = some (some (.ref f))) (hf : isFn K (.ref f) = true)
    (h : wpAny (model prog w) A (call (.ref f) [.ref x, b]) (BoolIs Q) E s) : wpAny (model prog w) A (tryCompare (.ref x) "__eq__" b) (fun r s' => ∃ t, r = some (.bool t) ∧ Q t s') E s := by
  unfold tryCompare
  refine wpAny_bind (wpAny_mono (eq_bound X I hs hf h) (fun r s' ⟨t, e, q⟩ => ?_) fun _ _ z => z)
  subst e
  exact wpAny_pure ⟨t, rfl, q⟩
/-- object.__ne__ asks the own __eq__ -/
theorem ne_body {Q : Fin → Shared → Prop} (hu : A.units < cLine) (X : K.In s.heap) (I : InstAt s.heap x ox C od) (hs : findIn K (.ref C) "__eq__" = some (some (.ref f))) (hf : isFn K (.ref f) = true)
    (h : wpAny (model prog w) A (call (.ref f) [.ref x, b]) (BoolIs fun t s' => Q (.done (.ret (.bool (!t)))) s') E s) : wpAny (model prog w) A (Builtin.«object.__ne__» ⟨[.ref x, b], []⟩) Q E s := by
  have e := eq_bound X I hs hf h
  unfold Builtin.«object.__ne__»
  repeat (first
    | with_reducible refine wpAny_cRoomFor hu ?_
    | (refine wpAny_bind (m := callSpecialIfBound? (.ref x) (Str.ofString "__eq__") [b]) (wpAny_mono e (fun r s' hr => by
          obtain ⟨t, rfl, hq⟩ := hr
          repeat (first | exact hq | exact wpAny_pure hq | exact wpAny_truthy_bool hq | (refine wpAny_bind (m := truthy (.bool _)) (wpAny_truthy_bool ?_)) | wp_step)) fun _ _ z => z))
    | wp_step)
theorem ne_bound {Q : Bool → Shared → Prop} (hu : A.units + 1 < cLine) (X : K.In s.heap) (I : InstAt s.heap x ox C od) (hn : findIn K (.ref C) "__ne__" = some (some (.builtin "object.__ne__"))) (ho : mroIn K C (.type "object") = some true) (hs : findIn K (.ref C) "__eq__" = some (some (.ref f))) (hf : isFn K (.ref f) = true)
    (h : wpAny (model prog w) A.in1 (call (.ref f) [.ref x, b]) (BoolIs fun t s' => Q (!t) s') E s) : wpAny (model prog w) A (callSpecialIfBound? (.ref x) "__ne__" [b]) (fun r s' => ∃ t, r = some (.bool t) ∧ Q t s') E s := by
  have hc : wpAny (model prog w) A (call (.builtin "object.__ne__") [.ref x, b]) (fun v s' => ∃ t, v = .bool t ∧ Q t s') E s := by
    refine wpAny_call (codeAny_call_builtin F.cmp_object.ne.plain F.cmpEntry_ne (check_slot F.cmpKind_ne F.cmpSplit_ne (I.type.andThen (looks_mroIn X ho)) (F.cmpArgs_ne _ _) ?_))
    exact ne_body (A := A.in1) hu X I hs hf (wpAny_mono h (fun v s' ⟨t, e, q⟩ => ⟨t, e, !t, rfl, q⟩) fun _ _ z => z)
  simp only [callSpecialIfBound?, bindSpecialIfBound?]
  refine wpAny_holding (wpAny_bind (wpAny_bind (wpAny_bind (I.type.here ((looks_findIn X hn).here ?_)))))
  have fin : wpAny (model prog w) A (call (.builtin "object.__ne__") ([.ref x] ++ [b]) >>= fun v => pure (some v)) (fun r s' => ∃ t, r = some (.bool t) ∧ Q t s') E s := wpAny_bind (wpAny_mono hc (fun v s' ⟨t, e, q⟩ => wpAny_pure ⟨t, by rw [e], q⟩) fun _ _ z => z)
  simp only [F.cmp_object.ne.bind]
  refine wpAny_bind (wpAny_askSetting (wpAny_ite ?_))
  split
  · exact wpAny_bind (wpAny_pure (wpAny_pure fin))
  · exact wpAny_tryCatch (wpAny_bind (wpAny_pure (wpAny_pure fin)))
theorem ne_try {Q : Bool → Shared → Prop} (hu : A.units + 1 < cLine) (X : K.In s.heap) (I : InstAt s.heap x ox C od) (hn : findIn K (.ref C) "__ne__" = some (some (.builtin "object.__ne__"))) (ho : mroIn K C (.type "object") = some true) (hs : findIn K (.ref C) "__eq__" = some (some (.ref f))) (hf : isFn K (.ref f) = true)
    (h : wpAny (model prog w) A.in1 (call (.ref f) [.ref x, b]) (BoolIs fun t s' => Q (!t) s') E s) : wpAny (model prog w) A (tryCompare (.ref x) "__ne__" b) (fun r s' => ∃ t, r = some (.bool t) ∧ Q t s') E s := by
  unfold tryCompare
  refine wpAny_bind (wpAny_mono (ne_bound hu X I hn ho hs hf h) (fun r s' ⟨t, e, q⟩ => ?_) fun _ _ z => z)
  subst e
  exact wpAny_pure ⟨t, rfl, q⟩
/-- x == b, x != b, x the instance -/
theorem rich_left {op : CmpOp} {Q : Bool → Shared → Prop} (hu : A.units < cLine) (X : K.In s.heap) (I : InstAt s.heap x ox C od) (hb : Looks (model prog w) s.heap (typeOf b) tb) (hn : notFirst K C tb = true)
    (h : wpAny (model prog w) A (tryCompare (.ref x) (cmpInfo op).2.1 b) (fun r s' => ∃ t, r = some (.bool t) ∧ Q t s') E s) : wpAny (model prog w) A (richCompare op (.ref x) b) (BoolIs Q) E s := by
  unfold richCompare
  simp only [oneThing_ref]
  refine wpAny_holding (wpAny_bind (wpAny_cRoomFor hu ?_))
  refine wpAny_bind (I.type.here (wpAny_bind (hb.here ?_)))
  split
  · rename_i q
    have e : subIn K tb (.ref C) = some false := by
      rcases Bool.or_eq_true_iff.mp hn with e | e
      · rw [beq_iff_eq.mp e] at q; simp at q
      · exact beq_iff_eq.mp e
    refine wpAny_bind ((looks_subIn X e).here ?_)
    simp only [Bool.false_eq_true, if_false]
    refine wpAny_bind (wpAny_mono h (fun r s' z => ?_) fun _ _ e => e)
    obtain ⟨t, rfl, hq⟩ := z
    exact wpAny_pure ⟨t, rfl, hq⟩
  · refine wpAny_bind (wpAny_pure ?_)
    simp only [Bool.false_eq_true, if_false]
    refine wpAny_bind (wpAny_mono h (fun r s' z => ?_) fun _ _ e => e)
    obtain ⟨t, rfl, hq⟩ := z
    exact wpAny_pure ⟨t, rfl, hq⟩
/-- b == x, b != x, x the instance, b of a built-in type that declines -/
theorem rich_right {op : CmpOp} {Q : Bool → Shared → Prop} {T : String} (hu : A.units < cLine) (hone : oneThing? op b (.ref x) = none) (X : K.In s.heap) (I : InstAt s.heap x ox C od) (hb : Looks (model prog w) s.heap (typeOf b) (.type T)) (hn : subIn K (.ref C) (.type T) = some false)
    (hd : wpAny (model prog w) A (tryCompare b (cmpInfo op).2.1 (.ref x)) (fun r s' => r = none ∧ wpAny (model prog w) A (tryCompare (.ref x) (cmpInfo op).2.2 b) (fun r s' => ∃ t, r = some (.bool t) ∧ Q t s') E s') E s) : wpAny (model prog w) A (richCompare op b (.ref x)) (BoolIs Q) E s := by
  unfold richCompare
  refine wpAny_holding (wpAny_bind (wpAny_cRoomFor hu ?_))
  rw [hone]
  refine wpAny_bind (hb.here (wpAny_bind (I.type.here ?_)))
  have ne : (Value.type T != Value.ref C) = true := rfl
  simp only [ne, if_true]
  refine wpAny_bind ((looks_subIn X hn).here ?_)
  simp only [Bool.false_eq_true, if_false, Bool.not_false, if_true]
  refine wpAny_bind (wpAny_mono hd (fun r s' z => ?_) fun _ _ e => e)
  obtain ⟨rfl, z⟩ := z
  refine wpAny_bind (wpAny_mono z (fun r s' z => ?_) fun _ _ e => e)
  obtain ⟨t, rfl, hq⟩ := z
  exact wpAny_pure ⟨t, rfl, hq⟩
end
theorem tup_eq_ins {prog : Program} {w : World} {A : Around} {R : Result → Shared → Prop} {s : Shared} {l x : Addr} (hi : Looks (model prog w) s.heap (isInstance (.ref x) (.type "tuple")) false) (h : R (.ok (.ret .notImplemented)) s) :
    wpAny (model prog w) A.in1 (Builtin.«tuple.__eq__» ⟨[.ref l, .ref x], []⟩) (fun fin s' => match fin with | .done f => R (.ok f) s' | .again c' => c'.quiet = true ∧ codeAny (model prog w) A c' R s') (fun e s' => R (.error e) s') s := by
  obtain ⟨hp, g, d, tk, os⟩ := s
  unfold Builtin.«tuple.__eq__»
  show wpAny _ _ (do if !(← isInstance (.ref x) (.type "tuple")) then return ← ret .notImplemented
                     _) _ _ _
  refine wpAny_bind (hi.here ?_)
  rw [if_pos (show (!false) = true from rfl)]
  exact wpAny_pure h
theorem tup_ne_ins {prog : Program} {w : World} {A : Around} {R : Result → Shared → Prop} {s : Shared} {l x : Addr} (hi : Looks (model prog w) s.heap (isInstance (.ref x) (.type "tuple")) false) (h : R (.ok (.ret .notImplemented)) s) :
    wpAny (model prog w) A.in1 (Builtin.«tuple.__ne__» ⟨[.ref l, .ref x], []⟩) (fun fin s' => match fin with | .done f => R (.ok f) s' | .again c' => c'.quiet = true ∧ codeAny (model prog w) A c' R s') (fun e s' => R (.error e) s') s := by
  obtain ⟨hp, g, d, tk, os⟩ := s
  unfold Builtin.«tuple.__ne__»
  show wpAny _ _ (do if !(← isInstance (.ref x) (.type "tuple")) then return ← ret .notImplemented
                     _) _ _ _
  refine wpAny_bind (hi.here ?_)
  rw [if_pos (show (!false) = true from rfl)]
  exact wpAny_pure h
end GX

namespace GX
open PySem PySem.Spec PyProof.Rows L2
/-! ## == and != of an instance whose class has an own __eq__ and no own __ne__ -/
structure EqC (P : Program) (w : World) (K : PySem.W.Frag) (mg : Str → Option Value) (base : Heap) (C : Addr) (qual : Str) (st : Stmt) (k : Nat) (ps : List Str) (Tq : List (Addr × Str)) (spec : Fd) : Prop where
  cls : Cls K C
  ex : ∃ f fd, PySem.W.findIn K (.ref C) "__eq__" = some (some (.ref f)) ∧ PySem.W.isFn K (.ref f) = true ∧ Fun K "__eq__" qual st f fd ∧ FnG P w K mg base k f fd ps (SpD K Tq spec)
  bp : ∀ (kV doc pm : Value) (an : Option Addr) (cdv ct : Value) (us : List Value), us.length = ps.length → bindArgs (PySem.W.fnOf "__eq__" qual (defArgs st) (defBody st) (defScope st) .none kV doc pm an cdv ct) ⟨us, []⟩ = pure (ps.zip us)
  ne : PySem.W.findIn K (.ref C) "__ne__" = some (some (.builtin "object.__ne__"))
  ob : PySem.W.mroIn K C (.type "object") = some true
  nf : ∀ n ∈ ["NoneType", "bool", "int", "str", "list", "tuple", "dict"], PySem.W.subIn K (.type n) (.ref C) = some false
  nr : ∀ n ∈ ["NoneType", "tuple"], PySem.W.subIn K (.ref C) (.type n) = some false
  ha : PySem.W.findIn K (.ref C) "__class__" = some (some (.builtin "object.__class__"))
  hn : PySem.W.specialIn K (.builtin "object.__class__") "__get__" = some (some (.builtin "getset_descriptor.__get__"))
  htk : PySem.W.takesIn K (.builtin "object.__class__") = some true
/-- x op y, x an instance: the own __eq__ answers; g: turned or not -/
def rEqI (K : PySem.W.Frag) (T : List (Addr × Str)) (C : Addr) (spec : Fd) (g : Bool → Bool) : R2 := fun x y H Q => ∃ a dx fs t, x = .ref a ∧ H a = some (.ins C dx fs) ∧ TyX K H y t ∧ PySem.W.notFirst K C t = true ∧
  SpD K T spec [x, y] H (fun v H' => ∃ b, v = .bl b ∧ Q (.bl (g b)) H') (fun _ _ _ => False)
/-- y op x, x the instance, y a tuple or None -/
def rEqR (K : PySem.W.Frag) (T : List (Addr × Str)) (C : Addr) (spec : Fd) (g : Bool → Bool) : R2 := fun y x H Q => ∃ a dx fs, x = .ref a ∧ H a = some (.ins C dx fs) ∧ (y = .non ∧ PySem.W.subIn K (.ref C) (.type "NoneType") = some false ∨ ∃ b ys, y = .ref b ∧ SqT K H b ys ∧ TyX K H (.ref b) (.type "tuple") ∧ PySem.W.subIn K (.ref C) (.type "tuple") = some false) ∧
  SpD K T spec [x, y] H (fun v H' => ∃ b, v = .bl b ∧ Q (.bl (g b)) H') (fun _ _ _ => False)
section
variable {X : Cx} {C : Addr} {f : Addr} {fd : FuncData} {k : Nat} {ps : List Str} {T : List (Addr × Str)} {spec : Fd}
theorem eq_runs {A : Around} {pins : List (Addr × Obj)} {σ : L2.St} {H : Hp} {s : Shared} {E : Value → Shared → Prop} {a : Addr} {y : V} {u : Value} {Q : VK} {g : Bool → Bool} (F : FnG X.prog X.w X.K X.mg X.base k f fd ps (SpD X.K T spec)) (hb : BindP fd ps) (hr : Room k A) (hgd : A.guards = some []) (e0 : Env0 X.prog X.w X.K X.mg X.base A X.stack s H) (I : Inv X pins σ H s) (ry : RelV y u)
    (h : SpD X.K T spec [.ref a, y] H (fun v H' => ∃ b, v = .bl b ∧ Q (.bl (g b)) H') (fun _ _ _ => False)) : wpAny (model X.prog X.w) A (call (.ref f) [.ref a, u]) (BoolIs fun t s' => ∃ H', Inv X pins σ H' s' ∧ Q (.bl (g t)) H') E s := by
  have r2 : Vals [V.ref a, y] [Value.ref a, u] := .cons rfl (.cons ry .nil)
  refine wpAny_call (codeAny_mono (F.run A X.stack s H ⟨[.ref a, u], []⟩ [.ref a, u] [.ref a, y] _ _ hr hgd e0 (.of_eq (hb _ (by rw [← r2.length]; exact F.len _ _ _ _ h))) r2 h) fun r s' hq => ?_)
  match r, hq with
  | .error e, hq =>
    have hq : L2.CX X.prog X.w X.stack H s (fun _ _ _ => False) e s' := hq
    obtain ⟨_, _, _, _, _, _, _, _, _, _, _, _, _, _, _, _, w⟩ := hq
  | .ok (.ret u), hq =>
    obtain ⟨z, H', I', rz, b, ez, q⟩ := I.after hq
    subst ez
    exact ⟨b, rz, H', I', q⟩
  | .ok .next, hq => exact False.elim hq
  | .ok .brk, hq => exact False.elim hq
  | .ok .cont, hq => exact False.elim hq
theorem op_eqI (c : Cls X.K C) (hs : PySem.W.findIn X.K (.ref C) "__eq__" = some (some (.ref f))) (hf : PySem.W.isFn X.K (.ref f) = true) (F : FnG X.prog X.w X.K X.mg X.base k f fd ps (SpD X.K T spec)) (hb : BindP fd ps) (hr : Room k X.A) (hgd : X.A.guards = some []) (hu : X.A.units < cLine) :
    OpR X (compareOp .Eq) (rEqI X.K T C spec fun b => b) := by
  intro pins s σ H x y u v Q I rx ry h
  obtain ⟨a, dx, fs, t, rfl, ha, ty, hn, q⟩ := h
  cases rx
  obtain ⟨mA, O, _⟩ := ins_get I.hok ha
  obtain ⟨od, J, _⟩ := O.look
  obtain ⟨Pr, Z, p, _⟩ := kit_of I ry ty
  have lk := Z.ty (model X.prog X.w) s.heap I.kIn p
  unfold compareOp
  refine wpAny_mono (rich_left (op := .Eq) hu I.kIn J lk hn (eq_try I.kIn J hs hf (eq_runs (g := fun b => b) F hb hr hgd I.env0 I ry q))) (fun w s' ⟨r, e, H', I', q'⟩ => ?_) fun _ _ z => z
  subst e
  exact ⟨.bl r, H', I', rfl, q'⟩
theorem op_neI (c : Cls X.K C) (hs : PySem.W.findIn X.K (.ref C) "__eq__" = some (some (.ref f))) (hf : PySem.W.isFn X.K (.ref f) = true) (hne : PySem.W.findIn X.K (.ref C) "__ne__" = some (some (.builtin "object.__ne__"))) (ho : PySem.W.mroIn X.K C (.type "object") = some true) (F : FnG X.prog X.w X.K X.mg X.base k f fd ps (SpD X.K T spec)) (hb : BindP fd ps) (hr : Room (k + 1) X.A) (hgd : X.A.guards = some []) (hu : X.A.units + 1 < cLine) :
    OpR X (compareOp .NotEq) (rEqI X.K T C spec fun b => !b) := by
  intro pins s σ H x y u v Q I rx ry h
  obtain ⟨a, dx, fs, t, rfl, ha, ty, hn, q⟩ := h
  cases rx
  obtain ⟨mA, O, _⟩ := ins_get I.hok ha
  obtain ⟨od, J, _⟩ := O.look
  obtain ⟨Pr, Z, p, _⟩ := kit_of I ry ty
  have lk := Z.ty (model X.prog X.w) s.heap I.kIn p
  unfold compareOp
  refine wpAny_mono (rich_left (op := .NotEq) (Nat.lt_of_succ_lt hu) I.kIn J lk hn (ne_try (Q := fun t s' => ∃ H', Inv X pins σ H' s' ∧ Q (.bl t) H') hu I.kIn J hne ho hs hf (eq_runs (g := fun b => !b) F hb hr.in1 hgd I.env0.in1 I ry q))) (fun w s' ⟨r, e, H', I', q'⟩ => ?_) fun _ _ z => z
  subst e
  exact ⟨.bl r, H', I', rfl, q'⟩
end
section
variable {prog : Program} {w : World} {A : Around} {E : Value → Shared → Prop} {s : Shared} {K : PySem.W.Frag} {x C l : Addr} {ox : Obj} {od : Option Obj} {P : Shared → Prop}
/-- None, a tuple: they decline an instance -/
theorem dec_none_eq (q : P s) : wpAny (model prog w) A (tryCompare .none "__eq__" (.ref x)) (fun r s' => r = none ∧ P s') E s :=
  wpAny_tryCompare_declines (T := "NoneType") rfl F.slot_NoneType_eq (call_gives F.slot_NoneType_eq rfl F.entry_NoneType_eq (F.args_NoneType_eq_2 _ _) (SeqAt.NoneType___eq___none_ref_0 x) ⟨rfl, rfl, q⟩)
theorem dec_none_ne (q : P s) : wpAny (model prog w) A (tryCompare .none "__ne__" (.ref x)) (fun r s' => r = none ∧ P s') E s :=
  wpAny_tryCompare_declines (T := "NoneType") rfl F.slot_NoneType_ne (call_gives F.slot_NoneType_ne rfl F.entry_NoneType_ne (F.args_NoneType_ne_2 _ _) (SeqAt.NoneType___ne___none_ref_0 x) ⟨rfl, rfl, q⟩)
theorem dec_tup_eq (hT : s.TypeIs (.ref l) "tuple") (hi : PySem.W.Looks (model prog w) s.heap (isInstance (.ref x) (.type "tuple")) false) (q : P s) : wpAny (model prog w) A (tryCompare (.ref l) "__eq__" (.ref x)) (fun r s' => r = none ∧ P s') E s :=
  wpAny_tryCompare_declines hT F.slot_tuple_eq (GQ.call_here F.slot_tuple_eq hT F.entry_tuple_eq (F.args_tuple_eq_2 _ _) (tup_eq_ins hi ⟨rfl, rfl, q⟩))
theorem dec_tup_ne (hT : s.TypeIs (.ref l) "tuple") (hi : PySem.W.Looks (model prog w) s.heap (isInstance (.ref x) (.type "tuple")) false) (q : P s) : wpAny (model prog w) A (tryCompare (.ref l) "__ne__" (.ref x)) (fun r s' => r = none ∧ P s') E s :=
  wpAny_tryCompare_declines hT F.slot_tuple_ne (GQ.call_here F.slot_tuple_ne hT F.entry_tuple_ne (F.args_tuple_ne_2 _ _) (tup_ne_ins hi ⟨rfl, rfl, q⟩))
end
section
variable {X : Cx} {C : Addr} {f : Addr} {fd : FuncData} {k : Nat} {ps : List Str} {T : List (Addr × Str)} {spec : Fd}
theorem op_eqR (c : Cls X.K C) (hs : PySem.W.findIn X.K (.ref C) "__eq__" = some (some (.ref f))) (hf : PySem.W.isFn X.K (.ref f) = true) (F : FnG X.prog X.w X.K X.mg X.base k f fd ps (SpD X.K T spec)) (hb : BindP fd ps) (hr : Room k X.A) (hgd : X.A.guards = some []) (hu : X.A.units < cLine) :
    OpR X (compareOp .Eq) (rEqR X.K T C spec fun b => b) := by
  intro pins s σ H x y u v Q I rx ry h
  obtain ⟨a, dx, fs, rfl, ha, hy, q⟩ := h
  cases ry
  obtain ⟨mA, O, _⟩ := ins_get I.hok ha
  obtain ⟨od, J, _⟩ := O.look
  unfold compareOp
  have back : ∀ w s', BoolIs (fun t s' => ∃ H', Inv X pins σ H' s' ∧ Q (.bl t) H') w s' → EP X pins σ Q w s' := fun w s' ⟨r, e, H', I', q'⟩ => by
    subst e
    exact ⟨.bl r, H', I', rfl, q'⟩
  have tr := eq_try (b := u) I.kIn J hs hf (eq_runs (E := X.xe) (g := fun b => b) F hb hr hgd I.env0 I rx q)
  rcases hy with ⟨rfl, hn⟩ | ⟨b, ys, rfl, hx, ty, hn⟩
  · obtain rfl : u = Value.none := rx
    exact wpAny_mono (rich_right (op := .Eq) (T := "NoneType") hu rfl I.kIn J (PySem.W.Looks.of_pure rfl) hn (dec_none_eq tr)) back fun _ _ z => z
  · obtain rfl : u = Value.ref b := rx
    obtain ⟨its, r1, p1, _⟩ := I.tuple hx
    obtain ⟨Pr, Z, p, _⟩ := kit_of (x := V.ref b) (u := Value.ref b) I rfl ty
    exact wpAny_mono (rich_right (op := .Eq) (T := "tuple") hu (oneThing_ref ..) I.kIn J (Z.ty _ s.heap I.kIn p) hn (dec_tup_eq p1.typeIs (J.type.andThen (PySem.W.looks_subIn I.kIn hn)) tr)) back fun _ _ z => z
theorem op_neR (c : Cls X.K C) (hs : PySem.W.findIn X.K (.ref C) "__eq__" = some (some (.ref f))) (hf : PySem.W.isFn X.K (.ref f) = true) (hne : PySem.W.findIn X.K (.ref C) "__ne__" = some (some (.builtin "object.__ne__"))) (ho : PySem.W.mroIn X.K C (.type "object") = some true) (F : FnG X.prog X.w X.K X.mg X.base k f fd ps (SpD X.K T spec)) (hb : BindP fd ps) (hr : Room (k + 1) X.A) (hgd : X.A.guards = some []) (hu : X.A.units + 1 < cLine) :
    OpR X (compareOp .NotEq) (rEqR X.K T C spec fun b => !b) := by
  intro pins s σ H x y u v Q I rx ry h
  obtain ⟨a, dx, fs, rfl, ha, hy, q⟩ := h
  cases ry
  obtain ⟨mA, O, _⟩ := ins_get I.hok ha
  obtain ⟨od, J, _⟩ := O.look
  unfold compareOp
  have back : ∀ w s', BoolIs (fun t s' => ∃ H', Inv X pins σ H' s' ∧ Q (.bl t) H') w s' → EP X pins σ Q w s' := fun w s' ⟨r, e, H', I', q'⟩ => by
    subst e
    exact ⟨.bl r, H', I', rfl, q'⟩
  have tr := ne_try (Q := fun t s' => ∃ H', Inv X pins σ H' s' ∧ Q (.bl t) H') (b := u) hu I.kIn J hne ho hs hf (eq_runs (E := X.xe) (g := fun b => !b) F hb hr.in1 hgd I.env0.in1 I rx q)
  rcases hy with ⟨rfl, hn⟩ | ⟨b, ys, rfl, hx, ty, hn⟩
  · obtain rfl : u = Value.none := rx
    exact wpAny_mono (rich_right (op := .NotEq) (T := "NoneType") (Nat.lt_of_succ_lt hu) rfl I.kIn J (PySem.W.Looks.of_pure rfl) hn (dec_none_ne tr)) back fun _ _ z => z
  · obtain rfl : u = Value.ref b := rx
    obtain ⟨its, r1, p1, _⟩ := I.tuple hx
    obtain ⟨Pr, Z, p, _⟩ := kit_of (x := V.ref b) (u := Value.ref b) I rfl ty
    exact wpAny_mono (rich_right (op := .NotEq) (T := "tuple") (Nat.lt_of_succ_lt hu) (oneThing_ref ..) I.kIn J (Z.ty _ s.heap I.kIn p) hn (dec_tup_ne p1.typeIs (J.type.andThen (PySem.W.looks_subIn I.kIn hn)) tr)) back fun _ _ z => z
end
end GX

namespace GX
open PySem PySem.Spec PyProof.Rows L2
/-! ## == and != of instances, as operators -/
section
variable {S : Sx} {C : Addr} {qual : Str} {st : Stmt} {k : Nat} {ps : List Str} {spec : Fd}
theorem EqC.tyx (c : EqC S.P S.w S.K S.mg S.base C qual st k ps S.T spec) {H : Hp} {d : Da} {v : V} (h : kinC C d) (r : Rep S.K H d v) : ∃ t, TyX S.K H v t ∧ PySem.W.notFirst S.K C t = true := by
  have nf : ∀ {d : Da}, d.known = true → PySem.W.notFirst S.K C (.type d.tyn) = true := fun {d} h => by
    unfold PySem.W.notFirst
    rw [c.nf _ (tyn_mem h)]
    exact Bool.or_true _
  cases d with
  | ins D fs =>
    have e : D = C := h
    subst e
    unfold Rep at r
    obtain ⟨a, dx, gs, rfl, h1, _⟩ := r
    refine ⟨.ref D, .base (.ins h1 c.cls c.ha c.hn c.htk c.ob), ?_⟩
    unfold PySem.W.notFirst
    rw [show (Value.ref D == Value.ref D) = true by simp]
    rfl
  | _ => first
    | exact ⟨_, Rep.tyx h r, nf h⟩
    | cases h
theorem eqI_sp {PX Hf H : Hp} {Γ : List Slot} {σ : L2.St} {x y : Da} {v u : V} {Q : Da → Prop} {kk : VK} {g : Bool → Bool} (st : Stt S PX Γ Hf H σ) (rx : Rep S.K Hf x v) (ry : Rep S.K Hf y u) (q : spec [x, y] (fun d => asBl d fun b => Q (.bl (g b))) fun _ _ => False)
    (hk : ∀ d v Hf' H', Sub Hf Hf' → Stt S PX Γ Hf' H' σ → Rep S.K Hf' d v → Q d → kk v H') : SpD S.K S.T spec [v, u] H (fun v H' => ∃ b, v = .bl b ∧ kk (.bl (g b)) H') (fun _ _ _ => False) := by
  refine ⟨[x, y], Hf, _, _, st.z.ex, st.tb, ⟨v, [u], rfl, rx, u, [], rfl, ry, rfl⟩, q, fun d v Hf' H' gg kp t rr qq => ?_, fun _ _ _ _ _ _ _ _ _ z => z.elim⟩
  obtain ⟨b, rfl, q2⟩ := asBl_ qq
  exact ⟨b, rr, hk (.bl (g b)) _ Hf' H' gg.f (st.grow gg.f gg.e kp gg.n t) rfl q2⟩
theorem EqC.bind (c : EqC S.P S.w S.K S.mg S.base C qual st k ps S.T spec) {f : Addr} {fd : FuncData} (F : Fun S.K "__eq__" qual st f fd) : BindP fd ps := by
  obtain ⟨oc, od, kV, doc, pm, an, cdv, ct, osl, rfl, lk, hcd⟩ := F.ex
  exact fun us h => c.bp kV doc pm an cdv ct us h
theorem g_eqI (c : EqC S.P S.w S.K S.mg S.base C qual st k ps S.T spec) (hk : k ≤ S.k) (hc : S.calm = true := by rfl) : OpG S (compareOp .Eq) fun x y Q => ∃ fs, x = .ins C fs ∧ kinC C y ∧ spec [x, y] (fun d => asBl d fun b => Q (.bl b)) fun _ _ => False := by
  obtain ⟨f, fd, hs, hf, F, G⟩ := c.ex
  refine ⟨rEqI S.K S.T C spec fun b => b, fun X ok => ?_, fun PX Γ σ Hf H x y v u Q kk st rx ry ⟨fs, ex, hy, q⟩ hkk => ?_⟩
  · have z := op_eqI (X := X) (T := S.T) (spec := spec) (by rw [ok.K]; exact c.cls) (by rw [ok.K]; exact hs) (by rw [ok.K]; exact hf) (by rw [ok.P, ok.w, ok.K, ok.mg, ok.base]; exact G) (c.bind F) ((ok.room hc).mono hk) ok.gd (by have := ok.un; omega)
    rw [ok.K] at z
    exact z
  · obtain ⟨t, ty, hn⟩ := c.tyx hy (Rep.mono st.ex _ _ ry)
    have sp := eqI_sp (g := fun b => b) st rx ry q hkk
    subst ex
    unfold Rep at rx
    obtain ⟨a, dx, gs, rfl, h1, _⟩ := rx
    exact ⟨a, dx, gs, t, rfl, st.ex _ _ h1, ty, hn, sp⟩
theorem g_neI (c : EqC S.P S.w S.K S.mg S.base C qual st k ps S.T spec) (hk : k + 1 ≤ S.k) (hc : S.calm = true := by rfl) : OpG S (compareOp .NotEq) fun x y Q => ∃ fs, x = .ins C fs ∧ kinC C y ∧ spec [x, y] (fun d => asBl d fun b => Q (.bl (!b))) fun _ _ => False := by
  obtain ⟨f, fd, hs, hf, F, G⟩ := c.ex
  refine ⟨rEqI S.K S.T C spec fun b => !b, fun X ok => ?_, fun PX Γ σ Hf H x y v u Q kk st rx ry ⟨fs, ex, hy, q⟩ hkk => ?_⟩
  · have z := op_neI (X := X) (T := S.T) (spec := spec) (by rw [ok.K]; exact c.cls) (by rw [ok.K]; exact hs) (by rw [ok.K]; exact hf) (by rw [ok.K]; exact c.ne) (by rw [ok.K]; exact c.ob) (by rw [ok.P, ok.w, ok.K, ok.mg, ok.base]; exact G) (c.bind F) ((ok.room hc).mono hk) ok.gd (by have := ok.un; omega)
    rw [ok.K] at z
    exact z
  · obtain ⟨t, ty, hn⟩ := c.tyx hy (Rep.mono st.ex _ _ ry)
    have sp := eqI_sp (g := fun b => !b) st rx ry q hkk
    subst ex
    unfold Rep at rx
    obtain ⟨a, dx, gs, rfl, h1, _⟩ := rx
    exact ⟨a, dx, gs, t, rfl, st.ex _ _ h1, ty, hn, sp⟩
/-- what declines an instance -/
@[reducible] def decR (d : Da) : Prop := match d with | .non => True | .tup _ => True | _ => False
theorem g_eqR (c : EqC S.P S.w S.K S.mg S.base C qual st k ps S.T spec) (hk : k ≤ S.k) (hc : S.calm = true := by rfl) : OpG S (compareOp .Eq) fun y x Q => ∃ fs, x = .ins C fs ∧ decR y ∧ spec [x, y] (fun d => asBl d fun b => Q (.bl (b))) fun _ _ => False := by
  obtain ⟨f, fd, hs, hf, F, G⟩ := c.ex
  refine ⟨rEqR S.K S.T C spec fun b => b, fun X ok => ?_, fun PX Γ σ Hf H y x u v Q kk st ry rx ⟨fs, ex, hy, q⟩ hkk => ?_⟩
  · have z := op_eqR (X := X) (T := S.T) (spec := spec) (by rw [ok.K]; exact c.cls) (by rw [ok.K]; exact hs) (by rw [ok.K]; exact hf) (by rw [ok.P, ok.w, ok.K, ok.mg, ok.base]; exact G) (c.bind F) ((ok.room hc).mono hk) ok.gd (by have := ok.un; omega)
    rw [ok.K] at z
    exact z
  · have sp := eqI_sp (g := fun b => b) st rx ry q hkk
    subst ex
    unfold Rep at rx
    obtain ⟨a, dx, gs, rfl, h1, _⟩ := rx
    refine ⟨a, dx, gs, rfl, st.ex _ _ h1, ?_, sp⟩
    cases y with
    | non => exact .inl ⟨ry, c.nr _ (by decide)⟩
    | tup ys =>
      have ty := Rep.tyx (d := .tup ys) rfl (Rep.mono st.ex _ _ ry)
      unfold Rep at ry
      obtain ⟨b, xs, rfl, h2, _⟩ := ry
      exact .inr ⟨b, xs, rfl, st.ex.st h2, ty, c.nr _ (by decide)⟩
    | _ => cases hy
theorem g_neR (c : EqC S.P S.w S.K S.mg S.base C qual st k ps S.T spec) (hk : k + 1 ≤ S.k) (hc : S.calm = true := by rfl) : OpG S (compareOp .NotEq) fun y x Q => ∃ fs, x = .ins C fs ∧ decR y ∧ spec [x, y] (fun d => asBl d fun b => Q (.bl (!b))) fun _ _ => False := by
  obtain ⟨f, fd, hs, hf, F, G⟩ := c.ex
  refine ⟨rEqR S.K S.T C spec fun b => !b, fun X ok => ?_, fun PX Γ σ Hf H y x u v Q kk st ry rx ⟨fs, ex, hy, q⟩ hkk => ?_⟩
  · have z := op_neR (X := X) (T := S.T) (spec := spec) (by rw [ok.K]; exact c.cls) (by rw [ok.K]; exact hs) (by rw [ok.K]; exact hf) (by rw [ok.K]; exact c.ne) (by rw [ok.K]; exact c.ob) (by rw [ok.P, ok.w, ok.K, ok.mg, ok.base]; exact G) (c.bind F) ((ok.room hc).mono hk) ok.gd (by have := ok.un; omega)
    rw [ok.K] at z
    exact z
  · have sp := eqI_sp (g := fun b => !b) st rx ry q hkk
    subst ex
    unfold Rep at rx
    obtain ⟨a, dx, gs, rfl, h1, _⟩ := rx
    refine ⟨a, dx, gs, rfl, st.ex _ _ h1, ?_, sp⟩
    cases y with
    | non => exact .inl ⟨ry, c.nr _ (by decide)⟩
    | tup ys =>
      have ty := Rep.tyx (d := .tup ys) rfl (Rep.mono st.ex _ _ ry)
      unfold Rep at ry
      obtain ⟨b, xs, rfl, h2, _⟩ := ry
      exact .inr ⟨b, xs, rfl, st.ex.st h2, ty, c.nr _ (by decide)⟩
    | _ => cases hy
end
end GX

namespace GX
open PySem PySem.Spec PyProof.Rows L2
/-! ## the truth of an instance without __bool__ and __len__ -/
structure TruC (K : PySem.W.Frag) (C : Addr) : Prop where
  b : PySem.W.findIn K (.ref C) "__bool__" = some none
  l : PySem.W.findIn K (.ref C) "__len__" = some none
section
variable {S : Sx} {Γ : List Slot} {e : Expr} {B : Bool → Prop} {C : Addr}
theorem pt_ins {X : Cx} {ta : TE} (c : TruC X.K C) (he : PE X e ta) (hi : ∀ whole, isTrue e X.env whole = (do let v ← whole; standAt e.pos; holding [v] (truthy v))) : PT X e (fun σ H Q => ta σ H fun x H1 => ∃ a dx fs, x = .ref a ∧ H1 a = some (.ins C dx fs) ∧ Q true H1) := by
  refine ⟨fun pins s σ H Q I h => isTrue_plain (thn (he.run pins s σ H _ I h) fun v s1 ⟨x, H1, I1, r1, a, dx, fs, ex, ea, q⟩ => ?_) (hi _)⟩
  subst ex
  obtain rfl : v = Value.ref a := r1
  obtain ⟨mA, O, _⟩ := ins_get I1.hok ea
  obtain ⟨od, J, _⟩ := O.look
  obtain ⟨m, hF⟩ := I1.fr
  exact PySem.W.truthy_K0 hF I1.ok.mod.kin J c.b c.l ⟨H1, I1, q⟩
theorem et_ins (c : TruC S.K C) (h : EvE S Γ e fun d => ∃ fs, d = .ins C fs ∧ B true) (he : ∀ env whole, isTrue e env whole = (do let v ← whole; standAt e.pos; holding [v] (truthy v)) := by intro _ _; rfl) : EvT S Γ e B :=
  fun PX σ H Hf k st hk => ⟨_, fun X ok => pt_ins (by rw [ok.K]; exact c) (pu ok) (he X.env), h PX σ H Hf _ st fun d v Hf' H' e' st' r ⟨fs, ed, q⟩ => by
    subst ed
    unfold Rep at r
    obtain ⟨a, dx, gs, rfl, h1, _⟩ := r
    exact ⟨a, dx, gs, rfl, st'.ex _ _ h1, hk true Hf' H' e' st' q⟩⟩
end
end GX

namespace GX
open PySem PySem.Spec PyProof.Rows L2
/-! ## own classes without bases, as the end of a text hands them -/
theorem OpG.or {S : Sx} {f : Value → Value → Sem Value} {r r' : Da → Da → (Da → Prop) → Prop} (a : OpG S f r) (b : OpG S f r') : OpG S f fun x y Q => r x y Q ∨ r' x y Q := by
  obtain ⟨r1, h1, h2⟩ := a.ex
  obtain ⟨r3, h3, h4⟩ := b.ex
  exact ⟨_, fun X ok => (h1 X ok).or (h3 X ok), fun PX Γ σ Hf H x y v u Q k st rx ry hr hk => hr.elim (fun z => .inl (h2 PX Γ σ Hf H x y v u Q k st rx ry z hk)) fun z => .inr (h4 PX Γ σ Hf H x y v u Q k st rx ry z hk)⟩
/-- in __init__: the new instance stands first -/
theorem opsI {S : Sx} {Γ : List Slot} {p : Addr} {I : List Da → Prop} (h : S.op = [(p, .o, fun _ => True)]) (hi : Γ[0]? = some (.ow p .o I)) : OpsIn S Γ := fun q hq => by
  rw [h] at hq
  obtain rfl := List.mem_singleton.mp hq
  exact ⟨I, List.mem_of_getElem? hi, fun _ _ => trivial⟩
def clsSts (s : Stmt) : List Stmt := match s with
  | .ClassDef _ _ _ b _ _ _ _ _ _ _ => b
  | _ => []
/-- where the class x lies -/
def cA (mg : Str → Option Value) (x : Str) : Addr := match mg x with | some (.ref a) => a | _ => 0
@[reducible] def tyNs : List String := ["NoneType", "bool", "int", "str", "list", "tuple", "dict"]
structure Kls (K : PySem.W.Frag) (mg : Str → Option Value) (x : Str) : Prop where
  gm : mg x = some (.ref (cA mg x))
  cls : Cls K (cA mg x)
  isc : IsC K mg x (cA mg x)
  tru : TruC K (cA mg x)
/-- its __init__ is st -/
def MadeBy (K : PySem.W.Frag) (C : Addr) (qual : Str) (st : Stmt) : Prop := ∃ f fd, Fun K "__init__" qual st f fd ∧ Mk K C f
/-- f is a property whose getter is st -/
def PropBy (K : PySem.W.Frag) (C : Addr) (f qual : Str) (st : Stmt) : Prop := ∃ p g fd, PropOf K C f p g ∧ Fun K f qual st g fd
/-- its __eq__ is st; it has no __ne__ -/
structure EqBy (K : PySem.W.Frag) (C : Addr) (qual : Str) (st : Stmt) : Prop where
  ex : ∃ f fd, PySem.W.findIn K (.ref C) "__eq__" = some (some (.ref f)) ∧ PySem.W.isFn K (.ref f) = true ∧ Fun K "__eq__" qual st f fd
  ne : PySem.W.findIn K (.ref C) "__ne__" = some (some (.builtin "object.__ne__"))
  nf : ∀ n ∈ tyNs, PySem.W.subIn K (.type n) (.ref C) = some false
  nr : ∀ n ∈ ["NoneType", "tuple"], PySem.W.subIn K (.ref C) (.type n) = some false
section
variable {K : PySem.W.Frag} {h : Heap} {mg : Str → Option Value} {x f qual : Str} {C : Addr} {st : Stmt}
theorem cA_of (X : K.In h) (G : h.Ns mainGlobals mg) (a1 : PySem.W.nsIn K mainGlobals x = some (some (.ref C))) : cA mg x = C := by
  unfold cA
  rw [PySem.W.mg_of X G a1]
theorem all_ty {l : List String} {g : String → Option Bool} (h : (l.all fun n => g n == some false) = true) : ∀ n ∈ l, g n = some false := fun n hn => eq_of_beq (List.all_eq_true.mp h n hn)
theorem kls_of (X : K.In h) (G : h.Ns mainGlobals mg) (a1 : PySem.W.nsIn K mainGlobals x = some (some (.ref C))) (pg : PySem.W.plainGet K C Str.empty = true) (hd : PySem.W.hasDictIn K C = true) (po : PySem.W.plainOver K C = true)
    (sa : PySem.W.findIn K (.ref C) "__setattr__" = some (some (.builtin "object.__setattr__"))) (ha : PySem.W.findIn K (.ref C) "__class__" = some (some (.builtin "object.__class__")))
    (hn : PySem.W.specialIn K (.builtin "object.__class__") "__get__" = some (some (.builtin "getset_descriptor.__get__"))) (ht : PySem.W.takesIn K (.builtin "object.__class__") = some true) (hm : PySem.W.mroIn K C (.type "object") = some true)
    (own : PySem.W.kitOne K (.ref C) (.ref C) = some true) (no : (tyNs.all fun n => PySem.W.kitOne K (.type n) (.ref C) == some false) = true) (tb : PySem.W.findIn K (.ref C) "__bool__" = some none) (tl : PySem.W.findIn K (.ref C) "__len__" = some none) : Kls K mg x := by
  have e := cA_of X G a1
  have gm : mg x = some (.ref (cA mg x)) := by rw [e]; exact PySem.W.mg_of X G a1
  subst e
  exact ⟨gm, ⟨pg, hd, po, sa⟩, ⟨gm, ⟨pg, hd, po, sa⟩, ha, hn, ht, hm, own, all_ty no⟩, ⟨tb, tl⟩⟩
section
variable {f0 : Addr} {oc : Value} {od an : Option Addr} {osl : Array (Option Value)} {kV doc pm cdv ct : Value}
theorem madeBy_of (X : K.In h) (G : h.Ns mainGlobals mg) (a1 : PySem.W.nsIn K mainGlobals x = some (some (.ref C))) (mk : PySem.W.makesIn K C = true) (fi : PySem.W.findIn K (.ref C) "__init__" = some (some (.ref f0))) (fn : PySem.W.isFn K (.ref f0) = true) (kC : PySem.W.keepIn K (.ref C) = true)
    (lo : K.lookup f0 = some ⟨oc, od, .func (PySem.W.fnOf "__init__" qual (defArgs st) (defBody st) (defScope st) .none kV doc pm an cdv ct), osl⟩) (cd : PySem.W.codeIn K cdv qual = true) (kp : PySem.W.keepIn K (.ref f0) = true) : MadeBy K (cA mg x) qual st := by
  rw [cA_of X G a1]
  exact ⟨f0, _, fun_mk lo cd kp, mk, fi, fn, kC⟩
theorem propBy_of (X : K.In h) (G : h.Ns mainGlobals mg) (a1 : PySem.W.nsIn K mainGlobals x = some (some (.ref C))) {p : Addr} {rest : List Value} (fi : PySem.W.findIn K (.ref C) f = some (some (.ref p))) (sp : PySem.W.specialIn K (.ref p) "__get__" = some (some (.builtin "property.__get__"))) (tk : PySem.W.takesIn K (.ref p) = some true)
    (rc : PySem.W.recIn K p "property" = some (.ref f0 :: rest))
    (lo : K.lookup f0 = some ⟨oc, od, .func (PySem.W.fnOf f qual (defArgs st) (defBody st) (defScope st) .none kV doc pm an cdv ct), osl⟩) (cd : PySem.W.codeIn K cdv qual = true) (kp : PySem.W.keepIn K (.ref f0) = true) : PropBy K (cA mg x) f qual st := by
  rw [cA_of X G a1]
  exact ⟨p, f0, _, ⟨fi, sp, tk, rest, rc⟩, fun_mk lo cd kp⟩
theorem eqBy_of (X : K.In h) (G : h.Ns mainGlobals mg) (a1 : PySem.W.nsIn K mainGlobals x = some (some (.ref C))) (fi : PySem.W.findIn K (.ref C) "__eq__" = some (some (.ref f0))) (fn : PySem.W.isFn K (.ref f0) = true)
    (ne : PySem.W.findIn K (.ref C) "__ne__" = some (some (.builtin "object.__ne__"))) (nf : (tyNs.all fun n => PySem.W.subIn K (.type n) (.ref C) == some false) = true) (nr : (["NoneType", "tuple"].all fun n => PySem.W.subIn K (.ref C) (.type n) == some false) = true)
    (lo : K.lookup f0 = some ⟨oc, od, .func (PySem.W.fnOf "__eq__" qual (defArgs st) (defBody st) (defScope st) .none kV doc pm an cdv ct), osl⟩) (cd : PySem.W.codeIn K cdv qual = true) (kp : PySem.W.keepIn K (.ref f0) = true) : EqBy K (cA mg x) qual st := by
  rw [cA_of X G a1]
  exact ⟨⟨f0, _, fi, fn, fun_mk lo cd kp⟩, ne, all_ty nf, all_ty nr⟩
theorem noAttr_of (X : K.In h) (G : h.Ns mainGlobals mg) (a1 : PySem.W.nsIn K mainGlobals x = some (some (.ref C))) (no : PySem.W.findIn K (.ref C) f = some none) : NoAttr K (cA mg x) f := by
  rw [cA_of X G a1]
  exact no
end
end
section
variable {Tq : List (Addr × Str)} {P : Program} {w : World} {K : PySem.W.Frag} {mg : Str → Option Value} {base : Heap} {x f qual : Str} {st : Stmt} {k : Nat} {N ps : List Str}
/-- == by the body of __eq__ -/
theorem eqD {spec : Fd} (c : Kls K mg x) (h : EqBy K (cA mg x) qual st) (Sc : FnScope N ps (defScope st))
    (bp : ∀ (kV doc pm : Value) (an : Option Addr) (cdv ct : Value) (us : List Value), us.length = ps.length → bindArgs (PySem.W.fnOf "__eq__" qual (defArgs st) (defBody st) (defScope st) .none kV doc pm an cdv ct) ⟨us, []⟩ = pure (ps.zip us))
    (len : ∀ ds q er, spec ds q er → ds.length = ps.length)
    (body : ∀ (cdv : Value), ∀ (F0 H0 : Hp) ds q er, spec ds q er → EvB (mkS Tq P w K mg base N (defScope st) k F0 H0 [] er cdv (qlOf qual (defScope st))) (st0 ds N.length) (defBody st) { nx := fun _ => q .non, rt := q }) :
    EqC P w K mg base (cA mg x) qual st (k + 1) ps Tq spec := by
  obtain ⟨g, fd, e1, e2, F⟩ := h.ex
  exact ⟨c.cls, ⟨g, fd, e1, e2, F, fnD (F := F) Sc len fun cdv _ => body cdv⟩, bp, h.ne, c.isc.hm, h.nf, h.nr, c.isc.ha, c.isc.hn, c.isc.htk⟩
end
end GX

namespace GX
open PySem PySem.Spec PyProof.Rows L2 PySem.W
/-! ## a dict == a tuple -/
section
variable {prog : Program} {w : World} {A : Around} {E : Value → Shared → Prop} {s : Shared}
theorem same_no {x y : Addr} {ox oy : Obj} {R : Bool → Shared → Prop} (hxy : x ≠ y) (hx : s.heap.get? x = some ox) (hy : s.heap.get? y = some oy) (hnt : ox.cls ≠ .type "tuple") (h : R false s) : wpAny (model prog w) A (isSame (.ref x) (.ref y)) R E s := by
  show wpAny (model prog w) A (if (x == y) = true then pure true else _) R E s
  rw [if_neg (by simpa using hxy)]
  refine wpAny_bind (wpAny_load hx (wpAny_bind (wpAny_load hy ?_)))
  split
  · rename_i h1 _ _ _; exact absurd h1 hnt
  · exact wpAny_pure h
theorem dec_dict {a b : Addr} (da : s.TypeIs (.ref a) "dict") (hb : s.TypeIs (.ref b) "tuple") (Q' : Value → Shared → Prop) (q : Q' .notImplemented s) : wpAny (model prog w) A (call (.builtin "dict.__eq__") [.ref a, .ref b]) Q' E s := by
  refine wpAny_call_entry PySem.F.slot_dict_eq da PySem.F.entry_dict_eq ?_ (PySem.F.args_dict_eq_2 _ _)
  show wpAny _ _ (Builtin.Dict.dictSlotArgs "__eq__" ⟨[.ref a, .ref b], []⟩ >>= _) _ _ s
  refine wpAny_bind ?_
  unfold Builtin.Dict.dictSlotArgs
  refine wpAny_bind (wpAny_notOrdered_dict da ?_)
  show wpAny _ _ (pure (Value.ref a, Value.ref b)) _ _ s
  refine wpAny_pure ?_
  refine wpAny_bind (wpAny_isInstance (T := "tuple") hb PySem.F.sub_tuple_dict ?_)
  simp only [Bool.not_false, if_true]
  refine wpAny_bind (wpAny_rule ?_)
  exact wpAny_pure ⟨_, rfl, q⟩
theorem dec_tupd {a b : Addr} (da : s.TypeIs (.ref a) "dict") (hb : s.TypeIs (.ref b) "tuple") (Q' : Value → Shared → Prop) (q : Q' .notImplemented s) : wpAny (model prog w) A (call (.builtin "tuple.__eq__") [.ref b, .ref a]) Q' E s := by
  refine wpAny_call_entry PySem.F.slot_tuple_eq hb PySem.F.entry_tuple_eq ?_ (PySem.F.args_tuple_eq_2 _ _)
  unfold Builtin.«tuple.__eq__»
  show wpAny _ _ (do if !(← isInstance (.ref a) (.type "tuple")) then return ← ret .notImplemented
                     _) _ _ _
  refine wpAny_bind (wpAny_isInstance (T := "dict") da PySem.F.sub_dict_tuple ?_)
  rw [if_pos (show (!false) = true from rfl)]
  exact wpAny_pure ⟨_, rfl, q⟩
end
def rEqDT (K : PySem.W.Frag) : R2 := fun x y H Q => (∃ a kvs, x = .ref a ∧ Rd H a (.dK kvs)) ∧ (∃ b ys, y = .ref b ∧ SqT K H b ys) ∧ Q (.bl false) H
theorem op_eqDT {X : Cx} (hu : X.A.units < cLine) : OpR X (compareOp .Eq) (rEqDT X.K) := by
  intro pins s σ H x y u v Q I rx ry h
  obtain ⟨⟨a, kvs, rfl, ha⟩, ⟨b, ys, rfl, hb⟩, q⟩ := h
  obtain rfl : u = Value.ref a := rx
  obtain rfl : v = Value.ref b := ry
  obtain ⟨_, _, vs, _, da⟩ := dk_rd I.hok ha
  obtain ⟨its, _, p1, _⟩ := I.tuple hb
  have ta := da.typeIs (s := s)
  have tb := p1.typeIs (s := s)
  obtain ⟨ob, hob, hcb⟩ := tb
  obtain ⟨oa, hoa, hca⟩ := ta
  have ne : a ≠ b := fun e => by
    subst e
    rw [hoa] at hob
    cases hob
    rw [hca] at hcb
    exact absurd hcb (by decide)
  unfold compareOp
  exact SeqAt.rc_eq_decline_or (k := false) ⟨oa, hoa, hca⟩ ⟨ob, hob, hcb⟩ (by decide) PySem.F.sub_tuple_dict PySem.F.slot_dict_eq PySem.F.slot_tuple_eq_refl (dec_dict ⟨oa, hoa, hca⟩ ⟨ob, hob, hcb⟩) (dec_tupd ⟨oa, hoa, hca⟩ ⟨ob, hob, hcb⟩)
    (fun Q' q => same_no ne hoa hob (by rw [hca]; decide) q) (.inr hu) ⟨.bl false, H, I, rfl, q⟩
section
variable {S : Sx}
theorem g_eqDT : OpG S (compareOp .Eq) fun x y Q => (∃ ks, x = .dct ks) ∧ (∃ ys, y = .tup ys) ∧ Q (.bl false) :=
  .pure (rEqDT S.K) (fun X ok => by have z := op_eqDT (X := X) (by have := ok.un; omega); rw [ok.K] at z; exact z) fun Hf H x y v u Q k e rx ry ⟨⟨ks, e1⟩, ⟨ys, e2⟩, q⟩ hk => by
    subst e1 e2
    unfold Rep at rx ry
    obtain ⟨a, kvs, rfl, h1, _⟩ := rx
    obtain ⟨b, xs, rfl, h2, _⟩ := ry
    refine ⟨⟨a, kvs, rfl, ?_⟩, ⟨b, xs, rfl, e.st h2⟩, hk (.bl false) _ rfl q⟩
    exact h1.imp (fun z => e _ _ z) fun ⟨o, z⟩ => ⟨o, e _ _ z⟩
end
end GX

namespace GX
open PySem PySem.Spec PyProof.Rows L2
/-! ## e in x, e not in x, x a list of the def's own -/
section
variable {S : Sx} {Γ : List Slot} {a : Expr} {Q : Da → Prop} {QT : Bool → Prop} {p pos : Pos} {x : Str} {i : Nat} {A : Addr} {I : List Da → Prop} {op : CmpOp} {neg : Bool}
theorem ev_in_ (ho : ∀ X, S.Ok X → OpR X (compareOp op) (rIn X.K neg)) (hN : S.N[i]? = some x) (hv : Vis S.sc x) (hΓ : Γ[i]? = some (.inv A I)) (h : EvE S Γ a fun d => d.flat = true ∧ ∀ ds, I ds → ds.all Da.flat = true ∧ Q (.bl (neg ^^ ds.any fun y => eqF y d)))
    (hd : (x == ("__debug__" : Str)) = false) (hcd : (x == ("__classdict__" : Str)) = false) (hm : behindInMarks op (.Name x p) = false) : EvE S Γ (.Compare a [op] [.Name x p] pos) Q :=
  ev_of (t := tOp (rIn S.K neg) (tU S a) (tVar i)) (fun X ok => by
    have z := pe_cmpR (pos := pos) (ho X ok) (pu (e := a) ok) (pe_var (pos := p) (i := i) (by rw [ok.N]; exact hN) (by rw [ok.sc]; exact hv) hd hcd) hm
    rw [ok.K] at z; exact z) fun PX σ H Hf k st hk => by
    refine h PX σ H Hf _ st fun d v Hf1 H1 e1 st1 r1 ⟨q1, q2⟩ => ?_
    refine ⟨.ref A, slot_of st1 hΓ, ?_⟩
    obtain ⟨ds, hI, ro⟩ := st1.ownR hΓ
    obtain ⟨q3, q4⟩ := q2 ds hI
    obtain ⟨p, xs, e, s1, r2⟩ := ro.lst_
    have nb : ∀ b : Bool, (if neg then !b else b) = (neg ^^ b) := fun b => by cases neg <;> cases b <;> rfl
    obtain ⟨z1, z2⟩ := Reps.flat (Rep.mono st1.ex _ _ r1) q1 r2 q3
    refine ⟨p, xs, e, .inl s1, Rep.flat r1 q1, z1, ?_⟩
    have y := hk (.bl (neg ^^ ds.any fun y => eqF y d)) _ Hf1 H1 e1 st1 rfl q4
    rw [← z2, ← nb] at y
    exact y
theorem et_in_ (ho : ∀ X, S.Ok X → OpR X (compareOp op) (rIn X.K neg)) (hN : S.N[i]? = some x) (hv : Vis S.sc x) (hΓ : Γ[i]? = some (.inv A I)) (h : EvE S Γ a fun d => d.flat = true ∧ ∀ ds, I ds → ds.all Da.flat = true ∧ QT (neg ^^ ds.any fun y => eqF y d))
    (hd : (x == ("__debug__" : Str)) = false) (hcd : (x == ("__classdict__" : Str)) = false) (hm : behindInMarks op (.Name x p) = false) : EvT S Γ (.Compare a [op] [.Name x p] pos) QT := fun PX σ H Hf k st hk => by
  refine ⟨_, fun X ok => by
    have z := pt_cmpR (pos := pos) (ho X ok) (pu (e := a) ok) (pe_var (pos := p) (i := i) (by rw [ok.N]; exact hN) (by rw [ok.sc]; exact hv) hd hcd) hm
    rw [ok.K] at z; exact z, ?_⟩
  refine h PX σ H Hf _ st fun d v Hf1 H1 e1 st1 r1 ⟨q1, q2⟩ => ?_
  refine ⟨.ref A, slot_of st1 hΓ, ?_⟩
  obtain ⟨ds, hI, ro⟩ := st1.ownR hΓ
  obtain ⟨q3, q4⟩ := q2 ds hI
  obtain ⟨p, xs, e, s1, r2⟩ := ro.lst_
  have nb : ∀ b : Bool, (if neg then !b else b) = (neg ^^ b) := fun b => by cases neg <;> cases b <;> rfl
  obtain ⟨z1, z2⟩ := Reps.flat (Rep.mono st1.ex _ _ r1) q1 r2 q3
  refine ⟨p, xs, e, .inl s1, Rep.flat r1 q1, z1, _, rfl, ?_⟩
  have y := hk (neg ^^ ds.any fun y => eqF y d) Hf1 H1 e1 st1 q4
  rw [← z2, ← nb] at y
  exact y
theorem ev_inO (hN : S.N[i]? = some x) (hv : Vis S.sc x) (hΓ : Γ[i]? = some (.inv A I)) (h : EvE S Γ a fun d => d.flat = true ∧ ∀ ds, I ds → ds.all Da.flat = true ∧ Q (.bl (false ^^ ds.any fun y => eqF y d)))
    (hd : (x == ("__debug__" : Str)) = false := by decide) (hcd : (x == ("__classdict__" : Str)) = false := by decide) : EvE S Γ (.Compare a [.In] [.Name x p] pos) Q := ev_in_ (fun _ _ => op_in_seq) hN hv hΓ h hd hcd rfl
theorem ev_notinO (hN : S.N[i]? = some x) (hv : Vis S.sc x) (hΓ : Γ[i]? = some (.inv A I)) (h : EvE S Γ a fun d => d.flat = true ∧ ∀ ds, I ds → ds.all Da.flat = true ∧ Q (.bl (true ^^ ds.any fun y => eqF y d)))
    (hd : (x == ("__debug__" : Str)) = false := by decide) (hcd : (x == ("__classdict__" : Str)) = false := by decide) : EvE S Γ (.Compare a [.NotIn] [.Name x p] pos) Q := ev_in_ (fun _ _ => op_notIn_seq) hN hv hΓ h hd hcd rfl
theorem et_inO (hN : S.N[i]? = some x) (hv : Vis S.sc x) (hΓ : Γ[i]? = some (.inv A I)) (h : EvE S Γ a fun d => d.flat = true ∧ ∀ ds, I ds → ds.all Da.flat = true ∧ QT (false ^^ ds.any fun y => eqF y d))
    (hd : (x == ("__debug__" : Str)) = false := by decide) (hcd : (x == ("__classdict__" : Str)) = false := by decide) : EvT S Γ (.Compare a [.In] [.Name x p] pos) QT := et_in_ (fun _ _ => op_in_seq) hN hv hΓ h hd hcd rfl
theorem et_notinO (hN : S.N[i]? = some x) (hv : Vis S.sc x) (hΓ : Γ[i]? = some (.inv A I)) (h : EvE S Γ a fun d => d.flat = true ∧ ∀ ds, I ds → ds.all Da.flat = true ∧ QT (true ^^ ds.any fun y => eqF y d))
    (hd : (x == ("__debug__" : Str)) = false := by decide) (hcd : (x == ("__classdict__" : Str)) = false := by decide) : EvT S Γ (.Compare a [.NotIn] [.Name x p] pos) QT := et_in_ (fun _ _ => op_notIn_seq) hN hv hΓ h hd hcd rfl
end
end GX

namespace GX
open PySem PySem.Spec PyProof.Rows L2
/-! ## a text times a number -/
theorem foldl_app (l : List (Array Nat)) (a : Array Nat) : (l.foldl (· ++ ·) a).toList = a.toList ++ (l.map Array.toList).flatten := by
  induction l generalizing a with
  | nil => simp
  | cons x l ih => rw [List.foldl_cons, ih, List.map_cons, List.flatten_cons, Array.toList_append, List.append_assoc]
def strRep (z : Str) (k : Int) : Str := if k < 1 then Str.empty else if (k == 1 || z.length == 0) = true then z else ⟨(List.replicate k.toNat z.cps).foldl (· ++ ·) #[]⟩
def rRepStr : R2 := fun x y H Q => ∃ z k, x = .str z ∧ y = .int k ∧ -1000000 ≤ k ∧ k ≤ 1000000 ∧ z.length * k.toNat ≤ 1000000 ∧ Q (.str (strRep z k)) H
theorem op_repStr {X : Cx} : OpR X (binaryOp .Mult) rRepStr := by
  intro pins s σ H x y v u Q I rx ry h
  obtain ⟨z, k, rfl, rfl, h1, h2, h3, q⟩ := h
  obtain ⟨t, rfl⟩ := rx
  obtain ⟨t2, rfl⟩ := ry
  refine P.mul_str ?_ (fun c1 _ => ?_) (fun _ _ => ?_) ?_
  · rw [decide_eq_false (by omega), decide_eq_false (by omega)]; rfl
  · have e : (k : Int) = (k.toNat : Int) := by omega
    have h4 : (z.length : Int) * (k.toNat : Int) ≤ 1000000 := Int.ofNat_le.mpr h3
    rw [← e] at h4
    have h5 : ((z.length : Int)) ≤ (2 ^ 63 - 1) / k := (Int.le_ediv_iff_mul_le (by omega)).mpr (Int.le_trans h4 (by decide))
    exact fun c => absurd h5 (by omega)
  · exact decide_eq_false (Nat.not_lt.mpr (Nat.le_trans h3 (by decide)))
  · unfold strRep at q
    by_cases c : k < 1
    · rw [if_pos c] at q
      rw [if_pos c]
      exact ⟨by decide, .str _, H, I.tok _, ⟨_, rfl⟩, q⟩
    · rw [if_neg c] at q
      rw [if_neg c]
      by_cases c2 : (k == 1 || z.length == 0) = true
      · rw [if_pos c2] at q
        rw [if_pos c2]
        exact ⟨.str _, H, I, ⟨_, rfl⟩, q⟩
      · rw [if_neg c2] at q
        rw [if_neg c2]
        refine ⟨?_, .str _, H, I.tok _, ⟨_, rfl⟩, q⟩
        have e : ((List.replicate k.toNat z.cps).foldl (· ++ ·) #[]).size = k.toNat * z.length := by
          rw [← Array.length_toList, foldl_app, List.map_replicate]
          show ([] ++ (List.replicate k.toNat z.cps.toList).flatten).length = _
          rw [List.nil_append, List.length_flatten, List.map_replicate, List.sum_replicate_nat, Array.length_toList]; rfl
        show ((List.replicate k.toNat z.cps).foldl (· ++ ·) #[]).size ≤ sizeLine
        rw [e, Nat.mul_comm]
        exact Nat.le_trans h3 (by decide)
section
variable {S : Sx}
theorem g_mulS : OpG S (binaryOp .Mult) fun x y Q => asStr x fun z => asInt y fun k => (-1000000 ≤ k ∧ k ≤ 1000000 ∧ z.length * k.toNat ≤ 1000000) ∧ Q (.str (strRep z k)) :=
  .pure rRepStr (fun _ _ => op_repStr) fun Hf H x y v u Q k e rx ry h hk => by
    obtain ⟨z, rfl, h⟩ := asStr_ h
    obtain ⟨i, rfl, h1, h2⟩ := asInt_ h
    exact ⟨z, i, rx, ry, h1.1, h1.2.1, h1.2.2, hk (.str _) _ rfl h2⟩
theorem c_str : CallG S (.type "str") fun ds Q => as1 ds fun d => asInt d fun i => i.natAbs.log2 < 1920 ∧ Q (.str (toString i)) := .keep _ (fun _ _ => call_str_int) fun Hf H ds vs Q k _ r h hk => by
  obtain ⟨d, rfl, h⟩ := as1_ h
  obtain ⟨i, rfl, h1, h2⟩ := asInt_ h
  obtain ⟨v, rfl, r1⟩ := r.one
  exact ⟨i, congrArg (· :: []) r1, h1, hk (.str _) _ rfl h2⟩
end
theorem strRep_cps {z : Str} {k : Int} (h : 0 ≤ k) : (strRep z k).cps.toList = (List.replicate k.toNat z.cps.toList).flatten := by
  unfold strRep
  split
  · rename_i c
    rw [show k.toNat = 0 by omega]; rfl
  · split
    · rename_i c1 c2
      rw [Bool.or_eq_true, beq_iff_eq, beq_iff_eq] at c2
      rcases c2 with rfl | c2
      · show _ = (List.replicate 1 z.cps.toList).flatten
        rw [List.replicate_one, List.flatten_cons, List.flatten_nil, List.append_nil]
      · have e : z.cps.toList = [] := by
          have : z.cps.toList.length = 0 := by rw [Array.length_toList]; exact c2
          exact List.length_eq_zero_iff.mp this
        rw [e, List.flatten_replicate_nil]
    · show ((List.replicate k.toNat z.cps).foldl (· ++ ·) #[]).toList = _
      rw [foldl_app, List.map_replicate]; rfl
end GX

namespace LW
open PySem PySem.Spec PyProof.Rows L2 GX
def topS (i : Nat) : Stmt := PySem.Challenge.pw_claimback_k71_maps_made_and_refused.main.body.getD i (.Pass ⟨0, 0, 0, 0⟩)
abbrev s_is_whole : Stmt := topS 8
theorem sc_is_whole : FnScope ["value"] ["value"] (defScope s_is_whole) := ⟨rfl, rfl, rfl, by decide +kernel, rfl, by decide +kernel, by decide +kernel⟩
abbrev s_is_number : Stmt := topS 9
theorem sc_is_number : FnScope ["value", "low", "high"] ["value", "low", "high"] (defScope s_is_number) := ⟨rfl, rfl, rfl, by decide +kernel, rfl, by decide +kernel, by decide +kernel⟩
abbrev s_is_tuple_of : Stmt := topS 10
theorem sc_is_tuple_of : FnScope ["value", "many"] ["value", "many"] (defScope s_is_tuple_of) := ⟨rfl, rfl, rfl, by decide +kernel, rfl, by decide +kernel, by decide +kernel⟩
abbrev s_wrong_at : Stmt := topS 11
theorem sc_wrong_at : FnScope ["values", "most", "is_right", "at", "value"] ["values", "most", "is_right"] (defScope s_wrong_at) := ⟨rfl, rfl, rfl, by decide +kernel, rfl, by decide +kernel, by decide +kernel⟩
abbrev s_wrong_from_one : Stmt := topS 12
theorem sc_wrong_from_one : FnScope ["values", "most", "is_right"] ["values", "most", "is_right"] (defScope s_wrong_from_one) := ⟨rfl, rfl, rfl, by decide +kernel, rfl, by decide +kernel, by decide +kernel⟩
abbrev s_is_letters : Stmt := topS 13
theorem sc_is_letters : FnScope ["value", "least", "most", "letter"] ["value", "least", "most"] (defScope s_is_letters) := ⟨rfl, rfl, rfl, by decide +kernel, rfl, by decide +kernel, by decide +kernel⟩
abbrev s_is_name : Stmt := topS 14
theorem sc_is_name : FnScope ["value"] ["value"] (defScope s_is_name) := ⟨rfl, rfl, rfl, by decide +kernel, rfl, by decide +kernel, by decide +kernel⟩
abbrev s_check_towns : Stmt := topS 20
theorem sc_check_towns : FnScope ["value", "is_right", "at"] ["value"] (defScope s_check_towns) := ⟨rfl, rfl, rfl, by decide +kernel, rfl, by decide +kernel, by decide +kernel⟩
abbrev s_is_one_of : Stmt := topS 15
theorem sc_is_one_of : FnScope ["value", "words"] ["value", "words"] (defScope s_is_one_of) := ⟨rfl, rfl, rfl, by decide +kernel, rfl, by decide +kernel, by decide +kernel⟩
abbrev s_is_road : Stmt := topS 21
theorem sc_is_road : FnScope ["towns", "value"] ["towns", "value"] (defScope s_is_road) := ⟨rfl, rfl, rfl, by decide +kernel, rfl, by decide +kernel, by decide +kernel⟩
abbrev s_check_roads : Stmt := topS 22
theorem sc_check_roads : FnScope ["towns", "value", "is_right", "at"] ["towns", "value"] (defScope s_check_roads) := ⟨rfl, rfl, rfl, by decide +kernel, rfl, by decide +kernel, by decide +kernel⟩
abbrev s__law_urn : Stmt := topS 25
theorem sc__law_urn : FnScope ["script", "lap", "mixed", "cell", "own"] ["script", "lap"] (defScope s__law_urn) := ⟨rfl, rfl, rfl, by decide +kernel, rfl, by decide +kernel, by decide +kernel⟩
abbrev s__law_take : Stmt := topS 26
theorem sc__law_take : FnScope ["urn", "many", "figure", "stir"] ["urn", "many"] (defScope s__law_take) := ⟨rfl, rfl, rfl, by decide +kernel, rfl, by decide +kernel, by decide +kernel⟩
abbrev s__law_of : Stmt := topS 27
theorem sc__law_of : FnScope ["urn", "some"] ["urn", "some"] (defScope s__law_of) := ⟨rfl, rfl, rfl, by decide +kernel, rfl, by decide +kernel, by decide +kernel⟩
abbrev s__law_names : Stmt := topS 28
theorem sc__law_names : FnScope ["urn", "many", "found", "letters", "turn", "size", "name", "lap", "at"] ["urn", "many"] (defScope s__law_names) := ⟨rfl, rfl, rfl, by decide +kernel, rfl, by decide +kernel, by decide +kernel⟩
abbrev s__law_map : Stmt := topS 29
theorem sc__law_map : FnScope ["urn", "many", "density", "towns", "roads", "k", "one", "two"] ["urn", "many", "density"] (defScope s__law_map) := ⟨rfl, rfl, rfl, by decide +kernel, rfl, by decide +kernel, by decide +kernel⟩
abbrev s__law_no_name : Stmt := topS 31
theorem sc__law_no_name : FnScope ["urn", "words"] ["urn"] (defScope s__law_no_name) := ⟨rfl, rfl, rfl, by decide +kernel, rfl, by decide +kernel, by decide +kernel⟩
abbrev s__law_wrong_road : Stmt := topS 32
theorem sc__law_wrong_road : FnScope ["urn", "roads", "at", "one", "two", "long", "odd", "some"] ["urn", "roads", "at"] (defScope s__law_wrong_road) := ⟨rfl, rfl, rfl, by decide +kernel, rfl, by decide +kernel, by decide +kernel⟩
abbrev s__law_bent : Stmt := topS 33
theorem sc__law_bent : FnScope ["urn", "plan", "towns", "roads", "one", "two", "long"] ["urn", "plan"] (defScope s__law_bent) := ⟨rfl, rfl, rfl, by decide +kernel, rfl, by decide +kernel, by decide +kernel⟩
abbrev s__law_heard : Stmt := topS 30
theorem sc__law_heard : FnScope ["act", "e", "flags"] ["act"] (defScope s__law_heard) := ⟨rfl, rfl, rfl, by decide +kernel, rfl, by decide +kernel, by decide +kernel⟩
abbrev s__law_call : Stmt := topS 34
theorem sc__law_call : FnScope ["urn", "towns", "roads"] ["urn", "towns", "roads"] (defScope s__law_call) := ⟨rfl, rfl, rfl, by decide +kernel, rfl, by decide +kernel, by decide +kernel⟩
abbrev s__law_right : Stmt := topS 35
theorem sc__law_right : FnScope ["urn", "turn", "towns", "roads", "one", "two", "other", "each", "mate", "thing", "due", "none", "at", "name", "told", "some", "many", "rows", "k"] ["urn"] (defScope s__law_right) := ⟨rfl, rfl, rfl, by decide +kernel, rfl, by decide +kernel, by decide +kernel⟩
abbrev s_law : Stmt := topS 36
theorem sc_law : FnScope ["script", "lap"] ["script"] (defScope s_law) := ⟨rfl, rfl, rfl, by decide +kernel, rfl, by decide +kernel, by decide +kernel⟩
abbrev s_Map___init__ : Stmt := (clsSts (topS 23)).getD 0 (.Pass ⟨0, 0, 0, 0⟩)
theorem sc_Map___init__ : FnScope ["self", "towns", "roads"] ["self", "towns", "roads"] (defScope s_Map___init__) := ⟨rfl, rfl, rfl, by decide +kernel, rfl, by decide +kernel, by decide +kernel⟩
abbrev s_Map_towns : Stmt := (clsSts (topS 23)).getD 1 (.Pass ⟨0, 0, 0, 0⟩)
theorem sc_Map_towns : FnScope ["self"] ["self"] (defScope s_Map_towns) := ⟨rfl, rfl, rfl, by decide +kernel, rfl, by decide +kernel, by decide +kernel⟩
abbrev s_Map_roads : Stmt := (clsSts (topS 23)).getD 2 (.Pass ⟨0, 0, 0, 0⟩)
theorem sc_Map_roads : FnScope ["self"] ["self"] (defScope s_Map_roads) := ⟨rfl, rfl, rfl, by decide +kernel, rfl, by decide +kernel, by decide +kernel⟩
abbrev s_Map_parts : Stmt := (clsSts (topS 23)).getD 3 (.Pass ⟨0, 0, 0, 0⟩)
theorem sc_Map_parts : FnScope ["self"] ["self"] (defScope s_Map_parts) := ⟨rfl, rfl, rfl, by decide +kernel, rfl, by decide +kernel, by decide +kernel⟩
abbrev s_Map___eq__ : Stmt := (clsSts (topS 23)).getD 4 (.Pass ⟨0, 0, 0, 0⟩)
theorem sc_Map___eq__ : FnScope ["self", "other"] ["self", "other"] (defScope s_Map___eq__) := ⟨rfl, rfl, rfl, by decide +kernel, rfl, by decide +kernel, by decide +kernel⟩
def w_WORDS : List Str := [("act" : Str), ("alike" : Str), ("all" : Str), ("back" : Str), ("cap" : Str), ("close" : Str), ("day" : Str), ("each" : Str), ("feed" : Str), ("full" : Str), ("hear" : Str), ("home" : Str), ("item" : Str), ("kind" : Str), ("land" : Str), ("level" : Str), ("lot" : Str), ("may" : Str), ("meal" : Str), ("need" : Str), ("no" : Str), ("none" : Str), ("of" : Str), ("office" : Str), ("pay" : Str), ("person" : Str), ("rate" : Str), ("rule" : Str), ("settle" : Str), ("slot" : Str), ("step" : Str), ("sure" : Str), ("twice" : Str), ("wait" : Str), ("with" : Str), ("yes" : Str)]
abbrev si_check_towns_is_right : Stmt := (defBody s_check_towns).getD 0 (.Pass ⟨0, 0, 0, 0⟩)
theorem sn_check_towns_is_right : NdefX.NScope ["each", "before"] ["each", "before"] [] (defScope si_check_towns_is_right) := NdefX.nscope_by (by decide +kernel)
abbrev si_check_roads_is_right : Stmt := (defBody s_check_roads).getD 0 (.Pass ⟨0, 0, 0, 0⟩)
theorem sn_check_roads_is_right : NdefX.NScope ["each", "before", "towns"] ["each", "before"] ["towns"] (defScope si_check_roads_is_right) := NdefX.nscope_by (by decide +kernel)
def P : Program := PySem.Challenge.rw_claimback_k71_maps_made_and_refused.prog
structure Txt (K : PySem.W.Frag) (mg : Str → Option Value) (base : Heap) (Tq : List (Addr × Str)) : Prop where
  m_abs : mg "abs" = none
  m_all : mg "all" = none
  m_bool : mg "bool" = none
  m_divmod : mg "divmod" = none
  m_enumerate : mg "enumerate" = none
  m_int : mg "int" = none
  m_isinstance : mg "isinstance" = none
  m_len : mg "len" = none
  m_list : mg "list" = none
  m_max : mg "max" = none
  m_min : mg "min" = none
  m_property : mg "property" = none
  m_range : mg "range" = none
  m_repr : mg "repr" = none
  m_sorted : mg "sorted" = none
  m_str : mg "str" = none
  m_tuple : mg "tuple" = none
  k_SMALL_LETTERS : ConS mg "SMALL_LETTERS" "abcdefghijklmnopqrstuvwxyz"
  k_MOST_IN_NAME : ∃ t, mg "MOST_IN_NAME" = some (.int (8) t)
  k_WORDS : ConT K mg "WORDS" w_WORDS
  k_MOST_TOWNS : ∃ t, mg "MOST_TOWNS" = some (.int (12) t)
  k_MOST_ROADS : ∃ t, mg "MOST_ROADS" = some (.int (30) t)
  k_MOST_LENGTH : ∃ t, mg "MOST_LENGTH" = some (.int (9999) t)
  d_is_whole : Def K mg "is_whole" s_is_whole
  d_is_number : Def K mg "is_number" s_is_number
  d_is_tuple_of : Def K mg "is_tuple_of" s_is_tuple_of
  d_wrong_at : Def K mg "wrong_at" s_wrong_at
  d_wrong_from_one : Def K mg "wrong_from_one" s_wrong_from_one
  d_is_letters : Def K mg "is_letters" s_is_letters
  d_is_name : Def K mg "is_name" s_is_name
  d_check_towns : Def K mg "check_towns" s_check_towns
  d_is_one_of : Def K mg "is_one_of" s_is_one_of
  d_is_road : Def K mg "is_road" s_is_road
  d_check_roads : Def K mg "check_roads" s_check_roads
  d__law_urn : Def K mg "_law_urn" s__law_urn
  d__law_take : Def K mg "_law_take" s__law_take
  d__law_of : Def K mg "_law_of" s__law_of
  d__law_names : Def K mg "_law_names" s__law_names
  d__law_map : Def K mg "_law_map" s__law_map
  d__law_no_name : Def K mg "_law_no_name" s__law_no_name
  d__law_wrong_road : Def K mg "_law_wrong_road" s__law_wrong_road
  d__law_bent : Def K mg "_law_bent" s__law_bent
  d__law_heard : Def K mg "_law_heard" s__law_heard
  d__law_call : Def K mg "_law_call" s__law_call
  d__law_right : Def K mg "_law_right" s__law_right
  d_law : Def K mg "law" s_law
  k_Map : Kls K mg "Map"
  n_Map_told : NoAttr K (cA mg "Map") "told"
  mb_Map : MadeBy K (cA mg "Map") "Map.__init__" s_Map___init__
  pb_Map_towns : PropBy K (cA mg "Map") "towns" "Map.towns" s_Map_towns
  pb_Map_roads : PropBy K (cA mg "Map") "roads" "Map.roads" s_Map_roads
  pb_Map_parts : PropBy K (cA mg "Map") "parts" "Map.parts" s_Map_parts
  eb_Map : EqBy K (cA mg "Map") "Map.__eq__" s_Map___eq__
  l_check_towns : LamTab K mg base Tq "check_towns" s_check_towns "check_towns.<locals>.is_right"
  l_check_roads : LamTab K mg base Tq "check_roads" s_check_roads "check_roads.<locals>.is_right"
  l__law_call : LamTab K mg base Tq "_law_call" s__law_call "_law_call.<locals>.<lambda>"
  x_InvalidRoads : Exc P K mg "InvalidRoads" "index"
  x_InvalidTowns : Exc P K mg "InvalidTowns" "index"
  i_InvalidRoads_ClaimError : IsP K mg "InvalidRoads" "ClaimError" true
  i_InvalidRoads_InvalidRoads : IsP K mg "InvalidRoads" "InvalidRoads" true
  i_InvalidRoads_InvalidTowns : IsP K mg "InvalidRoads" "InvalidTowns" false
  i_InvalidTowns_ClaimError : IsP K mg "InvalidTowns" "ClaimError" true
  i_InvalidTowns_InvalidRoads : IsP K mg "InvalidTowns" "InvalidRoads" false
  i_InvalidTowns_InvalidTowns : IsP K mg "InvalidTowns" "InvalidTowns" true
section
variable {Tq : List (Addr × Str)} {w : World} {K : PySem.W.Frag} {mg : Str → Option Value} {base : Heap}
theorem c_SMALL_LETTERS {S : Sx} {Γ : List Slot} {Q : Da → Prop} {pos : Pos} (T : Txt S.K S.mg S.base S.T) (hg : GlS S "SMALL_LETTERS") (q : Q (.str "abcdefghijklmnopqrstuvwxyz")) : EvE S Γ (.Name "SMALL_LETTERS" pos) Q := ev_conS T.k_SMALL_LETTERS hg q
theorem c_MOST_IN_NAME {S : Sx} {Γ : List Slot} {Q : Da → Prop} {pos : Pos} (T : Txt S.K S.mg S.base S.T) (hg : GlS S "MOST_IN_NAME") (q : Q (.int (8))) : EvE S Γ (.Name "MOST_IN_NAME" pos) Q := by
  obtain ⟨t, h⟩ := T.k_MOST_IN_NAME
  exact ev_glob (d := .int (8)) (v := .int (8)) hg h ⟨t, rfl⟩ (fun _ => rfl) q
theorem c_WORDS {S : Sx} {Γ : List Slot} {Q : Da → Prop} {pos : Pos} (T : Txt S.K S.mg S.base S.T) (hg : GlS S "WORDS") (q : Q (.tup (w_WORDS.map Da.str))) : EvE S Γ (.Name "WORDS" pos) Q := ev_conT T.k_WORDS hg q
theorem c_MOST_TOWNS {S : Sx} {Γ : List Slot} {Q : Da → Prop} {pos : Pos} (T : Txt S.K S.mg S.base S.T) (hg : GlS S "MOST_TOWNS") (q : Q (.int (12))) : EvE S Γ (.Name "MOST_TOWNS" pos) Q := by
  obtain ⟨t, h⟩ := T.k_MOST_TOWNS
  exact ev_glob (d := .int (12)) (v := .int (12)) hg h ⟨t, rfl⟩ (fun _ => rfl) q
theorem c_MOST_ROADS {S : Sx} {Γ : List Slot} {Q : Da → Prop} {pos : Pos} (T : Txt S.K S.mg S.base S.T) (hg : GlS S "MOST_ROADS") (q : Q (.int (30))) : EvE S Γ (.Name "MOST_ROADS" pos) Q := by
  obtain ⟨t, h⟩ := T.k_MOST_ROADS
  exact ev_glob (d := .int (30)) (v := .int (30)) hg h ⟨t, rfl⟩ (fun _ => rfl) q
theorem c_MOST_LENGTH {S : Sx} {Γ : List Slot} {Q : Da → Prop} {pos : Pos} (T : Txt S.K S.mg S.base S.T) (hg : GlS S "MOST_LENGTH") (q : Q (.int (9999))) : EvE S Γ (.Name "MOST_LENGTH" pos) Q := by
  obtain ⟨t, h⟩ := T.k_MOST_LENGTH
  exact ev_glob (d := .int (9999)) (v := .int (9999)) hg h ⟨t, rfl⟩ (fun _ => rfl) q
/-! whole numbers, bounds -/
@[reducible] def isWh (d : Da) : Bool := match d with | .int _ => true | _ => false
@[reducible] def isBd (d : Da) : Bool := match d with | .int _ => true | .non => true | _ => false
@[reducible] def loOk (lo : Da) (i : Int) : Bool := match lo with | .int l => decide (l ≤ i) | _ => true
@[reducible] def hiOk (hi : Da) (i : Int) : Bool := match hi with | .int h => decide (i ≤ h) | _ => true
@[reducible] def numOk (d lo hi : Da) : Bool := match d with | .int i => loOk lo i && hiOk hi i | _ => false
theorem wh_int {d : Da} (h : isWh d = true) : ∃ i, d = .int i := by cases d <;> first | exact ⟨_, rfl⟩ | cases h
theorem numOk_of {i l h : Int} (h1 : l ≤ i) (h2 : i ≤ h) : numOk (.int i) (.int l) (.int h) = true := by
  show (decide (l ≤ i) && decide (i ≤ h)) = true
  rw [decide_eq_true h1, decide_eq_true h2]; rfl
@[reducible] def q_is_whole : Fd := fun ds q _ => as1 ds fun d => d.known = true ∧ q (.bl (isWh d))
@[reducible] def q_is_number : Fd := fun ds q _ => as3 ds fun d lo hi => d.known = true ∧ isBd lo = true ∧ isBd hi = true ∧ q (.bl (numOk d lo hi))
theorem ok_is_whole (T : Txt K mg base Tq) : Cal P w K mg base "is_whole" "is_whole" s_is_whole 1 ["value"] (SpD K Tq q_is_whole) := by
  refine calD T.d_is_whole sc_is_whole (fun _ _ _ _ _ _ us hl => match us, hl with | [_], _ => rfl) (fun ds q er h => as1_len h) fun cdv hcd F0 H0 ds q er h => ?_
  obtain ⟨value, rfl, h⟩ := as1_ h
  obtain ⟨hk, hq⟩ := h
  refine eb_cons (es_ret (ops0 rfl) ?_)
  refine ev_and ?_
  refine ev_callB c_isInt rfl T.m_isinstance bt_isinstance ?_
  refine ea_cons ?_
  refine ev_var (i := 0) rfl (.inl rfl) rfl ?_
  refine ea_cons ?_
  refine ev_bltn (n := "int") rfl T.m_int bt_int ?_
  refine ea_nil ?_
  refine ⟨rfl, by first | rfl | assumption, ?_⟩
  cases value <;> first | cases hk | skip
  case bl => 
    refine ev_one ?_
    refine ev_not ?_
    refine ev_callB c_isBool rfl T.m_isinstance bt_isinstance ?_
    refine ea_cons ?_
    refine ev_var (i := 0) rfl (.inl rfl) rfl ?_
    refine ea_cons ?_
    refine ev_bltn (n := "bool") rfl T.m_bool bt_bool ?_
    refine ea_nil ?_
    refine ⟨rfl, by first | rfl | assumption, ?_⟩
    exact hq
  case int => 
    refine ev_one ?_
    refine ev_not ?_
    refine ev_callB c_isBool rfl T.m_isinstance bt_isinstance ?_
    refine ea_cons ?_
    refine ev_var (i := 0) rfl (.inl rfl) rfl ?_
    refine ea_cons ?_
    refine ev_bltn (n := "bool") rfl T.m_bool bt_bool ?_
    refine ea_nil ?_
    refine ⟨rfl, by first | rfl | assumption, ?_⟩
    exact hq
  all_goals exact hq
theorem ok_is_number (T : Txt K mg base Tq) : Cal P w K mg base "is_number" "is_number" s_is_number 2 ["value", "low", "high"] (SpD K Tq q_is_number) := by
  refine calD T.d_is_number sc_is_number (fun _ _ _ _ _ _ us hl => match us, hl with | [_, _, _], _ => rfl) (fun ds q er h => as3_len h) fun cdv hcd F0 H0 ds q er h => ?_
  obtain ⟨value, low, high, rfl, h⟩ := as3_ h
  obtain ⟨hk, hlo, hhi, hq⟩ := h
  refine eb_cons (EvS.cut (fun Γ' => Γ' = st0 [value, low, high] 3 ∧ ∃ i, value = .int i ∧ loOk low i = true) ?_ ?_)
  · refine es_if ?_
    refine et_w ?_
    refine ew_or ?_
    refine et_not ?_
    refine et_val ?_
    refine ev_call (ok_is_whole T) (Nat.le_of_ble_eq_true rfl) rfl (ops0 rfl) ?_
    refine ea_cons ?_
    refine ev_var (i := 0) rfl (.inl rfl) rfl ?_
    refine ea_nil ?_
    refine ⟨by first | rfl | assumption, ?_⟩
    refine cond_nb (fun c => ?_) (fun c => ?_)
    · refine eb_cons (es_ret (ops0 rfl) ?_)
      refine ev_bl ?_
      have e : numOk value low high = false := by cases value <;> first | rfl | cases c
      rw [e] at hq; exact hq
    obtain ⟨i, rfl⟩ := wh_int c
    refine ew_or1 ?_
    refine et_w ?_
    refine ew_and ?_
    refine et_cmp g_isnot ?_
    refine ev_var (i := 1) rfl (.inl rfl) rfl ?_
    refine ev_non ?_
    refine ⟨rfl, ?_⟩
    cases low with
    | non =>
      refine eb_nil ?_
      exact ⟨rfl, i, rfl, rfl⟩
    | int l =>
      refine ew_and1 ?_
      refine et_cmp g_lt ?_
      refine ev_var (i := 0) rfl (.inl rfl) rfl ?_
      refine ev_var (i := 1) rfl (.inl rfl) rfl ?_
      refine cond_dec (fun c => ?_) (fun c => ?_)
      · refine eb_cons (es_ret (ops0 rfl) ?_)
        refine ev_bl ?_
        have e : numOk (.int i) (.int l) high = false := by show (decide (l ≤ i) && _) = false; rw [decide_eq_false (by omega)]; rfl
        rw [e] at hq; exact hq
      · refine eb_nil ?_
        exact ⟨rfl, i, rfl, decide_eq_true (by omega)⟩
    | _ => cases hlo
  · rintro Γ' ⟨rfl, i, rfl, hl⟩
    refine eb_cons (es_ret (ops0 rfl) ?_)
    refine ev_or ?_
    refine ev_cmp g_is ?_
    refine ev_var (i := 2) rfl (.inl rfl) rfl ?_
    refine ev_non ?_
    refine ⟨rfl, ?_⟩
    have e : numOk (.int i) low high = (true && hiOk high i) := by show (loOk low i && hiOk high i) = _; rw [hl]
    rw [e] at hq
    cases high with
    | non => exact hq
    | int j =>
      refine ev_one ?_
      refine ev_cmp g_le ?_
      refine ev_var (i := 0) rfl (.inl rfl) rfl ?_
      refine ev_var (i := 2) rfl (.inl rfl) rfl ?_
      exact hq
    | _ => cases hhi

@[reducible] def tupN (d : Da) (n : Int) : Bool := match d with | .tup xs => decide ((xs.length : Int) = n) | _ => false
theorem tupN_ {d : Da} {n : Int} (h : tupN d n = true) : ∃ xs, d = .tup xs ∧ (xs.length : Int) = n := by
  cases d <;> first | exact ⟨_, rfl, of_decide_eq_true h⟩ | cases h
theorem tup3_ {d : Da} (h : tupN d 3 = true) : ∃ a b c, d = .tup [a, b, c] := by
  obtain ⟨xs, rfl, h2⟩ := tupN_ h
  clear h
  match xs, h2 with
  | [a, b, c], _ => exact ⟨a, b, c, rfl⟩
  | [], h => exact absurd (show (0 : Int) = 3 from h) (by decide)
  | [a], h => exact absurd (show (1 : Int) = 3 from h) (by decide)
  | [a, b], h => exact absurd (show (2 : Int) = 3 from h) (by decide)
  | a :: b :: c :: d :: l, h => exact absurd h (by simp only [List.length_cons]; omega)
theorem tup2_ {d : Da} (h : tupN d 2 = true) : ∃ a b, d = .tup [a, b] := by
  obtain ⟨xs, rfl, h2⟩ := tupN_ h
  clear h
  match xs, h2 with
  | [a, b], _ => exact ⟨a, b, rfl⟩
  | [], h => exact absurd (show (0 : Int) = 2 from h) (by decide)
  | [a], h => exact absurd (show (1 : Int) = 2 from h) (by decide)
  | a :: b :: c :: l, h => exact absurd h (by simp only [List.length_cons]; omega)
theorem tup1_ {d : Da} (h : tupN d 1 = true) : ∃ a, d = .tup [a] := by
  obtain ⟨xs, rfl, h2⟩ := tupN_ h
  clear h
  match xs, h2 with
  | [a], _ => exact ⟨a, rfl⟩
  | [], h => exact absurd (show (0 : Int) = 1 from h) (by decide)
  | a :: b :: l, h => exact absurd h (by simp only [List.length_cons]; omega)
@[reducible] def q_is_tuple_of : Fd := fun ds q _ => as2 ds fun d m => d.known = true ∧ asInt m fun n => q (.bl (tupN d n))
theorem ok_is_tuple_of (T : Txt K mg base Tq) : Cal P w K mg base "is_tuple_of" "is_tuple_of" s_is_tuple_of 1 ["value", "many"] (SpD K Tq q_is_tuple_of) := by
  refine calD T.d_is_tuple_of sc_is_tuple_of (fun _ _ _ _ _ _ us hl => match us, hl with | [_, _], _ => rfl) (fun ds q er h => as2_len h) fun cdv hcd F0 H0 ds q er h => ?_
  obtain ⟨value, many, rfl, h⟩ := as2_ h
  obtain ⟨hk, h2⟩ := h
  obtain ⟨n, rfl, hq⟩ := asInt_ h2
  refine eb_cons (es_ret (ops0 rfl) ?_)
  refine ev_and ?_
  refine ev_callB c_isTuple rfl T.m_isinstance bt_isinstance ?_
  refine ea_cons ?_
  refine ev_var (i := 0) rfl (.inl rfl) rfl ?_
  refine ea_cons ?_
  refine ev_bltn (n := "tuple") rfl T.m_tuple bt_tuple ?_
  refine ea_nil ?_
  refine ⟨rfl, by first | rfl | assumption, ?_⟩
  cases value <;> first | cases hk | skip
  case tup xs => 
    refine ev_one ?_
    refine ev_cmp g_eq ?_
    refine ev_callB c_lenD rfl T.m_len bt_len ?_
    refine ea_cons ?_
    refine ev_var (i := 0) rfl (.inl rfl) rfl ?_
    refine ea_nil ?_
    refine ev_var (i := 1) rfl (.inl rfl) rfl ?_
    exact hq
  all_goals exact hq

/-! the first wrong element; what is right is told by any function -/
@[reducible] def mostB (m : Da) (i : Int) : Bool := match m with | .int j => decide (i = j) | _ => false
def wrongL (p : Da → Da → Bool) (m : Da) : List Da → List Da → List Da
  | _, [] => []
  | pre, x :: xs => if (mostB m pre.length || !p x (.tup pre)) = true then [.int pre.length] else wrongL p m (pre ++ [x]) xs
@[reducible] def wrongD (p : Da → Da → Bool) (m : Da) (v : Da) : List Da := match v with | .tup xs => wrongL p m [] xs | _ => [.non]
@[reducible] def q_lamB (ok : Da → Da → Prop) (p : Da → Da → Bool) : Fd := fun ds q _ => as2 ds fun x b => ok x b ∧ q (.bl (p x b))
/-- each is ready to be asked where those ahead of it are right -/
def PreOk (ok : Da → Da → Prop) (p : Da → Da → Bool) (xs : List Da) : Prop := ∀ (i : Nat) (x : Da), xs[i]? = some x → (∀ (j : Nat) (y : Da), j < i → xs[j]? = some y → p y (.tup (xs.take j)) = true) → ok x (.tup (xs.take i))
@[reducible] def q_wrong_at (P : Program) (w : World) (K : PySem.W.Frag) (mg : Str → Option Value) (base : Heap) (Tq : List (Addr × Str)) (cel : List (Addr × V)) : Fd := fun ds q _ => as3 ds fun v m f =>
  ∃ (ok : Da → Da → Prop) (p : Da → Da → Bool), CallC P w K mg base 4 Tq cel f 2 (q_lamB ok p) ∧ isBd m = true ∧ v.known = true ∧ (∀ xs, v = .tup xs → PreOk ok p xs) ∧ q (.lst (wrongD p m v))
theorem ok_wrong_at (T : Txt K mg base Tq) : CalC P w K mg base "wrong_at" "wrong_at" s_wrong_at 5 ["values", "most", "is_right"] Tq (q_wrong_at P w K mg base Tq) := by
  refine calDC T.d_wrong_at sc_wrong_at (fun _ _ _ _ _ _ us hl => match us, hl with | [_, _, _], _ => rfl) (fun cel ds q er h => as3_len h) fun cel cdv hcd l hce F0 H0 ds q er h => ?_
  obtain ⟨values, most, is_right, rfl, h⟩ := as3_ h
  obtain ⟨ok, p, hG_is_right, hm, hk, hx, hq⟩ := h
  refine eb_cons (es_if ?_)
  refine et_not ?_
  refine et_val ?_
  refine ev_callB c_isTuple rfl T.m_isinstance bt_isinstance ?_
  refine ea_cons ?_
  refine ev_var (i := 0) rfl (.inl rfl) rfl ?_
  refine ea_cons ?_
  refine ev_bltn (n := "tuple") rfl T.m_tuple bt_tuple ?_
  refine ea_nil ?_
  refine ⟨rfl, by first | rfl | assumption, ?_⟩
  cases values <;> first | cases hk | skip
  case tup xs =>
    refine eb_nil ?_
    refine eb_cons (es_for ?_)
    refine ei_enumT rfl T.m_enumerate ?_
    refine ev_var (i := 0) rfl (.inl rfl) rfl ?_
    refine forG_inv (fun i Γ => ∃ s3 s4, Γ = [.dat (.tup xs), .dat most, .dat is_right, s3, s4] ∧ wrongL p most (xs.take i) (xs.drop i) = wrongL p most [] xs ∧ ∀ (j : Nat) (y : Da), j < i → xs[j]? = some y → p y (.tup (xs.take j)) = true) ⟨_, _, rfl, by rw [List.take_zero, List.drop_zero], fun j _ hj => absurd hj (Nat.not_lt_zero j)⟩ ?_ ?_
    · rintro i d Γ k hd ⟨s3, s4, rfl, he, hpre⟩ hk2
      obtain ⟨x, hx1, rfl⟩ := enumD_at hd
      have hi : i < xs.length := (List.getElem?_eq_some_iff.mp hx1).1
      have hd : xs.drop i = x :: xs.drop (i + 1) := by
        rw [List.drop_eq_getElem_cons hi]
        congr 1
        exact (List.getElem?_eq_some_iff.mp hx1).2
      have hl : (xs.take i).length = i := by rw [List.length_take]; omega
      have cut : cutD xs none (some (i : Int)) = xs.take i := cut_take (by omega) (by omega)
      have hs : wrongL p most (xs.take i) (x :: xs.drop (i + 1)) = if (mostB most (i : Int) || !p x (.tup (xs.take i))) = true then [.int (i : Int)] else wrongL p most (xs.take (i + 1)) (xs.drop (i + 1)) := by
        show (if _ then _ else _) = _
        rw [hl, List.take_succ_eq_append_getElem hi, (List.getElem?_eq_some_iff.mp hx1).2]
      rw [hd, hs] at he
      have hok := hx _ rfl i x hx1 hpre
      refine eg_tup ?_
      refine egs_cons ?_
      refine eg_name (i := 3) rfl (.inl rfl) ?_
      refine egs_cons ?_
      refine eg_name (i := 4) rfl (.inl rfl) ?_
      refine egs_nil ?_
      refine eb_cons (es_if ?_)
      refine et_w ?_
      refine ew_or ?_
      refine et_cmp g_eq ?_
      refine ev_var (i := 3) rfl (.inl rfl) rfl ?_
      refine ev_var (i := 1) rfl (.inl rfl) rfl ?_
      have fin : (mostB most (i : Int) || !p x (.tup (xs.take i))) = true → q (.lst [.int (i : Int)]) := fun c => by
        rw [if_pos c] at he
        rw [he]; exact hq
      have iff : mostB most (i : Int) = false → p x (.tup (xs.take i)) = true → wrongL p most (xs.take (i + 1)) (xs.drop (i + 1)) = wrongL p most [] xs ∧ ∀ (j : Nat) (y : Da), j < i + 1 → xs[j]? = some y → p y (.tup (xs.take j)) = true := fun c1 c2 => by
        rw [if_neg (by rw [c1, c2]; decide)] at he
        refine ⟨he, fun j y hj hy => ?_⟩
        by_cases e : j = i
        · subst e
          rw [hx1] at hy
          cases hy
          exact c2
        · exact hpre j y (by omega) hy
      cases most with
      | non =>
        refine ⟨eqOk_of rfl (Nat.zero_le _), eqOk_of rfl (Nat.zero_le _), ?_⟩
        refine ew_or1 ?_
        refine et_not ?_
        refine et_val ?_
        refine ev_callV (i := 2) hG_is_right (Nat.le_of_ble_eq_true rfl) (ops0 rfl) rfl (.inl rfl) rfl ?_
        refine ea_cons ?_
        refine ev_var (i := 4) rfl (.inl rfl) rfl ?_
        refine ea_cons ?_
        refine ev_sl ?_
        refine ev_var (i := 0) rfl (.inl rfl) rfl ?_
        refine eo_none ?_
        refine eo_some ?_
        refine ev_var (i := 3) rfl (.inl rfl) rfl ?_
        refine ea_nil ?_
        rw [cut]
        refine ⟨hok, ?_⟩
        refine cond_nb (fun c => ?_) (fun c => ?_)
        · refine eb_cons (es_ret (ops0 rfl) ?_)
          refine ev_lst ?_
          refine ea_cons ?_
          refine ev_var (i := 3) rfl (.inl rfl) rfl ?_
          refine ea_nil ⟨Nat.le_of_ble_eq_true rfl, ?_⟩
          exact fin (by rw [c]; rfl)
        · refine eb_nil ?_
          refine eb_nil ?_
          exact hk2 _ ⟨_, _, rfl, iff rfl c⟩
      | int m =>
        refine cond_dec (fun c => ?_) (fun c => ?_)
        · refine eb_cons (es_ret (ops0 rfl) ?_)
          refine ev_lst ?_
          refine ea_cons ?_
          refine ev_var (i := 3) rfl (.inl rfl) rfl ?_
          refine ea_nil ⟨Nat.le_of_ble_eq_true rfl, ?_⟩
          exact fin (by rw [show mostB (.int m) (i : Int) = true from decide_eq_true c]; rfl)
        refine ew_or1 ?_
        refine et_not ?_
        refine et_val ?_
        refine ev_callV (i := 2) hG_is_right (Nat.le_of_ble_eq_true rfl) (ops0 rfl) rfl (.inl rfl) rfl ?_
        refine ea_cons ?_
        refine ev_var (i := 4) rfl (.inl rfl) rfl ?_
        refine ea_cons ?_
        refine ev_sl ?_
        refine ev_var (i := 0) rfl (.inl rfl) rfl ?_
        refine eo_none ?_
        refine eo_some ?_
        refine ev_var (i := 3) rfl (.inl rfl) rfl ?_
        refine ea_nil ?_
        rw [cut]
        refine ⟨hok, ?_⟩
        refine cond_nb (fun c2 => ?_) (fun c2 => ?_)
        · refine eb_cons (es_ret (ops0 rfl) ?_)
          refine ev_lst ?_
          refine ea_cons ?_
          refine ev_var (i := 3) rfl (.inl rfl) rfl ?_
          refine ea_nil ⟨Nat.le_of_ble_eq_true rfl, ?_⟩
          exact fin (by rw [c2, Bool.or_comm]; rfl)
        · refine eb_nil ?_
          refine eb_nil ?_
          exact hk2 _ ⟨_, _, rfl, iff (decide_eq_false c) c2⟩
      | _ => cases hm
    · rintro Γ ⟨s3, s4, rfl, he, _⟩
      refine eb_cons (es_ret (ops0 rfl) ?_)
      refine ev_lst ?_
      refine ea_nil ⟨Nat.le_of_ble_eq_true rfl, ?_⟩
      rw [enumD_len, List.take_length, List.drop_length] at he
      rw [show wrongL p most xs [] = [] from rfl] at he
      have hq : q (.lst (wrongL p most [] xs)) := hq
      rw [← he] at hq
      exact hq
  all_goals
    refine eb_cons (es_ret (ops0 rfl) ?_)
    refine ev_lst ?_
    refine ea_cons ?_
    refine ev_non ?_
    refine ea_nil ⟨Nat.le_of_ble_eq_true rfl, ?_⟩
    exact hq
@[reducible] def q_wrong_from_one (P : Program) (w : World) (K : PySem.W.Frag) (mg : Str → Option Value) (base : Heap) (Tq : List (Addr × Str)) (cel : List (Addr × V)) : Fd := fun ds q _ => as3 ds fun v m f =>
  ∃ (ok : Da → Da → Prop) (p : Da → Da → Bool), CallC P w K mg base 4 Tq cel f 2 (q_lamB ok p) ∧ isBd m = true ∧ v.known = true ∧ (EqOk v ∨ isDc v = true) ∧ (∀ xs, v = .tup xs → PreOk ok p xs) ∧ q (.lst (if PyData.eqv v.py (Da.tup []).py = true then [.non] else wrongD p m v))
theorem ok_wrong_from_one (T : Txt K mg base Tq) : CalC P w K mg base "wrong_from_one" "wrong_from_one" s_wrong_from_one 6 ["values", "most", "is_right"] Tq (q_wrong_from_one P w K mg base Tq) := by
  refine calDC T.d_wrong_from_one sc_wrong_from_one (fun _ _ _ _ _ _ us hl => match us, hl with | [_, _, _], _ => rfl) (fun cel ds q er h => as3_len h) fun cel cdv hcd l hce F0 H0 ds q er h => ?_
  obtain ⟨values, most, is_right, rfl, h⟩ := as3_ h
  obtain ⟨ok, p, hG, hm, hk, he, hx, hq⟩ := h
  refine eb_cons (es_ret (ops0 rfl) ?_)
  refine ev_ifx ?_
  refine et_cmp (g_eq.or g_eqDT) ?_
  refine ev_var (i := 0) rfl (.inl rfl) rfl ?_
  refine ev_tup ?_
  refine ea_nil ⟨Nat.le_of_ble_eq_true rfl, ?_⟩
  have z0 : ∀ Q : Bool → Prop, Q (PyData.eqv values.py (Da.tup []).py) → eqQ values (.tup []) Q ∨ ((∃ ks, values = .dct ks) ∧ (∃ ys, Da.tup [] = .tup ys) ∧ Q false) := fun Q h => by
    cases values with
    | dct ks => exact .inr ⟨⟨ks, rfl⟩, ⟨[], rfl⟩, h⟩
    | ins _ _ => exact nomatch hk
    | lm _ => exact nomatch hk
    | ty _ => exact nomatch hk
    | clo _ _ => exact nomatch hk
    | _ => exact .inl ⟨he.resolve_right (fun z => nomatch z), eqOk_of rfl (by decide), h⟩
  refine z0 _ ?_
  refine cond_b (fun c => ?_) (fun c => ?_)
  · refine ev_lst ?_
    refine ea_cons ?_
    refine ev_non ?_
    refine ea_nil ⟨Nat.le_of_ble_eq_true rfl, ?_⟩
    rw [if_pos c] at hq
    exact hq
  · refine ev_callC (ok_wrong_at T) (Nat.le_of_ble_eq_true rfl) rfl (ops0 rfl) ?_
    refine ea_cons ?_
    refine ev_var (i := 0) rfl (.inl rfl) rfl ?_
    refine ea_cons ?_
    refine ev_var (i := 1) rfl (.inl rfl) rfl ?_
    refine ea_cons ?_
    refine ev_var (i := 2) rfl (.inl rfl) rfl ?_
    refine ea_nil ?_
    refine ⟨cel, .same, ok, p, hG, hm, hk, hx, ?_⟩
    rw [if_neg (by rw [c]; decide)] at hq
    exact hq

/-! data that can be handed to anything; numbers that ascend -/
theorem all_bls {f : Da → Bool} (ds : List Da) : ([] : List Da) ++ ds.map (fun d => Da.bl (f d)) = (ds.map f).map Da.bl := by rw [List.nil_append, List.map_map]; rfl
theorem all_id {f : Da → Bool} (ds : List Da) : (ds.map f).all id = ds.all f := by rw [List.all_map]; rfl
abbrev shortS (d : Da) : Prop := ∀ z, d = .str z → z.length ≤ 100000
/-! what shows of data -/
theorem okS_known {d : Da} (h : d.okS) : d.known = true := by cases d <;> first | rfl | (unfold Da.okS at h; exact h.elim)
theorem okSs_mem : ∀ {xs : List Da} {x : Da}, Da.okSs xs → x ∈ xs → x.okS
  | y :: xs, x, h, m => by
    unfold Da.okSs at h
    rcases List.mem_cons.mp m with rfl | m
    · exact h.1
    · exact okSs_mem h.2 m
theorem szs_mem : ∀ {xs : List Da} {x : Da}, x ∈ xs → x.sz ≤ Da.szs xs
  | y :: xs, x, m => by
    unfold Da.szs
    rcases List.mem_cons.mp m with rfl | m
    · omega
    · have := szs_mem m; omega
theorem szs_len : ∀ xs : List Da, xs.length ≤ Da.szs xs
  | [] => Nat.zero_le _
  | y :: xs => by
    unfold Da.szs
    have := szs_len xs
    rw [List.length_cons]; omega
/-- data that can be handed to anything -/
structure Fit (d : Da) : Prop where
  o : d.okS
  s : d.sz ≤ 20000
theorem Fit.k {d : Da} (h : Fit d) : d.known = true := okS_known h.o
theorem Fit.sh {d : Da} (h : Fit d) : shortS d := fun z e => by
  subst e
  have := h.s
  unfold Da.sz at this
  show z.cps.size ≤ 100000
  omega
theorem Fit.tup {xs : List Da} (h : Fit (.tup xs)) {x : Da} (m : x ∈ xs) : Fit x := by
  have h1 := h.o
  have h2 := h.s
  unfold Da.okS at h1
  unfold Da.sz at h2
  have := szs_mem m
  exact ⟨okSs_mem h1 m, by omega⟩
theorem Fit.tupK {d : Da} (h : Fit d) : ∀ xs, d = .tup xs → ∀ x ∈ xs, x.known = true := fun xs e x m => by
  subst e; exact (h.tup m).k
theorem Fit.len {xs : List Da} (h : Fit (.tup xs)) : xs.length ≤ 20000 := by
  have h2 := h.s
  unfold Da.sz at h2
  have := szs_len xs
  omega
/-! numbers that ascend -/
def ascI (ns : List Int) : Bool := (ns.zip (ns.drop 1)).all fun z => decide (z.1 < z.2)
theorem numOk_ {d : Da} {l h : Int} (e : numOk d (.int l) (.int h) = true) : ∃ i, d = .int i ∧ l ≤ i ∧ i ≤ h := by
  cases d <;> first | cases e | skip
  rename_i i
  have e' : (decide (l ≤ i) && decide (i ≤ h)) = true := e
  rw [Bool.and_eq_true, decide_eq_true_eq, decide_eq_true_eq] at e'
  exact ⟨i, rfl, e'⟩
def fst0 (d : Da) : Int := match d with | .tup (.int f :: _) => f | _ => 0
def headZ (rs : List Da) : Bool := match rs with | r :: _ => decide (fst0 r = 0) | [] => false
theorem atI_zero {d : Da} {ds : List Da} : atI (d :: ds) 0 = some d := by
  unfold atI ixN
  rw [if_pos (by decide), if_pos (by rw [List.length_cons]; omega)]; rfl

/-! data that can be handed to anything, compared, shown -/
structure Ok (n : Nat) (d : Da) : Prop where
  o : d.okS
  e : d.okE = true
  s : d.sz ≤ n
  p : d.dp ≤ 20
theorem Ok.fit {n : Nat} {d : Da} (h : Ok n d) (hn : n ≤ 20000 := by decide) : Fit d := ⟨h.o, Nat.le_trans h.s hn⟩
theorem Ok.k {n : Nat} {d : Da} (h : Ok n d) : d.known = true := okS_known h.o
theorem Ok.eq {n : Nat} {d : Da} (h : Ok n d) : EqOk d := eqOk_of h.e (Nat.le_trans h.p (by decide))
theorem Ok.shw {n : Nat} {d : Da} (h : Ok n d) (hn : n ≤ 20000 := by decide) : Shw d := shw_of h.o (Nat.le_trans h.s hn) (Nat.le_trans h.p (by decide))
theorem Ok.mono {n m : Nat} {d : Da} (h : Ok n d) (hn : n ≤ m) : Ok m d := ⟨h.o, h.e, Nat.le_trans h.s hn, h.p⟩
theorem okE_mem : ∀ {xs : List Da} {x : Da}, Da.okEs xs = true → x ∈ xs → x.okE = true
  | y :: xs, x, h, m => by
    unfold Da.okEs at h
    rw [Bool.and_eq_true] at h
    rcases List.mem_cons.mp m with rfl | m
    · exact h.1
    · exact okE_mem h.2 m
theorem dps_mem : ∀ {xs : List Da} {x : Da}, x ∈ xs → x.dp ≤ Da.dps xs
  | y :: xs, x, m => by
    unfold Da.dps
    rcases List.mem_cons.mp m with rfl | m
    · omega
    · have := dps_mem m; omega
theorem Ok.tup {n : Nat} {xs : List Da} (h : Ok n (.tup xs)) {x : Da} (m : x ∈ xs) : Ok n x := by
  have h1 := h.o
  have h2 := h.s
  have h3 := h.e
  have h4 := h.p
  unfold Da.okS at h1
  unfold Da.sz at h2
  unfold Da.okE at h3
  unfold Da.dp at h4
  have := szs_mem m
  have := dps_mem m
  exact ⟨okSs_mem h1 m, okE_mem h3 m, by omega, by omega⟩
theorem okSs_of : ∀ {xs : List Da}, (∀ x ∈ xs, x.okS) → Da.okSs xs
  | [], _ => by unfold Da.okSs; trivial
  | x :: xs, h => by
    unfold Da.okSs
    exact ⟨h x List.mem_cons_self, okSs_of fun y hy => h y (List.mem_cons_of_mem _ hy)⟩
theorem szs_of {n : Nat} : ∀ {xs : List Da}, (∀ x ∈ xs, x.sz ≤ n) → Da.szs xs ≤ (n + 1) * xs.length
  | [], _ => by unfold Da.szs; omega
  | x :: xs, h => by
    unfold Da.szs
    have a := h x List.mem_cons_self
    have b := szs_of (xs := xs) fun y hy => h y (List.mem_cons_of_mem _ hy)
    rw [List.length_cons, Nat.mul_add]
    omega
theorem ok_tup {n m q : Nat} {xs : List Da} (h : ∀ x ∈ xs, Ok n x ∧ x.dp ≤ 19) (hl : xs.length ≤ m) (hq : (n + 1) * m ≤ q := by decide) : Ok q (.tup xs) := by
  have a := szs_of fun x hx => (h x hx).1.s
  have b : (n + 1) * xs.length ≤ (n + 1) * m := Nat.mul_le_mul_left _ hl
  refine ⟨?_, ?_, ?_, ?_⟩
  · unfold Da.okS; exact okSs_of fun x hx => (h x hx).1.o
  · unfold Da.okE; exact okEs_of fun x hx => (h x hx).1.e
  · unfold Da.sz; omega
  · unfold Da.dp
    have := dps_of fun x hx => (h x hx).2
    omega
theorem ok_lst {n m q : Nat} {xs : List Da} (h : ∀ x ∈ xs, Ok n x ∧ x.dp ≤ 19) (hl : xs.length ≤ m) (hq : (n + 1) * m ≤ q := by decide) : Ok q (.lst xs) := by
  have a := szs_of fun x hx => (h x hx).1.s
  have b : (n + 1) * xs.length ≤ (n + 1) * m := Nat.mul_le_mul_left _ hl
  refine ⟨?_, ?_, ?_, ?_⟩
  · unfold Da.okS; exact okSs_of fun x hx => (h x hx).1.o
  · unfold Da.okE; exact okEs_of fun x hx => (h x hx).1.e
  · unfold Da.sz; omega
  · unfold Da.dp
    have := dps_of fun x hx => (h x hx).2
    omega
/-! data, checked by looking -/
mutual
def okB : Da → Bool
  | .int i => decide (i.natAbs < 10 ^ 40)
  | .str x => x.cps.toList.all fun c => decide (c < 16 ^ 8)
  | .lst xs => okBs xs
  | .tup xs => okBs xs
  | .non => true
  | .bl _ => true
  | _ => false
def okBs : List Da → Bool
  | [] => true
  | x :: xs => okB x && okBs xs
end
mutual
theorem okB_ : ∀ d : Da, okB d = true → d.okS
  | .int i, h => by unfold okB at h; unfold Da.okS; exact of_decide_eq_true h
  | .str x, h => by unfold okB at h; unfold Da.okS; exact fun c hc => of_decide_eq_true (List.all_eq_true.mp h c hc)
  | .lst xs, h => by unfold okB at h; unfold Da.okS; exact okBs_ xs h
  | .tup xs, h => by unfold okB at h; unfold Da.okS; exact okBs_ xs h
  | .non, _ => by unfold Da.okS; trivial
  | .bl _, _ => by unfold Da.okS; trivial
  | .dct _, h => by unfold okB at h; cases h
  | .ins _ _, h => by unfold okB at h; cases h
  | .lm _, h => by unfold okB at h; cases h
  | .clo _ _, h => by unfold okB at h; cases h
  | .ty _, h => by unfold okB at h; cases h
theorem okBs_ : ∀ ds : List Da, okBs ds = true → Da.okSs ds
  | [], _ => by unfold Da.okSs; trivial
  | d :: ds, h => by
    unfold okBs at h
    rw [Bool.and_eq_true] at h
    unfold Da.okSs
    exact ⟨okB_ d h.1, okBs_ ds h.2⟩
end
def smB (n : Nat) (d : Da) : Bool := okB d && (d.okE && (decide (d.sz ≤ n) && decide (d.dp ≤ 19)))
theorem smB_ {n : Nat} {d : Da} (h : smB n d = true) : Ok n d ∧ d.dp ≤ 19 := by
  unfold smB at h
  rw [Bool.and_eq_true, Bool.and_eq_true, Bool.and_eq_true] at h
  have hp := of_decide_eq_true h.2.2.2
  exact ⟨⟨okB_ d h.1, h.2.1, of_decide_eq_true h.2.2.1, by omega⟩, hp⟩

/-! texts -/
def isSm (c : Nat) : Bool := decide (c ∈ ("abcdefghijklmnopqrstuvwxyz" : Str).cps.toList)
@[reducible] def isLet (d : Da) (l m : Int) : Bool := match d with | .str z => decide (l ≤ (z.length : Int)) && decide ((z.length : Int) ≤ m) && z.cps.toList.all isSm | _ => false
def chB (d : Da) : Bool := match d with | .str y => (match y.cps.toList with | [c] => isSm c | _ => false) | _ => false
theorem chars_all {z : Str} : (chars z).all chB = z.cps.toList.all isSm := by unfold chars; rw [List.all_map]; rfl
theorem chars_mem {z : Str} {d : Da} (h : d ∈ chars z) : ∃ c, c ∈ z.cps.toList ∧ d = .str ⟨#[c]⟩ := by
  obtain ⟨c, h1, h2⟩ := List.mem_map.mp h
  exact ⟨c, h1, h2.symm⟩
theorem chars_len {z : Str} : (chars z).length = z.length := by unfold chars; rw [List.length_map, Array.length_toList]; rfl
@[reducible] def q_is_letters : Fd := fun ds q _ => as3 ds fun d l m => d.known = true ∧ shortS d ∧ asInt l fun l => asInt m fun m => q (.bl (isLet d l m))
theorem ok_is_letters (T : Txt K mg base Tq) : Cal P w K mg base "is_letters" "is_letters" s_is_letters 1 ["value", "least", "most"] (SpD K Tq q_is_letters) := by
  refine calD T.d_is_letters sc_is_letters (fun _ _ _ _ _ _ us hl => match us, hl with | [_, _, _], _ => rfl) (fun ds q er h => as3_len h) fun cdv hcd F0 H0 ds q er h => ?_
  obtain ⟨value, least, most, rfl, h⟩ := as3_ h
  obtain ⟨hk, hs, h2⟩ := h
  obtain ⟨l, rfl, h3⟩ := asInt_ h2
  obtain ⟨m, rfl, hq⟩ := asInt_ h3
  refine eb_cons (es_if ?_)
  refine et_w ?_
  refine ew_or ?_
  refine et_not ?_
  refine et_val ?_
  refine ev_callB c_isStr rfl T.m_isinstance bt_isinstance ?_
  refine ea_cons ?_
  refine ev_var (i := 0) rfl (.inl rfl) rfl ?_
  refine ea_cons ?_
  refine ev_bltn (n := "str") rfl T.m_str bt_str ?_
  refine ea_nil ?_
  refine ⟨rfl, by first | rfl | assumption, ?_⟩
  cases value <;> first | cases hk | skip
  case str z =>
    have hz := hs z rfl
    refine ew_or1 ?_
    refine et_not ?_
    refine et_chain g_le g_le ?_
    refine ev_var (i := 1) rfl (.inl rfl) rfl ?_
    refine ev_callB c_lenD rfl T.m_len bt_len ?_
    refine ea_cons ?_
    refine ev_var (i := 0) rfl (.inl rfl) rfl ?_
    refine ea_nil ?_
    refine ⟨by omega, ?_⟩
    refine cond_dec (fun c1 => ?_) (fun c1 => ?_)
    · refine ev_var (i := 2) rfl (.inl rfl) rfl ?_
      refine cond_ndec (fun c2 => ?_) (fun c2 => ?_)
      · refine eb_cons (es_ret (ops0 rfl) ?_)
        refine ev_bl ?_
        rw [show isLet (.str z) l m = false by show (decide _ && decide _ && _) = false; rw [decide_eq_false c2, Bool.and_false, Bool.false_and]] at hq
        exact hq
      · refine eb_nil ?_
        refine eb_cons (es_ret (ops0 rfl) ?_)
        refine ev_callB c_all rfl T.m_all bt_all ?_
        refine ea_cons ?_
        refine ev_lc (own := [("letter", 3)]) (blkOk_by (N := ["value", "least", "most", "letter"]) (sc := defScope s_is_letters) (by decide +kernel)) (by intro i hi p k I; simp only [List.map_cons, List.map_nil, List.mem_cons, List.not_mem_nil, or_false] at hi; rcases hi with rfl <;> first | exact fun z => hno _ _ _ (Option.some.inj z) | exact fun z => nomatch z) ?_
        refine ei_str ?_
        refine ev_var (i := 0) rfl (.inl rfl) rfl ?_
        refine ⟨by rw [chars_len]; exact hz, ?_⟩
        refine lcG_map (f := fun d => .bl (chB d)) (fun d acc k hd hk => ?_) ?_
        · obtain ⟨c, _, rfl⟩ := chars_mem hd
          refine eg_name (i := 3) rfl (.inl rfl) ?_
          refine ets_nil ?_
          refine ev_cmp g_in ?_
          refine ev_var (i := 3) rfl (.inl rfl) rfl ?_
          refine c_SMALL_LETTERS T rfl ?_
          have e := StrLaws.found_one ("abcdefghijklmnopqrstuvwxyz" : Str) c
          refine (?_ : k (acc ++ [Da.bl (false ^^ !(Builtin.Str.occurrences ("abcdefghijklmnopqrstuvwxyz" : Str) ⟨#[c]⟩ 0 ("abcdefghijklmnopqrstuvwxyz" : Str).length 1).isEmpty)]))
          rw [Bool.false_xor, e]
          exact hk
        refine ea_nil ?_
        refine ⟨_, all_bls _, ?_⟩
        rw [all_id, chars_all]
        rw [show isLet (.str z) l m = z.cps.toList.all isSm by show (decide _ && decide _ && _) = _; rw [decide_eq_true c1, decide_eq_true c2]; rfl] at hq
        exact hq
    · refine eb_cons (es_ret (ops0 rfl) ?_)
      refine ev_bl ?_
      rw [show isLet (.str z) l m = false by show (decide _ && decide _ && _) = false; rw [decide_eq_false c1]; rfl] at hq
      exact hq
  all_goals
    refine eb_cons (es_ret (ops0 rfl) ?_)
    refine ev_bl ?_
    exact hq
@[reducible] def isWord (z : Str) : Bool := (w_WORDS.map Da.str).any fun y => eqF y (.str z)
@[reducible] def isName (d : Da) : Bool := match d with | .str z => isLet (.str z) 1 8 && !isWord z | _ => false
@[reducible] def q_is_name : Fd := fun ds q _ => as1 ds fun d => d.known = true ∧ shortS d ∧ q (.bl (isName d))
theorem words_flat : (w_WORDS.map Da.str).all Da.flat = true := by decide +kernel
theorem ok_is_name (T : Txt K mg base Tq) : Cal P w K mg base "is_name" "is_name" s_is_name 2 ["value"] (SpD K Tq q_is_name) := by
  refine calD T.d_is_name sc_is_name (fun _ _ _ _ _ _ us hl => match us, hl with | [_], _ => rfl) (fun ds q er h => as1_len h) fun cdv hcd F0 H0 ds q er h => ?_
  obtain ⟨value, rfl, h⟩ := as1_ h
  obtain ⟨hk, hs, hq⟩ := h
  refine eb_cons (es_ret (ops0 rfl) ?_)
  refine ev_and ?_
  refine ev_call (ok_is_letters T) (Nat.le_of_ble_eq_true rfl) rfl (ops0 rfl) ?_
  refine ea_cons ?_
  refine ev_var (i := 0) rfl (.inl rfl) rfl ?_
  refine ea_cons ?_
  refine ev_int ?_
  refine ea_cons ?_
  refine c_MOST_IN_NAME T rfl ?_
  refine ea_nil ?_
  refine ⟨hk, hs, ?_⟩
  cases value <;> first | cases hk | skip
  case str z =>
    refine cond_b (fun c => ?_) (fun c => ?_)
    · refine ev_one ?_
      refine ev_cmp g_notin ?_
      refine ev_var (i := 0) rfl (.inl rfl) rfl ?_
      refine c_WORDS T rfl ?_
      refine ⟨rfl, words_flat, ?_⟩
      rw [show isName (.str z) = (true ^^ isWord z) by rw [Bool.true_xor]; show (isLet (.str z) 1 8 && !isWord z) = _; rw [show isLet (.str z) 1 8 = true from c]; rfl] at hq
      exact hq
    · rw [show isName (.str z) = false by show (isLet (.str z) 1 8 && !isWord z) = _; rw [show isLet (.str z) 1 8 = false from c]; rfl] at hq
      exact hq
  all_goals exact hq

theorem at_n {l : List Da} {i : Nat} (h : i < l.length) : atI l (i : Int) = some l[i] := by
  unfold atI ixN
  rw [if_pos (by omega), if_pos (by omega)]
  show l[((i : Int)).toNat]? = _
  rw [show ((i : Int)).toNat = i by omega]
  exact List.getElem?_eq_getElem h
theorem at_3 {a b c : Da} : atI [a, b, c] 0 = some a ∧ atI [a, b, c] 1 = some b ∧ atI [a, b, c] 2 = some c := ⟨rfl, rfl, rfl⟩
theorem at_2 {a b : Da} : atI [a, b] 0 = some a ∧ atI [a, b] 1 = some b := ⟨rfl, rfl⟩
theorem at_lastA {ds : List Da} {d : Da} : atI (ds ++ [d]) (-1) = some d := by
  unfold atI ixN
  rw [if_neg (by decide), if_pos (by rw [List.length_append, List.length_singleton]; omega)]
  show (ds ++ [d])[((-1 : Int) + ((ds ++ [d]).length : Int)).toNat]? = _
  rw [List.length_append, List.length_singleton, show ((-1 : Int) + ((ds.length + 1 : Nat) : Int)).toNat = ds.length by omega, List.getElem?_append_right (Nat.le_refl _), Nat.sub_self]; rfl
/-! names are texts of signs that can be compared -/
theorem name_low {z : Str} (h : isName (.str z) = true) : lowT z := by
  have h' : (isLet (.str z) 1 8 && !isWord z) = true := h
  rw [Bool.and_eq_true] at h'
  have h2 : (decide ((1 : Int) ≤ (z.length : Int)) && decide ((z.length : Int) ≤ 8) && z.cps.toList.all isSm) = true := h'.1
  rw [Bool.and_eq_true, Bool.and_eq_true] at h2
  have a : ("abcdefghijklmnopqrstuvwxyz" : Str).cps.toList.all (fun k => decide (k < 0x110000)) = true := by decide +kernel
  intro k hk
  have h3 := List.all_eq_true.mp h2.2 k hk
  exact of_decide_eq_true (List.all_eq_true.mp a k (of_decide_eq_true h3))
theorem name_ok {z : Str} (h : isName (.str z) = true) : PyData.strOk z = true := low_ok (name_low h)

/-! the towns of a map -/
@[reducible] def lastLt (x b : Da) : Bool := match b with | .tup l => (match l.getLast? with | none => true | some y => PySem.W.dataLt y.py x.py) | _ => false
@[reducible] def pT (x b : Da) : Bool := isName x && lastLt x b
@[reducible] def okT (x b : Da) : Prop := x.known = true ∧ shortS x ∧ ∃ l, b = .tup l ∧ EqOk b ∧ ∀ y ∈ l, isName y = true
theorem isName_str {d : Da} (h : isName d = true) : ∃ z, d = .str z := by
  cases d <;> first | cases h | exact ⟨_, rfl⟩
theorem atI_last {ds : List Da} (h : ds ≠ []) : atI ds (-1) = ds.getLast? := by
  have : 0 < ds.length := List.length_pos_iff.mpr h
  unfold atI ixN
  rw [if_neg (by decide), if_pos (by omega), List.getLast?_eq_getElem?]
  show ds[((-1 : Int) + (ds.length : Int)).toNat]? = _
  rw [show ((-1 : Int) + (ds.length : Int)).toNat = ds.length - 1 by omega]
@[reducible] def q_check_towns_is_right : Fd := q_lamB okT pT
theorem cl_check_towns_is_right (T : Txt K mg base Tq) {l : List (Str × Addr)} {c' : Addr} {cel : List (Addr × V)} (hi : (cloOf "is_right" "check_towns.<locals>.is_right" (defArgs si_check_towns_is_right) (.stmts (defBody si_check_towns_is_right)) (defScope si_check_towns_is_right) l [] [] c').In cel) :
    CallC P w K mg base 3 Tq cel (.clo (cloOf "is_right" "check_towns.<locals>.is_right" (defArgs si_check_towns_is_right) (.stmts (defBody si_check_towns_is_right)) (defScope si_check_towns_is_right) l [] [] c') []) 2 (q_check_towns_is_right) := by
  refine cloD (N := ["each", "before"]) (ps := ["each", "before"]) sn_check_towns_is_right rfl (fun _ _ _ us hl => match us, hl with | [_, _], _ => rfl) hi (fun ds q er h => as2_len h) fun F0 H0 ds q er h => ?_
  obtain ⟨each, before, rfl, h⟩ := as2_ h
  obtain ⟨⟨hk, hs, l, rfl, he, hl⟩, hq⟩ := h
  refine eb_cons (es_ret (ops0 rfl) ?_)
  refine ev_and ?_
  refine ev_call (ok_is_name T) (Nat.le_of_ble_eq_true rfl) rfl (ops0 rfl) ?_
  refine ea_cons ?_
  refine ev_var (i := 0) rfl (.inl rfl) rfl ?_
  refine ea_nil ?_
  refine ⟨hk, hs, ?_⟩
  refine cond_b (fun c => ?_) (fun c => ?_)
  · obtain ⟨z, rfl⟩ := isName_str c
    refine ev_one ?_
    refine ev_or ?_
    refine ev_cmp g_eq ?_
    refine ev_var (i := 1) rfl (.inl rfl) rfl ?_
    refine ev_tup ?_
    refine ea_nil ⟨Nat.le_of_ble_eq_true rfl, ?_⟩
    refine ⟨he, eqOk_of rfl (by decide), ?_⟩
    rw [eqv_tup0]
    refine cond_b (fun c2 => ?_) (fun c2 => ?_)
    · obtain rfl : l = [] := List.isEmpty_iff.mp c2
      rw [show pT (.str z) (.tup []) = true by show (isName _ && true) = true; rw [c]; rfl] at hq
      exact hq
    · obtain ⟨y, hy⟩ : ∃ y, l.getLast? = some y := by
        cases e : l.getLast? with
        | none => rw [List.getLast?_eq_none_iff.mp e] at c2; cases c2
        | some y => exact ⟨y, rfl⟩
      have hn : l ≠ [] := fun e => by rw [e] at hy; cases hy
      obtain ⟨u, rfl⟩ := isName_str (hl y (List.mem_of_getLast? hy))
      refine ev_one ?_
      refine ev_cmp g_ltA ?_
      refine ev_ix ?_
      refine ev_var (i := 1) rfl (.inl rfl) rfl ?_
      refine ev_neg ?_
      refine ev_int ?_
      refine ⟨.str u, ?_, ?_⟩
      · rw [← hy]
        exact atI_last hn
      refine ev_var (i := 0) rfl (.inl rfl) rfl ?_
      refine ⟨ltOk_str, ?_⟩
      rw [show pT (.str z) (.tup l) = PySem.W.dataLt (Da.str u).py (Da.str z).py by show (isName _ && lastLt _ _) = _; rw [c, Bool.true_and]; show (match l.getLast? with | none => true | some y => PySem.W.dataLt y.py (Da.str z).py) = _; rw [hy]] at hq
      exact hq
  · rw [show pT each (.tup l) = false by show (isName _ && lastLt _ _) = _; rw [c]; rfl] at hq
    exact hq
/-- the first town that is wrong -/
@[reducible] def wrT (d : Da) : List Da := if PyData.eqv d.py (Da.tup []).py = true then [.non] else wrongD pT (.int 12) d
@[reducible] def erT (mg : Str → Option Value) (er : Er) (f x : Str) (d : Da) : Prop := er (clsOf mg x) (some [(f, d)])
@[reducible] def q_check_towns (P : Program) (w : World) (K : PySem.W.Frag) (mg : Str → Option Value) (base : Heap) (Tq : List (Addr × Str)) : Fd := fun ds q er => as1 ds fun d => d.known = true ∧ (EqOk d ∨ isDc d = true) ∧ (∀ xs, d = .tup xs → PreOk okT pT xs) ∧ ((∃ x, wrT d = [x] ∧ erT mg er "index" "InvalidTowns" x) ∨ (wrT d = [] ∧ q .non))
theorem ok_check_towns (T : Txt K mg base Tq) : Cal P w K mg base "check_towns" "check_towns" s_check_towns 7 ["value"] (SpD K Tq (q_check_towns P w K mg base Tq)) := by
  refine calDM T.d_check_towns sc_check_towns (fun _ _ _ _ _ _ us hl => match us, hl with | [_], _ => rfl) (fun ds q er h => as1_len h) fun cdv hcd l hce F0 H0 ds q er h => ?_
  obtain ⟨value, rfl, h⟩ := as1_ h
  obtain ⟨hk, he, hx, hq⟩ := h
  refine eb_cons (es_ndefS (st := si_check_towns_is_right) (i := 1) (q := "check_towns.<locals>.is_right") (fr := []) (cs := []) rfl T.l_check_towns hcd rfl ⟨rfl, hce, (show NdefX.ndefB (defScope s_check_towns) _ _ = true by decide +kernel), by decide +kernel, rfl, rfl⟩ rfl (.inl rfl) (fun c_is_right => ?_))
  refine eb_cons (es_for ?_)
  refine ei_seq ?_
  refine ev_callC (ok_wrong_from_one T) (Nat.le_of_ble_eq_true rfl) rfl (ops0 rfl) ?_
  refine ea_cons ?_
  refine ev_var (i := 0) rfl (.inl rfl) rfl ?_
  refine ea_cons ?_
  refine c_MOST_TOWNS T rfl ?_
  refine ea_cons ?_
  refine ev_var (i := 1) rfl (.inl rfl) rfl ?_
  refine ea_nil ?_
  refine ⟨_, .nil, okT, pT, ((cl_check_towns_is_right T (Clo.in_cel _)).mono (Nat.le_of_ble_eq_true rfl)).more (fun _ z => nomatch z), rfl, hk, he, hx, ?_⟩
  show forG _ (wrT _) _ _
  rcases hq with ⟨x, e, hq⟩ | ⟨e, hq⟩
  · rw [e]
    refine eg_name (i := 2) rfl (.inl rfl) ?_
    refine eb_cons (es_raise T.x_InvalidTowns rfl (ops0 rfl) ?_)
    refine ev_var (i := 2) rfl (.inl rfl) rfl ?_
    exact hq
  · rw [e]
    refine eb_nil ?_
    exact hq

/-! the roads of a map -/
@[reducible] def oneOf (d : Da) (ws : List Da) : Bool := match d with | .str z => ws.any fun y => eqF y (.str z) | _ => false
@[reducible] def q_is_one_of : Fd := fun ds q _ => as2 ds fun d w => d.known = true ∧ asTup w fun ws => ws.all Da.flat = true ∧ q (.bl (oneOf d ws))
theorem ok_is_one_of (T : Txt K mg base Tq) : Cal P w K mg base "is_one_of" "is_one_of" s_is_one_of 1 ["value", "words"] (SpD K Tq q_is_one_of) := by
  refine calD T.d_is_one_of sc_is_one_of (fun _ _ _ _ _ _ us hl => match us, hl with | [_, _], _ => rfl) (fun ds q er h => as2_len h) fun cdv hcd F0 H0 ds q er h => ?_
  obtain ⟨value, words, rfl, h⟩ := as2_ h
  obtain ⟨hk, h2⟩ := h
  obtain ⟨ws, rfl, hf, hq⟩ := asTup_ h2
  refine eb_cons (es_ret (ops0 rfl) ?_)
  refine ev_and ?_
  refine ev_callB c_isStr rfl T.m_isinstance bt_isinstance ?_
  refine ea_cons ?_
  refine ev_var (i := 0) rfl (.inl rfl) rfl ?_
  refine ea_cons ?_
  refine ev_bltn (n := "str") rfl T.m_str bt_str ?_
  refine ea_nil ?_
  refine ⟨rfl, by first | rfl | assumption, ?_⟩
  cases value <;> first | cases hk | skip
  case str z =>
    refine ev_one ?_
    refine ev_cmp g_in ?_
    refine ev_var (i := 0) rfl (.inl rfl) rfl ?_
    refine ev_var (i := 1) rfl (.inl rfl) rfl ?_
    refine ⟨rfl, hf, ?_⟩
    show q (.bl (false ^^ _))
    rw [Bool.false_xor]
    exact hq
  all_goals exact hq
@[reducible] def isRoad (ws : List Da) (d : Da) : Bool := match d with | .tup [a, b, c] => oneOf a ws && (oneOf b ws && (PySem.W.dataLt a.py b.py && numOk c (.int 1) (.int 9999))) | _ => false
@[reducible] def q_is_road : Fd := fun ds q _ => as2 ds fun w d => asTup w fun ws => ws.all Da.flat = true ∧ d.known = true ∧ (∀ xs, d = .tup xs → ∀ x ∈ xs, x.known = true) ∧ q (.bl (isRoad ws d))
theorem oneOf_str {d : Da} {ws : List Da} (h : oneOf d ws = true) : ∃ z, d = .str z := by
  cases d <;> first | cases h | exact ⟨_, rfl⟩
theorem isRoad_no {d : Da} {ws : List Da} (h : tupN d 3 = false) : isRoad ws d = false := by
  cases d with
  | tup xs =>
    match xs with
    | [a, b, c] => cases h
    | [] => rfl
    | [a] => rfl
    | [a, b] => rfl
    | a :: b :: c :: e :: l => rfl
  | _ => rfl
theorem ok_is_road (T : Txt K mg base Tq) : Cal P w K mg base "is_road" "is_road" s_is_road 3 ["towns", "value"] (SpD K Tq q_is_road) := by
  refine calD T.d_is_road sc_is_road (fun _ _ _ _ _ _ us hl => match us, hl with | [_, _], _ => rfl) (fun ds q er h => as2_len h) fun cdv hcd F0 H0 ds q er h => ?_
  obtain ⟨towns, value, rfl, h⟩ := as2_ h
  obtain ⟨ws, rfl, hf, hk, hx, hq⟩ := asTup_ h
  refine eb_cons (es_if ?_)
  refine et_w ?_
  refine ew_or ?_
  refine et_not ?_
  refine et_val ?_
  refine ev_call (ok_is_tuple_of T) (Nat.le_of_ble_eq_true rfl) rfl (ops0 rfl) ?_
  refine ea_cons ?_
  refine ev_var (i := 1) rfl (.inl rfl) rfl ?_
  refine ea_cons ?_
  refine ev_int ?_
  refine ea_nil ?_
  refine ⟨by first | rfl | assumption, ?_⟩
  refine cond_nb (fun c => ?_) (fun c => ?_)
  · refine eb_cons (es_ret (ops0 rfl) ?_)
    refine ev_bl ?_
    rw [isRoad_no c] at hq
    exact hq
  · obtain ⟨a, b, x, rfl⟩ := tup3_ c
    refine ew_or ?_
    refine et_not ?_
    refine et_val ?_
    refine ev_call (ok_is_one_of T) (Nat.le_of_ble_eq_true rfl) rfl (ops0 rfl) ?_
    refine ea_cons ?_
    refine ev_ix ?_
    refine ev_var (i := 1) rfl (.inl rfl) rfl ?_
    refine ev_int ?_
    refine ⟨_, rfl, ?_⟩
    refine ea_cons ?_
    refine ev_var (i := 0) rfl (.inl rfl) rfl ?_
    refine ea_nil ?_
    refine ⟨hx _ rfl _ (by simp), hf, ?_⟩
    refine cond_nb (fun c1 => ?_) (fun c1 => ?_)
    · refine eb_cons (es_ret (ops0 rfl) ?_)
      refine ev_bl ?_
      rw [show isRoad ws (.tup [a, b, x]) = false by show (oneOf a ws && _) = _; rw [c1]; rfl] at hq
      exact hq
    · refine ew_or1 ?_
      refine et_not ?_
      refine et_val ?_
      refine ev_call (ok_is_one_of T) (Nat.le_of_ble_eq_true rfl) rfl (ops0 rfl) ?_
      refine ea_cons ?_
      refine ev_ix ?_
      refine ev_var (i := 1) rfl (.inl rfl) rfl ?_
      refine ev_int ?_
      refine ⟨_, rfl, ?_⟩
      refine ea_cons ?_
      refine ev_var (i := 0) rfl (.inl rfl) rfl ?_
      refine ea_nil ?_
      refine ⟨hx _ rfl _ (by simp), hf, ?_⟩
      obtain ⟨za, rfl⟩ := oneOf_str c1
      refine cond_nb (fun c2 => ?_) (fun c2 => ?_)
      · refine eb_cons (es_ret (ops0 rfl) ?_)
        refine ev_bl ?_
        rw [show isRoad ws (.tup [.str za, b, x]) = false by show (oneOf _ ws && (oneOf b ws && _)) = _; rw [c2, Bool.false_and, Bool.and_false]] at hq
        exact hq
      · obtain ⟨zb, rfl⟩ := oneOf_str c2
        refine eb_nil ?_
        refine eb_cons (es_ret (ops0 rfl) ?_)
        refine ev_and ?_
        refine ev_cmp g_ltA ?_
        refine ev_ix ?_
        refine ev_var (i := 1) rfl (.inl rfl) rfl ?_
        refine ev_int ?_
        refine ⟨_, rfl, ?_⟩
        refine ev_ix ?_
        refine ev_var (i := 1) rfl (.inl rfl) rfl ?_
        refine ev_int ?_
        refine ⟨_, rfl, ?_⟩
        refine ⟨ltOk_str, ?_⟩
        have e : isRoad ws (.tup [.str za, .str zb, x]) = (PySem.W.dataLt (Da.str za).py (Da.str zb).py && numOk x (.int 1) (.int 9999)) := by
          show (oneOf _ ws && (oneOf _ ws && _)) = _
          rw [c1, c2]; rfl
        rw [e] at hq
        refine cond_b (fun c3 => ?_) (fun c3 => ?_)
        · have hkx : x.known = true := hx _ rfl _ (by simp)
          refine ev_one ?_
          refine ev_call (ok_is_number T) (Nat.le_of_ble_eq_true rfl) rfl (ops0 rfl) ?_
          refine ea_cons ?_
          refine ev_ix ?_
          refine ev_var (i := 1) rfl (.inl rfl) rfl ?_
          refine ev_int ?_
          refine ⟨_, rfl, ?_⟩
          refine ea_cons ?_
          refine ev_int ?_
          refine ea_cons ?_
          refine c_MOST_LENGTH T rfl ?_
          refine ea_nil ?_
          refine ⟨by first | rfl | assumption, by first | rfl | assumption, by first | rfl | assumption, ?_⟩
          rw [c3] at hq
          exact hq
        · rw [c3] at hq
          exact hq

--@@
/-! the roads of a map -/
theorem ltOk_tup2 {a b c d : Str} : LtOk (.tup [.str a, .str b]) (.tup [.str c, .str d]) where
  p := rfl
  q := rfl
  a := by
    show PySem.W.alike (.tuple [.str a, .str b]) (.tuple [.str c, .str d]) = true
    simp only [PySem.W.alike, PySem.W.alikeAll, Bool.and_true]
  n := fun e => by cases e
  d := by
    show (PyData.tuple [.str a, .str b]).depth ≤ 60
    simp only [PyData.depth, PyData.depthAll]
    omega
@[reducible] def cut2 (d : Da) : Da := match d with | .tup (a :: b :: _) => .tup [a, b] | d => d
@[reducible] def isRoadD (t x : Da) : Bool := match t with | .tup ws => isRoad ws x | _ => false
@[reducible] def lastR (x b : Da) : Bool := match b with | .tup l => (match l.getLast? with | none => true | some y => PySem.W.dataLt (cut2 y).py (cut2 x).py) | _ => false
@[reducible] def pR (t x b : Da) : Bool := isRoadD t x && lastR x b
@[reducible] def okR (t x b : Da) : Prop := (∃ ws, t = .tup ws ∧ ws.all Da.flat = true) ∧ x.known = true ∧ (∀ xs, x = .tup xs → ∀ y ∈ xs, y.known = true) ∧ ∃ l, b = .tup l ∧ EqOk b ∧ ∀ y ∈ l, isRoadD t y = true
theorem isRoad_tup {ws : List Da} {d : Da} (h : isRoad ws d = true) : ∃ a b c, d = .tup [.str a, .str b, .int c] ∧ 1 ≤ c ∧ c ≤ 9999 ∧ PySem.W.dataLt (Da.str a).py (Da.str b).py = true ∧ oneOf (.str a) ws = true ∧ oneOf (.str b) ws = true := by
  cases e : tupN d 3 with
  | false => rw [isRoad_no e] at h; cases h
  | true =>
    obtain ⟨a, b, c, rfl⟩ := tup3_ e
    have h : (oneOf a ws && (oneOf b ws && (PySem.W.dataLt a.py b.py && numOk c (.int 1) (.int 9999)))) = true := h
    rw [Bool.and_eq_true, Bool.and_eq_true, Bool.and_eq_true] at h
    obtain ⟨h1, h2, h3, h4⟩ := h
    obtain ⟨za, rfl⟩ := oneOf_str h1
    obtain ⟨zb, rfl⟩ := oneOf_str h2
    obtain ⟨i, rfl, h5, h6⟩ := numOk_ h4
    exact ⟨za, zb, i, rfl, h5, h6, h3, h1, h2⟩
@[reducible] def q_check_roads_is_right (t : Da) : Fd := q_lamB (okR t) (pR t)
theorem cl_check_roads_is_right (T : Txt K mg base Tq) {l : List (Str × Addr)} {c' : Addr} {cel : List (Addr × V)} {d_towns : Da} {v_towns : V} (hi : (cloOf "is_right" "check_roads.<locals>.is_right" (defArgs si_check_roads_is_right) (.stmts (defBody si_check_roads_is_right)) (defScope si_check_roads_is_right) l ["towns"] [(0, d_towns, v_towns)] c').In cel) :
    CallC P w K mg base 4 Tq cel (.clo (cloOf "is_right" "check_roads.<locals>.is_right" (defArgs si_check_roads_is_right) (.stmts (defBody si_check_roads_is_right)) (defScope si_check_roads_is_right) l ["towns"] [(0, d_towns, v_towns)] c') [d_towns]) 2 (q_check_roads_is_right d_towns) := by
  refine cloD (N := ["each", "before", "towns"]) (ps := ["each", "before"]) sn_check_roads_is_right rfl (fun _ _ _ us hl => match us, hl with | [_, _], _ => rfl) hi (fun ds q er h => as2_len h) fun F0 H0 ds q er h => ?_
  obtain ⟨each, before, rfl, h⟩ := as2_ h
  obtain ⟨⟨⟨ws, rfl, hf⟩, hk, hx, l, rfl, he, hl⟩, hq⟩ := h
  refine eb_cons (es_ret (ops0 rfl) ?_)
  refine ev_and ?_
  refine ev_call (ok_is_road T) (Nat.le_of_ble_eq_true rfl) rfl (ops0 rfl) ?_
  refine ea_cons ?_
  refine ev_var (i := 2) rfl (.inr (.inr rfl)) rfl ?_
  refine ea_cons ?_
  refine ev_var (i := 0) rfl (.inl rfl) rfl ?_
  refine ea_nil ?_
  refine ⟨hf, hk, hx, ?_⟩
  refine cond_b (fun c => ?_) (fun c => ?_)
  · obtain ⟨a, b, i, rfl, -⟩ := isRoad_tup c
    refine ev_one ?_
    refine ev_or ?_
    refine ev_cmp g_eq ?_
    refine ev_var (i := 1) rfl (.inl rfl) rfl ?_
    refine ev_tup ?_
    refine ea_nil ⟨Nat.le_of_ble_eq_true rfl, ?_⟩
    refine ⟨he, eqOk_of rfl (by decide), ?_⟩
    rw [eqv_tup0]
    refine cond_b (fun c2 => ?_) (fun c2 => ?_)
    · obtain rfl : l = [] := List.isEmpty_iff.mp c2
      rw [show pR (.tup ws) (.tup [.str a, .str b, .int i]) (.tup []) = true by show (isRoad ws (.tup [.str a, .str b, .int i]) && true) = true; rw [c]; rfl] at hq
      exact hq
    · obtain ⟨y, hy⟩ : ∃ y, l.getLast? = some y := by
        cases e : l.getLast? with
        | none => rw [List.getLast?_eq_none_iff.mp e] at c2; cases c2
        | some y => exact ⟨y, rfl⟩
      have hn : l ≠ [] := fun e => by rw [e] at hy; cases hy
      obtain ⟨a2, b2, i2, rfl, -⟩ := isRoad_tup (hl y (List.mem_of_getLast? hy))
      refine ev_one ?_
      refine ev_cmp g_ltA ?_
      refine ev_sl ?_
      refine ev_ix ?_
      refine ev_var (i := 1) rfl (.inl rfl) rfl ?_
      refine ev_neg ?_
      refine ev_int ?_
      refine ⟨.tup [.str a2, .str b2, .int i2], ?_, ?_⟩
      · rw [← hy]
        exact atI_last hn
      refine eo_none ?_
      refine eo_some ?_
      refine ev_int ?_
      refine ev_sl ?_
      refine ev_var (i := 0) rfl (.inl rfl) rfl ?_
      refine eo_none ?_
      refine eo_some ?_
      refine ev_int ?_
      refine ⟨ltOk_tup2, ?_⟩
      rw [show pR (.tup ws) (.tup [.str a, .str b, .int i]) (.tup l) = PySem.W.dataLt (cut2 (.tup [.str a2, .str b2, .int i2])).py (cut2 (.tup [.str a, .str b, .int i])).py by show (isRoad ws (.tup [.str a, .str b, .int i]) && lastR _ _) = _; rw [c, Bool.true_and]; show (match l.getLast? with | none => true | some y => PySem.W.dataLt (cut2 y).py (cut2 _).py) = _; rw [hy]] at hq
      exact hq
  · rw [show pR (.tup ws) each (.tup l) = false by show (isRoad ws each && lastR _ _) = _; rw [c]; rfl] at hq
    exact hq
@[reducible] def wrR (t d : Da) : List Da := wrongD (pR t) (.int 30) d
@[reducible] def q_check_roads (P : Program) (w : World) (K : PySem.W.Frag) (mg : Str → Option Value) (base : Heap) (Tq : List (Addr × Str)) : Fd := fun ds q er => as2 ds fun t d => d.known = true ∧ (∀ xs, d = .tup xs → PreOk (okR t) (pR t) xs) ∧ ((∃ x, wrR t d = [x] ∧ erT mg er "index" "InvalidRoads" x) ∨ (wrR t d = [] ∧ q .non))
theorem ok_check_roads (T : Txt K mg base Tq) : Cal P w K mg base "check_roads" "check_roads" s_check_roads 6 ["towns", "value"] (SpD K Tq (q_check_roads P w K mg base Tq)) := by
  refine calDM T.d_check_roads sc_check_roads (fun _ _ _ _ _ _ us hl => match us, hl with | [_, _], _ => rfl) (fun ds q er h => as2_len h) fun cdv hcd l hce F0 H0 ds q er h => ?_
  obtain ⟨towns, value, rfl, h⟩ := as2_ h
  obtain ⟨hk, hx, hq⟩ := h
  refine eb_pin (i := 0) rfl (fun v_towns => ?_)
  refine eb_cons (es_ndefS (st := si_check_roads_is_right) (i := 2) (q := "check_roads.<locals>.is_right") (fr := ["towns"]) (cs := [(0, _, v_towns)]) rfl T.l_check_roads hcd rfl ⟨rfl, hce, (show NdefX.ndefB (defScope s_check_roads) _ _ = true by decide +kernel), by decide +kernel, rfl, rfl⟩ rfl (.inl rfl) (fun c_is_right => ?_))
  refine eb_cons (es_for ?_)
  refine ei_seq ?_
  refine ev_callC (ok_wrong_at T) (Nat.le_of_ble_eq_true rfl) rfl (ops0 rfl) ?_
  refine ea_cons ?_
  refine ev_var (i := 1) rfl (.inl rfl) rfl ?_
  refine ea_cons ?_
  refine c_MOST_ROADS T rfl ?_
  refine ea_cons ?_
  refine ev_var (i := 2) rfl (.inl rfl) rfl ?_
  refine ea_nil ?_
  refine ⟨_, Capt.cel ⟨rfl, hce, (show NdefX.ndefB (defScope s_check_roads) _ _ = true by decide +kernel), by decide +kernel, rfl, rfl⟩ rfl (show ([Str.ofString "towns"].all fun y => decide ((defScope s_check_roads).names.lookup y = some .cell)) = true by decide +kernel), okR towns, pR towns, (cl_check_roads_is_right T (Clo.in_cel _)).mono (Nat.le_of_ble_eq_true rfl), rfl, hk, hx, ?_⟩
  show forG _ (wrR _ _) _ _
  rcases hq with ⟨x, e, hq⟩ | ⟨e, hq⟩
  · rw [e]
    refine eg_name (i := 3) rfl (.inl rfl) ?_
    refine eb_cons (es_raise T.x_InvalidRoads rfl (ops0 rfl) ?_)
    refine ev_var (i := 3) rfl (.inl rfl) rfl ?_
    exact hq
  · rw [e]
    refine eb_nil ?_
    exact hq

/-! maps -/
theorem eqOk_tup {xs : List Da} (h : ∀ d ∈ xs, d.okE = true ∧ d.dp ≤ 59) : EqOk (.tup xs) := eqOk_of (okEs_of fun d hd => (h d hd).1) (by show Da.dps xs + 1 ≤ 60; have := dps_of fun d hd => (h d hd).2; omega)
theorem wrongL_nil {p : Da → Da → Bool} {m : Da} : ∀ {xs pre : List Da}, wrongL p m pre xs = [] → ∀ (i : Nat) (x : Da), xs[i]? = some x → p x (.tup (pre ++ xs.take i)) = true
  | [], _, _, i, x, hx => by cases hx
  | y :: ys, pre, h, i, x, hx => by
    unfold wrongL at h
    split at h
    · cases h
    · rename_i c
      cases i with
      | zero =>
        obtain rfl : y = x := Option.some.inj hx
        rw [List.take_zero, List.append_nil]
        cases e : p y (.tup pre) with
        | true => rfl
        | false => rw [e, Bool.not_false, Bool.or_true] at c; exact absurd rfl c
      | succ i =>
        have z := wrongL_nil h i x hx
        rw [List.append_assoc] at z
        exact z
structure RdT (d : Da) : Prop where
  k : d.known = true
  e : EqOk d ∨ isDc d = true
  x : ∀ xs, d = .tup xs → ∀ x ∈ xs, x.known = true ∧ shortS x
structure RdR (d : Da) : Prop where
  k : d.known = true
  x : ∀ xs, d = .tup xs → ∀ x ∈ xs, x.known = true ∧ ∀ ys, x = .tup ys → ∀ y ∈ ys, y.known = true
theorem take_mem {xs : List Da} {i : Nat} {y : Da} (h : y ∈ xs.take i) : ∃ j, j < i ∧ xs[j]? = some y := by
  obtain ⟨j, hj⟩ := List.mem_iff_getElem?.mp h
  have hl := (List.getElem?_eq_some_iff.mp hj).1
  rw [List.length_take] at hl
  rw [List.getElem?_take_of_lt (by omega)] at hj
  exact ⟨j, by omega, hj⟩
theorem pT_name {x b : Da} (h : pT x b = true) : isName x = true := by
  have h : (isName x && lastLt x b) = true := h
  exact (Bool.and_eq_true _ _ ▸ h).1
theorem RdT.pre {d : Da} (h : RdT d) : ∀ xs, d = .tup xs → PreOk okT pT xs := fun xs e i x hx hp => by
  have z := h.x xs e x (List.mem_of_getElem? hx)
  have hn : ∀ y ∈ xs.take i, isName y = true := fun y hy => by
    obtain ⟨j, hj, hy⟩ := take_mem hy
    exact pT_name (hp j y hj hy)
  refine ⟨z.1, z.2, _, rfl, eqOk_tup fun y hy => ?_, hn⟩
  obtain ⟨s, rfl⟩ := isName_str (hn y hy)
  exact ⟨by unfold Da.okE; exact name_ok (hn _ hy), Nat.zero_le _⟩
theorem pR_road {t x b : Da} (h : pR t x b = true) : isRoadD t x = true := by
  have h : (isRoadD t x && lastR x b) = true := h
  exact (Bool.and_eq_true _ _ ▸ h).1
theorem names_flat {ws : List Da} (h : ∀ x ∈ ws, isName x = true) : ws.all Da.flat = true := List.all_eq_true.mpr fun x hx => by
  obtain ⟨s, rfl⟩ := isName_str (h x hx)
  rfl
theorem oneOf_name {a : Str} {ws : List Da} (hn : ∀ x ∈ ws, isName x = true) (h : oneOf (.str a) ws = true) : isName (.str a) = true := by
  obtain ⟨y, hy, e⟩ := List.any_eq_true.mp (show (ws.any fun y => eqF y (.str a)) = true from h)
  obtain ⟨s, rfl⟩ := isName_str (hn y hy)
  obtain rfl : s = a := eq_of_beq e
  exact hn _ hy
theorem RdR.pre {t d : Da} {ws : List Da} (et : t = .tup ws) (hw : ∀ x ∈ ws, isName x = true) (h : RdR d) : ∀ xs, d = .tup xs → PreOk (okR t) (pR t) xs := fun xs e i x hx hp => by
  have z := h.x xs e x (List.mem_of_getElem? hx)
  have hn : ∀ y ∈ xs.take i, isRoadD t y = true := fun y hy => by
    obtain ⟨j, hj, hy⟩ := take_mem hy
    exact pR_road (hp j y hj hy)
  refine ⟨⟨ws, et, names_flat hw⟩, z.1, z.2, _, rfl, eqOk_tup fun y hy => ?_, hn⟩
  subst et
  obtain ⟨a, b, c, rfl, _, _, _, ha, hb⟩ := isRoad_tup (hn y hy)
  exact ⟨by simp only [Da.okE, Da.okEs, Bool.and_true, name_ok (oneOf_name hw ha), name_ok (oneOf_name hw hb)], by simp only [Da.dp, Da.dps]; omega⟩
theorem wrT_nil {t : Da} (h : wrT t = []) : ∃ ws, t = .tup ws ∧ ws ≠ [] ∧ ∀ i x, ws[i]? = some x → pT x (.tup (ws.take i)) = true := by
  unfold wrT at h
  split at h
  · cases h
  · rename_i c
    cases t with
    | tup ws =>
      refine ⟨ws, rfl, fun e => ?_, fun i x hx => ?_⟩
      · subst e
        exact c rfl
      · have z := wrongL_nil (pre := []) h i x hx
        exact z
    | _ => cases h
theorem pT_all {ws : List Da} (h : ∀ (i : Nat) (x : Da), ws[i]? = some x → pT x (.tup (ws.take i)) = true) : ∀ x ∈ ws, isName x = true := fun x hx => by
  obtain ⟨i, hi⟩ := List.mem_iff_getElem?.mp hx
  exact pT_name (h i x hi)
@[reducible] def mapD (mg : Str → Option Value) (t r : Da) : Da := .ins (cA mg "Map") [("told", .tup [t, r])]
@[reducible] def q_Map___init__ (mg : Str → Option Value) : Fi := fun ds q er => as2 ds fun t r => RdT t ∧ RdR r ∧
  ((∃ x, wrT t = [x] ∧ erT mg er "index" "InvalidTowns" x) ∨ (wrT t = [] ∧ ((∃ x, wrR t r = [x] ∧ erT mg er "index" "InvalidRoads" x) ∨ (wrR t r = [] ∧ q [("told", .tup [t, r])]))))
theorem in_Map (T : Txt K mg base Tq) : ClsG P w K mg base "Map" "Map.__init__" s_Map___init__ 8 ["self", "towns", "roads"] Tq (cA mg "Map") (q_Map___init__ mg) := by
  refine clsI T.k_Map.gm T.k_Map.cls T.mb_Map sc_Map___init__ (fun _ _ _ _ _ _ us hl => match us, hl with | [_, _, _], _ => rfl) (fun ds q er h => congrArg (· + 1) (as2_len h)) fun cdv F0 H0 p ds q er h => ?_
  obtain ⟨towns, roads, rfl, h⟩ := as2_ h
  obtain ⟨ht, hr, hq⟩ := h
  refine eb_cons (es_expr ?_)
  refine ev_call (ok_check_towns T) (Nat.le_of_ble_eq_true rfl) rfl (opsI rfl rfl) ?_
  refine ea_cons ?_
  refine ev_var (i := 1) rfl (.inl rfl) rfl ?_
  refine ea_nil ?_
  refine ⟨ht.k, ht.e, ht.pre, ?_⟩
  rcases hq with ⟨x, e, hq⟩ | ⟨e, hq⟩
  · exact .inl ⟨x, e, hq⟩
  refine .inr ⟨e, ?_⟩
  refine eb_cons (es_expr ?_)
  refine ev_call (ok_check_roads T) (Nat.le_of_ble_eq_true rfl) rfl (opsI rfl rfl) ?_
  refine ea_cons ?_
  refine ev_var (i := 1) rfl (.inl rfl) rfl ?_
  refine ea_cons ?_
  refine ev_var (i := 2) rfl (.inl rfl) rfl ?_
  refine ea_nil ?_
  obtain ⟨ws, rfl, hne, hws⟩ := wrT_nil e
  refine ⟨hr.k, hr.pre rfl (pT_all hws), ?_⟩
  rcases hq with ⟨x, e, hq⟩ | ⟨e2, hq⟩
  · exact .inl ⟨x, e, hq⟩
  refine .inr ⟨e2, ?_⟩
  refine eb_cons (es_setF (i := 0) rfl (.inl rfl) T.k_Map.cls T.n_Map_told rfl ?_)
  refine ev_tup ?_
  refine ea_cons ?_
  refine ev_var (i := 1) rfl (.inl rfl) rfl ?_
  refine ea_cons ?_
  refine ev_var (i := 2) rfl (.inl rfl) rfl ?_
  refine ea_nil ⟨Nat.le_of_ble_eq_true rfl, ?_⟩
  refine ⟨by decide, ?_⟩
  refine eb_nil ?_
  exact ⟨_, List.mem_cons_self, hq⟩
@[reducible] def q_Map_towns (mg : Str → Option Value) : Fd := fun ds q _ => as1 ds fun d => ∃ t r, d = mapD mg t r ∧ q t
@[reducible] def q_Map_roads (mg : Str → Option Value) : Fd := fun ds q _ => as1 ds fun d => ∃ t r, d = mapD mg t r ∧ q r
@[reducible] def q_Map_parts (mg : Str → Option Value) : Fd := fun ds q _ => as1 ds fun d => ∃ t r, d = mapD mg t r ∧ q (.tup [t, r])
theorem pr_Map_towns (T : Txt K mg base Tq) : PropG P w K mg base (cA mg "Map") "towns" "Map.towns" s_Map_towns 1 ["self"] Tq (q_Map_towns mg) := by
  refine propD T.k_Map.cls T.pb_Map_towns sc_Map_towns (fun _ _ _ _ _ _ us hl => match us, hl with | [_], _ => rfl) (fun ds q er h => as1_len h) fun cdv F0 H0 ds q er h => ?_
  obtain ⟨self, rfl, h⟩ := as1_ h
  obtain ⟨t, r, rfl, hq⟩ := h
  refine eb_cons (es_ret (ops0 rfl) ?_)
  refine ev_ix ?_
  refine ev_fld ?_
  refine ev_var (i := 0) rfl (.inl rfl) rfl ?_
  refine ⟨_, _, _, rfl, T.k_Map.cls, T.n_Map_told, rfl, ?_⟩
  refine ev_int ?_
  refine ⟨_, rfl, ?_⟩
  exact hq
theorem pr_Map_roads (T : Txt K mg base Tq) : PropG P w K mg base (cA mg "Map") "roads" "Map.roads" s_Map_roads 1 ["self"] Tq (q_Map_roads mg) := by
  refine propD T.k_Map.cls T.pb_Map_roads sc_Map_roads (fun _ _ _ _ _ _ us hl => match us, hl with | [_], _ => rfl) (fun ds q er h => as1_len h) fun cdv F0 H0 ds q er h => ?_
  obtain ⟨self, rfl, h⟩ := as1_ h
  obtain ⟨t, r, rfl, hq⟩ := h
  refine eb_cons (es_ret (ops0 rfl) ?_)
  refine ev_ix ?_
  refine ev_fld ?_
  refine ev_var (i := 0) rfl (.inl rfl) rfl ?_
  refine ⟨_, _, _, rfl, T.k_Map.cls, T.n_Map_told, rfl, ?_⟩
  refine ev_int ?_
  refine ⟨_, rfl, ?_⟩
  exact hq
theorem pr_Map_parts (T : Txt K mg base Tq) : PropG P w K mg base (cA mg "Map") "parts" "Map.parts" s_Map_parts 1 ["self"] Tq (q_Map_parts mg) := by
  refine propD T.k_Map.cls T.pb_Map_parts sc_Map_parts (fun _ _ _ _ _ _ us hl => match us, hl with | [_], _ => rfl) (fun ds q er h => as1_len h) fun cdv F0 H0 ds q er h => ?_
  obtain ⟨self, rfl, h⟩ := as1_ h
  obtain ⟨t, r, rfl, hq⟩ := h
  refine eb_cons (es_ret (ops0 rfl) ?_)
  refine ev_fld ?_
  refine ev_var (i := 0) rfl (.inl rfl) rfl ?_
  refine ⟨_, _, _, rfl, T.k_Map.cls, T.n_Map_told, rfl, ?_⟩
  exact hq
@[reducible] def eqM (a b : Da) : Bool := match a, b with | .ins _ [(_, x)], .ins _ [(_, y)] => PyData.eqv x.py y.py | _, _ => false
@[reducible] def q_Map___eq__ (mg : Str → Option Value) : Fd := fun ds q _ => as2 ds fun a b => (∃ t r, a = mapD mg t r ∧ EqOk (.tup [t, r])) ∧
  ((∃ t r, b = mapD mg t r ∧ EqOk (.tup [t, r])) ∨ b.known = true) ∧ q (.bl (eqM a b))
theorem eq_Map (T : Txt K mg base Tq) : EqC P w K mg base (cA mg "Map") "Map.__eq__" s_Map___eq__ 10 ["self", "other"] Tq (q_Map___eq__ mg) := by
  refine eqD T.k_Map T.eb_Map sc_Map___eq__ (fun _ _ _ _ _ _ us hl => match us, hl with | [_, _], _ => rfl) (fun ds q er h => as2_len h) fun cdv F0 H0 ds q er h => ?_
  obtain ⟨self, other, rfl, h⟩ := as2_ h
  obtain ⟨⟨t, r, rfl, e1⟩, hb, hq⟩ := h
  refine eb_cons (es_ret (ops0 rfl) ?_)
  refine ev_and ?_
  refine ev_isC T.k_Map.isc rfl T.m_isinstance rfl ?_
  refine ev_var (i := 1) rfl (.inl rfl) rfl ?_
  rcases hb with ⟨t2, r2, rfl, e2⟩ | hk
  · refine ⟨rfl, ?_⟩
    rw [show isIns (cA mg "Map") (mapD mg t2 r2) = true from decide_eq_true rfl]
    refine ev_one ?_
    refine ev_cmp g_eq ?_
    refine ev_prop (pr_Map_parts T) (Nat.le_of_ble_eq_true rfl) ?_
    refine ev_var (i := 0) rfl (.inl rfl) rfl ?_
    refine ⟨_, rfl, ?_⟩
    refine ⟨_, _, rfl, ?_⟩
    refine ev_prop (pr_Map_parts T) (Nat.le_of_ble_eq_true rfl) ?_
    refine ev_var (i := 1) rfl (.inl rfl) rfl ?_
    refine ⟨_, rfl, ?_⟩
    refine ⟨_, _, rfl, ?_⟩
    refine ⟨e1, e2, ?_⟩
    exact hq
  · have hk2 : kinC (cA mg "Map") other := by cases other <;> first | exact hk | exact nomatch hk
    refine ⟨hk2, ?_⟩
    rw [show isIns (cA mg "Map") other = false by cases other <;> first | rfl | exact nomatch hk]
    rw [show eqM (mapD mg t r) other = false by cases other <;> first | rfl | exact nomatch hk] at hq
    exact hq

/-! the law's own numbers -/
def PailOk (xs : List Da) : Prop := ∃ a b c : Int, xs = [.int a, .int b, .int c] ∧ 0 ≤ a ∧ 0 ≤ b ∧ b < 2147483629 ∧ 0 ≤ c
@[reducible] def q__law_urn : List Da → (List Da → Prop) → Er → Prop := fun ds q _ => as2 ds fun s t => ∃ ns : List Int, s = .lst (ns.map Da.int) ∧ ns.length ≤ 63 ∧ asInt t fun i => 0 ≤ i ∧ i < 100 ∧ ∀ xs, PailOk xs → q xs
@[reducible] def q__law_take : Fd := fun ds q _ => as1 ds fun t => asInt t fun many => 0 < many ∧ many < 18446744073709551616 ∧ ∀ r : Int, 0 ≤ r → r < many → q (.int r)
@[reducible] def q__law_of : Fd := fun ds q _ => as1 ds fun s => ∃ xs, (s = .lst xs ∨ s = .tup xs ∨ ∃ z, s = .str z ∧ xs = GX.chars z) ∧ 0 < xs.length ∧ xs.length < 1000000 ∧ ∀ d ∈ xs, q d
theorem ok__law_urn (T : Txt K mg base Tq) : Cal P w K mg base "_law_urn" "_law_urn" s__law_urn 1 ["script", "lap"] (SpN K Tq q__law_urn) := by
  refine calN T.d__law_urn sc__law_urn (fun _ _ _ _ _ _ us hl => match us, hl with | [_, _], _ => rfl) (fun ds q er h => as2_len h) fun cdv hcd F0 H0 ds q er h => ?_
  obtain ⟨script, lap, rfl, h⟩ := as2_ h
  obtain ⟨ns, rfl, h63, h2⟩ := h
  obtain ⟨i, rfl, hi, hi2, hq⟩ := asInt_ h2
  have hcl := GX.cutD_len (xs := ns.map Da.int) (lo := none) (hi := some 9)
  rw [List.length_map] at hcl
  refine eb_cons (es_set (i := 2) rfl (.inl rfl) ?_)
  refine ev_op g_addD ?_
  refine ev_int ?_
  refine ev_op g_mul ?_
  refine ev_int ?_
  refine ev_var (i := 1) rfl (.inl rfl) rfl ?_
  refine ⟨by first | (exact .inr ⟨by decide, by decide⟩) | (exact .inl ⟨by decide, by decide⟩) | (right; constructor <;> omega) | (left; constructor <;> omega), ?_⟩
  refine eb_cons (es_for ?_)
  refine ei_seq ?_
  refine ev_sl ?_
  refine ev_var (i := 0) rfl (.inl rfl) rfl ?_
  refine eo_none ?_
  refine eo_some ?_
  refine ev_int ?_
  refine forG_inv (fun _ Γ => ∃ (m : Int) (s : Slot), Γ = [.dat (.lst (ns.map Da.int)), .dat (.int i), .dat (.int m), s, .no] ∧ 0 ≤ m) ⟨_, _, rfl, by omega⟩ ?_ ?_
  · rintro j d Γ k hd ⟨m, s, rfl, h0⟩ hk
    obtain ⟨n, _, rfl⟩ := mem_ints (mem_cut (List.mem_of_getElem? hd))
    refine eg_name (i := 3) rfl (.inl rfl) ?_
    refine eb_cons (es_set (i := 2) rfl (.inl rfl) ?_)
    refine ev_op g_mod ?_
    refine ev_callTy c_intD rfl T.m_int bt_int ?_
    refine ea_cons ?_
    refine ev_op g_addD ?_
    refine ev_op g_addD ?_
    refine ev_op g_mul ?_
    refine ev_var (i := 2) rfl (.inl rfl) rfl ?_
    refine ev_int ?_
    refine ⟨by first | (exact .inr ⟨by decide, by decide⟩) | (exact .inl ⟨by decide, by decide⟩) | (right; constructor <;> omega) | (left; constructor <;> omega), ?_⟩
    refine ev_op g_mul ?_
    refine ev_op g_mod ?_
    refine ev_callTy c_intD rfl T.m_int bt_int ?_
    refine ea_cons ?_
    refine ev_var (i := 3) rfl (.inl rfl) rfl ?_
    refine ea_nil ?_
    refine ev_int ?_
    refine ⟨by first | decide | omega, ?_⟩
    refine ev_int ?_
    refine ⟨by first | (exact .inr ⟨by decide, by decide⟩) | (exact .inl ⟨by decide, by decide⟩) | (right; constructor <;> omega) | (left; constructor <;> omega), ?_⟩
    refine ev_int ?_
    refine ea_nil ?_
    refine ev_int ?_
    refine ⟨by first | decide | omega, ?_⟩
    refine eb_nil ?_
    exact hk _ ⟨_, _, rfl, Int.emod_nonneg _ (by omega)⟩
  rintro Γ ⟨m, s, rfl, h0⟩
  refine eb_cons (EvS.cut (fun Γ' => ∃ sp : Int, Γ' = [.dat (.lst (ns.map Da.int)), .dat (.int i), .dat (.int m), s, .dat (.int sp)]) ?_ ?_)
  · refine es_set (i := 4) rfl (.inl rfl) ?_
    refine ev_ifx ?_
    refine et_cmp g_lt ?_
    refine ev_var (i := 1) rfl (.inl rfl) rfl ?_
    refine ev_callB c_lenD rfl T.m_len bt_len ?_
    refine ea_cons ?_
    refine ev_var (i := 0) rfl (.inl rfl) rfl ?_
    refine ea_nil ?_
    refine cond_dec (fun c => ?_) (fun c => ?_)
    · refine ev_callTy c_intD rfl T.m_int bt_int ?_
      refine ea_cons ?_
      refine ev_ix ?_
      refine ev_var (i := 0) rfl (.inl rfl) rfl ?_
      refine ev_var (i := 1) rfl (.inl rfl) rfl ?_
      rw [List.length_map] at c
      obtain ⟨d, hd, hm⟩ := atI_mem (ds := ns.map Da.int) hi (by rw [List.length_map]; exact c)
      obtain ⟨own, _, rfl⟩ := mem_ints hm
      refine ⟨_, hd, ?_⟩
      refine ea_nil ?_
      exact ⟨_, rfl⟩
    · refine ev_int ?_
      exact ⟨_, rfl⟩
  rintro Γ' ⟨sp, rfl⟩
  refine eb_cons (es_set (i := 2) rfl (.inl rfl) ?_)
  refine ev_op g_mod ?_
  refine ev_callTy c_intD rfl T.m_int bt_int ?_
  refine ea_cons ?_
  refine ev_op g_addD ?_
  refine ev_op g_addD ?_
  refine ev_op g_mul ?_
  refine ev_var (i := 2) rfl (.inl rfl) rfl ?_
  refine ev_int ?_
  refine ⟨by first | (exact .inr ⟨by decide, by decide⟩) | (exact .inl ⟨by decide, by decide⟩) | (right; constructor <;> omega) | (left; constructor <;> omega), ?_⟩
  refine ev_op g_mul ?_
  refine ev_op g_mod ?_
  refine ev_callTy c_intD rfl T.m_int bt_int ?_
  refine ea_cons ?_
  refine ev_var (i := 4) rfl (.inl rfl) rfl ?_
  refine ea_nil ?_
  refine ev_int ?_
  refine ⟨by first | decide | omega, ?_⟩
  refine ev_int ?_
  refine ⟨by first | (exact .inr ⟨by decide, by decide⟩) | (exact .inl ⟨by decide, by decide⟩) | (right; constructor <;> omega) | (left; constructor <;> omega), ?_⟩
  refine ev_int ?_
  refine ea_nil ?_
  refine ev_int ?_
  refine ⟨by first | decide | omega, ?_⟩
  refine eb_cons (es_retF (ops0 rfl) ?_)
  refine en_lst ?_
  refine ea_cons ?_
  refine ev_ifx ?_
  refine et_w ?_
  refine ew_or ?_
  refine et_cmp g_lt ?_
  refine ev_var (i := 4) rfl (.inl rfl) rfl ?_
  refine ev_int ?_
  have hb0 := Int.emod_nonneg (m * 59 + sp % 2147483477 * 30029 + 5) (b := 2147483629) (by omega)
  have hb1 := Int.emod_lt_of_pos (m * 59 + sp % 2147483477 * 30029 + 5) (b := 2147483629) (by omega)
  refine cond_dec (fun c1 => ?_) (fun c1 => ?_)
  · refine ev_callB c_abs rfl T.m_abs bt_abs ?_
    refine ea_cons ?_
    refine ev_var (i := 4) rfl (.inl rfl) rfl ?_
    refine ea_nil ?_
    refine ea_cons ?_
    refine ev_var (i := 2) rfl (.inl rfl) rfl ?_
    refine ea_cons ?_
    refine ev_int ?_
    refine ea_nil ⟨Nat.le_of_ble_eq_true rfl, ?_⟩
    exact hq _ ⟨_, _, _, rfl, by split <;> omega, hb0, hb1, by omega⟩
  · refine ew_or1 ?_
    refine et_cmp g_ge ?_
    refine ev_var (i := 4) rfl (.inl rfl) rfl ?_
    refine ev_pow (1000000000000000) ⟨by decide, by decide, by decide⟩ (by decide +kernel) ?_
    refine cond_dec (fun c2 => ?_) (fun c2 => ?_)
    · refine ev_callB c_abs rfl T.m_abs bt_abs ?_
      refine ea_cons ?_
      refine ev_var (i := 4) rfl (.inl rfl) rfl ?_
      refine ea_nil ?_
      refine ea_cons ?_
      refine ev_var (i := 2) rfl (.inl rfl) rfl ?_
      refine ea_cons ?_
      refine ev_int ?_
      refine ea_nil ⟨Nat.le_of_ble_eq_true rfl, ?_⟩
      exact hq _ ⟨_, _, _, rfl, by split <;> omega, hb0, hb1, by omega⟩
    · refine ev_int ?_
      refine ea_cons ?_
      refine ev_var (i := 2) rfl (.inl rfl) rfl ?_
      refine ea_cons ?_
      refine ev_int ?_
      refine ea_nil ⟨Nat.le_of_ble_eq_true rfl, ?_⟩
      exact hq _ ⟨_, _, _, rfl, by omega, hb0, hb1, by omega⟩
theorem ok__law_take (T : Txt K mg base Tq) : Cal P w K mg base "_law_take" "_law_take" s__law_take 1 ["urn", "many"] (SpO K Tq PailOk q__law_take) := by
  refine calO T.d__law_take sc__law_take (fun _ _ _ _ _ _ us hl => match us, hl with | [_, _], _ => rfl) (fun ds q er h => congrArg (· + 1) (as1_len h)) fun cdv hcd F0 H0 pa ds q er h => ?_
  obtain ⟨many, rfl, h⟩ := as1_ h
  obtain ⟨top, rfl, ht, ht2, hq⟩ := asInt_ h
  refine eb_cons (es_if ?_)
  refine et_cmp g_gt ?_
  refine ev_ixO (i := 0) rfl (.inl rfl) rfl ?_
  refine ev_int ?_
  rintro ds ⟨a, b, c, rfl, ha, hb, hb2, hc⟩
  refine ⟨_, rfl, ?_⟩
  refine ev_int ?_
  refine cond_dec (fun c1 => ?_) (fun c1 => ?_)
  · refine eb_cons (es_asg ?_)
    refine ev_callB c_divmod rfl T.m_divmod bt_divmod ?_
    refine ea_cons ?_
    refine ev_ixO (i := 0) rfl (.inl rfl) rfl ?_
    refine ev_int ?_
    rintro ds ⟨a, b, c, rfl, ha, hb, hb2, hc⟩
    refine ⟨_, rfl, ?_⟩
    refine ea_cons ?_
    refine ev_var (i := 1) rfl (.inl rfl) rfl ?_
    refine ea_nil ?_
    refine ⟨⟨by first | decide | omega, by first | decide | omega⟩, ?_⟩
    refine eg_tup ?_
    refine egs_cons ?_
    refine eg_sub (i := 0) (I' := PailOk) rfl (.inl rfl) rfl ?_
    refine ev_int ?_
    refine ⟨?_, ?_⟩
    · rintro ds ⟨a', b', c', rfl, ha', hb', hb2', hc'⟩
      exact ⟨0, rfl, a / top, b', c', rfl, Int.ediv_nonneg ha (by omega), hb', hb2', hc'⟩
    refine egs_cons ?_
    refine eg_name (i := 2) rfl (.inl rfl) ?_
    refine egs_nil ?_
    refine eb_cons (es_ret (ops1 0 rfl rfl) ?_)
    refine ev_var (i := 2) rfl (.inl rfl) rfl ?_
    exact hq _ (Int.emod_nonneg _ (by omega)) (Int.emod_lt_of_pos _ ht)
  · refine eb_nil ?_
    refine eb_cons (es_asg ?_)
    refine ev_op g_addD ?_
    refine ev_ixO (i := 0) rfl (.inl rfl) rfl ?_
    refine ev_int ?_
    rintro ds ⟨a, b, c, rfl, ha, hb, hb2, hc⟩
    refine ⟨_, rfl, ?_⟩
    refine ev_int ?_
    refine eg_sub (i := 0) (I' := PailOk) rfl (.inl rfl) rfl ?_
    refine ev_int ?_
    refine ⟨?_, ?_⟩
    · rintro ds ⟨a', b', c', rfl, ha', hb', hb2', hc'⟩
      exact ⟨2, rfl, a', b', c + 1, rfl, ha', hb', hb2', by omega⟩
    refine eb_cons (es_set (i := 3) rfl (.inl rfl) ?_)
    refine ev_op g_mod ?_
    refine ev_callTy c_intD rfl T.m_int bt_int ?_
    refine ea_cons ?_
    refine ev_op g_addD ?_
    refine ev_op g_mul ?_
    refine ev_ixO (i := 0) rfl (.inl rfl) rfl ?_
    refine ev_int ?_
    rintro ds ⟨a1, b1, c1', rfl, ha1, hb1, hb21, hc1⟩
    refine ⟨_, rfl, ?_⟩
    refine ev_int ?_
    refine ⟨by first | (exact .inr ⟨by decide, by decide⟩) | (exact .inl ⟨by decide, by decide⟩) | (right; constructor <;> omega) | (left; constructor <;> omega), ?_⟩
    refine ev_op g_mul ?_
    refine ev_int ?_
    refine ev_ixO (i := 0) rfl (.inl rfl) rfl ?_
    refine ev_int ?_
    rintro ds ⟨a2, b2, c2, rfl, ha2, hb2', hb22, hc2⟩
    refine ⟨_, rfl, ?_⟩
    refine ⟨by first | (exact .inr ⟨by decide, by decide⟩) | (exact .inl ⟨by decide, by decide⟩) | (right; constructor <;> omega) | (left; constructor <;> omega), ?_⟩
    refine ea_nil ?_
    refine ev_int ?_
    refine ⟨by first | decide | omega, ?_⟩
    refine eb_cons (es_asg ?_)
    refine ev_op g_mod ?_
    refine ev_callTy c_intD rfl T.m_int bt_int ?_
    refine ea_cons ?_
    refine ev_op g_addD ?_
    refine ev_op g_mul ?_
    refine ev_var (i := 3) rfl (.inl rfl) rfl ?_
    refine ev_op g_addD ?_
    refine ev_op g_mod ?_
    refine ev_callTy c_intD rfl T.m_int bt_int ?_
    refine ea_cons ?_
    refine ev_var (i := 3) rfl (.inl rfl) rfl ?_
    refine ea_nil ?_
    refine ev_int ?_
    refine ⟨by first | decide | omega, ?_⟩
    refine ev_int ?_
    refine ⟨by first | (exact .inr ⟨by decide, by decide⟩) | (exact .inl ⟨by decide, by decide⟩) | (right; constructor <;> omega) | (left; constructor <;> omega), ?_⟩
    refine ev_op g_mul ?_
    refine ev_int ?_
    refine ev_ixO (i := 0) rfl (.inl rfl) rfl ?_
    refine ev_int ?_
    rintro ds ⟨a3, b3, c3, rfl, ha3, hb3, hb23, hc3⟩
    refine ⟨_, rfl, ?_⟩
    refine ⟨by first | (exact .inr ⟨by decide, by decide⟩) | (exact .inl ⟨by decide, by decide⟩) | (right; constructor <;> omega) | (left; constructor <;> omega), ?_⟩
    refine ea_nil ?_
    refine ev_int ?_
    refine ⟨by first | decide | omega, ?_⟩
    refine eg_sub (i := 0) (I' := PailOk) rfl (.inl rfl) rfl ?_
    refine ev_int ?_
    refine ⟨?_, ?_⟩
    · rintro ds ⟨a', b', c', rfl, ha', hb', hb2', hc'⟩
      exact ⟨1, rfl, a', _, c', rfl, ha', Int.emod_nonneg _ (by omega), Int.emod_lt_of_pos _ (by omega), hc'⟩
    refine eb_cons (es_ret (ops1 0 rfl rfl) ?_)
    refine ev_op g_mod ?_
    refine ev_callTy c_intD rfl T.m_int bt_int ?_
    refine ea_cons ?_
    refine ev_op g_div ?_
    refine ev_ixO (i := 0) rfl (.inl rfl) rfl ?_
    refine ev_int ?_
    rintro ds ⟨a4, b4, c4, rfl, ha4, hb4, hb24, hc4⟩
    refine ⟨_, rfl, ?_⟩
    refine ev_int ?_
    refine ⟨⟨by first | decide | omega, by first | decide | omega⟩, ?_⟩
    refine ea_nil ?_
    refine ev_var (i := 1) rfl (.inl rfl) rfl ?_
    refine ⟨by first | decide | omega, ?_⟩
    exact hq _ (Int.emod_nonneg _ (by omega)) (Int.emod_lt_of_pos _ ht)
theorem ok__law_of (T : Txt K mg base Tq) : Cal P w K mg base "_law_of" "_law_of" s__law_of 2 ["urn", "some"] (SpO K Tq PailOk q__law_of) := by
  refine calO T.d__law_of sc__law_of (fun _ _ _ _ _ _ us hl => match us, hl with | [_, _], _ => rfl) (fun ds q er h => congrArg (· + 1) (as1_len h)) fun cdv hcd F0 H0 pa ds q er h => ?_
  obtain ⟨some, rfl, h⟩ := as1_ h
  obtain ⟨xs, hs, h1, h2, hq⟩ := h
  rcases hs with rfl | rfl | ⟨z, rfl, rfl⟩
  · refine eb_cons (es_ret (ops1 0 rfl rfl) ?_)
    refine ev_ixA ?_
    refine ev_var (i := 1) rfl (.inl rfl) rfl ?_
    refine ev_callO (i := 0) (ok__law_take T) (Nat.le_of_ble_eq_true rfl) rfl (ops1 0 rfl rfl) rfl (.inl rfl) rfl ?_
    refine ea_cons ?_
    refine ev_callB c_lenD rfl T.m_len bt_len ?_
    refine ea_cons ?_
    refine ev_var (i := 1) rfl (.inl rfl) rfl ?_
    refine ea_nil ?_
    refine ea_nil ?_
    refine ⟨by omega, by omega, fun r hr0 hr1 => ?_⟩
    obtain ⟨d, hd, hm⟩ := atI_mem hr0 hr1
    refine ⟨d, hd, ?_⟩
    exact hq d hm
  · refine eb_cons (es_ret (ops1 0 rfl rfl) ?_)
    refine ev_ixA ?_
    refine ev_var (i := 1) rfl (.inl rfl) rfl ?_
    refine ev_callO (i := 0) (ok__law_take T) (Nat.le_of_ble_eq_true rfl) rfl (ops1 0 rfl rfl) rfl (.inl rfl) rfl ?_
    refine ea_cons ?_
    refine ev_callB c_lenD rfl T.m_len bt_len ?_
    refine ea_cons ?_
    refine ev_var (i := 1) rfl (.inl rfl) rfl ?_
    refine ea_nil ?_
    refine ea_nil ?_
    refine ⟨by omega, by omega, fun r hr0 hr1 => ?_⟩
    obtain ⟨d, hd, hm⟩ := atI_mem hr0 hr1
    refine ⟨d, hd, ?_⟩
    exact hq d hm
  · have hzl : (GX.chars z).length = z.length := by unfold GX.chars; rw [List.length_map, Array.length_toList]; rfl
    refine eb_cons (es_ret (ops1 0 rfl rfl) ?_)
    refine ev_ixA ?_
    refine ev_var (i := 1) rfl (.inl rfl) rfl ?_
    refine ev_callO (i := 0) (ok__law_take T) (Nat.le_of_ble_eq_true rfl) rfl (ops1 0 rfl rfl) rfl (.inl rfl) rfl ?_
    refine ea_cons ?_
    refine ev_callB c_lenD rfl T.m_len bt_len ?_
    refine ea_cons ?_
    refine ev_var (i := 1) rfl (.inl rfl) rfl ?_
    refine ea_nil ?_
    refine ⟨by omega, ?_⟩
    refine ea_nil ?_
    refine ⟨by omega, by omega, fun r hr0 hr1 => ?_⟩
    obtain ⟨c, hc, hm⟩ := atI_memG (ds := z.cps.toList) hr0 (by rw [Array.length_toList]; exact hr1)
    refine ⟨by omega, c, hc, ?_⟩
    exact hq _ (List.mem_map.mpr ⟨c, hm, rfl⟩)
theorem anyI {xs : List Da} {q : Da → Prop} {er : Er} (lo hi : Int) (h : allI lo hi xs) (k : ∀ x, lo ≤ x → x ≤ hi → q (.int x)) (hl : 0 < xs.length := by exact Nat.le_of_ble_eq_true rfl) (hl2 : xs.length < 1000000 := by exact Nat.le_of_ble_eq_true rfl) : q__law_of [.lst xs] q er :=
  ⟨xs, .inl rfl, hl, hl2, fun d hd => by
    obtain ⟨x, rfl, h0, h1⟩ := allI_mem h hd
    exact k x h0 h1⟩

/-! words of small letters -/
def smL : List Nat := ("abcdefghijklmnopqrstuvwxyz" : Str).cps.toList
theorem isSm_iff {c : Nat} : isSm c = true ↔ c ∈ smL := by
  unfold isSm smL
  exact decide_eq_true_iff
structure WdP (z : Str) : Prop where
  l0 : 1 ≤ z.length
  l1 : z.length ≤ 8
  s : ∀ c ∈ z.cps.toList, c ∈ smL
theorem wd_name {z : Str} (h : WdP z) (n : isWord z = false) : isName (.str z) = true := by
  show (isLet (.str z) 1 8 && !isWord z) = true
  rw [n, Bool.not_false, Bool.and_true]
  show (decide ((1 : Int) ≤ (z.length : Int)) && decide ((z.length : Int) ≤ 8) && z.cps.toList.all isSm) = true
  rw [decide_eq_true (by have := h.l0; omega), decide_eq_true (by have := h.l1; omega), Bool.true_and, Bool.true_and]
  exact List.all_eq_true.mpr fun c hc => isSm_iff.mpr (h.s c hc)
theorem str_len (z : Str) : z.length = z.cps.toList.length := by rw [Array.length_toList]; rfl
theorem str_ext {a b : Str} (h : a.cps.toList = b.cps.toList) : a = b := by
  obtain ⟨a⟩ := a
  obtain ⟨b⟩ := b
  exact congrArg Str.mk (Array.toList_inj.mp h)
theorem tl_app (a b : Str) : (a ++ b).cps.toList = a.cps.toList ++ b.cps.toList := TL.tl_append a b
theorem joinL_one : ∀ cs : List Nat, TL.joinL [] (cs.map fun c => [c]) = cs
  | [] => rfl
  | [_] => rfl
  | a :: b :: r => by
    show [a] ++ ([] ++ TL.joinL [] ((b :: r).map fun c => [c])) = _
    rw [joinL_one (b :: r)]; rfl
theorem join_one (cs : List Nat) : (Txt.join ("" : Str) (cs.map fun c => (⟨#[c]⟩ : Str))).cps.toList = cs := by
  rw [TL.join_eq]
  have z := TL.tl_join ("" : Str) (cs.map fun c => (⟨#[c]⟩ : Str))
  rw [show TL.tl ("" : Str) = [] by decide +kernel, List.map_map] at z
  have e : cs.map (TL.tl ∘ fun c => (⟨#[c]⟩ : Str)) = cs.map fun c => [c] := List.map_congr_left fun _ _ => rfl
  rw [e, joinL_one] at z
  exact z
/-- what is tried beside a word -/
def cand (w : Str) (x : Nat) (c : Nat) : Str := ⟨(w.cps.toList.take 6 ++ [c, x]).toArray⟩
theorem cand_tl (w : Str) (x c : Nat) : (cand w x c).cps.toList = w.cps.toList.take 6 ++ [c, x] := by
  show ((w.cps.toList.take 6 ++ [c, x]).toArray).toList = _
  rw [List.toList_toArray]
theorem cut6 (w : Str) : (cutS w none (some 6)).cps.toList = w.cps.toList.take 6 := by
  show (((w.cps.toList.drop (HT.sIx w.length 0 none)).take (HT.sIx w.length w.length (some 6) - HT.sIx w.length 0 none)).toArray).toList = _
  rw [List.toList_toArray]
  have e0 : HT.sIx w.length 0 none = 0 := rfl
  have e1 : HT.sIx w.length w.length (some 6) = min 6 w.length := by
    show (if (6 : Int) < 0 then (6 + (w.length : Int)).toNat else min (6 : Int).toNat w.length) = _
    rw [if_neg (by decide)]; rfl
  rw [e0, e1, List.drop_zero, Nat.sub_zero]
  rcases Nat.le_total 6 w.length with h | h
  · rw [Nat.min_eq_left h]
  · rw [Nat.min_eq_right h, str_len, List.take_length, List.take_of_length_le (by rw [← str_len]; exact h)]
theorem cand_eq (w : Str) (x c : Nat) (xs : Str) (hx : xs.cps.toList = [x]) : cutS w none (some 6) ++ (⟨#[c]⟩ : Str) ++ xs = cand w x c := by
  refine str_ext ?_
  rw [tl_app, tl_app, cut6, cand_tl, hx, List.append_assoc]; rfl
theorem cand_wd {w : Str} (hw : ∀ c ∈ w.cps.toList, c ∈ smL) {x c : Nat} (hx : x ∈ smL) (hc : c ∈ smL) : WdP (cand w x c) := by
  have l : (cand w x c).length = (w.cps.toList.take 6).length + 2 := by rw [str_len, cand_tl, List.length_append]; rfl
  have l6 : (w.cps.toList.take 6).length ≤ 6 := by rw [List.length_take]; omega
  refine ⟨by omega, by omega, fun k hk => ?_⟩
  rw [cand_tl] at hk
  rcases List.mem_append.mp hk with hk | hk
  · exact hw k (List.mem_of_mem_take hk)
  · simp only [List.mem_cons, List.not_mem_nil, or_false] at hk
    rcases hk with rfl | rfl
    · exact hc
    · exact hx
theorem cand_inj {w : Str} {x c x' c' : Nat} (h : cand w x c = cand w x' c') : c = c' ∧ x = x' := by
  have z := congrArg (fun s : Str => s.cps.toList) h
  simp only [cand_tl] at z
  have y := List.append_cancel_left z
  cases y
  exact ⟨rfl, rfl⟩
def cands (w : Str) : List Str := smL.map (cand w 113) ++ smL.map (cand w 122)
theorem nodup_map {α β : Type} {f : α → β} (hf : ∀ a b, f a = f b → a = b) : ∀ {l : List α}, l.Nodup → (l.map f).Nodup
  | [], _ => .nil
  | a :: l, h => by
    have h := List.nodup_cons.mp h
    rw [List.map_cons]
    refine List.nodup_cons.mpr ⟨fun m => ?_, nodup_map hf h.2⟩
    obtain ⟨b, hb, e⟩ := List.mem_map.mp m
    exact h.1 (hf _ _ e ▸ hb)
theorem cands_nodup (w : Str) : (cands w).Nodup := by
  have hs : smL.Nodup := by decide +kernel
  refine List.nodup_append.mpr ⟨nodup_map (fun a b h => (cand_inj h).1) hs, nodup_map (fun a b h => (cand_inj h).1) hs, fun a ha b hb e => ?_⟩
  obtain ⟨c, _, rfl⟩ := List.mem_map.mp ha
  obtain ⟨c', _, rfl⟩ := List.mem_map.mp hb
  exact absurd (cand_inj e).2 (by decide)
theorem cands_len (w : Str) : (cands w).length = 52 := by
  unfold cands
  rw [List.length_append, List.length_map, List.length_map]
  decide +kernel
theorem nodup_len {α : Type} [DecidableEq α] : ∀ {ms ns : List α}, ms.Nodup → (∀ k ∈ ms, k ∈ ns) → ms.length ≤ ns.length
  | [], ns, _, _ => Nat.zero_le _
  | x :: ms, ns, h, m => by
    have h := List.nodup_cons.mp h
    have hx : x ∈ ns := m x List.mem_cons_self
    have z := nodup_len (ms := ms) (ns := ns.erase x) h.2 fun k hk => (List.mem_erase_of_ne (fun e : k = x => h.1 (by rw [← e]; exact hk))).mpr (m k (List.mem_cons_of_mem _ hk))
    rw [List.length_erase_of_mem hx] at z
    have : 0 < ns.length := List.length_pos_of_mem hx
    rw [List.length_cons]; omega
/-- one of them is not among few words -/
theorem cands_out {w : Str} {ns : List Str} (h : ns.length ≤ 51) : ∃ z, z ∈ cands w ∧ z ∉ ns := by
  refine Classical.byContradiction fun n => ?_
  have z := nodup_len (cands_nodup w) (ns := ns) fun k hk => Classical.byContradiction fun c => n ⟨k, hk, c⟩
  rw [cands_len] at z
  omega

/-! names that the law draws: each has a letter of its own, ahead of a q or alone -/
theorem isW_map {z : Str} {ws : List Str} : ((ws.map Da.str).any fun y => eqF y (.str z)) = decide (z ∈ ws) := by
  induction ws with
  | nil => rfl
  | cons w ws ih =>
    rw [List.map_cons, List.any_cons, ih]
    show (decide (w = z) || decide (z ∈ ws)) = decide (z ∈ w :: ws)
    by_cases h : w = z
    · rw [decide_eq_true h, decide_eq_true (show z ∈ w :: ws by rw [h]; exact List.mem_cons_self), Bool.true_or]
    · rw [decide_eq_false h, Bool.false_or]
      congr 1
      refine propext ⟨fun m => List.mem_cons_of_mem _ m, fun m => ?_⟩
      rcases List.mem_cons.mp m with e | m
      · exact absurd e.symm h
      · exact m
theorem cutS_take {z : Str} {n : Nat} : (cutS z none (some (n : Int))).cps.toList = z.cps.toList.take n := by
  show (((z.cps.toList.drop (HT.sIx z.length 0 none)).take (HT.sIx z.length z.length (some (n : Int)) - HT.sIx z.length 0 none)).toArray).toList = _
  rw [List.toList_toArray]
  have e0 : HT.sIx z.length 0 none = 0 := rfl
  have e1 : HT.sIx z.length z.length (some (n : Int)) = min n z.length := by
    show (if (n : Int) < 0 then (n + (z.length : Int)).toNat else min (n : Int).toNat z.length) = _
    rw [if_neg (by omega)]; rfl
  rw [e0, e1, List.drop_zero, Nat.sub_zero]
  rcases Nat.le_total n z.length with h | h
  · rw [Nat.min_eq_left h]
  · rw [Nat.min_eq_right h, str_len, List.take_length, List.take_of_length_le (by rw [← str_len]; exact h)]
theorem cutS_drop {z : Str} {n : Nat} (h : n ≤ z.length) : (cutS z (some (n : Int)) none).cps.toList = z.cps.toList.drop n := by
  show (((z.cps.toList.drop (HT.sIx z.length 0 (some (n : Int)))).take (HT.sIx z.length z.length none - HT.sIx z.length 0 (some (n : Int)))).toArray).toList = _
  rw [List.toList_toArray]
  have e0 : HT.sIx z.length z.length none = z.length := rfl
  have e1 : HT.sIx z.length 0 (some (n : Int)) = min n z.length := by
    show (if (n : Int) < 0 then (n + (z.length : Int)).toNat else min (n : Int).toNat z.length) = _
    rw [if_neg (by omega)]; rfl
  rw [e0, e1, Nat.min_eq_left h]
  exact List.take_of_length_le (by rw [List.length_drop, ← str_len]; omega)
theorem words_q : w_WORDS.all (fun w => decide (2 ≤ w.length) && decide (113 ∉ w.cps.toList)) = true := by decide +kernel
theorem not_wordq {z : Str} (h : z.length = 1 ∨ 113 ∈ z.cps.toList) : isWord z = false := by
  show ((w_WORDS.map Da.str).any fun y => eqF y (.str z)) = false
  rw [isW_map]
  refine decide_eq_false fun m => ?_
  have y := List.all_eq_true.mp words_q z m
  rw [Bool.and_eq_true, decide_eq_true_eq, decide_eq_true_eq] at y
  rcases h with h | h
  · omega
  · exact y.2 h
/-- the sign of the t-th name -/
def Sig (t : Nat) (w : Str) : Prop := w.cps.toList = [97 + t] ∨ ∃ p s, w.cps.toList = p ++ [97 + t, 113] ++ s
theorem Sig.q {t : Nat} {w : Str} (h : Sig t w) : w.length = 1 ∨ 113 ∈ w.cps.toList := by
  rcases h with h | ⟨p, s, h⟩
  · left; rw [str_len, h]; rfl
  · right; rw [h]; simp
theorem fb_sig {t u : Nat} {w : Str} (ht : t < 16) (hw : w.cps.toList = List.replicate 7 (97 + t) ++ [113]) (h : Sig u w) : u = t := by
  rcases h with h | ⟨p, s, h⟩
  · rw [h] at hw
    have := congrArg List.length hw
    simp at this
  · rw [h] at hw
    have e1 : (p ++ [97 + u, 113] ++ s)[p.length + 1]? = some 113 := by simp
    have e0 : (p ++ [97 + u, 113] ++ s)[p.length]? = some (97 + u) := by simp
    rw [hw] at e0 e1
    have hp : ∀ i, i < 7 → (List.replicate 7 (97 + t) ++ [113])[i]? = some (97 + t) := fun i hi => by
      rw [List.getElem?_append_left (by rw [List.length_replicate]; exact hi), List.getElem?_replicate_of_lt hi]
    have h6 : p.length = 6 := by
      have hl := (List.getElem?_eq_some_iff.mp e1).1
      rw [List.length_append, List.length_replicate, List.length_singleton] at hl
      rcases Nat.lt_or_ge (p.length + 1) 7 with c | c
      · rw [hp _ c] at e1
        have := Option.some.inj e1
        omega
      · omega
    rw [h6, hp 6 (by decide)] at e0
    have := Option.some.inj e0
    omega
/-- what is known of the drawn names -/
structure NamesU (n : Nat) (ws : List Str) : Prop where
  l : ws.length = n
  d : ws.Nodup
  w : ∀ w ∈ ws, WdP w ∧ ∃ t, t < n ∧ Sig t w
theorem NamesU.name {n : Nat} {ws : List Str} (h : NamesU n ws) : ∀ w ∈ ws, isName (.str w) = true := fun w hw => by
  obtain ⟨a, t, _, s⟩ := h.w w hw
  exact wd_name a (not_wordq s.q)
theorem atG_n {α : Type} {l : List α} {i : Nat} {a : α} (h : l[i]? = some a) : atI l (i : Int) = some a := by
  have hl := (List.getElem?_eq_some_iff.mp h).1
  unfold atI ixN
  rw [if_pos (by omega), if_pos (by omega)]
  show l[((i : Int)).toNat]? = _
  rw [show ((i : Int)).toNat = i by omega]
  exact h
theorem smL_at {t : Nat} (h : t < 26) : ("abcdefghijklmnopqrstuvwxyz" : Str).cps.toList[t]? = some (97 + t) := by
  have e : (List.range 26).all (fun t => decide (("abcdefghijklmnopqrstuvwxyz" : Str).cps.toList[t]? = some (97 + t))) = true := by decide +kernel
  exact of_decide_eq_true (List.all_eq_true.mp e t (List.mem_range.mpr h))
theorem smL_mem {t : Nat} (h : t < 26) : 97 + t ∈ smL := List.mem_of_getElem? (smL_at h)
theorem NamesU.add {n : Nat} {ws : List Str} (h : NamesU n ws) {z : Str} (hz : WdP z) (hn : z ∉ ws) (hs : Sig n z) : NamesU (n + 1) (ws ++ [z]) := by
  refine ⟨by rw [List.length_append, List.length_singleton, h.l], ?_, fun w hw => ?_⟩
  · refine List.nodup_append.mpr ⟨h.d, by simp, fun a ha b hb e => ?_⟩
    rw [List.mem_singleton.mp hb] at e
    exact hn (e ▸ ha)
  · rcases List.mem_append.mp hw with hw | hw
    · obtain ⟨a, t, b, c⟩ := h.w w hw
      exact ⟨a, t, by omega, c⟩
    · rw [List.mem_singleton.mp hw]
      exact ⟨hz, n, by omega, hs⟩
theorem NamesU.addf {n : Nat} {ws : List Str} (h : NamesU n ws) {z : Str} (hn : n < 16) (hz : z.cps.toList = List.replicate 7 (97 + n) ++ [113]) : NamesU (n + 1) (ws ++ [z]) := by
  refine h.add ⟨by rw [str_len, hz]; simp, by rw [str_len, hz]; simp, fun c hc => ?_⟩ (fun m => ?_) (.inr ⟨List.replicate 6 (97 + n), [], ?_⟩)
  · rw [hz] at hc
    rcases List.mem_append.mp hc with hc | hc
    · rw [List.eq_of_mem_replicate hc]; exact smL_mem (by omega)
    · rw [List.mem_singleton.mp hc]; exact smL_mem (t := 16) (by decide)
  · obtain ⟨a, t, b, c⟩ := h.w z m
    have := fb_sig hn hz c
    omega
  · rw [hz, List.append_nil]; rfl
theorem chars_sm : GX.chars "abcdefghijklmnopqrstuvwxyz" = smL.map fun c => Da.str ⟨#[c]⟩ := rfl
theorem app_len (a b : Str) : (a ++ b).length = a.length + b.length := by rw [str_len, tl_app, List.length_append, ← str_len, ← str_len]
theorem drawnU {nm : Str} {i : Nat} {size r : Int} (h1 : nm.length = size.toNat) (hs : ∀ c ∈ nm.cps.toList, c ∈ smL) (h0 : 0 ≤ size) (h6 : size ≤ 6) (hr : 0 ≤ r) (hr2 : r < size + 1) (hi : i < 26) :
    WdP (cutS nm none (some r) ++ (⟨#[97 + i]⟩ : Str) ++ cutS ("q" : Str) none (some size) ++ cutS nm (some r) none) ∧ Sig i (cutS nm none (some r) ++ (⟨#[97 + i]⟩ : Str) ++ cutS ("q" : Str) none (some size) ++ cutS nm (some r) none) := by
  obtain ⟨a, rfl⟩ : ∃ a : Nat, r = (a : Int) := ⟨r.toNat, by omega⟩
  obtain ⟨s, rfl⟩ : ∃ a : Nat, size = (a : Int) := ⟨size.toNat, by omega⟩
  have hz : (cutS nm none (some (a : Int)) ++ (⟨#[97 + i]⟩ : Str) ++ cutS ("q" : Str) none (some (s : Int)) ++ cutS nm (some (a : Int)) none).cps.toList = nm.cps.toList.take a ++ [97 + i] ++ [113].take s ++ nm.cps.toList.drop a := by
    rw [tl_app, tl_app, tl_app, cutS_take, cutS_take, cutS_drop (by omega)]
    rfl
  have hl : nm.cps.toList.length = s := by rw [← str_len]; omega
  have hcut : (nm.cps.toList.take a).length + (nm.cps.toList.drop a).length = s := by rw [List.length_take, List.length_drop]; omega
  refine ⟨⟨?_, ?_, fun c hc => ?_⟩, ?_⟩
  · rw [str_len, hz]; simp only [List.length_append, List.length_singleton]; omega
  · rw [str_len, hz]
    have : ([113].take s).length ≤ 1 := by rw [List.length_take]; exact Nat.min_le_right _ _
    simp only [List.length_append, List.length_singleton]; omega
  · rw [hz] at hc
    simp only [List.mem_append, List.mem_singleton] at hc
    rcases hc with ((hc | hc) | hc) | hc
    · exact hs c (List.mem_of_mem_take hc)
    · rw [hc]; exact smL_mem hi
    · rw [List.mem_singleton.mp (List.mem_of_mem_take hc)]; exact smL_mem (t := 16) (by decide)
    · exact hs c (List.mem_of_mem_drop hc)
  · cases s with
    | zero =>
      left
      rw [hz, List.length_eq_zero_iff.mp hl]
      simp
    | succ s =>
      right
      refine ⟨nm.cps.toList.take a, nm.cps.toList.drop a, ?_⟩
      rw [hz, List.take_succ_cons, List.take_nil]
      simp
@[reducible] def q__law_names : Fd := fun ds q _ => as1 ds fun m => asInt m fun many => (0 ≤ many ∧ many ≤ 16) ∧ ∀ ws : List Str, NamesU many.toNat ws → q (.lst (ws.map Da.str))
theorem ok__law_names (T : Txt K mg base Tq) : Cal P w K mg base "_law_names" "_law_names" s__law_names 3 ["urn", "many"] (SpO K Tq PailOk q__law_names) := by
  refine calO T.d__law_names sc__law_names (fun _ _ _ _ _ _ us hl => match us, hl with | [_, _], _ => rfl) (fun ds q er h => congrArg (· + 1) (as1_len h)) fun cdv hcd F0 H0 pa ds q er h => ?_
  obtain ⟨many, rfl, h⟩ := as1_ h
  obtain ⟨many, rfl, hm, hq⟩ := asInt_ h
  refine eb_cons (es_parNE (i := 2) (j := 3) rfl rfl (by decide) rfl rfl (by decide) (fun env h => by cases env; cases h; rfl) ?_)
  refine en_lst ?_
  refine ea_nil ⟨Nat.le_of_ble_eq_true rfl, ?_⟩
  refine ev_str ?_
  intro A_found hA_found
  refine eb_cons (es_for ?_)
  refine ei_range1 rfl T.m_range ?_
  refine ev_var (i := 1) rfl (.inl rfl) rfl ?_
  refine ⟨⟨by omega, by omega⟩, ?_⟩
  have ll : ("abcdefghijklmnopqrstuvwxyz" : Str).length = 26 := by decide +kernel
  refine forG_inv (fun i Γ => ∃ (ws : List Str) (s4 s5 s6 s7 s8 : Slot), Γ = [.inv pa PailOk, .dat (.int many), .inv A_found (fun ys => ys = ws.map Da.str), .dat (.str "abcdefghijklmnopqrstuvwxyz"), s4, s5, s6, s7, s8] ∧ NamesU i ws) ⟨[], _, _, _, _, _, rfl, rfl, .nil, fun _ h => nomatch h⟩ ?_ ?_
  · rintro i d Γ k hd ⟨ws, s4, s5, s6, s7, s8, rfl, hws⟩ hk
    have hi : i < many.toNat := by
      have z := (List.getElem?_eq_some_iff.mp hd).1
      rwa [rngD_len] at z
    obtain rfl : d = .int (i : Int) := by rw [rngD_get hi] at hd; rw [← Option.some.inj hd, Int.zero_add]
    refine eg_name (i := 4) rfl (.inl rfl) ?_
    refine eb_cons (es_par (i := 5) (j := 6) rfl rfl (by decide) rfl rfl (by decide) (fun env h => by cases env; cases h; rfl) ?_)
    refine ev_callO (i := 0) (ok__law_of T) (Nat.le_of_ble_eq_true rfl) rfl (ops1 0 rfl rfl) rfl (.inl rfl) rfl ?_
    refine ea_cons ?_
    refine ev_lst ?_
    refine ea_cons ?_
    refine ev_int ?_
    refine ea_cons ?_
    refine ev_int ?_
    refine ea_cons ?_
    refine ev_int ?_
    refine ea_cons ?_
    refine ev_int ?_
    refine ea_cons ?_
    refine ev_int ?_
    refine ea_nil ⟨Nat.le_of_ble_eq_true rfl, ?_⟩
    refine ea_nil ?_
    refine anyI 0 6 (by simp only [allI, and_true]; omega) (fun size sz0 sz1 => ?_)
    refine ev_str ?_
    refine eb_cons (es_for ?_)
    refine ei_range1 rfl T.m_range ?_
    refine ev_var (i := 5) rfl (.inl rfl) rfl ?_
    refine ⟨⟨by omega, by omega⟩, ?_⟩
    refine forG_inv (fun j Γ => ∃ (nm : Str) (s7 : Slot), Γ = [.inv pa PailOk, .dat (.int many), .inv A_found (fun ys => ys = ws.map Da.str), .dat (.str "abcdefghijklmnopqrstuvwxyz"), .dat (.int i), .dat (.int size), .dat (.str nm), s7, s8] ∧ nm.length = j ∧ ∀ c ∈ nm.cps.toList, c ∈ smL) ⟨"", _, rfl, rfl, fun _ h => nomatch h⟩ ?_ ?_
    · rintro j d Γ k hd ⟨nm, s7, rfl, hnl, hns⟩ hk
      have hj : j < size.toNat := by
        have z := (List.getElem?_eq_some_iff.mp hd).1
        rw [rngD_len] at z; omega
      refine eg_name (i := 7) rfl (.inl rfl) ?_
      refine eb_cons (es_set (i := 6) rfl (.inl rfl) ?_)
      refine ev_op g_addD ?_
      refine ev_var (i := 6) rfl (.inl rfl) rfl ?_
      refine ev_callO (i := 0) (ok__law_of T) (Nat.le_of_ble_eq_true rfl) rfl (ops1 0 rfl rfl) rfl (.inl rfl) rfl ?_
      refine ea_cons ?_
      refine ev_var (i := 3) rfl (.inl rfl) rfl ?_
      refine ea_nil ?_
      refine ⟨_, .inr (.inr ⟨_, rfl, rfl⟩), by exact Nat.le_of_ble_eq_true rfl, by exact Nat.le_of_ble_eq_true rfl, fun d hd => ?_⟩
      rw [chars_sm] at hd
      obtain ⟨c, hc, rfl⟩ := List.mem_map.mp hd
      have one : (⟨#[c]⟩ : Str).length = 1 := rfl
      refine ⟨by omega, ?_⟩
      refine eb_nil ?_
      refine hk _ ⟨_, _, rfl, by rw [app_len, one, hnl], fun k hk => ?_⟩
      rw [tl_app] at hk
      rcases List.mem_append.mp hk with hk | hk
      · exact hns k hk
      · rw [List.mem_singleton.mp hk]; exact hc
    · rintro Γ ⟨nm, s7, rfl, hnl, hns⟩
      rw [rngD_len] at hnl
      refine eb_cons (es_set (i := 8) rfl (.inl rfl) ?_)
      refine ev_callO (i := 0) (ok__law_take T) (Nat.le_of_ble_eq_true rfl) rfl (ops1 0 rfl rfl) rfl (.inl rfl) rfl ?_
      refine ea_cons ?_
      refine ev_op g_addD ?_
      refine ev_var (i := 5) rfl (.inl rfl) rfl ?_
      refine ev_int ?_
      refine ea_nil ?_
      refine ⟨by omega, by omega, fun r hr0 hr1 => ?_⟩
      refine eb_cons (es_set (i := 6) rfl (.inl rfl) ?_)
      refine ev_op g_addD ?_
      refine ev_op g_addD ?_
      refine ev_op g_addD ?_
      refine ev_sl ?_
      refine ev_var (i := 6) rfl (.inl rfl) rfl ?_
      refine eo_none ?_
      refine eo_some ?_
      refine ev_var (i := 8) rfl (.inl rfl) rfl ?_
      refine ⟨by omega, ?_⟩
      refine ev_ixS ?_
      refine ev_var (i := 3) rfl (.inl rfl) rfl ?_
      refine ev_var (i := 4) rfl (.inl rfl) rfl ?_
      refine ⟨by omega, 97 + i, atG_n (smL_at (by omega)), ?_⟩
      have one : (⟨#[97 + i]⟩ : Str).length = 1 := rfl
      have hcl := cutS_length nm none (some r)
      have hcl2 := cutS_length nm (some r) none
      have hcq := cutS_length ("q" : Str) none (some size)
      have lq : ("q" : Str).length = 1 := by decide +kernel
      refine ⟨by omega, ?_⟩
      refine ev_sl ?_
      refine ev_str ?_
      refine eo_none ?_
      refine eo_some ?_
      refine ev_var (i := 5) rfl (.inl rfl) rfl ?_
      refine ⟨by omega, ?_⟩
      refine ⟨by simp only [app_len]; omega, ?_⟩
      refine ev_sl ?_
      refine ev_var (i := 6) rfl (.inl rfl) rfl ?_
      refine eo_some ?_
      refine ev_var (i := 8) rfl (.inl rfl) rfl ?_
      refine eo_none ?_
      refine ⟨by omega, ?_⟩
      refine ⟨by simp only [app_len]; omega, ?_⟩
      obtain ⟨z, hz⟩ : ∃ z, z = cutS nm none (some r) ++ (⟨#[97 + i]⟩ : Str) ++ cutS ("q" : Str) none (some size) ++ cutS nm (some r) none := ⟨_, rfl⟩
      rw [← hz]
      have hzw : WdP z ∧ Sig i z := by
        subst hz
        exact drawnU hnl hns sz0 sz1 hr0 hr1 (by omega)
      refine eb_cons (es_exprC ?_)
      refine ec_append (i := 2) (I' := (fun ys => ∃ ws', NamesU (i + 1) ws' ∧ ys = ws'.map Da.str)) rfl (.inl rfl) rfl ?_
      refine EvC.of ?_
      refine ev_ifx ?_
      refine et_notinO (i := 2) rfl (.inl rfl) rfl ?_
      refine ev_var (i := 6) rfl (.inl rfl) rfl ?_
      refine ⟨rfl, ?_⟩
      rintro ds rfl
      refine ⟨List.all_eq_true.mpr fun y hy => ?_, ?_⟩
      · obtain ⟨_, _, rfl⟩ := List.mem_map.mp hy; rfl
      rw [isW_map]
      refine cond_b (fun c => ?_) (fun c => ?_)
      · refine ev_var (i := 6) rfl (.inl rfl) rfl ?_
        refine ⟨_, rfl, fun ds hds => ?_, ?_⟩
        · subst hds
          exact ⟨by rw [List.length_map, hws.l]; omega, _, hws.add hzw.1 (fun m => by rw [decide_eq_true m] at c; cases c) hzw.2, by rw [List.map_append]; rfl⟩
        refine eb_pinO (i := 2) rfl (fun ds hds => ?_)
        obtain ⟨ws', h', rfl⟩ := hds
        refine eb_nil ?_
        exact hk _ ⟨ws', _, _, _, _, _, rfl, h'⟩
      · refine ev_op g_addD ?_
        refine ev_op g_mulS ?_
        refine ev_ixS ?_
        refine ev_var (i := 3) rfl (.inl rfl) rfl ?_
        refine ev_var (i := 4) rfl (.inl rfl) rfl ?_
        refine ⟨by omega, 97 + i, atG_n (smL_at (by omega)), ?_⟩
        refine ev_int ?_
        refine ⟨⟨by omega, by omega, by rw [one]; decide⟩, ?_⟩
        refine ev_str ?_
        have h7 : (strRep (⟨#[97 + i]⟩ : Str) 7 ++ ("q" : Str)).cps.toList = List.replicate 7 (97 + i) ++ [113] := by rw [tl_app, strRep_cps (by decide)]; rfl
        have h8 := str_len (strRep (⟨#[97 + i]⟩ : Str) 7 ++ ("q" : Str))
        rw [h7, app_len] at h8
        simp only [List.length_append, List.length_replicate, List.length_singleton] at h8
        refine ⟨by omega, ?_⟩
        refine ⟨_, rfl, fun ds hds => ?_, ?_⟩
        · subst hds
          exact ⟨by rw [List.length_map, hws.l]; omega, _, hws.addf (by omega) h7, by rw [List.map_append]; rfl⟩
        refine eb_pinO (i := 2) rfl (fun ds hds => ?_)
        obtain ⟨ws', h', rfl⟩ := hds
        refine eb_nil ?_
        exact hk _ ⟨ws', _, _, _, _, _, rfl, h'⟩
  · rintro Γ ⟨ws, s4, s5, s6, s7, s8, rfl, hws⟩
    rw [rngD_len] at hws
    refine eb_freeze (i := 2) rfl hA_found (fun ds_found h_found => ?_)
    refine eb_cons (es_ret (ops1 0 rfl rfl) ?_)
    refine ev_var (i := 2) rfl (.inl rfl) rfl ?_
    subst h_found
    exact hq ws hws

/-! the maps that the law draws -/
theorem sorted_lt {l : List Str} (h : l.Pairwise fun a b => a.cps.toList ≤ b.cps.toList) (d : l.Nodup) : l.Pairwise fun a b => a.cps.toList < b.cps.toList := by
  refine (h.and d).imp ?_
  intro a b hab
  rcases Nat.lt_or_ge 0 1 with _ | _
  · rcases List.le_iff_lt_or_eq.mp hab.1 with z | z
    · exact z
    · exact absurd (str_ext z) hab.2
  · omega
def lt2 (x y : Str × Str × Int) : Prop := x.1.cps.toList < y.1.cps.toList ∨ (x.1 = y.1 ∧ x.2.1.cps.toList < y.2.1.cps.toList)
@[reducible] def roadD (x : Str × Str × Int) : Da := .tup [.str x.1, .str x.2.1, .int x.2.2]
@[reducible] def townsD (ts : List Str) : Da := .tup (ts.map Da.str)
@[reducible] def roadsD (rs : List (Str × Str × Int)) : Da := .tup (rs.map roadD)
structure RoadOk (ts : List Str) (x : Str × Str × Int) : Prop where
  a : x.1 ∈ ts
  b : x.2.1 ∈ ts
  l : x.1.cps.toList < x.2.1.cps.toList
  c0 : 1 ≤ x.2.2
  c1 : x.2.2 ≤ 9999
structure MapV (ts : List Str) (rs : List (Str × Str × Int)) : Prop where
  n0 : 0 < ts.length
  n1 : ts.length ≤ 12
  nm : ∀ t ∈ ts, isName (.str t) = true
  st : ts.Pairwise fun a b => a.cps.toList < b.cps.toList
  ro : ∀ x ∈ rs, RoadOk ts x
  rp : rs.Pairwise lt2
  rl : rs.length ≤ 30
/-- .. as the law draws them -/
structure MapU (ts : List Str) (rs : List (Str × Str × Int)) : Prop extends MapV ts rs where
  z : ∀ t ∈ ts, t.length = 1 ∨ 113 ∈ t.cps.toList
/-- roads by the places of their towns, up to (k, j) -/
structure RoadsI (n k j : Nat) (L : List (Nat × Nat × Int)) : Prop where
  x : ∀ x ∈ L, x.1 < x.2.1 ∧ x.2.1 < n ∧ (x.1 < k ∨ x.1 = k ∧ x.2.1 < j) ∧ 1 ≤ x.2.2 ∧ x.2.2 ≤ 9999
  p : L.Pairwise fun x y => x.1 < y.1 ∨ x.1 = y.1 ∧ x.2.1 < y.2.1
  l : L.length ≤ 30
theorem RoadsI.up {n k j k2 j2 : Nat} {L : List (Nat × Nat × Int)} (h : RoadsI n k j L) (c : k < k2 ∨ k = k2 ∧ j ≤ j2) : RoadsI n k2 j2 L :=
  ⟨fun x hx => by
    obtain ⟨a, b, d, e, f⟩ := h.x x hx
    exact ⟨a, b, by omega, e, f⟩, h.p, h.l⟩
theorem RoadsI.add {n k j : Nat} {L : List (Nat × Nat × Int)} (h : RoadsI n k j L) (hl : L.length < 30) (hk : k < j) (hj : j < n) {c : Int} (c0 : 1 ≤ c) (c1 : c ≤ 9999) : RoadsI n k (j + 1) (L ++ [(k, j, c)]) := by
  refine ⟨fun x hx => ?_, List.pairwise_append.mpr ⟨h.p, List.pairwise_singleton _ _, fun x hx y hy => ?_⟩, by rw [List.length_append, List.length_singleton]; omega⟩
  · rcases List.mem_append.mp hx with hx | hx
    · obtain ⟨a, b, d, e, f⟩ := h.x x hx
      exact ⟨a, b, by omega, e, f⟩
    · rw [List.mem_singleton.mp hx]
      exact ⟨hk, hj, .inr ⟨rfl, Nat.lt_succ_self _⟩, c0, c1⟩
  · obtain ⟨a, b, d, e, f⟩ := h.x x hx
    rw [List.mem_singleton.mp hy]
    exact d
def roadI (ts : List Str) (x : Nat × Nat × Int) : Str × Str × Int := (ts.getD x.1 "", ts.getD x.2.1 "", x.2.2)
theorem getD_eq {ts : List Str} {i : Nat} (h : i < ts.length) : ts.getD i "" = ts[i] := by rw [List.getD_eq_getElem?_getD, List.getElem?_eq_getElem h]; rfl
theorem getD_of {ts : List Str} {i : Nat} {t : Str} (h : ts[i]? = some t) : ts.getD i "" = t := by rw [List.getD_eq_getElem?_getD, h]; rfl
theorem getD_lt {ts : List Str} (st : ts.Pairwise fun a b => a.cps.toList < b.cps.toList) {a b : Nat} (h : a < b) (hb : b < ts.length) : (ts.getD a "").cps.toList < (ts.getD b "").cps.toList := by
  rw [getD_eq (show a < ts.length by omega), getD_eq hb]
  exact List.pairwise_iff_getElem.mp st a b (by omega) hb h
theorem getD_in {ts : List Str} {a : Nat} (h : a < ts.length) : ts.getD a "" ∈ ts := by
  rw [getD_eq h]
  exact List.getElem_mem h
theorem RoadsI.map {ts : List Str} {k j : Nat} {L : List (Nat × Nat × Int)} (h : RoadsI ts.length k j L) (n0 : 0 < ts.length) (n1 : ts.length ≤ 12) (nm : ∀ t ∈ ts, isName (.str t) = true) (st : ts.Pairwise fun a b => a.cps.toList < b.cps.toList) : MapV ts (L.map (roadI ts)) := by
  refine ⟨n0, n1, nm, st, fun x hx => ?_, ?_, by rw [List.length_map]; exact h.l⟩
  · obtain ⟨y, hy, rfl⟩ := List.mem_map.mp hx
    obtain ⟨a, b, d, e, f⟩ := h.x y hy
    exact ⟨getD_in (by omega), getD_in b, getD_lt st a b, e, f⟩
  · rw [List.pairwise_map]
    refine (List.Pairwise.and_mem.mp h.p).imp ?_
    intro x y ⟨hx, hy, q⟩
    obtain ⟨a, b, _⟩ := h.x x hx
    obtain ⟨a2, b2, _⟩ := h.x y hy
    rcases q with q | ⟨q1, q2⟩
    · exact .inl (getD_lt st q (by omega))
    · refine .inr ⟨?_, getD_lt st q2 b2⟩
      show ts.getD x.1 "" = ts.getD y.1 ""
      rw [q1]
@[reducible] def q__law_map : Fd := fun ds q _ => as2 ds fun m d => asInt m fun many => asInt d fun dens => (1 ≤ many ∧ many ≤ 12) ∧ ∀ ts rs, MapU ts rs → (ts.length : Int) ≤ many → q (.tup [townsD ts, roadsD rs])
theorem ok__law_map (T : Txt K mg base Tq) : Cal P w K mg base "_law_map" "_law_map" s__law_map 4 ["urn", "many", "density"] (SpO K Tq PailOk q__law_map) := by
  refine calO T.d__law_map sc__law_map (fun _ _ _ _ _ _ us hl => match us, hl with | [_, _, _], _ => rfl) (fun ds q er h => congrArg (· + 1) (as2_len h)) fun cdv hcd F0 H0 pa ds q er h => ?_
  obtain ⟨many, density, rfl, h⟩ := as2_ h
  obtain ⟨many, rfl, h2⟩ := asInt_ h
  obtain ⟨dens, rfl, hm, hq⟩ := asInt_ h2
  refine eb_cons (es_parEN (i := 3) (j := 4) rfl rfl (by decide) rfl rfl (by decide) (fun env h => by cases env; cases h; rfl) ?_)
  refine ev_callB c_sortedS rfl T.m_sorted bt_sorted ?_
  refine ea_cons ?_
  refine ev_sl ?_
  refine ev_callO (i := 0) (ok__law_names T) (Nat.le_of_ble_eq_true rfl) rfl (ops1 0 rfl rfl) rfl (.inl rfl) rfl ?_
  refine ea_cons ?_
  refine ev_var (i := 1) rfl (.inl rfl) rfl ?_
  refine ea_nil ?_
  refine ⟨⟨by omega, by omega⟩, fun ws hws => ?_⟩
  refine eo_none ?_
  refine eo_some ?_
  refine ev_callB c_max2 rfl T.m_max bt_max ?_
  refine ea_cons ?_
  refine ev_int ?_
  refine ea_cons ?_
  refine ev_op g_sub ?_
  refine ev_var (i := 1) rfl (.inl rfl) rfl ?_
  refine ev_callO (i := 0) (ok__law_of T) (Nat.le_of_ble_eq_true rfl) rfl (ops1 0 rfl rfl) rfl (.inl rfl) rfl ?_
  refine ea_cons ?_
  refine ev_lst ?_
  refine ea_cons ?_
  refine ev_int ?_
  refine ea_cons ?_
  refine ev_int ?_
  refine ea_cons ?_
  refine ev_int ?_
  refine ea_cons ?_
  refine ev_callO (i := 0) (ok__law_take T) (Nat.le_of_ble_eq_true rfl) rfl (ops1 0 rfl rfl) rfl (.inl rfl) rfl ?_
  refine ea_cons ?_
  refine ev_var (i := 1) rfl (.inl rfl) rfl ?_
  refine ea_nil ?_
  refine ⟨by omega, by omega, fun r hr0 hr1 => ?_⟩
  refine ea_nil ⟨Nat.le_of_ble_eq_true rfl, ?_⟩
  refine ea_nil ?_
  refine anyI 0 (many - 1 + 1) (by simp only [allI, and_true]; omega) (fun x hx0 hx1 => ?_)
  refine ea_nil ?_
  refine ea_nil ?_
  generalize hu : (if many - x > 1 then many - x else 1) = u
  have hu1 : 1 ≤ u ∧ u ≤ many := by subst hu; split <;> omega
  have hwl := hws.l
  rw [cut_take (by omega) (by rw [List.length_map]; omega), ← List.map_take]
  have hsub : ∀ w ∈ ws.take u.toNat, w ∈ ws := fun w hw => List.mem_of_mem_take hw
  refine ⟨_, rfl, fun w hw => name_ok (hws.name w (hsub w hw)), fun ss hp hle => ?_⟩
  have hsl : ss.length = u.toNat := by rw [hp.length_eq, List.length_take]; omega
  have hst := sorted_lt hle (hp.nodup_iff.mpr (hws.d.sublist (List.take_sublist _ _)))
  have hsn : ∀ s ∈ ss, isName (.str s) = true := fun s hs => hws.name s (hsub s (hp.mem_iff.mp hs))
  refine en_lst ?_
  refine ea_nil ⟨Nat.le_of_ble_eq_true rfl, ?_⟩
  intro A_roads hA_roads
  refine eb_cons (es_for ?_)
  refine ei_enumL rfl T.m_enumerate ?_
  refine ev_var (i := 3) rfl (.inl rfl) rfl ?_
  refine forG_inv (fun i Γ => ∃ (L : List (Nat × Nat × Int)) (s5 s6 s7 : Slot), Γ = [.inv pa PailOk, .dat (.int many), .dat (.int dens), .dat (.lst (ss.map Da.str)), .inv A_roads (fun ys => ys = (L.map (roadI ss)).map roadD), s5, s6, s7] ∧ RoadsI ss.length i (i + 1) L) ⟨[], _, _, _, rfl, RoadsI.mk (fun _ h => nomatch h) .nil (Nat.zero_le _)⟩ ?_ ?_
  · rintro i d Γ k hd ⟨L, s5, s6, s7, rfl, hL⟩ hk
    obtain ⟨x1, hx1, rfl⟩ := enumD_at hd
    rw [List.getElem?_map] at hx1
    obtain ⟨one, ho, rfl⟩ := Option.map_eq_some_iff.mp hx1
    have hi := (List.getElem?_eq_some_iff.mp ho).1
    refine eg_tup ?_
    refine egs_cons ?_
    refine eg_name (i := 5) rfl (.inl rfl) ?_
    refine egs_cons ?_
    refine eg_name (i := 6) rfl (.inl rfl) ?_
    refine egs_nil ?_
    refine eb_cons (es_for ?_)
    refine ei_seq ?_
    refine ev_sl ?_
    refine ev_var (i := 3) rfl (.inl rfl) rfl ?_
    refine eo_some ?_
    refine ev_op g_addD ?_
    refine ev_var (i := 5) rfl (.inl rfl) rfl ?_
    refine ev_int ?_
    refine eo_none ?_
    dsimp only [slQ]
    rw [cut_drop (by omega) (by rw [List.length_map]; omega), ← List.map_drop]
    refine forG_inv (fun j Γ => ∃ (L : List (Nat × Nat × Int)) (s7 : Slot), Γ = [.inv pa PailOk, .dat (.int many), .dat (.int dens), .dat (.lst (ss.map Da.str)), .inv A_roads (fun ys => ys = (L.map (roadI ss)).map roadD), .dat (.int i), .dat (.str one), s7] ∧ RoadsI ss.length i (i + 1 + j) L) ⟨_, _, rfl, hL⟩ ?_ ?_
    · rintro j d Γ k hd ⟨L, s7, rfl, hL⟩ hk
      rw [List.getElem?_map, List.getElem?_drop] at hd
      obtain ⟨two, ht, rfl⟩ := Option.map_eq_some_iff.mp hd
      rw [show ((i : Int) + 1).toNat + j = i + 1 + j by omega] at ht
      have hj := (List.getElem?_eq_some_iff.mp ht).1
      refine eg_name (i := 7) rfl (.inl rfl) ?_
      refine eb_cons (es_if ?_)
      refine et_w ?_
      refine ew_and ?_
      refine et_cmp g_lt ?_
      refine ev_lenO (i := 4) rfl (.inl rfl) rfl rfl T.m_len ?_
      rintro ds rfl
      refine ev_int ?_
      rw [List.length_map, List.length_map]
      refine cond_dec (fun c => ?_) (fun c => ?_)
      · refine ew_and1 ?_
        refine et_cmp g_lt ?_
        refine ev_callO (i := 0) (ok__law_take T) (Nat.le_of_ble_eq_true rfl) rfl (ops1 0 rfl rfl) rfl (.inl rfl) rfl ?_
        refine ea_cons ?_
        refine ev_int ?_
        refine ea_nil ?_
        refine ⟨by omega, by omega, fun r hr0 hr1 => ?_⟩
        refine ev_var (i := 2) rfl (.inl rfl) rfl ?_
        refine cond_dec (fun c2 => ?_) (fun c2 => ?_)
        · refine eb_cons (es_exprC ?_)
          refine ec_append (i := 4) (I' := (fun ys => ∃ L', RoadsI ss.length i (i + 1 + j + 1) L' ∧ ys = (L'.map (roadI ss)).map roadD)) rfl (.inl rfl) rfl ?_
          refine EvC.of ?_
          refine ev_tup ?_
          refine ea_cons ?_
          refine ev_var (i := 6) rfl (.inl rfl) rfl ?_
          refine ea_cons ?_
          refine ev_var (i := 7) rfl (.inl rfl) rfl ?_
          refine ea_cons ?_
          refine ev_callO (i := 0) (ok__law_of T) (Nat.le_of_ble_eq_true rfl) rfl (ops1 0 rfl rfl) rfl (.inl rfl) rfl ?_
          refine ea_cons ?_
          refine ev_lst ?_
          refine ea_cons ?_
          refine ev_int ?_
          refine ea_cons ?_
          refine ev_int ?_
          refine ea_cons ?_
          refine ev_int ?_
          refine ea_cons ?_
          refine ev_op g_addD ?_
          refine ev_int ?_
          refine ev_callO (i := 0) (ok__law_take T) (Nat.le_of_ble_eq_true rfl) rfl (ops1 0 rfl rfl) rfl (.inl rfl) rfl ?_
          refine ea_cons ?_
          refine ev_int ?_
          refine ea_nil ?_
          refine ⟨by omega, by omega, fun r hr0 hr1 => ?_⟩
          refine ea_cons ?_
          refine ev_op g_addD ?_
          refine ev_int ?_
          refine ev_callO (i := 0) (ok__law_take T) (Nat.le_of_ble_eq_true rfl) rfl (ops1 0 rfl rfl) rfl (.inl rfl) rfl ?_
          refine ea_cons ?_
          refine ev_int ?_
          refine ea_nil ?_
          refine ⟨by omega, by omega, fun r hr0 hr1 => ?_⟩
          refine ea_nil ⟨Nat.le_of_ble_eq_true rfl, ?_⟩
          refine ea_nil ?_
          refine anyI 1 9999 (by simp only [allI, and_true]; omega) (fun long lo0 lo1 => ?_)
          refine ea_nil ⟨Nat.le_of_ble_eq_true rfl, ?_⟩
          refine ⟨_, rfl, fun ds hds => ?_, ?_⟩
          · subst hds
            refine ⟨by simp only [List.length_map]; have := hL.l; omega, _, hL.add (by omega) (by omega) hj lo0 lo1, ?_⟩
            rw [List.map_append, List.map_append]
            show _ = _ ++ [Da.tup [.str (ss.getD i ""), .str (ss.getD (i + 1 + j) ""), .int long]]
            rw [getD_of ho, getD_of ht]
          refine eb_pinO (i := 4) rfl (fun ds hds => ?_)
          obtain ⟨L', h', rfl⟩ := hds
          refine eb_nil ?_
          refine eb_nil ?_
          exact hk _ ⟨_, _, rfl, h'⟩
        · refine eb_nil ?_
          refine eb_nil ?_
          exact hk _ ⟨_, _, rfl, hL.up (.inr ⟨rfl, by omega⟩)⟩
      · refine eb_nil ?_
        refine eb_nil ?_
        exact hk _ ⟨_, _, rfl, hL.up (.inr ⟨rfl, by omega⟩)⟩
    · rintro Γ ⟨L, s7, rfl, hL⟩
      refine eb_nil ?_
      refine hk _ ⟨_, _, _, _, rfl, hL.up (.inl (Nat.lt_succ_self _))⟩
  · rintro Γ ⟨L, s5, s6, s7, rfl, hL⟩
    refine eb_freeze (i := 4) rfl hA_roads (fun ds_roads h_roads => ?_)
    refine eb_cons (es_ret (ops1 0 rfl rfl) ?_)
    refine ev_tup ?_
    refine ea_cons ?_
    refine ev_callTy c_tuple rfl T.m_tuple bt_tuple ?_
    refine ea_cons ?_
    refine ev_var (i := 3) rfl (.inl rfl) rfl ?_
    refine ea_nil ?_
    refine ea_cons ?_
    refine ev_callTy c_tuple rfl T.m_tuple bt_tuple ?_
    refine ea_cons ?_
    refine ev_var (i := 4) rfl (.inl rfl) rfl ?_
    refine ea_nil ?_
    refine ea_nil ⟨Nat.le_of_ble_eq_true rfl, ?_⟩
    subst h_roads
    exact hq _ _ ⟨hL.map (by omega) (by omega) hsn hst, fun t ht => by
      obtain ⟨_, _, _, s⟩ := hws.w t (hsub t (hp.mem_iff.mp ht))
      exact s.q⟩ (by omega)

/-! what is none -/
theorem all_mem {α : Type} {L : List α} {p : α → Bool} {x : α} (h : x ∈ L) (e : L.all p = true) : p x = true := List.all_eq_true.mp e x h
/-- no name, but it may be asked -/
def noB (d : Da) : Bool := !isName d && (match d with | .str z => decide (z.length ≤ 100000) | .non | .bl _ | .int _ | .tup [.str _] | .lst [] => true | _ => false) && (d.okE && decide (d.dp ≤ 1))
theorem noB_ {d : Da} (h : noB d = true) : (isName d = false ∧ d.known = true ∧ shortS d) ∧ d.okE = true ∧ d.dp ≤ 1 := by
  unfold noB at h
  rw [Bool.and_eq_true, Bool.and_eq_true, Bool.and_eq_true, Bool.not_eq_true', decide_eq_true_eq] at h
  obtain ⟨h, he⟩ := h
  refine ⟨⟨h.1, ?_, fun z e => ?_⟩, he⟩
  · revert h; cases d <;> first | (intro _; rfl) | (intro h; exact nomatch h.2)
  · subst e
    exact of_decide_eq_true h.2
@[reducible] def q__law_no_name : Fd := fun ds q _ => as0 ds (∀ d, noB d = true → q d)
theorem ok__law_no_name (T : Txt K mg base Tq) : Cal P w K mg base "_law_no_name" "_law_no_name" s__law_no_name 3 ["urn"] (SpO K Tq PailOk q__law_no_name) := by
  refine calO T.d__law_no_name sc__law_no_name (fun _ _ _ _ _ _ us hl => match us, hl with | [_], _ => rfl) (fun ds q er h => congrArg (· + 1) (as0_len h)) fun cdv hcd F0 H0 pa ds q er h => ?_
  obtain ⟨rfl, h⟩ := as0_ h
  refine eb_cons (es_set (i := 1) rfl (.inl rfl) ?_)
  refine ev_lst ?_
  refine ea_cons ?_
  refine ev_str ?_
  refine ea_cons ?_
  refine ev_str ?_
  refine ea_cons ?_
  refine ev_str ?_
  refine ea_cons ?_
  refine ev_str ?_
  refine ea_cons ?_
  refine ev_str ?_
  refine ea_cons ?_
  refine ev_str ?_
  refine ea_cons ?_
  refine ev_str ?_
  refine ea_cons ?_
  refine ev_str ?_
  refine ea_cons ?_
  refine ev_str ?_
  refine ea_cons ?_
  refine ev_str ?_
  refine ea_cons ?_
  refine ev_str ?_
  refine ea_cons ?_
  refine ev_str ?_
  refine ea_cons ?_
  refine ev_str ?_
  refine ea_nil ⟨Nat.le_of_ble_eq_true rfl, ?_⟩
  refine eb_cons (es_set (i := 1) rfl (.inl rfl) ?_)
  refine ev_op g_addD ?_
  refine ev_var (i := 1) rfl (.inl rfl) rfl ?_
  refine ev_lst ?_
  refine ea_cons ?_
  refine ev_str ?_
  refine ea_cons ?_
  refine ev_str ?_
  refine ea_cons ?_
  refine ev_str ?_
  refine ea_cons ?_
  refine ev_str ?_
  refine ea_cons ?_
  refine ev_str ?_
  refine ea_cons ?_
  refine ev_str ?_
  refine ea_cons ?_
  refine ev_str ?_
  refine ea_cons ?_
  refine ev_str ?_
  refine ea_cons ?_
  refine ev_str ?_
  refine ea_cons ?_
  refine ev_str ?_
  refine ea_cons ?_
  refine ev_str ?_
  refine ea_cons ?_
  refine ev_str ?_
  refine ea_nil ⟨Nat.le_of_ble_eq_true rfl, ?_⟩
  refine ⟨by first | exact Nat.le_of_ble_eq_true rfl | (simp only [List.length_append, List.length_map, List.length_cons, List.length_nil, List.length_drop, List.length_take]; omega), ?_⟩
  refine eb_cons (es_set (i := 1) rfl (.inl rfl) ?_)
  refine ev_op g_addD ?_
  refine ev_var (i := 1) rfl (.inl rfl) rfl ?_
  refine ev_lst ?_
  refine ea_cons ?_
  refine ev_str ?_
  refine ea_cons ?_
  refine ev_str ?_
  refine ea_cons ?_
  refine ev_str ?_
  refine ea_cons ?_
  refine ev_str ?_
  refine ea_cons ?_
  refine ev_str ?_
  refine ea_cons ?_
  refine ev_str ?_
  refine ea_cons ?_
  refine ev_str ?_
  refine ea_cons ?_
  refine ev_str ?_
  refine ea_cons ?_
  refine ev_str ?_
  refine ea_cons ?_
  refine ev_str ?_
  refine ea_cons ?_
  refine ev_str ?_
  refine ea_nil ⟨Nat.le_of_ble_eq_true rfl, ?_⟩
  refine ⟨by first | exact Nat.le_of_ble_eq_true rfl | (simp only [List.length_append, List.length_map, List.length_cons, List.length_nil, List.length_drop, List.length_take]; omega), ?_⟩
  refine eb_cons (es_ret (ops1 0 rfl rfl) ?_)
  refine ev_callO (i := 0) (ok__law_of T) (Nat.le_of_ble_eq_true rfl) rfl (ops1 0 rfl rfl) rfl (.inl rfl) rfl ?_
  refine ea_cons ?_
  refine ev_lst ?_
  refine ea_cons ?_
  refine ev_non ?_
  refine ea_cons ?_
  refine ev_str ?_
  refine ea_cons ?_
  refine ev_str ?_
  refine ea_cons ?_
  refine ev_str ?_
  refine ea_cons ?_
  refine ev_str ?_
  refine ea_cons ?_
  refine ev_str ?_
  refine ea_cons ?_
  refine ev_tup ?_
  refine ea_cons ?_
  refine ev_str ?_
  refine ea_nil ⟨Nat.le_of_ble_eq_true rfl, ?_⟩
  refine ea_cons ?_
  refine ev_int ?_
  refine ea_cons ?_
  refine ev_bl ?_
  refine ea_cons ?_
  refine ev_lst ?_
  refine ea_nil ⟨Nat.le_of_ble_eq_true rfl, ?_⟩
  refine ea_cons ?_
  refine ev_str ?_
  refine ea_cons ?_
  refine ev_callO (i := 0) (ok__law_of T) (Nat.le_of_ble_eq_true rfl) rfl (ops1 0 rfl rfl) rfl (.inl rfl) rfl ?_
  refine ea_cons ?_
  refine ev_var (i := 1) rfl (.inl rfl) rfl ?_
  refine ea_nil ?_
  refine ⟨_, .inl rfl, by exact Nat.le_of_ble_eq_true rfl, by exact Nat.le_of_ble_eq_true rfl, fun w hw => ?_⟩
  have hb : noB w = true := all_mem hw (by decide +kernel)
  refine ea_nil ⟨Nat.le_of_ble_eq_true rfl, ?_⟩
  refine ea_nil ?_
  refine ⟨_, .inl rfl, by exact Nat.le_of_ble_eq_true rfl, by exact Nat.le_of_ble_eq_true rfl, fun d hd => ?_⟩
  refine h d ?_
  simp only [List.mem_cons, List.not_mem_nil, or_false] at hd
  rcases hd with rfl | rfl | rfl | rfl | rfl | rfl | rfl | rfl | rfl | rfl | rfl | rfl <;> first | exact hb | decide +kernel
/-! wrong roads -/
@[reducible] def RdX (d : Da) : Prop := d.known = true ∧ ∀ ys, d = .tup ys → ∀ y ∈ ys, y.known = true
theorem oneOf_mem {z : Str} {ts : List Str} : oneOf (.str z) (ts.map Da.str) = decide (z ∈ ts) := isW_map
theorem not_zz {ts : List Str} (h : ∀ t ∈ ts, t.length = 1 ∨ 113 ∈ t.cps.toList) : oneOf (.str "zz") (ts.map Da.str) = false := by
  rw [oneOf_mem]
  refine decide_eq_false fun m => ?_
  rcases h _ m with h | h
  · exact absurd h (by decide +kernel)
  · exact absurd h (by decide +kernel)
theorem bad_a {ws : List Da} {a b c : Da} (h : oneOf a ws = false) : isRoad ws (.tup [a, b, c]) = false := by
  show (oneOf a ws && _) = _
  rw [h]; rfl
theorem bad_b {ws : List Da} {a b c : Da} (h : oneOf b ws = false) : isRoad ws (.tup [a, b, c]) = false := by
  show (oneOf a ws && (oneOf b ws && _)) = _
  rw [h, Bool.false_and, Bool.and_false]
theorem bad_l {ws : List Da} {a b c : Da} (h : PySem.W.dataLt a.py b.py = false) : isRoad ws (.tup [a, b, c]) = false := by
  show (oneOf a ws && (oneOf b ws && (PySem.W.dataLt a.py b.py && _))) = _
  rw [h, Bool.false_and, Bool.and_false, Bool.and_false]
theorem bad_n {ws : List Da} {a b c : Da} (h : numOk c (.int 1) (.int 9999) = false) : isRoad ws (.tup [a, b, c]) = false := by
  show (oneOf a ws && (oneOf b ws && (PySem.W.dataLt a.py b.py && numOk c (.int 1) (.int 9999)))) = _
  rw [h, Bool.and_false, Bool.and_false, Bool.and_false]
theorem lt_not {a b : List Nat} (h : a < b) : ¬ b < a := fun h2 => List.lt_irrefl a (List.lt_trans h h2)
theorem road_good {ts : List Str} {x : Str × Str × Int} (h : RoadOk ts x) : isRoad (ts.map Da.str) (roadD x) = true := by
  show (oneOf (.str x.1) (ts.map Da.str) && (oneOf (.str x.2.1) (ts.map Da.str) && (PySem.W.dataLt (Da.str x.1).py (Da.str x.2.1).py && numOk (.int x.2.2) (.int 1) (.int 9999)))) = true
  rw [oneOf_mem, oneOf_mem, decide_eq_true h.a, decide_eq_true h.b, lt_strA, decide_eq_true h.l, Bool.true_and, Bool.true_and, Bool.true_and]
  show (decide ((1 : Int) ≤ x.2.2) && decide (x.2.2 ≤ (9999 : Int))) = true
  rw [decide_eq_true h.c0, decide_eq_true h.c1]; rfl
theorem lt_cut2 {x y : Str × Str × Int} : PySem.W.dataLt (cut2 (roadD x)).py (cut2 (roadD y)).py = true ↔ lt2 x y := by
  show PySem.W.dataLt (.tuple [.str x.1, .str x.2.1]) (.tuple [.str y.1, .str y.2.1]) = true ↔ _
  rw [PySem.W.dataLt_pair (by simp [PySem.W.alike]) (by simp [PySem.W.alike]), PySem.W.dataLt_str, PySem.W.dataLt_str]
  simp only [PyData.eqv, beq_iff_eq]
  unfold lt2
  by_cases h : x.1 = y.1
  · rw [if_pos h]
    by_cases h2 : x.2.1 = y.2.1
    · rw [if_pos h2]
      refine ⟨(fun z => nomatch z), fun z => ?_⟩
      rcases z with z | z
      · rw [h] at z; exact absurd z (List.lt_irrefl _)
      · rw [h2] at z; exact absurd z.2 (List.lt_irrefl _)
    · rw [if_neg h2, decide_eq_true_eq]
      refine ⟨fun z => .inr ⟨h, z⟩, fun z => ?_⟩
      rcases z with z | z
      · rw [h] at z; exact absurd z (List.lt_irrefl _)
      · exact z.2
  · rw [if_neg h, decide_eq_true_eq]
    exact ⟨fun z => .inl z, fun z => z.resolve_right fun y => h y.1⟩
theorem last_take {rs : List (Str × Str × Int)} {i : Nat} {x : Str × Str × Int} (h : rs[i]? = some x) : ((rs.take (i + 1)).map roadD).getLast? = some (roadD x) := by
  have hi := (List.getElem?_eq_some_iff.mp h).1
  rw [List.getLast?_eq_getElem?, List.length_map, List.length_take, List.getElem?_map, show min (i + 1) rs.length - 1 = i by omega, List.getElem?_take_of_lt (by omega), h]; rfl
theorem bad_last {ts : List Str} {rs : List (Str × Str × Int)} {i : Nat} {x : Str × Str × Int} {d : Da} (h : rs[i]? = some x) (hd : cut2 d = cut2 (roadD x)) : pR (townsD ts) d (roadsD (rs.take (i + 1))) = false := by
  show (isRoadD _ d && (match ((rs.take (i + 1)).map roadD).getLast? with | none => true | some y => PySem.W.dataLt (cut2 y).py (cut2 d).py)) = false
  have e : PySem.W.dataLt (cut2 (roadD x)).py (cut2 (roadD x)).py = false := by
    cases c : PySem.W.dataLt (cut2 (roadD x)).py (cut2 (roadD x)).py with
    | false => rfl
    | true =>
      rcases lt_cut2.mp c with z | z
      · exact absurd z (List.lt_irrefl _)
      · exact absurd z.2 (List.lt_irrefl _)
  rw [last_take h, hd]
  show (_ && PySem.W.dataLt (cut2 (roadD x)).py (cut2 (roadD x)).py) = false
  rw [e, Bool.and_false]
theorem pR_no {ts : List Str} {d b : Da} (h : isRoad (ts.map Da.str) d = false) : pR (townsD ts) d b = false := by
  show (isRoad (ts.map Da.str) d && _) = false
  rw [h]; rfl
@[reducible] def q__law_wrong_road : Fd := fun ds q _ => as2 ds fun r a => ∃ ts rs, ∃ i : Nat, r = roadsD rs ∧ a = .int i ∧ i < rs.length ∧ MapU ts rs ∧ ∀ d, RdX d → pR (townsD ts) d (roadsD (rs.take i)) = false → q d
theorem knX {xs : List Da} (h : ∀ x ∈ xs, x.known = true) : RdX (.tup xs) := ⟨rfl, fun ys e y hy => by cases e; exact h y hy⟩
def oddB (d : Da) : Bool := d.known && !numOk d (.int 1) (.int 9999)
theorem ok__law_wrong_road (T : Txt K mg base Tq) : Cal P w K mg base "_law_wrong_road" "_law_wrong_road" s__law_wrong_road 3 ["urn", "roads", "at"] (SpO K Tq PailOk q__law_wrong_road) := by
  refine calO T.d__law_wrong_road sc__law_wrong_road (fun _ _ _ _ _ _ us hl => match us, hl with | [_, _, _], _ => rfl) (fun ds q er h => congrArg (· + 1) (as2_len h)) fun cdv hcd F0 H0 pa ds q er h => ?_
  obtain ⟨roads, at_, rfl, h⟩ := as2_ h
  obtain ⟨ts, rs, i, rfl, rfl, hi, hm, hq⟩ := h
  obtain ⟨x, hx⟩ : ∃ x, rs[i]? = some x := ⟨_, List.getElem?_eq_getElem hi⟩
  have ho := hm.ro x (List.mem_of_getElem? hx)
  have hz := not_zz hm.z
  refine eb_cons (es_asg ?_)
  refine ev_ix ?_
  refine ev_var (i := 1) rfl (.inl rfl) rfl ?_
  refine ev_var (i := 2) rfl (.inl rfl) rfl ?_
  refine ⟨roadD x, atG_n (by rw [List.getElem?_map, hx]; rfl), ?_⟩
  refine eg_tup ?_
  refine egs_cons ?_
  refine eg_name (i := 3) rfl (.inl rfl) ?_
  refine egs_cons ?_
  refine eg_name (i := 4) rfl (.inl rfl) ?_
  refine egs_cons ?_
  refine eg_name (i := 5) rfl (.inl rfl) ?_
  refine egs_nil ?_
  refine eb_cons (es_set (i := 6) rfl (.inl rfl) ?_)
  refine ev_callO (i := 0) (ok__law_of T) (Nat.le_of_ble_eq_true rfl) rfl (ops1 0 rfl rfl) rfl (.inl rfl) rfl ?_
  refine ea_cons ?_
  refine ev_lst ?_
  refine ea_cons ?_
  refine ev_non ?_
  refine ea_cons ?_
  refine ev_bl ?_
  refine ea_cons ?_
  refine ev_bl ?_
  refine ea_cons ?_
  refine ev_int ?_
  refine ea_cons ?_
  refine ev_int ?_
  refine ea_cons ?_
  refine ev_callTy c_str rfl T.m_str bt_str ?_
  refine ea_cons ?_
  refine ev_var (i := 5) rfl (.inl rfl) rfl ?_
  refine ea_nil ?_
  refine ⟨Nat.lt_of_lt_of_le (PySem.Flt.log2_lt_of (k := 64) (by decide) (by have := ho.c0; have := ho.c1; omega)) (by decide), ?_⟩
  refine ea_cons ?_
  refine ev_tup ?_
  refine ea_cons ?_
  refine ev_var (i := 5) rfl (.inl rfl) rfl ?_
  refine ea_nil ⟨Nat.le_of_ble_eq_true rfl, ?_⟩
  refine ea_cons ?_
  refine ev_pow (1000000000000000000000000000000) ⟨by decide, by decide, by decide⟩ (by decide +kernel) ?_
  refine ea_nil ⟨Nat.le_of_ble_eq_true rfl, ?_⟩
  refine ea_nil ?_
  refine ⟨_, .inl rfl, by exact Nat.le_of_ble_eq_true rfl, by exact Nat.le_of_ble_eq_true rfl, fun odd hodd => ?_⟩
  have hb : oddB odd = true := by
    simp only [List.mem_cons, List.not_mem_nil, or_false] at hodd
    rcases hodd with rfl | rfl | rfl | rfl | rfl | rfl | rfl | rfl <;> first | rfl | decide
  refine eb_cons (es_set (i := 7) rfl (.inl rfl) ?_)
  refine ev_lst ?_
  refine ea_cons ?_
  refine ev_tup ?_
  refine ea_cons ?_
  refine ev_str ?_
  refine ea_cons ?_
  refine ev_var (i := 4) rfl (.inl rfl) rfl ?_
  refine ea_cons ?_
  refine ev_var (i := 5) rfl (.inl rfl) rfl ?_
  refine ea_nil ⟨Nat.le_of_ble_eq_true rfl, ?_⟩
  refine ea_cons ?_
  refine ev_tup ?_
  refine ea_cons ?_
  refine ev_var (i := 3) rfl (.inl rfl) rfl ?_
  refine ea_cons ?_
  refine ev_str ?_
  refine ea_cons ?_
  refine ev_var (i := 5) rfl (.inl rfl) rfl ?_
  refine ea_nil ⟨Nat.le_of_ble_eq_true rfl, ?_⟩
  refine ea_cons ?_
  refine ev_tup ?_
  refine ea_cons ?_
  refine ev_var (i := 3) rfl (.inl rfl) rfl ?_
  refine ea_cons ?_
  refine ev_var (i := 3) rfl (.inl rfl) rfl ?_
  refine ea_cons ?_
  refine ev_var (i := 5) rfl (.inl rfl) rfl ?_
  refine ea_nil ⟨Nat.le_of_ble_eq_true rfl, ?_⟩
  refine ea_cons ?_
  refine ev_tup ?_
  refine ea_cons ?_
  refine ev_var (i := 4) rfl (.inl rfl) rfl ?_
  refine ea_cons ?_
  refine ev_var (i := 3) rfl (.inl rfl) rfl ?_
  refine ea_cons ?_
  refine ev_var (i := 5) rfl (.inl rfl) rfl ?_
  refine ea_nil ⟨Nat.le_of_ble_eq_true rfl, ?_⟩
  refine ea_cons ?_
  refine ev_tup ?_
  refine ea_cons ?_
  refine ev_var (i := 3) rfl (.inl rfl) rfl ?_
  refine ea_cons ?_
  refine ev_var (i := 4) rfl (.inl rfl) rfl ?_
  refine ea_cons ?_
  refine ev_var (i := 6) rfl (.inl rfl) rfl ?_
  refine ea_nil ⟨Nat.le_of_ble_eq_true rfl, ?_⟩
  refine ea_cons ?_
  refine ev_non ?_
  refine ea_nil ⟨Nat.le_of_ble_eq_true rfl, ?_⟩
  refine eb_cons (es_set (i := 7) rfl (.inl rfl) ?_)
  refine ev_op g_addD ?_
  refine ev_var (i := 7) rfl (.inl rfl) rfl ?_
  refine ev_lst ?_
  refine ea_cons ?_
  refine ev_tup ?_
  refine ea_cons ?_
  refine ev_var (i := 3) rfl (.inl rfl) rfl ?_
  refine ea_cons ?_
  refine ev_var (i := 4) rfl (.inl rfl) rfl ?_
  refine ea_cons ?_
  refine ev_var (i := 6) rfl (.inl rfl) rfl ?_
  refine ea_nil ⟨Nat.le_of_ble_eq_true rfl, ?_⟩
  refine ea_cons ?_
  refine ev_lst ?_
  refine ea_cons ?_
  refine ev_var (i := 3) rfl (.inl rfl) rfl ?_
  refine ea_cons ?_
  refine ev_var (i := 4) rfl (.inl rfl) rfl ?_
  refine ea_cons ?_
  refine ev_var (i := 5) rfl (.inl rfl) rfl ?_
  refine ea_nil ⟨Nat.le_of_ble_eq_true rfl, ?_⟩
  refine ea_cons ?_
  refine ev_tup ?_
  refine ea_cons ?_
  refine ev_var (i := 3) rfl (.inl rfl) rfl ?_
  refine ea_cons ?_
  refine ev_var (i := 4) rfl (.inl rfl) rfl ?_
  refine ea_nil ⟨Nat.le_of_ble_eq_true rfl, ?_⟩
  refine ea_cons ?_
  refine ev_tup ?_
  refine ea_cons ?_
  refine ev_var (i := 3) rfl (.inl rfl) rfl ?_
  refine ea_cons ?_
  refine ev_var (i := 4) rfl (.inl rfl) rfl ?_
  refine ea_cons ?_
  refine ev_var (i := 5) rfl (.inl rfl) rfl ?_
  refine ea_cons ?_
  refine ev_int ?_
  refine ea_nil ⟨Nat.le_of_ble_eq_true rfl, ?_⟩
  refine ea_cons ?_
  refine ev_tup ?_
  refine ea_cons ?_
  refine ev_var (i := 3) rfl (.inl rfl) rfl ?_
  refine ea_cons ?_
  refine ev_non ?_
  refine ea_cons ?_
  refine ev_var (i := 5) rfl (.inl rfl) rfl ?_
  refine ea_nil ⟨Nat.le_of_ble_eq_true rfl, ?_⟩
  refine ea_nil ⟨Nat.le_of_ble_eq_true rfl, ?_⟩
  refine ⟨by first | exact Nat.le_of_ble_eq_true rfl | (simp only [List.length_append, List.length_map, List.length_cons, List.length_nil, List.length_drop, List.length_take]; omega), ?_⟩
  refine eb_cons (es_ret (ops1 0 rfl rfl) ?_)
  refine ev_callO (i := 0) (ok__law_of T) (Nat.le_of_ble_eq_true rfl) rfl (ops1 0 rfl rfl) rfl (.inl rfl) rfl ?_
  refine ea_cons ?_
  refine ev_op g_addD ?_
  refine ev_var (i := 7) rfl (.inl rfl) rfl ?_
  refine ev_ifx ?_
  refine et_cmp g_gt ?_
  refine ev_var (i := 2) rfl (.inl rfl) rfl ?_
  refine ev_int ?_
  have hbk : odd.known = true := by unfold oddB at hb; rw [Bool.and_eq_true] at hb; exact hb.1
  have hbn : numOk odd (.int 1) (.int 9999) = false := by unfold oddB at hb; rw [Bool.and_eq_true, Bool.not_eq_true'] at hb; exact hb.2
  have hne : PySem.W.dataLt (Da.str x.1).py (Da.str x.1).py = false := by rw [lt_strA]; exact decide_eq_false (List.lt_irrefl _)
  have hge : PySem.W.dataLt (Da.str x.2.1).py (Da.str x.1).py = false := by rw [lt_strA]; exact decide_eq_false (lt_not ho.l)
  have base : ∀ d ∈ [Da.tup [.str "zz", .str x.2.1, .int x.2.2], .tup [.str x.1, .str "zz", .int x.2.2], .tup [.str x.1, .str x.1, .int x.2.2], .tup [.str x.2.1, .str x.1, .int x.2.2], .tup [.str x.1, .str x.2.1, odd], .non] ++ [.tup [.str x.1, .str x.2.1, odd], .lst [.str x.1, .str x.2.1, .int x.2.2], .tup [.str x.1, .str x.2.1], .tup [.str x.1, .str x.2.1, .int x.2.2, .int 0], .tup [.str x.1, .non, .int x.2.2]], q d := by
    intro d hd
    simp only [List.cons_append, List.nil_append, List.mem_cons, List.not_mem_nil, or_false] at hd
    have kn : ∀ {a b c : Da}, a.known = true → b.known = true → c.known = true → RdX (.tup [a, b, c]) := fun h1 h2 h3 => knX fun x hx => by
      simp only [List.mem_cons, List.not_mem_nil, or_false] at hx
      rcases hx with rfl | rfl | rfl <;> assumption
    rcases hd with rfl | rfl | rfl | rfl | rfl | rfl | rfl | rfl | rfl | rfl | rfl
    · exact hq _ (kn rfl rfl rfl) (pR_no (bad_a hz))
    · exact hq _ (kn rfl rfl rfl) (pR_no (bad_b hz))
    · exact hq _ (kn rfl rfl rfl) (pR_no (bad_l hne))
    · exact hq _ (kn rfl rfl rfl) (pR_no (bad_l hge))
    · exact hq _ (kn rfl rfl hbk) (pR_no (bad_n hbn))
    · exact hq _ ⟨rfl, fun _ h => nomatch h⟩ (pR_no rfl)
    · exact hq _ (kn rfl rfl hbk) (pR_no (bad_n hbn))
    · exact hq _ ⟨rfl, fun _ h => nomatch h⟩ (pR_no rfl)
    · exact hq _ (knX fun x hx => by simp only [List.mem_cons, List.not_mem_nil, or_false] at hx; rcases hx with rfl | rfl <;> rfl) (pR_no rfl)
    · exact hq _ (knX fun x hx => by simp only [List.mem_cons, List.not_mem_nil, or_false] at hx; rcases hx with rfl | rfl | rfl | rfl <;> rfl) (pR_no rfl)
    · exact hq _ (kn rfl rfl rfl) (pR_no (bad_b rfl))
  refine cond_dec (fun c => ?_) (fun c => ?_)
  · obtain ⟨i, rfl⟩ : ∃ j, i = j + 1 := ⟨i - 1, by omega⟩
    obtain ⟨y, hy⟩ : ∃ y, rs[i]? = some y := ⟨_, List.getElem?_eq_getElem (by omega)⟩
    have hya : atI (rs.map roadD) (((i + 1 : Nat) : Int) - 1) = some (roadD y) := by
      rw [show (((i + 1 : Nat) : Int) - 1) = (i : Int) by omega]
      exact atG_n (by rw [List.getElem?_map, hy]; rfl)
    refine ev_op g_mulD ?_
    refine ev_lst ?_
    refine ea_cons ?_
    refine ev_ix ?_
    refine ev_var (i := 1) rfl (.inl rfl) rfl ?_
    refine ev_op g_sub ?_
    refine ev_var (i := 2) rfl (.inl rfl) rfl ?_
    refine ev_int ?_
    refine ⟨roadD y, hya, ?_⟩
    refine ea_cons ?_
    refine ev_op g_addD ?_
    refine ev_sl ?_
    refine ev_ix ?_
    refine ev_var (i := 1) rfl (.inl rfl) rfl ?_
    refine ev_op g_sub ?_
    refine ev_var (i := 2) rfl (.inl rfl) rfl ?_
    refine ev_int ?_
    refine ⟨roadD y, hya, ?_⟩
    refine eo_none ?_
    refine eo_some ?_
    refine ev_int ?_
    refine ev_tup ?_
    refine ea_cons ?_
    refine ev_var (i := 5) rfl (.inl rfl) rfl ?_
    refine ea_nil ⟨Nat.le_of_ble_eq_true rfl, ?_⟩
    refine ⟨by first | exact Nat.le_of_ble_eq_true rfl | (simp only [List.length_append, List.length_map, List.length_cons, List.length_nil, List.length_drop, List.length_take]; omega), ?_⟩
    refine ea_nil ⟨Nat.le_of_ble_eq_true rfl, ?_⟩
    refine ev_int ?_
    refine ⟨⟨by decide, by decide, Nat.le_of_ble_eq_true rfl⟩, ?_⟩
    refine ⟨by first | exact Nat.le_of_ble_eq_true rfl | (simp only [List.length_append, List.length_map, List.length_cons, List.length_nil, List.length_drop, List.length_take]; omega), ?_⟩
    refine ea_nil ?_
    refine ⟨_, .inl rfl, by exact Nat.le_of_ble_eq_true rfl, by exact Nat.le_of_ble_eq_true rfl, fun d hd => ?_⟩
    rcases List.mem_append.mp hd with hd | hd
    · exact base d hd
    · have hd : d ∈ [roadD y, .tup [.str y.1, .str y.2.1, .int x.2.2], roadD y, .tup [.str y.1, .str y.2.1, .int x.2.2]] := hd
      have kn : ∀ {a b c : Da}, a.known = true → b.known = true → c.known = true → RdX (.tup [a, b, c]) := fun h1 h2 h3 => knX fun x hx => by
        simp only [List.mem_cons, List.not_mem_nil, or_false] at hx
        rcases hx with rfl | rfl | rfl <;> assumption
      simp only [List.mem_cons, List.not_mem_nil, or_false] at hd
      rcases hd with rfl | rfl | rfl | rfl
      · exact hq _ (kn rfl rfl rfl) (bad_last hy rfl)
      · exact hq _ (kn rfl rfl rfl) (bad_last hy rfl)
      · exact hq _ (kn rfl rfl rfl) (bad_last hy rfl)
      · exact hq _ (kn rfl rfl rfl) (bad_last hy rfl)
  · refine ev_lst ?_
    refine ea_nil ⟨Nat.le_of_ble_eq_true rfl, ?_⟩
    refine ⟨by first | exact Nat.le_of_ble_eq_true rfl | (simp only [List.length_append, List.length_map, List.length_cons, List.length_nil, List.length_drop, List.length_take]; omega), ?_⟩
    refine ea_nil ?_
    refine ⟨_, .inl rfl, by exact Nat.le_of_ble_eq_true rfl, by exact Nat.le_of_ble_eq_true rfl, fun d hd => ?_⟩
    rcases List.mem_append.mp hd with hd | hd
    · exact base d hd
    · cases hd

/-! a map beside a map -/
theorem cut_init {α : Type} {xs : List α} : GX.cutD xs none (some (-1)) = xs.dropLast := by
  have e0 : HT.sIx xs.length 0 none = 0 := rfl
  have e1 : HT.sIx xs.length xs.length (some (-1)) = xs.length - 1 := by
    show (if (-1 : Int) < 0 then ((-1 : Int) + (xs.length : Int)).toNat else min (-1 : Int).toNat xs.length) = _
    rw [if_pos (by decide)]; omega
  unfold GX.cutD
  rw [e0, e1, List.drop_zero, Nat.sub_zero, List.dropLast_eq_take]
theorem road_okE {ts : List Str} (hn : ∀ t ∈ ts, isName (.str t) = true) {x : Str × Str × Int} (h : RoadOk ts x) : (roadD x).okE = true ∧ (roadD x).dp ≤ 1 := by
  refine ⟨?_, by simp only [Da.dp, Da.dps]; omega⟩
  simp only [roadD, Da.okE, Da.okEs, name_ok (hn _ h.a), name_ok (hn _ h.b), Bool.and_true]
theorem towns_okE {ts : List Str} (hn : ∀ t ∈ ts, isName (.str t) = true) : ∀ d ∈ ts.map Da.str, d.okE = true ∧ d.dp ≤ 0 := fun d hd => by
  obtain ⟨t, ht, rfl⟩ := List.mem_map.mp hd
  exact ⟨by unfold Da.okE; exact name_ok (hn t ht), Nat.le_refl _⟩
theorem MapV.roadsE {ts : List Str} {rs : List (Str × Str × Int)} (h : MapV ts rs) : ∀ d ∈ rs.map roadD, d.okE = true ∧ d.dp ≤ 1 := fun d hd => by
  obtain ⟨x, hx, rfl⟩ := List.mem_map.mp hd
  exact road_okE h.nm (h.ro x hx)
theorem MapV.eqR {ts : List Str} {rs : List (Str × Str × Int)} (h : MapV ts rs) : EqOk (roadsD rs) := eqOk_tup fun d hd => ⟨(h.roadsE d hd).1, by have := (h.roadsE d hd).2; omega⟩
theorem MapV.eqM {ts : List Str} {rs : List (Str × Str × Int)} (h : MapV ts rs) : EqOk (.tup [townsD ts, roadsD rs]) := by
  refine eqOk_tup fun d hd => ?_
  simp only [List.mem_cons, List.not_mem_nil, or_false] at hd
  rcases hd with rfl | rfl
  · refine ⟨by unfold townsD Da.okE; exact okEs_of fun d hd => (towns_okE h.nm d hd).1, ?_⟩
    have := dps_of (n := 0) fun d hd => (towns_okE h.nm d hd).2
    show Da.dps _ + 1 ≤ 59
    omega
  · refine ⟨by unfold roadsD Da.okE; exact okEs_of fun d hd => (h.roadsE d hd).1, ?_⟩
    have := dps_of (n := 1) fun d hd => (h.roadsE d hd).2
    show Da.dps _ + 1 ≤ 59
    omega
theorem MapV.sub {ts : List Str} {rs rs2 : List (Str × Str × Int)} (h : MapV ts rs) (s : rs2.Sublist rs) : MapV ts rs2 :=
  ⟨h.n0, h.n1, h.nm, h.st, fun x hx => h.ro x (s.subset hx), h.rp.sublist s, Nat.le_trans s.length_le h.rl⟩
theorem MapV.bent {ts : List Str} {rs : List (Str × Str × Int)} {x : Str × Str × Int} {c : Int} (h : MapV ts (rs ++ [x])) (c0 : 1 ≤ c) (c1 : c ≤ 9999) : MapV ts (rs ++ [(x.1, x.2.1, c)]) := by
  have hx := h.ro x (List.mem_append_right _ List.mem_cons_self)
  refine ⟨h.n0, h.n1, h.nm, h.st, fun y hy => ?_, ?_, by have := h.rl; rw [List.length_append, List.length_singleton] at this ⊢; exact this⟩
  · rcases List.mem_append.mp hy with hy | hy
    · exact h.ro y (List.mem_append_left _ hy)
    · rw [List.mem_singleton.mp hy]
      exact ⟨hx.a, hx.b, hx.l, c0, c1⟩
  · obtain ⟨a, _, b⟩ := List.pairwise_append.mp h.rp
    refine List.pairwise_append.mpr ⟨a, List.pairwise_singleton _ _, fun y hy z hz => ?_⟩
    have := b y hy x List.mem_cons_self
    rw [List.mem_singleton.mp hz]
    exact this
@[reducible] def q__law_bent : Fd := fun ds q _ => as1 ds fun p => ∃ ts rs, p = .tup [townsD ts, roadsD rs] ∧ MapU ts rs ∧ ∀ ts2 rs2, MapV ts2 rs2 → (ts2 ≠ ts ∨ rs2 ≠ rs) → q (.tup [townsD ts2, roadsD rs2])
theorem ok__law_bent (T : Txt K mg base Tq) : Cal P w K mg base "_law_bent" "_law_bent" s__law_bent 2 ["urn", "plan"] (SpO K Tq PailOk q__law_bent) := by
  refine calO T.d__law_bent sc__law_bent (fun _ _ _ _ _ _ us hl => match us, hl with | [_, _], _ => rfl) (fun ds q er h => congrArg (· + 1) (as1_len h)) fun cdv hcd F0 H0 pa ds q er h => ?_
  obtain ⟨plan, rfl, h⟩ := as1_ h
  obtain ⟨ts, rs, rfl, hm, hq⟩ := h
  refine eb_cons (es_asg ?_)
  refine ev_var (i := 1) rfl (.inl rfl) rfl ?_
  refine eg_tup ?_
  refine egs_cons ?_
  refine eg_name (i := 2) rfl (.inl rfl) ?_
  refine egs_cons ?_
  refine eg_name (i := 3) rfl (.inl rfl) ?_
  refine egs_nil ?_
  refine eb_cons (es_if ?_)
  refine et_w ?_
  refine ew_and ?_
  refine et_cmp g_ne ?_
  refine ev_var (i := 3) rfl (.inl rfl) rfl ?_
  refine ev_tup ?_
  refine ea_nil ⟨Nat.le_of_ble_eq_true rfl, ?_⟩
  refine ⟨hm.toMapV.eqR, eqOk_of rfl (by decide), ?_⟩
  rw [eqv_tup0]
  refine cond_nb (fun c => ?_) (fun c => ?_)
  · obtain ⟨r0, x, rfl⟩ : ∃ r0 x, rs = r0 ++ [x] := by
      rcases List.eq_nil_or_concat rs with rfl | ⟨r0, x, e⟩
      · cases c
      · exact ⟨r0, x, by rw [e, List.concat_eq_append]⟩
    have hx := hm.ro x (List.mem_append_right _ List.mem_cons_self)
    have hxl := hm.rl
    rw [List.length_append, List.length_singleton] at hxl
    refine ew_and1 ?_
    refine et_cmp g_eq ?_
    refine ev_callO (i := 0) (ok__law_take T) (Nat.le_of_ble_eq_true rfl) rfl (ops1 0 rfl rfl) rfl (.inl rfl) rfl ?_
    refine ea_cons ?_
    refine ev_int ?_
    refine ea_nil ?_
    refine ⟨by omega, by omega, fun r hr0 hr1 => ?_⟩
    refine ev_int ?_
    refine cond_dec (fun c2 => ?_) (fun c2 => ?_)
    · refine eb_cons (es_ret (ops1 0 rfl rfl) ?_)
      refine ev_tup ?_
      refine ea_cons ?_
      refine ev_var (i := 2) rfl (.inl rfl) rfl ?_
      refine ea_cons ?_
      refine ev_sl ?_
      refine ev_var (i := 3) rfl (.inl rfl) rfl ?_
      refine eo_some ?_
      refine ev_int ?_
      refine eo_none ?_
      refine ea_nil ⟨Nat.le_of_ble_eq_true rfl, ?_⟩
      rw [cut_drop (by decide) (by simp only [List.length_map, List.length_append, List.length_singleton]; omega), ← List.map_drop]
      refine hq _ _ (hm.toMapV.sub (List.drop_sublist _ _)) (.inr fun e => ?_)
      have := congrArg List.length e
      rw [List.length_drop, List.length_append, List.length_singleton] at this
      omega
    · refine eb_nil ?_
      refine eb_cons (es_if ?_)
      refine et_cmp g_ne ?_
      refine ev_var (i := 3) rfl (.inl rfl) rfl ?_
      refine ev_tup ?_
      refine ea_nil ⟨Nat.le_of_ble_eq_true rfl, ?_⟩
      refine ⟨hm.toMapV.eqR, eqOk_of rfl (by decide), ?_⟩
      rw [eqv_tup0]
      refine cond_nb (fun c3 => ?_) (fun c3 => ?_)
      rotate_left
      · exact absurd (c.symm.trans c3) (fun e => nomatch e)
      refine eb_cons (es_asg ?_)
      refine ev_ix ?_
      refine ev_var (i := 3) rfl (.inl rfl) rfl ?_
      refine ev_neg ?_
      refine ev_int ?_
      refine ⟨roadD x, ?_, ?_⟩
      · rw [List.map_append]; exact at_lastA
      refine eg_tup ?_
      refine egs_cons ?_
      refine eg_name (i := 4) rfl (.inl rfl) ?_
      refine egs_cons ?_
      refine eg_name (i := 5) rfl (.inl rfl) ?_
      refine egs_cons ?_
      refine eg_name (i := 6) rfl (.inl rfl) ?_
      refine egs_nil ?_
      refine eb_cons (es_ret (ops1 0 rfl rfl) ?_)
      refine ev_tup ?_
      refine ea_cons ?_
      refine ev_var (i := 2) rfl (.inl rfl) rfl ?_
      refine ea_cons ?_
      refine ev_op g_addD ?_
      refine ev_sl ?_
      refine ev_var (i := 3) rfl (.inl rfl) rfl ?_
      refine eo_none ?_
      refine eo_some ?_
      refine ev_neg ?_
      refine ev_int ?_
      refine ev_tup ?_
      refine ea_cons ?_
      refine ev_tup ?_
      refine ea_cons ?_
      refine ev_var (i := 4) rfl (.inl rfl) rfl ?_
      refine ea_cons ?_
      refine ev_var (i := 5) rfl (.inl rfl) rfl ?_
      refine ea_cons ?_
      refine ev_ifx ?_
      refine et_cmp g_gt ?_
      refine ev_var (i := 6) rfl (.inl rfl) rfl ?_
      refine ev_int ?_
      have fin : ∀ l : Int, 1 ≤ l → l ≤ 9999 → l ≠ x.2.2 → q (.tup [townsD ts, .tup (GX.cutD ((r0 ++ [x]).map roadD) none (some (-1)) ++ [.tup [.str x.1, .str x.2.1, .int l]])]) := fun l l0 l1 ln => by
        rw [cut_init, List.map_append, List.map_cons, List.map_nil, List.dropLast_concat]
        have z := hq ts (r0 ++ [(x.1, x.2.1, l)]) (hm.toMapV.bent l0 l1) (.inr fun e => ?_)
        · rw [roadsD, List.map_append] at z
          exact z
        · have y := List.append_cancel_left e
          have w := (List.cons.inj y).1
          exact ln (congrArg (fun t : Str × Str × Int => t.2.2) w)
      have hcl := GX.cutD_len (xs := (r0 ++ [x]).map roadD) (lo := none) (hi := some (-1))
      rw [List.length_map, List.length_append, List.length_singleton] at hcl
      have h0 := hx.c0
      have h1 := hx.c1
      refine cond_dec (fun c4 => ?_) (fun c4 => ?_)
      · refine ev_op g_sub ?_
        refine ev_var (i := 6) rfl (.inl rfl) rfl ?_
        refine ev_int ?_
        refine ea_nil ⟨Nat.le_of_ble_eq_true rfl, ?_⟩
        refine ea_nil ⟨Nat.le_of_ble_eq_true rfl, ?_⟩
        refine ⟨by rw [List.length_singleton]; omega, ?_⟩
        refine ea_nil ⟨Nat.le_of_ble_eq_true rfl, ?_⟩
        exact fin _ (by omega) (by omega) (by omega)
      · refine ev_int ?_
        refine ea_nil ⟨Nat.le_of_ble_eq_true rfl, ?_⟩
        refine ea_nil ⟨Nat.le_of_ble_eq_true rfl, ?_⟩
        refine ⟨by rw [List.length_singleton]; omega, ?_⟩
        refine ea_nil ⟨Nat.le_of_ble_eq_true rfl, ?_⟩
        exact fin _ (by omega) (by omega) (by omega)
  · obtain rfl : rs = [] := List.map_eq_nil_iff.mp (List.isEmpty_iff.mp c)
    refine eb_nil ?_
    refine eb_cons (es_if ?_)
    refine et_cmp g_ne ?_
    refine ev_var (i := 3) rfl (.inl rfl) rfl ?_
    refine ev_tup ?_
    refine ea_nil ⟨Nat.le_of_ble_eq_true rfl, ?_⟩
    refine ⟨hm.toMapV.eqR, eqOk_of rfl (by decide), ?_⟩
    rw [eqv_tup0]
    refine eb_nil ?_
    refine eb_cons (es_ret (ops1 0 rfl rfl) ?_)
    refine ev_tup ?_
    refine ea_cons ?_
    refine ev_ifx ?_
    refine et_cmp g_gt ?_
    refine ev_callB c_lenD rfl T.m_len bt_len ?_
    refine ea_cons ?_
    refine ev_var (i := 2) rfl (.inl rfl) rfl ?_
    refine ea_nil ?_
    refine ev_int ?_
    rw [List.length_map]
    refine cond_dec (fun c4 => ?_) (fun c4 => ?_)
    · refine ev_sl ?_
      refine ev_var (i := 2) rfl (.inl rfl) rfl ?_
      refine eo_some ?_
      refine ev_int ?_
      refine eo_none ?_
      refine ea_cons ?_
      refine ev_var (i := 3) rfl (.inl rfl) rfl ?_
      refine ea_nil ⟨Nat.le_of_ble_eq_true rfl, ?_⟩
      rw [cut_drop (by decide) (by rw [List.length_map]; omega), ← List.map_drop]
      refine hq _ [] ⟨by rw [List.length_drop]; show 0 < ts.length - 1; omega, by have := hm.n1; rw [List.length_drop]; omega, fun t ht => hm.nm t (List.mem_of_mem_drop ht), hm.st.sublist (List.drop_sublist _ _), (fun _ h => nomatch h), .nil, Nat.zero_le _⟩ (.inl fun e => ?_)
      have := congrArg List.length e
      have z : (1 : Int).toNat = 1 := rfl
      rw [List.length_drop, z] at this
      omega
    · refine ev_tup ?_
      refine ea_cons ?_
      refine ev_str ?_
      refine ea_nil ⟨Nat.le_of_ble_eq_true rfl, ?_⟩
      refine ea_cons ?_
      refine ev_var (i := 3) rfl (.inl rfl) rfl ?_
      refine ea_nil ⟨Nat.le_of_ble_eq_true rfl, ?_⟩
      refine hq ["zz"] [] ⟨by decide, by decide, fun t ht => ?_, List.pairwise_singleton _ _, (fun _ h => nomatch h), .nil, Nat.zero_le _⟩ (.inl fun e => ?_)
      · rw [List.mem_singleton.mp ht]; decide +kernel
      · have := hm.z "zz" (by rw [← e]; exact List.mem_cons_self)
        exact absurd this (by decide +kernel)

/-! what is heard of a map that is made -/
@[reducible] def nq__law_heard : (Da → Prop) → Prop := fun Q => Q (.lst [.str "let"])
@[reducible] def xq__law_heard (mg : Str → Option Value) : (Da → Prop) → Er := fun Q cls fs => ∃ d, (cls = clsOf mg "InvalidTowns" ∧ fs = some [(("index" : Str), d)] ∧ Q (.lst [.str "towns", d])) ∨ (cls = clsOf mg "InvalidRoads" ∧ fs = some [(("index" : Str), d)] ∧ Q (.lst [.str "roads", d]))
theorem xr_some {K : PySem.W.Frag} {H : Hp} {dd : Option Addr} {fs : List (Str × Da)} (h : XRep K H dd (some fs)) : ∃ x, dd = some x := by
  cases dd with
  | none => cases h
  | some x => exact ⟨_, rfl⟩
theorem eq_yesI {i : Int} {Q : Bool → Prop} (h : Q true) : eqQ (.int i) (.int i) Q := by
  show Q (decide (i = i))
  rw [decide_eq_true rfl]; exact h
theorem one0 {a : Bool} : ∀ (m : Nat) (d' : Da), m < 1 → [Da.bl false, .bl a][m]? = some d' → eqF d' (.bl true) = false := fun m d' hm h2 => by
  obtain rfl : m = 0 := by omega
  cases h2
  rfl
theorem rc__law_heard (T : Txt K mg base Tq) : RefC Tq P w K mg base "_law_heard" s__law_heard 0 nq__law_heard (xq__law_heard mg) := by
  refine ⟨T.d__law_heard, by decide, ["act", "e", "flags"], "act", "e", 1, _, _, _, _, _, _, _, sc__law_heard, rfl, .inl rfl, by decide, by decide, rfl, rfl, rfl, by decide +kernel, ⟨T.i_InvalidRoads_ClaimError.gl, trivial⟩, (fun _ _ _ _ _ _ us hl => match us, hl with | [_], _ => rfl), fun Q h F0 H0 f => ?_, fun Q cls fs h => ?_⟩
  · refine eb_cons (es_ret (ops0 rfl) ?_)
    refine ev_lst ?_
    refine ea_cons ?_
    refine ev_str ?_
    refine ea_nil ⟨Nat.le_of_ble_eq_true rfl, ?_⟩
    exact h
  · obtain ⟨d, ⟨rfl, rfl, hq⟩ | ⟨rfl, rfl, hq⟩⟩ := h
    · refine ⟨true, T.i_InvalidTowns_ClaimError.m, fun _ a f dd F0 H0 xr => ?_, (fun z => nomatch z)⟩
      obtain ⟨da, rfl⟩ := xr_some xr
      have hxY := T.x_InvalidTowns
      have hi_InvalidTowns := T.i_InvalidTowns_InvalidTowns
      have hi_InvalidRoads := T.i_InvalidTowns_InvalidRoads
      refine eb_cons (es_set (i := 2) rfl (.inl rfl) ?_)
      refine ev_lst ?_
      refine ea_cons ?_
      refine ev_isE hxY hi_InvalidTowns (i := 1) rfl (.inl rfl) rfl rfl rfl T.m_isinstance rfl ?_
      refine ea_cons ?_
      refine ev_isE hxY hi_InvalidRoads (i := 1) rfl (.inl rfl) rfl rfl rfl T.m_isinstance rfl ?_
      refine ea_nil ⟨Nat.le_of_ble_eq_true rfl, ?_⟩
      refine eb_cons (es_ret (ops0 rfl) ?_)
      refine ev_ifx ?_
      refine et_cmp g_eq ?_
      refine ev_count ?_
      refine ev_var (i := 2) rfl (.inl rfl) rfl ?_
      refine ev_bl ?_
      refine ⟨rfl, rfl, ?_⟩
      refine ev_int ?_
      show eqQ (.int 1) (.int 1) _
      refine eq_yesI ?_
      refine ev_lst ?_
      refine ea_cons ?_
      refine ev_ix ?_
      refine ev_lst ?_
      refine ea_cons ?_
      refine ev_str ?_
      refine ea_cons ?_
      refine ev_str ?_
      refine ea_nil ⟨Nat.le_of_ble_eq_true rfl, ?_⟩
      refine ev_index ?_
      refine ev_var (i := 2) rfl (.inl rfl) rfl ?_
      refine ev_bl ?_
      refine ⟨rfl, rfl, 0, ⟨_, rfl, rfl⟩, (fun m d' hm => absurd hm (Nat.not_lt_zero m)), ?_⟩
      refine ⟨_, rfl, ?_⟩
      refine ea_cons ?_
      refine ev_exf hxY (i := 1) rfl (.inl rfl) rfl rfl rfl rfl ?_
      refine ea_nil ⟨Nat.le_of_ble_eq_true rfl, ?_⟩
      exact hq
    · refine ⟨true, T.i_InvalidRoads_ClaimError.m, fun _ a f dd F0 H0 xr => ?_, (fun z => nomatch z)⟩
      obtain ⟨da, rfl⟩ := xr_some xr
      have hxY := T.x_InvalidRoads
      have hi_InvalidTowns := T.i_InvalidRoads_InvalidTowns
      have hi_InvalidRoads := T.i_InvalidRoads_InvalidRoads
      refine eb_cons (es_set (i := 2) rfl (.inl rfl) ?_)
      refine ev_lst ?_
      refine ea_cons ?_
      refine ev_isE hxY hi_InvalidTowns (i := 1) rfl (.inl rfl) rfl rfl rfl T.m_isinstance rfl ?_
      refine ea_cons ?_
      refine ev_isE hxY hi_InvalidRoads (i := 1) rfl (.inl rfl) rfl rfl rfl T.m_isinstance rfl ?_
      refine ea_nil ⟨Nat.le_of_ble_eq_true rfl, ?_⟩
      refine eb_cons (es_ret (ops0 rfl) ?_)
      refine ev_ifx ?_
      refine et_cmp g_eq ?_
      refine ev_count ?_
      refine ev_var (i := 2) rfl (.inl rfl) rfl ?_
      refine ev_bl ?_
      refine ⟨rfl, rfl, ?_⟩
      refine ev_int ?_
      show eqQ (.int 1) (.int 1) _
      refine eq_yesI ?_
      refine ev_lst ?_
      refine ea_cons ?_
      refine ev_ix ?_
      refine ev_lst ?_
      refine ea_cons ?_
      refine ev_str ?_
      refine ea_cons ?_
      refine ev_str ?_
      refine ea_nil ⟨Nat.le_of_ble_eq_true rfl, ?_⟩
      refine ev_index ?_
      refine ev_var (i := 2) rfl (.inl rfl) rfl ?_
      refine ev_bl ?_
      refine ⟨rfl, rfl, 1, ⟨_, rfl, rfl⟩, one0, ?_⟩
      refine ⟨_, rfl, ?_⟩
      refine ea_cons ?_
      refine ev_exf hxY (i := 1) rfl (.inl rfl) rfl rfl rfl rfl ?_
      refine ea_nil ⟨Nat.le_of_ble_eq_true rfl, ?_⟩
      exact hq
theorem wrongL_one {p : Da → Da → Bool} {m : Da} : ∀ {xs pre : List Da}, wrongL p m pre xs = [] ∨ ∃ x, wrongL p m pre xs = [x]
  | [], _ => .inl rfl
  | y :: ys, pre => by
    unfold wrongL
    split
    · exact .inr ⟨_, rfl⟩
    · exact wrongL_one
theorem wrongD_one {p : Da → Da → Bool} {m d : Da} : wrongD p m d = [] ∨ ∃ x, wrongD p m d = [x] := by
  cases d <;> first | exact wrongL_one | exact .inr ⟨_, rfl⟩
theorem wrT_one {d : Da} : wrT d = [] ∨ ∃ x, wrT d = [x] := by
  unfold wrT
  split
  · exact .inr ⟨_, rfl⟩
  · exact wrongD_one
def hrd (t r : Da) : Da := match wrT t with
  | x :: _ => .lst [.str "towns", x]
  | [] => match wrR t r with
    | x :: _ => .lst [.str "roads", x]
    | [] => .lst [.str "let"]
theorem hrd_t {t r x : Da} (h : wrT t = [x]) : hrd t r = .lst [.str "towns", x] := by unfold hrd; rw [h]
theorem hrd_r {t r x : Da} (h : wrT t = []) (h2 : wrR t r = [x]) : hrd t r = .lst [.str "roads", x] := by unfold hrd; rw [h, h2]
theorem hrd_l {t r : Da} (h : wrT t = []) (h2 : wrR t r = []) : hrd t r = .lst [.str "let"] := by unfold hrd; rw [h, h2]
@[reducible] def q__law_call : Fd := fun ds q _ => as2 ds fun t r => RdT t ∧ RdR r ∧ q (hrd t r)
theorem heard_of {mg : Str → Option Value} {t r : Da} {Q : Da → Prop} {R : List (Str × Da) → Prop} (hn : ∀ fs, nq__law_heard Q → R fs) (hq : Q (hrd t r)) : ((∃ x, wrT t = [x] ∧ erT mg (xq__law_heard mg Q) "index" "InvalidTowns" x) ∨ (wrT t = [] ∧ ((∃ x, wrR t r = [x] ∧ erT mg (xq__law_heard mg Q) "index" "InvalidRoads" x) ∨ (wrR t r = [] ∧ R [("told", .tup [t, r])])))) := by
  rcases wrT_one (d := t) with e | ⟨x, e⟩
  · refine .inr ⟨e, ?_⟩
    rcases wrongD_one (p := pR t) (m := .int 30) (d := r) with e2 | ⟨x, e2⟩
    · rw [hrd_l e e2] at hq
      exact .inr ⟨e2, hn _ hq⟩
    · rw [hrd_r e e2] at hq
      exact .inl ⟨x, e2, x, .inr ⟨rfl, rfl, hq⟩⟩
  · rw [hrd_t e] at hq
    exact .inl ⟨x, e, x, .inl ⟨rfl, rfl, hq⟩⟩
theorem ok__law_call (T : Txt K mg base Tq) : Cal P w K mg base "_law_call" "_law_call" s__law_call 12 ["urn", "towns", "roads"] (SpO K Tq PailOk q__law_call) := by
  refine calO T.d__law_call sc__law_call (fun _ _ _ _ _ _ us hl => match us, hl with | [_, _, _], _ => rfl) (fun ds q er h => congrArg (· + 1) (as2_len h)) fun cdv hcd F0 H0 pa ds q er h => ?_
  obtain ⟨towns, roads, rfl, h⟩ := as2_ h
  obtain ⟨ht, hr, hq⟩ := h
  refine eb_cons (es_if ?_)
  refine et_cmp g_eq ?_
  refine ev_callO (i := 0) (ok__law_take T) (Nat.le_of_ble_eq_true rfl) rfl (ops1 0 rfl rfl) rfl (.inl rfl) rfl ?_
  refine ea_cons ?_
  refine ev_int ?_
  refine ea_nil ?_
  refine ⟨by omega, by omega, fun r hr0 hr1 => ?_⟩
  refine ev_int ?_
  refine cond_dec (fun c => ?_) (fun c => ?_)
  · refine eb_cons (es_ret (ops1 0 rfl rfl) ?_)
    refine ev_ref (m := 9) (rc__law_heard T) (Nat.le_of_ble_eq_true rfl) (Nat.le_of_ble_eq_true rfl) rfl T.l__law_call hcd rfl (LamX.lamS_by (sc := defScope s__law_call) (by decide +kernel)) (fun F1 H1 => ?_)
    refine ev_make (in_Map T) (Nat.le_of_ble_eq_true rfl) rfl ops_lam ?_
    refine ea_cons ?_
    refine ev_var (i := 1) rfl (.inr (.inr rfl)) rfl ?_
    refine ea_cons ?_
    refine ev_var (i := 2) rfl (.inr (.inr rfl)) rfl ?_
    refine ea_nil ?_
    refine ⟨ht, hr, heard_of (fun _ z => z) hq⟩
  · refine eb_nil ?_
    refine eb_cons (es_ret (ops1 0 rfl rfl) ?_)
    refine ev_ref (m := 9) (rc__law_heard T) (Nat.le_of_ble_eq_true rfl) (Nat.le_of_ble_eq_true rfl) rfl T.l__law_call hcd rfl (LamX.lamS_by (sc := defScope s__law_call) (by decide +kernel)) (fun F1 H1 => ?_)
    refine ev_makeK0 (pm := [1, 0]) (ks := ["roads", "towns"]) (in_Map T) (fun _ _ _ _ _ _ us ws h1 h2 => match us, ws, h1, h2 with | [_], [_, _], _, _ => rfl) (Nat.le_of_ble_eq_true rfl) rfl ops_lam ?_
    refine ek_cons ?_
    refine ev_var (i := 2) rfl (.inr (.inr rfl)) rfl ?_
    refine ek_cons ?_
    refine ev_var (i := 1) rfl (.inr (.inr rfl)) rfl ?_
    refine ek_nil ?_
    refine ⟨rfl, ?_⟩
    refine ⟨ht, hr, heard_of (fun _ z => z) hq⟩

/-! the first wrong element, in plain terms -/
theorem wrongL_all {p : Da → Da → Bool} {m : Da} : ∀ {xs pre : List Da}, (∀ (i : Nat) (y : Da), xs[i]? = some y → (mostB m ((pre.length + i : Nat) : Int) || !p y (.tup (pre ++ xs.take i))) = false) → wrongL p m pre xs = []
  | [], _, _ => rfl
  | y :: ys, pre, h => by
    have h0 := h 0 y rfl
    rw [List.take_zero, List.append_nil, Nat.add_zero] at h0
    unfold wrongL
    rw [h0, if_neg (by decide)]
    refine wrongL_all fun i z hz => ?_
    have h1 := h (i + 1) z hz
    rw [List.take_succ_cons] at h1
    rw [List.length_append, List.length_singleton, List.append_assoc, Nat.add_assoc, Nat.add_comm 1 i]
    exact h1
theorem wrongL_hit {p : Da → Da → Bool} {m : Da} : ∀ {xs pre : List Da} {n : Nat} {x : Da}, xs[n]? = some x → (∀ (i : Nat) (y : Da), i < n → xs[i]? = some y → (mostB m ((pre.length + i : Nat) : Int) || !p y (.tup (pre ++ xs.take i))) = false) →
    (mostB m ((pre.length + n : Nat) : Int) || !p x (.tup (pre ++ xs.take n))) = true → wrongL p m pre xs = [.int ((pre.length + n : Nat) : Int)]
  | [], _, _, _, hx, _, _ => by cases hx
  | y :: ys, pre, 0, x, hx, _, h2 => by
    obtain rfl : y = x := Option.some.inj hx
    rw [List.take_zero, List.append_nil, Nat.add_zero] at h2
    unfold wrongL
    rw [if_pos h2, Nat.add_zero]
  | y :: ys, pre, n + 1, x, hx, h, h2 => by
    have h0 := h 0 y (Nat.succ_pos _) rfl
    rw [List.take_zero, List.append_nil, Nat.add_zero] at h0
    unfold wrongL
    rw [h0, if_neg (by decide)]
    have z := wrongL_hit (p := p) (m := m) (xs := ys) (pre := pre ++ [y]) (n := n) (x := x) hx (fun i z hi hz => ?_) ?_
    · rw [z, List.length_append, List.length_singleton, Nat.add_assoc, Nat.add_comm 1 n]
    · have h1 := h (i + 1) z (Nat.succ_lt_succ hi) hz
      rw [List.take_succ_cons] at h1
      rw [List.length_append, List.length_singleton, List.append_assoc, Nat.add_assoc, Nat.add_comm 1 i]
      exact h1
    · rw [List.take_succ_cons] at h2
      rw [List.length_append, List.length_singleton, List.append_assoc, Nat.add_assoc, Nat.add_comm 1 n]
      exact h2
theorem last_take1 {ts : List Str} {i : Nat} {t : Str} (h : ts[i]? = some t) : ((ts.take (i + 1)).map Da.str).getLast? = some (.str t) := by
  have hi := (List.getElem?_eq_some_iff.mp h).1
  rw [List.getLast?_eq_getElem?, List.length_map, List.length_take, List.getElem?_map, show min (i + 1) ts.length - 1 = i by omega, List.getElem?_take_of_lt (by omega), h]; rfl
structure TownsOk (ts : List Str) : Prop where
  nm : ∀ t ∈ ts, isName (.str t) = true
  st : ts.Pairwise fun a b => a.cps.toList < b.cps.toList
theorem MapV.tw {ts : List Str} {rs : List (Str × Str × Int)} (h : MapV ts rs) : TownsOk ts := ⟨h.nm, h.st⟩
theorem TownsOk.take {ts : List Str} (h : TownsOk ts) (n : Nat) : TownsOk (ts.take n) := ⟨fun t ht => h.nm t (List.mem_of_mem_take ht), h.st.sublist (List.take_sublist _ _)⟩
theorem TownsOk.p {ts : List Str} (h : TownsOk ts) {i : Nat} {t : Str} (ht : ts[i]? = some t) : pT (.str t) (townsD (ts.take i)) = true := by
  show (isName (.str t) && (match ((ts.take i).map Da.str).getLast? with | none => true | some y => PySem.W.dataLt y.py (Da.str t).py)) = true
  rw [h.nm t (List.mem_of_getElem? ht), Bool.true_and]
  cases i with
  | zero => rfl
  | succ i =>
    have hi := (List.getElem?_eq_some_iff.mp ht).1
    obtain ⟨u, hu⟩ : ∃ u, ts[i]? = some u := ⟨_, List.getElem?_eq_getElem (by omega)⟩
    rw [last_take1 hu]
    show PySem.W.dataLt (Da.str u).py (Da.str t).py = true
    rw [lt_strA]
    refine decide_eq_true ?_
    have z := List.pairwise_iff_getElem.mp h.st i (i + 1) (by omega) hi (Nat.lt_succ_self i)
    rw [(List.getElem?_eq_some_iff.mp hu).2, (List.getElem?_eq_some_iff.mp ht).2] at z
    exact z
theorem wrT_eq {xs : List Da} (h : xs ≠ []) : wrT (.tup xs) = wrongL pT (.int 12) [] xs := by
  unfold wrT
  rw [eqv_tup0, if_neg]
  cases xs with
  | nil => exact absurd rfl h
  | cons _ _ => exact fun e => nomatch e
theorem most_no {m : Int} {n : Nat} (h : (n : Int) ≠ m) : mostB (.int m) (n : Int) = false := decide_eq_false h
theorem TownsOk.good {ts : List Str} (h : TownsOk ts) (h0 : 0 < ts.length) (h1 : ts.length ≤ 12) : wrT (townsD ts) = [] := by
  rw [townsD, wrT_eq (by intro e; rw [List.map_eq_nil_iff] at e; subst e; exact absurd h0 (by decide))]
  refine wrongL_all fun i y hy => ?_
  rw [List.getElem?_map] at hy
  obtain ⟨t, ht, rfl⟩ := Option.map_eq_some_iff.mp hy
  have hi := (List.getElem?_eq_some_iff.mp ht).1
  have z := h.p ht
  rw [List.nil_append, ← List.map_take, show ([] : List Da).length + i = i by simp, most_no (by omega), Bool.false_or]
  rw [townsD] at z
  rw [z]; rfl
/-- a thing in the place of a town -/
theorem TownsOk.bad {ts : List Str} (h : TownsOk ts) {n : Nat} {d : Da} {r : List Da} (hn : n < ts.length) (h1 : n < 12) (hd : pT d (townsD (ts.take n)) = false) : wrT (.tup ((ts.take n).map Da.str ++ [d] ++ r)) = [.int (n : Int)] := by
  have hl : ((ts.take n).map Da.str).length = n := by rw [List.length_map, List.length_take]; omega
  rw [wrT_eq (by simp)]
  have z := wrongL_hit (p := pT) (m := .int 12) (xs := (ts.take n).map Da.str ++ [d] ++ r) (pre := []) (n := n) (x := d) (by rw [List.append_assoc, List.getElem?_append_right (by omega), hl, Nat.sub_self]; rfl) (fun i y hi hy => ?_) ?_
  · rw [z, List.length_nil, Nat.zero_add]
  · rw [List.append_assoc, List.getElem?_append_left (by omega), List.getElem?_map] at hy
    obtain ⟨t, ht, rfl⟩ := Option.map_eq_some_iff.mp hy
    have y := (h.take n).p ht
    rw [List.nil_append, List.append_assoc, List.take_append_of_le_length (by omega), ← List.map_take, List.length_nil, Nat.zero_add, most_no (by omega), Bool.false_or]
    rw [townsD] at y
    rw [y]; rfl
  · rw [List.nil_append, List.append_assoc, List.take_append_of_le_length (by omega), List.take_of_length_le (by omega)]
    rw [townsD] at hd
    rw [hd, Bool.not_false, Bool.or_true]
theorem TownsOk.many {ts : List Str} (h : TownsOk ts) (hl : ts.length = 13) : wrT (townsD ts) = [.int 12] := by
  rw [townsD, wrT_eq (by intro e; rw [List.map_eq_nil_iff] at e; subst e; cases hl)]
  have z := wrongL_hit (p := pT) (m := .int 12) (xs := ts.map Da.str) (pre := []) (n := 12) (x := .str ts[12]) (by rw [List.getElem?_map, List.getElem?_eq_getElem (by omega)]; rfl) (fun i y hi hy => ?_) rfl
  · exact z
  · rw [List.getElem?_map] at hy
    obtain ⟨t, ht, rfl⟩ := Option.map_eq_some_iff.mp hy
    have y := h.p ht
    rw [List.nil_append, ← List.map_take, List.length_nil, Nat.zero_add, most_no (by omega), Bool.false_or]
    rw [townsD] at y
    rw [y]; rfl
structure RoadsOk (ts : List Str) (rs : List (Str × Str × Int)) : Prop where
  ro : ∀ x ∈ rs, RoadOk ts x
  rp : rs.Pairwise lt2
theorem MapV.rw {ts : List Str} {rs : List (Str × Str × Int)} (h : MapV ts rs) : RoadsOk ts rs := ⟨h.ro, h.rp⟩
theorem RoadsOk.take {ts : List Str} {rs : List (Str × Str × Int)} (h : RoadsOk ts rs) (n : Nat) : RoadsOk ts (rs.take n) := ⟨fun t ht => h.ro t (List.mem_of_mem_take ht), h.rp.sublist (List.take_sublist _ _)⟩
theorem RoadsOk.p {ts : List Str} {rs : List (Str × Str × Int)} (h : RoadsOk ts rs) {i : Nat} {x : Str × Str × Int} (hx : rs[i]? = some x) : pR (townsD ts) (roadD x) (roadsD (rs.take i)) = true := by
  show (isRoad (ts.map Da.str) (roadD x) && (match ((rs.take i).map roadD).getLast? with | none => true | some y => PySem.W.dataLt (cut2 y).py (cut2 (roadD x)).py)) = true
  rw [road_good (h.ro x (List.mem_of_getElem? hx)), Bool.true_and]
  cases i with
  | zero => rfl
  | succ i =>
    have hi := (List.getElem?_eq_some_iff.mp hx).1
    obtain ⟨u, hu⟩ : ∃ u, rs[i]? = some u := ⟨_, List.getElem?_eq_getElem (by omega)⟩
    rw [last_take hu]
    show PySem.W.dataLt (cut2 (roadD u)).py (cut2 (roadD x)).py = true
    refine lt_cut2.mpr ?_
    have z := List.pairwise_iff_getElem.mp h.rp i (i + 1) (by omega) hi (Nat.lt_succ_self i)
    rw [(List.getElem?_eq_some_iff.mp hu).2, (List.getElem?_eq_some_iff.mp hx).2] at z
    exact z
theorem RoadsOk.good {ts : List Str} {rs : List (Str × Str × Int)} (h : RoadsOk ts rs) (h1 : rs.length ≤ 30) : wrR (townsD ts) (roadsD rs) = [] := by
  show wrongL (pR (townsD ts)) (.int 30) [] (rs.map roadD) = []
  refine wrongL_all fun i y hy => ?_
  rw [List.getElem?_map] at hy
  obtain ⟨t, ht, rfl⟩ := Option.map_eq_some_iff.mp hy
  have hi := (List.getElem?_eq_some_iff.mp ht).1
  have z := h.p ht
  rw [List.nil_append, ← List.map_take, List.length_nil, Nat.zero_add, most_no (by omega), Bool.false_or]
  rw [roadsD] at z
  rw [z]; rfl
theorem RoadsOk.bad {ts : List Str} {rs : List (Str × Str × Int)} (h : RoadsOk ts rs) {n : Nat} {d : Da} {r : List Da} (hn : n < rs.length) (h1 : n < 30) (hd : pR (townsD ts) d (roadsD (rs.take n)) = false) : wrR (townsD ts) (.tup ((rs.take n).map roadD ++ [d] ++ r)) = [.int (n : Int)] := by
  have hl : ((rs.take n).map roadD).length = n := by rw [List.length_map, List.length_take]; omega
  show wrongL (pR (townsD ts)) (.int 30) [] _ = _
  have z := wrongL_hit (p := pR (townsD ts)) (m := .int 30) (xs := (rs.take n).map roadD ++ [d] ++ r) (pre := []) (n := n) (x := d) (by rw [List.append_assoc, List.getElem?_append_right (by omega), hl, Nat.sub_self]; rfl) (fun i y hi hy => ?_) ?_
  · rw [z, List.length_nil, Nat.zero_add]
  · rw [List.append_assoc, List.getElem?_append_left (by omega), List.getElem?_map] at hy
    obtain ⟨t, ht, rfl⟩ := Option.map_eq_some_iff.mp hy
    have y := (h.take n).p ht
    rw [List.nil_append, List.append_assoc, List.take_append_of_le_length (by omega), ← List.map_take, List.length_nil, Nat.zero_add, most_no (by omega), Bool.false_or]
    rw [roadsD] at y
    rw [y]; rfl
  · rw [List.nil_append, List.append_assoc, List.take_append_of_le_length (by omega), List.take_of_length_le (by omega)]
    rw [roadsD] at hd
    rw [hd, Bool.not_false, Bool.or_true]
theorem RoadsOk.many {ts : List Str} {rs : List (Str × Str × Int)} (h : RoadsOk ts rs) (hl : rs.length = 31) : wrR (townsD ts) (roadsD rs) = [.int 30] := by
  show wrongL (pR (townsD ts)) (.int 30) [] (rs.map roadD) = _
  have z := wrongL_hit (p := pR (townsD ts)) (m := .int 30) (xs := rs.map roadD) (pre := []) (n := 30) (x := roadD rs[30]) (by rw [List.getElem?_map, List.getElem?_eq_getElem (by omega)]; rfl) (fun i y hi hy => ?_) rfl
  · exact z
  · rw [List.getElem?_map] at hy
    obtain ⟨t, ht, rfl⟩ := Option.map_eq_some_iff.mp hy
    have y := h.p ht
    rw [List.nil_append, ← List.map_take, List.length_nil, Nat.zero_add, most_no (by omega), Bool.false_or]
    rw [roadsD] at y
    rw [y]; rfl
/-! maps that differ -/
theorem eqv_strs : ∀ {a b : List Str}, PyData.eqvAll (Da.pys (a.map Da.str)) (Da.pys (b.map Da.str)) = true → a = b
  | [], [], _ => rfl
  | [], _ :: _, h => by simp [Da.pys, PyData.eqvAll] at h
  | _ :: _, [], h => by simp [Da.pys, PyData.eqvAll] at h
  | x :: a, y :: b, h => by
    simp only [List.map_cons, Da.pys, PyData.eqvAll, Da.py, PyData.eqv, Bool.and_eq_true, beq_iff_eq] at h
    rw [h.1, eqv_strs h.2]
theorem eqv_roads : ∀ {a b : List (Str × Str × Int)}, PyData.eqvAll (Da.pys (a.map roadD)) (Da.pys (b.map roadD)) = true → a = b
  | [], [], _ => rfl
  | [], _ :: _, h => by simp [Da.pys, PyData.eqvAll] at h
  | _ :: _, [], h => by simp [Da.pys, PyData.eqvAll] at h
  | (x1, x2, x3) :: a, (y1, y2, y3) :: b, h => by
    simp only [List.map_cons, Da.pys, PyData.eqvAll, Da.py, PyData.eqv, Bool.and_eq_true, beq_iff_eq, Bool.and_true] at h
    obtain ⟨⟨h1, h2, h3⟩, h4⟩ := h
    rw [h1, h2, h3, eqv_roads h4]
theorem eqM_ne {mg : Str → Option Value} {ts ts2 : List Str} {rs rs2 : List (Str × Str × Int)} (h : ts2 ≠ ts ∨ rs2 ≠ rs) : eqM (mapD mg (townsD ts) (roadsD rs)) (mapD mg (townsD ts2) (roadsD rs2)) = false := by
  show PyData.eqv (Da.tup [townsD ts, roadsD rs]).py (Da.tup [townsD ts2, roadsD rs2]).py = false
  cases c : PyData.eqv (Da.tup [townsD ts, roadsD rs]).py (Da.tup [townsD ts2, roadsD rs2]).py with
  | false => rfl
  | true =>
    simp only [townsD, roadsD, Da.py, Da.pys, PyData.eqv, PyData.eqvAll, Bool.and_eq_true, Bool.and_true] at c
    rcases h with h | h
    · exact absurd (eqv_strs c.1).symm h
    · exact absurd (eqv_roads c.2).symm h
theorem eqM_yes {mg : Str → Option Value} {ts : List Str} {rs : List (Str × Str × Int)} (h : MapV ts rs) : eqM (mapD mg (townsD ts) (roadsD rs)) (mapD mg (townsD ts) (roadsD rs)) = true := by
  refine Da.eqv_refl _ ?_
  simp only [Da.okE, Da.okEs, Bool.and_true, Bool.and_eq_true]
  exact ⟨okEs_of fun d hd => (towns_okE h.nm d hd).1, okEs_of fun d hd => (h.roadsE d hd).1⟩

/-! what is handed to a map -/
structure NmP (ts : List Str) (n : Nat) (d : Da) : Prop where
  p : pT d (townsD (ts.take n)) = false
  k : d.known = true
  s : shortS d
  e : d.okE = true ∧ d.dp ≤ 1
theorem nm_no {ts : List Str} {n : Nat} {d : Da} (h : noB d = true) : NmP ts n d := by
  obtain ⟨⟨a, b, c⟩, e⟩ := noB_ h
  refine ⟨?_, b, c, e⟩
  show (isName d && _) = false
  rw [a]; rfl
theorem name_short {z : Str} (h : isName (.str z) = true) : z.length ≤ 8 := by
  have h' : (isLet (.str z) 1 8 && !isWord z) = true := h
  rw [Bool.and_eq_true] at h'
  have h2 : (decide ((1 : Int) ≤ (z.length : Int)) && decide ((z.length : Int) ≤ 8) && z.cps.toList.all isSm) = true := h'.1
  rw [Bool.and_eq_true, Bool.and_eq_true, decide_eq_true_eq, decide_eq_true_eq] at h2
  omega
theorem pT_prev {ts : List Str} {j : Nat} {u z : Str} (hu : ts[j]? = some u) (h : ¬ u.cps.toList < z.cps.toList) : pT (.str z) (townsD (ts.take (j + 1))) = false := by
  show (isName (.str z) && (match ((ts.take (j + 1)).map Da.str).getLast? with | none => true | some y => PySem.W.dataLt y.py (Da.str z).py)) = false
  rw [last_take1 hu]
  show (_ && PySem.W.dataLt (Da.str u).py (Da.str z).py) = false
  rw [lt_strA, decide_eq_false h, Bool.and_false]
theorem nm_prev {ts : List Str} {j : Nat} {u : Str} (hn : isName (.str u) = true) (hu : ts[j]? = some u) : NmP ts (j + 1) (.str u) :=
  ⟨pT_prev hu (List.lt_irrefl _), rfl, fun z e => by cases e; have := name_short hn; omega, by unfold Da.okE; exact name_ok hn, Nat.zero_le _⟩
theorem lt_take {a : List Nat} (n : Nat) : ¬ a < a.take n := by
  induction a generalizing n with
  | nil => rw [List.take_nil]; exact List.lt_irrefl _
  | cons x a ih =>
    cases n with
    | zero => exact List.not_lt_nil _
    | succ n =>
      rw [List.take_succ_cons, List.cons_lt_cons_iff]
      rintro (h | ⟨_, h⟩)
      · exact Nat.lt_irrefl _ h
      · exact ih n h
theorem cutS_init {z : Str} : (cutS z none (some (-1))).cps.toList = z.cps.toList.take (z.length - 1) := by
  show (((z.cps.toList.drop (HT.sIx z.length 0 none)).take (HT.sIx z.length z.length (some (-1)) - HT.sIx z.length 0 none)).toArray).toList = _
  rw [List.toList_toArray]
  have e0 : HT.sIx z.length 0 none = 0 := rfl
  have e1 : HT.sIx z.length z.length (some (-1)) = z.length - 1 := by
    show (if (-1 : Int) < 0 then ((-1 : Int) + (z.length : Int)).toNat else min (-1 : Int).toNat z.length) = _
    rw [if_pos (by decide)]; omega
  rw [e0, e1, List.drop_zero, Nat.sub_zero]
theorem nm_pre {ts : List Str} {j : Nat} {u : Str} (hn : isName (.str u) = true) (hu : ts[j]? = some u) : NmP ts (j + 1) (.str (cutS u none (some (-1)))) := by
  have l := name_short hn
  have lc := cutS_length u none (some (-1))
  refine ⟨pT_prev hu ?_, rfl, fun z e => ?_, ?_, Nat.zero_le _⟩
  · rw [cutS_init]; exact lt_take _
  · cases e; omega
  · unfold Da.okE
    refine low_ok fun k hk => ?_
    rw [cutS_init] at hk
    exact name_low hn k (List.mem_of_mem_take hk)
theorem TownsOk.rd {ts : List Str} (h : TownsOk ts) : RdT (townsD ts) := by
  refine ⟨rfl, .inl (eqOk_tup fun d hd => ⟨(towns_okE h.nm d hd).1, by have := (towns_okE h.nm d hd).2; omega⟩), fun xs e x hx => ?_⟩
  cases e
  obtain ⟨t, ht, rfl⟩ := List.mem_map.mp hx
  exact ⟨rfl, fun z e => by cases e; have := name_short (h.nm t ht); omega⟩
theorem TownsOk.rdb {ts : List Str} (h : TownsOk ts) {n m : Nat} {d : Da} (hd : NmP ts n d) : RdT (.tup ((ts.take n).map Da.str ++ [d] ++ (ts.drop m).map Da.str)) := by
  have hall : ∀ x ∈ (ts.take n).map Da.str ++ [d] ++ (ts.drop m).map Da.str, (x.okE = true ∧ x.dp ≤ 59) ∧ x.known = true ∧ shortS x := fun x hx => by
    have sub : ∀ t ∈ ts, ((Da.str t).okE = true ∧ (Da.str t).dp ≤ 59) ∧ (Da.str t).known = true ∧ shortS (Da.str t) := fun t ht => ⟨⟨by unfold Da.okE; exact name_ok (h.nm t ht), Nat.zero_le _⟩, rfl, fun z e => by cases e; have := name_short (h.nm t ht); omega⟩
    simp only [List.mem_append, List.mem_map, List.mem_singleton] at hx
    rcases hx with (⟨t, ht, rfl⟩ | rfl) | ⟨t, ht, rfl⟩
    · exact sub t (List.mem_of_mem_take ht)
    · exact ⟨⟨hd.e.1, Nat.le_trans hd.e.2 (by decide)⟩, hd.k, hd.s⟩
    · exact sub t (List.mem_of_mem_drop ht)
  exact ⟨rfl, .inl (eqOk_tup fun x hx => (hall x hx).1), fun xs e x hx => by cases e; exact (hall x hx).2⟩
theorem road_rdx (x : Str × Str × Int) : RdX (roadD x) := knX fun y hy => by
  simp only [List.mem_cons, List.not_mem_nil, or_false] at hy
  rcases hy with rfl | rfl | rfl <;> rfl
theorem rdR_of {xs : List Da} (h : ∀ x ∈ xs, RdX x) : RdR (.tup xs) := ⟨rfl, fun ys e x hx => by cases e; exact h x hx⟩
theorem rdR_roads {rs : List (Str × Str × Int)} : RdR (roadsD rs) := rdR_of fun x hx => by
  obtain ⟨y, _, rfl⟩ := List.mem_map.mp hx
  exact road_rdx y
theorem rdR_bent {rs ss : List (Str × Str × Int)} {d : Da} (hd : RdX d) : RdR (.tup (rs.map roadD ++ [d] ++ ss.map roadD)) := rdR_of fun x hx => by
  simp only [List.mem_append, List.mem_map, List.mem_singleton] at hx
  rcases hx with (⟨t, _, rfl⟩ | rfl) | ⟨t, _, rfl⟩
  · exact road_rdx t
  · exact hd
  · exact road_rdx t
@[reducible] def noneL : List Da := [.non, .lst [], .str "", .int 5, .dct [], .bl true]
structure NonP (v : Da) : Prop where
  t : RdT v
  r : RdR v
  wt : wrT v = [.non]
  wr : ∀ t, wrR t v = [.non]
theorem nonP {v : Da} (h : v ∈ noneL) : NonP v := by
  simp only [List.mem_cons, List.not_mem_nil, or_false] at h
  rcases h with rfl | rfl | rfl | rfl | rfl | rfl
  · exact ⟨⟨rfl, .inl (eqOk_of (by decide +kernel) (by decide +kernel)), fun _ e => nomatch e⟩, ⟨rfl, fun _ e => nomatch e⟩, rfl, fun _ => rfl⟩
  · exact ⟨⟨rfl, .inl (eqOk_of (by decide +kernel) (by decide +kernel)), fun _ e => nomatch e⟩, ⟨rfl, fun _ e => nomatch e⟩, rfl, fun _ => rfl⟩
  · exact ⟨⟨rfl, .inl (eqOk_of (by decide +kernel) (by decide +kernel)), fun _ e => nomatch e⟩, ⟨rfl, fun _ e => nomatch e⟩, rfl, fun _ => rfl⟩
  · exact ⟨⟨rfl, .inl (eqOk_of (by decide +kernel) (by decide +kernel)), fun _ e => nomatch e⟩, ⟨rfl, fun _ e => nomatch e⟩, rfl, fun _ => rfl⟩
  · exact ⟨⟨rfl, .inr rfl, fun _ e => nomatch e⟩, ⟨rfl, fun _ e => nomatch e⟩, rfl, fun _ => rfl⟩
  · exact ⟨⟨rfl, .inl (eqOk_of (by decide +kernel) (by decide +kernel)), fun _ e => nomatch e⟩, ⟨rfl, fun _ e => nomatch e⟩, rfl, fun _ => rfl⟩
theorem rdT_0 : RdT (.tup []) := ⟨rfl, .inl (eqOk_of rfl (by decide)), fun xs e x hx => by cases e; cases hx⟩
theorem rdR_lst {xs : List Da} : RdR (.lst xs) := ⟨rfl, fun _ e => nomatch e⟩
/-! all roads between twelve towns -/
def prs (k : Nat) : List (Nat × Nat × Int) := (List.range k).flatMap fun i => (List.range' (i + 1) (11 - i)).map fun j => (i, j, 9999)
theorem prs_succ (k : Nat) : prs (k + 1) = prs k ++ (List.range' (k + 1) (11 - k)).map fun j => (k, j, 9999) := by
  unfold prs
  rw [List.range_succ, List.flatMap_append, List.flatMap_singleton]
theorem prs_x : ∀ x ∈ prs 12, x.1 < x.2.1 ∧ x.2.1 < 12 ∧ 1 ≤ x.2.2 ∧ x.2.2 ≤ 9999 := by decide +kernel
theorem prs_p : (prs 12).Pairwise fun x y => x.1 < y.1 ∨ x.1 = y.1 ∧ x.2.1 < y.2.1 := by decide +kernel
theorem prs_l : (prs 12).length = 66 := by decide +kernel
theorem prs_roads {ts : List Str} (h : TownsOk ts) (hl : ts.length = 12) : RoadsOk ts ((prs 12).map (roadI ts)) := by
  refine ⟨fun x hx => ?_, ?_⟩
  · obtain ⟨y, hy, rfl⟩ := List.mem_map.mp hx
    obtain ⟨a, b, e, f⟩ := prs_x y hy
    exact ⟨getD_in (by omega), getD_in (by omega), getD_lt h.st a (by omega), e, f⟩
  · rw [List.pairwise_map]
    refine (List.Pairwise.and_mem.mp prs_p).imp ?_
    intro x y ⟨hx, hy, q⟩
    obtain ⟨a, b, _⟩ := prs_x x hx
    obtain ⟨a2, b2, _⟩ := prs_x y hy
    rcases q with q | ⟨q1, q2⟩
    · exact .inl (getD_lt h.st q (by omega))
    · refine .inr ⟨?_, getD_lt h.st q2 (by omega)⟩
      show ts.getD x.1 "" = ts.getD y.1 ""
      rw [q1]
theorem drop_range {ts : List Str} (hl : ts.length = 12) {k : Nat} (hk : k < 12) : ts.drop (k + 1) = (List.range' (k + 1) (11 - k)).map fun j => ts.getD j "" := by
  refine List.ext_getElem (by rw [List.length_drop, List.length_map, List.length_range']; omega) fun i h1 h2 => ?_
  rw [List.length_drop] at h1
  rw [List.getElem_drop, List.getElem_map, List.getElem_range', Nat.one_mul, getD_eq (by omega)]
theorem rows_step {ts : List Str} (hl : ts.length = 12) {k : Nat} {e : Str} (he : ts[k]? = some e) : ((prs k).map (roadI ts)).map roadD ++ ((ts.drop (k + 1)).map Da.str).map (fun d => Da.tup [.str e, d, .int 9999]) = ((prs (k + 1)).map (roadI ts)).map roadD := by
  have hk := (List.getElem?_eq_some_iff.mp he).1
  rw [prs_succ, List.map_append, List.map_append, drop_range hl (by omega)]
  congr 1
  simp only [List.map_map]
  refine List.map_congr_left fun j _ => ?_
  show Da.tup [.str e, .str (ts.getD j ""), .int 9999] = .tup [.str (ts.getD k ""), .str (ts.getD j ""), .int 9999]
  rw [getD_of he]
/-! what is shown -/
theorem szs_le {xs : List Da} {n : Nat} (h : ∀ x ∈ xs, x.sz ≤ n) : Da.szs xs ≤ xs.length * (n + 1) := by
  induction xs with
  | nil => exact Nat.zero_le _
  | cons x xs ih =>
    unfold Da.szs
    have h1 := h x List.mem_cons_self
    have h2 := ih fun y hy => h y (List.mem_cons_of_mem _ hy)
    rw [List.length_cons, Nat.succ_mul]
    omega
theorem okSs_all {xs : List Da} (h : ∀ x ∈ xs, x.okS) : Da.okSs xs := by
  induction xs with
  | nil => unfold Da.okSs; trivial
  | cons x xs ih =>
    unfold Da.okSs
    exact ⟨h x List.mem_cons_self, ih fun y hy => h y (List.mem_cons_of_mem _ hy)⟩
theorem name_okS {z : Str} (h : isName (.str z) = true) : (Da.str z).okS := by
  unfold Da.okS
  intro c hc
  exact Nat.lt_trans (name_low h c hc) (by decide)
theorem TownsOk.okS {ts : List Str} (h : TownsOk ts) : (townsD ts).okS ∧ (townsD ts).sz ≤ ts.length * 9 := by
  constructor
  · unfold townsD Da.okS
    refine okSs_all fun x hx => ?_
    obtain ⟨t, ht, rfl⟩ := List.mem_map.mp hx
    exact name_okS (h.nm t ht)
  · unfold townsD Da.sz
    refine Nat.le_trans (szs_le (n := 8) fun x hx => ?_) (by rw [List.length_map]; exact Nat.le_refl _)
    obtain ⟨t, ht, rfl⟩ := List.mem_map.mp hx
    exact name_short (h.nm t ht)
theorem MapV.okSR {ts : List Str} {rs : List (Str × Str × Int)} (h : MapV ts rs) : (roadsD rs).okS ∧ (roadsD rs).sz ≤ rs.length * 30 := by
  constructor
  · unfold roadsD Da.okS
    refine okSs_all fun x hx => ?_
    obtain ⟨y, hy, rfl⟩ := List.mem_map.mp hx
    have o := h.ro y hy
    unfold roadD Da.okS
    simp only [Da.okSs, and_true]
    refine ⟨name_okS (h.nm _ o.a), name_okS (h.nm _ o.b), ?_⟩
    unfold Da.okS
    have := o.c0
    have := o.c1
    omega
  · unfold roadsD Da.sz
    refine Nat.le_trans (szs_le (n := 29) fun x hx => ?_) (by rw [List.length_map]; exact Nat.le_refl _)
    obtain ⟨y, hy, rfl⟩ := List.mem_map.mp hx
    have o := h.ro y hy
    have := name_short (h.nm _ o.a)
    have := name_short (h.nm _ o.b)
    unfold roadD Da.sz
    simp only [Da.szs, Da.sz]
    show y.1.cps.size + 1 + (y.2.1.cps.size + 1 + (0 + 1 + 0)) ≤ 29
    have e1 : y.1.length = y.1.cps.size := rfl
    have e2 : y.2.1.length = y.2.1.cps.size := rfl
    omega
theorem MapV.shw {ts : List Str} {rs : List (Str × Str × Int)} (h : MapV ts rs) : Shw (.lst [townsD ts, roadsD rs, .tup [townsD ts, roadsD rs]]) := by
  have a := h.tw.okS
  have b := h.okSR
  have n1 := h.n1
  have n2 := h.rl
  refine shw_of ?_ ?_ ?_
  · unfold Da.okS
    refine okSs_all fun x hx => ?_
    simp only [List.mem_cons, List.not_mem_nil, or_false] at hx
    rcases hx with rfl | rfl | rfl
    · exact a.1
    · exact b.1
    · unfold Da.okS
      refine okSs_all fun x hx => ?_
      simp only [List.mem_cons, List.not_mem_nil, or_false] at hx
      rcases hx with rfl | rfl
      · exact a.1
      · exact b.1
  · have e : (Da.lst [townsD ts, roadsD rs, .tup [townsD ts, roadsD rs]]).sz = (townsD ts).sz + 1 + ((roadsD rs).sz + 1 + ((townsD ts).sz + 1 + ((roadsD rs).sz + 1 + 0) + 1 + 0)) := by
      simp only [Da.sz, Da.szs]
    rw [e]
    omega
  · have d1 := dps_of (n := 0) fun d hd => (towns_okE h.nm d hd).2
    have d2 := dps_of (n := 1) fun d hd => (h.roadsE d hd).2
    have e : (Da.lst [townsD ts, roadsD rs, .tup [townsD ts, roadsD rs]]).dp = max (Da.dps (ts.map Da.str) + 1) (max (Da.dps (rs.map roadD) + 1) (max (max (Da.dps (ts.map Da.str) + 1) (max (Da.dps (rs.map roadD) + 1) 0) + 1) 0)) + 1 := by
      simp only [Da.dp, Da.dps]
    rw [e]
    omega

theorem neS {s : Str} {Q : Bool → Prop} (h : Q true) : eqQ (.str s) (.str s) Q := by
  show Q (decide (s = s))
  rw [decide_eq_true rfl]; exact h
theorem sl_dr {α : Type} {g : α → Da} {l : List α} {k : Nat} {i : Int} {Q : Da → Prop} (hi : i = (k : Int)) (hk : k ≤ l.length) (h : Q (.tup ((l.drop k).map g))) : slQ (.tup (l.map g)) (some i) none Q := by
  subst hi
  show Q (.tup (GX.cutD (l.map g) (some (k : Int)) none))
  rw [cut_drop (by omega) (by rw [List.length_map]; omega), ← List.map_drop, show ((k : Int)).toNat = k by omega]
  exact h
theorem sl_tk {α : Type} {g : α → Da} {l : List α} {k : Nat} {i : Int} {Q : Da → Prop} (hi : i = (k : Int)) (hk : k ≤ l.length) (h : Q (.tup ((l.take k).map g))) : slQ (.tup (l.map g)) none (some i) Q := by
  subst hi
  show Q (.tup (GX.cutD (l.map g) none (some (k : Int))))
  rw [cut_take (by omega) (by rw [List.length_map]; omega), ← List.map_take, show ((k : Int)).toNat = k by omega]
  exact h
theorem cut_mid {α : Type} {l : List α} {a b : Nat} (hb : b ≤ l.length) (ha : a ≤ b) : GX.cutD l (some (a : Int)) (some (b : Int)) = (l.take b).drop a := by
  have e0 : HT.sIx l.length 0 (some (a : Int)) = a := by
    show (if (a : Int) < 0 then ((a : Int) + (l.length : Int)).toNat else min (a : Int).toNat l.length) = _
    rw [if_neg (by omega)]; omega
  have e1 : HT.sIx l.length l.length (some (b : Int)) = b := by
    show (if (b : Int) < 0 then ((b : Int) + (l.length : Int)).toNat else min (b : Int).toNat l.length) = _
    rw [if_neg (by omega)]; omega
  unfold GX.cutD
  rw [e0, e1, List.drop_take]
structure Th (mg : Str → Option Value) (M x : Da) (due : Bool) : Prop where
  l : (∃ t r, x = mapD mg t r ∧ EqOk (.tup [t, r]) ∧ eqM x M = due) ∨ (decR x ∧ x.known = true)
  e : eqM M x = due
theorem th_of {mg : Str → Option Value} {ts ts2 : List Str} {rs rs2 : List (Str × Str × Int)} {d : Da} (hm : MapV ts rs) (hm2 : MapV ts2 rs2) (hne : ts2 ≠ ts ∨ rs2 ≠ rs)
    (h : d ∈ [Da.tup [mapD mg (townsD ts) (roadsD rs), .bl true], .tup [mapD mg (townsD ts) (roadsD rs), .bl true], .tup [mapD mg (townsD ts2) (roadsD rs2), .bl false], .tup [.tup [townsD ts, roadsD rs], .bl false], .tup [.non, .bl false]]) :
    ∃ x due, d = .tup [x, .bl due] ∧ Th mg (mapD mg (townsD ts) (roadsD rs)) x due := by
  simp only [List.mem_cons, List.not_mem_nil, or_false] at h
  rcases h with rfl | rfl | rfl | rfl | rfl
  · exact ⟨_, _, rfl, .inl ⟨_, _, rfl, hm.eqM, eqM_yes hm⟩, eqM_yes hm⟩
  · exact ⟨_, _, rfl, .inl ⟨_, _, rfl, hm.eqM, eqM_yes hm⟩, eqM_yes hm⟩
  · exact ⟨_, _, rfl, .inl ⟨_, _, rfl, hm2.eqM, eqM_ne (hne.imp Ne.symm Ne.symm)⟩, eqM_ne hne⟩
  · exact ⟨_, _, rfl, .inr ⟨trivial, rfl⟩, rfl⟩
  · exact ⟨_, _, rfl, .inr ⟨trivial, rfl⟩, rfl⟩
theorem shw4 {a b c d : Bool} : Shw (.lst [.bl a, .bl b, .bl c, .bl d]) := shw_of (by simp only [Da.okS, Da.okSs, and_true]) (Nat.le_of_ble_eq_true rfl) (Nat.le_of_ble_eq_true rfl)
@[reducible] def q__law_right : Fd := fun ds q _ => as0 ds (q (.bl true))
theorem ok__law_right (T : Txt K mg base Tq) : Cal P w K mg base "_law_right" "_law_right" s__law_right 13 ["urn"] (SpO K Tq PailOk q__law_right) := by
  refine calO T.d__law_right sc__law_right (fun _ _ _ _ _ _ us hl => match us, hl with | [_], _ => rfl) (fun ds q er h => congrArg (· + 1) (as0_len h)) fun cdv hcd F0 H0 pa ds q er h => ?_
  obtain ⟨rfl, h⟩ := as0_ h
  refine eb_cons (es_for ?_)
  refine ei_range1 rfl T.m_range ?_
  refine ev_int ?_
  refine ⟨⟨by omega, by omega⟩, ?_⟩
  refine forG_inv (fun _ Γ => ∃ (s1 s2 s3 s4 s5 s6 s7 s8 s9 s10 s11 s12 s13 s14 s15 s16 s17 s18 : Slot), Γ = [.inv pa PailOk, s1, s2, s3, s4, s5, s6, s7, s8, s9, s10, s11, s12, s13, s14, s15, s16, s17, s18]) ⟨_, _, _, _, _, _, _, _, _, _, _, _, _, _, _, _, _, _, rfl⟩ ?_ ?_
  · rintro i d Γ k hd ⟨s1, s2, s3, s4, s5, s6, s7, s8, s9, s10, s11, s12, s13, s14, s15, s16, s17, s18, rfl⟩ hk
    refine eg_name (i := 1) rfl (.inl rfl) ?_
    refine eb_cons (es_asg ?_)
    refine ev_callO (i := 0) (ok__law_map T) (Nat.le_of_ble_eq_true rfl) rfl (ops1 0 rfl rfl) rfl (.inl rfl) rfl ?_
    refine ea_cons ?_
    refine ev_callO (i := 0) (ok__law_of T) (Nat.le_of_ble_eq_true rfl) rfl (ops1 0 rfl rfl) rfl (.inl rfl) rfl ?_
    refine ea_cons ?_
    refine ev_lst ?_
    refine ea_cons ?_
    refine ev_int ?_
    refine ea_cons ?_
    refine ev_int ?_
    refine ea_cons ?_
    refine ev_int ?_
    refine ea_nil ⟨Nat.le_of_ble_eq_true rfl, ?_⟩
    refine ea_nil ?_
    refine anyI 3 12 (by simp only [allI, and_true]; omega) (fun many m0 m1 => ?_)
    refine ea_cons ?_
    refine ev_callO (i := 0) (ok__law_of T) (Nat.le_of_ble_eq_true rfl) rfl (ops1 0 rfl rfl) rfl (.inl rfl) rfl ?_
    refine ea_cons ?_
    refine ev_lst ?_
    refine ea_cons ?_
    refine ev_int ?_
    refine ea_cons ?_
    refine ev_int ?_
    refine ea_nil ⟨Nat.le_of_ble_eq_true rfl, ?_⟩
    refine ea_nil ?_
    refine anyI 3 9 (by simp only [allI, and_true]; omega) (fun dens d0 d1 => ?_)
    refine ea_nil ?_
    refine ⟨⟨by omega, by omega⟩, fun ts rs hm hml => ?_⟩
    have gT := hm.tw.good hm.n0 hm.n1
    have gR := hm.rw.good hm.rl
    refine eg_tup ?_
    refine egs_cons ?_
    refine eg_name (i := 2) rfl (.inl rfl) ?_
    refine egs_cons ?_
    refine eg_name (i := 3) rfl (.inl rfl) ?_
    refine egs_nil ?_
    refine eb_cons (es_par3 (i := 4) (j := 5) (l := 6) rfl rfl rfl (by decide) (by decide) (by decide) rfl rfl rfl (fun env h => by cases env; cases h; rfl) ?_)
    refine ev_make (in_Map T) (Nat.le_of_ble_eq_true rfl) rfl (ops1 0 rfl rfl) ?_
    refine ea_cons ?_
    refine ev_var (i := 2) rfl (.inl rfl) rfl ?_
    refine ea_cons ?_
    refine ev_var (i := 3) rfl (.inl rfl) rfl ?_
    refine ea_nil ?_
    refine ⟨hm.tw.rd, rdR_roads, .inr ⟨gT, .inr ⟨gR, ?_⟩⟩⟩
    refine ev_makeK0 (pm := [1, 0]) (ks := ["roads", "towns"]) (in_Map T) (fun _ _ _ _ _ _ us ws h1 h2 => match us, ws, h1, h2 with | [_], [_, _], _, _ => rfl) (Nat.le_of_ble_eq_true rfl) rfl (ops1 0 rfl rfl) ?_
    refine ek_cons ?_
    refine ev_var (i := 3) rfl (.inl rfl) rfl ?_
    refine ek_cons ?_
    refine ev_var (i := 2) rfl (.inl rfl) rfl ?_
    refine ek_nil ?_
    refine ⟨rfl, ?_⟩
    refine ⟨hm.tw.rd, rdR_roads, .inr ⟨gT, .inr ⟨gR, ?_⟩⟩⟩
    refine ev_callO (i := 0) (ok__law_bent T) (Nat.le_of_ble_eq_true rfl) rfl (ops1 0 rfl rfl) rfl (.inl rfl) rfl ?_
    refine ea_cons ?_
    refine ev_tup ?_
    refine ea_cons ?_
    refine ev_var (i := 2) rfl (.inl rfl) rfl ?_
    refine ea_cons ?_
    refine ev_var (i := 3) rfl (.inl rfl) rfl ?_
    refine ea_nil ⟨Nat.le_of_ble_eq_true rfl, ?_⟩
    refine ea_nil ?_
    refine ⟨ts, rs, rfl, hm, fun ts2 rs2 hm2 hne => ?_⟩
    refine eb_cons (es_for ?_)
    refine ei_tup ?_
    refine ev_tup ?_
    refine ea_cons ?_
    refine ev_var (i := 4) rfl (.inl rfl) rfl ?_
    refine ea_cons ?_
    refine ev_var (i := 5) rfl (.inl rfl) rfl ?_
    refine ea_nil ⟨Nat.le_of_ble_eq_true rfl, ?_⟩
    obtain ⟨M, hM⟩ : ∃ M, M = mapD mg (townsD ts) (roadsD rs) := ⟨_, rfl⟩
    obtain ⟨O, hO⟩ : ∃ O, O = Da.tup [townsD ts2, roadsD rs2] := ⟨_, rfl⟩
    rw [← hO]
    refine forG_inv (fun _ Γ => ∃ (s1 s7 s8 s9 s10 s11 s12 s13 s14 s15 s16 s17 s18 : Slot), Γ = [.inv pa PailOk, s1, .dat (townsD ts), .dat (roadsD rs), .dat (mapD mg (townsD ts) (roadsD rs)), .dat (mapD mg (townsD ts) (roadsD rs)), .dat O, s7, s8, s9, s10, s11, s12, s13, s14, s15, s16, s17, s18]) ⟨_, _, _, _, _, _, _, _, _, _, _, _, _, rfl⟩ ?_ ?_
    · rintro i d Γ k hd ⟨s1, s7, s8, s9, s10, s11, s12, s13, s14, s15, s16, s17, s18, rfl⟩ hk
      obtain rfl : d = mapD mg (townsD ts) (roadsD rs) := by
        have := List.mem_of_getElem? hd
        simp only [List.mem_cons, List.not_mem_nil, or_false, or_self] at this
        exact this
      refine eg_name (i := 7) rfl (.inr rfl) ?_
      refine eb_cons (es_if ?_)
      refine et_w ?_
      refine ew_or ?_
      refine et_cmp g_ne ?_
      refine ev_callB c_repr rfl T.m_repr bt_repr ?_
      refine ea_cons ?_
      refine ev_lst ?_
      refine ea_cons ?_
      refine ev_prop (pr_Map_towns T) (Nat.le_of_ble_eq_true rfl) ?_
      refine ev_var (i := 7) rfl (.inr (.inl rfl)) rfl ?_
      refine ⟨_, rfl, ?_⟩
      refine ⟨_, _, rfl, ?_⟩
      refine ea_cons ?_
      refine ev_prop (pr_Map_roads T) (Nat.le_of_ble_eq_true rfl) ?_
      refine ev_var (i := 7) rfl (.inr (.inl rfl)) rfl ?_
      refine ⟨_, rfl, ?_⟩
      refine ⟨_, _, rfl, ?_⟩
      refine ea_cons ?_
      refine ev_prop (pr_Map_parts T) (Nat.le_of_ble_eq_true rfl) ?_
      refine ev_var (i := 7) rfl (.inr (.inl rfl)) rfl ?_
      refine ⟨_, rfl, ?_⟩
      refine ⟨_, _, rfl, ?_⟩
      refine ea_nil ⟨Nat.le_of_ble_eq_true rfl, ?_⟩
      refine ea_nil ?_
      refine ⟨hm.toMapV.shw, ?_⟩
      refine ev_callB c_repr rfl T.m_repr bt_repr ?_
      refine ea_cons ?_
      refine ev_lst ?_
      refine ea_cons ?_
      refine ev_var (i := 2) rfl (.inl rfl) rfl ?_
      refine ea_cons ?_
      refine ev_var (i := 3) rfl (.inl rfl) rfl ?_
      refine ea_cons ?_
      refine ev_tup ?_
      refine ea_cons ?_
      refine ev_var (i := 2) rfl (.inl rfl) rfl ?_
      refine ea_cons ?_
      refine ev_var (i := 3) rfl (.inl rfl) rfl ?_
      refine ea_nil ⟨Nat.le_of_ble_eq_true rfl, ?_⟩
      refine ea_nil ⟨Nat.le_of_ble_eq_true rfl, ?_⟩
      refine ea_nil ?_
      have hs := hm.toMapV.shw
      generalize Da.lst [townsD ts, roadsD rs, .tup [townsD ts, roadsD rs]] = dd at hs ⊢
      refine ⟨hs, ?_⟩
      refine neS ?_
      refine ew_or1 ?_
      refine et_not ?_
      refine et_ins T.k_Map.tru ?_
      refine ev_var (i := 7) rfl (.inr (.inl rfl)) rfl ?_
      refine ⟨_, rfl, ?_⟩
      refine eb_nil ?_
      refine eb_nil ?_
      exact hk _ ⟨_, _, _, _, _, _, _, _, _, _, _, _, _, rfl⟩
    rintro Γ ⟨s1, s7, s8, s9, s10, s11, s12, s13, s14, s15, s16, s17, s18, rfl⟩
    subst hO
    refine eb_cons (es_set (i := 8) rfl (.inl rfl) ?_)
    refine ev_make (in_Map T) (Nat.le_of_ble_eq_true rfl) rfl (ops1 0 rfl rfl) ?_
    refine ea_cons ?_
    refine ev_ix ?_
    refine ev_var (i := 6) rfl (.inl rfl) rfl ?_
    refine ev_int ?_
    refine ⟨_, rfl, ?_⟩
    refine ea_cons ?_
    refine ev_ix ?_
    refine ev_var (i := 6) rfl (.inl rfl) rfl ?_
    refine ev_int ?_
    refine ⟨_, rfl, ?_⟩
    refine ea_nil ?_
    refine ⟨hm2.tw.rd, rdR_roads, .inr ⟨hm2.tw.good hm2.n0 hm2.n1, .inr ⟨hm2.rw.good hm2.rl, ?_⟩⟩⟩
    have e1 := hm.toMapV.eqM
    refine eb_cons (es_for ?_)
    refine ei_tup ?_
    refine ev_tup ?_
    refine ea_cons ?_
    refine ev_tup ?_
    refine ea_cons ?_
    refine ev_var (i := 5) rfl (.inl rfl) rfl ?_
    refine ea_cons ?_
    refine ev_bl ?_
    refine ea_nil ⟨Nat.le_of_ble_eq_true rfl, ?_⟩
    refine ea_cons ?_
    refine ev_tup ?_
    refine ea_cons ?_
    refine ev_var (i := 4) rfl (.inl rfl) rfl ?_
    refine ea_cons ?_
    refine ev_bl ?_
    refine ea_nil ⟨Nat.le_of_ble_eq_true rfl, ?_⟩
    refine ea_cons ?_
    refine ev_tup ?_
    refine ea_cons ?_
    refine ev_var (i := 8) rfl (.inl rfl) rfl ?_
    refine ea_cons ?_
    refine ev_bl ?_
    refine ea_nil ⟨Nat.le_of_ble_eq_true rfl, ?_⟩
    refine ea_cons ?_
    refine ev_tup ?_
    refine ea_cons ?_
    refine ev_tup ?_
    refine ea_cons ?_
    refine ev_var (i := 2) rfl (.inl rfl) rfl ?_
    refine ea_cons ?_
    refine ev_var (i := 3) rfl (.inl rfl) rfl ?_
    refine ea_nil ⟨Nat.le_of_ble_eq_true rfl, ?_⟩
    refine ea_cons ?_
    refine ev_bl ?_
    refine ea_nil ⟨Nat.le_of_ble_eq_true rfl, ?_⟩
    refine ea_cons ?_
    refine ev_tup ?_
    refine ea_cons ?_
    refine ev_non ?_
    refine ea_cons ?_
    refine ev_bl ?_
    refine ea_nil ⟨Nat.le_of_ble_eq_true rfl, ?_⟩
    refine ea_nil ⟨Nat.le_of_ble_eq_true rfl, ?_⟩
    show forG _ [Da.tup [mapD mg (townsD ts) (roadsD rs), .bl true], .tup [mapD mg (townsD ts) (roadsD rs), .bl true], .tup [mapD mg (townsD ts2) (roadsD rs2), .bl false], .tup [.tup [townsD ts, roadsD rs], .bl false], .tup [.non, .bl false]] _ _
    refine forG_inv (fun _ Γ => ∃ (s1 s7 s9 s10 s11 s12 s13 s14 s15 s16 s17 s18 : Slot), Γ = [.inv pa PailOk, s1, .dat (townsD ts), .dat (roadsD rs), .dat (mapD mg (townsD ts) (roadsD rs)), .dat (mapD mg (townsD ts) (roadsD rs)), .dat (.tup [townsD ts2, roadsD rs2]), s7, .dat (mapD mg (townsD ts2) (roadsD rs2)), s9, s10, s11, s12, s13, s14, s15, s16, s17, s18]) ⟨_, _, _, _, _, _, _, _, _, _, _, _, rfl⟩ ?_ ?_
    · rintro i d Γ k hd ⟨s1, s7, s9, s10, s11, s12, s13, s14, s15, s16, s17, s18, rfl⟩ hk
      obtain ⟨x, due, rfl, hx⟩ := th_of hm.toMapV hm2 hne (List.mem_of_getElem? hd)
      rcases hx.l with ⟨t, r, rfl, e3, e4⟩ | ⟨hdc, hkn⟩
      · refine eg_tup ?_
        refine egs_cons ?_
        refine eg_name (i := 9) rfl (.inl rfl) ?_
        refine egs_cons ?_
        refine eg_name (i := 10) rfl (.inl rfl) ?_
        refine egs_nil ?_
        refine eb_cons (es_if ?_)
        refine et_cmp g_ne ?_
        refine ev_callB c_repr rfl T.m_repr bt_repr ?_
        refine ea_cons ?_
        refine ev_lst ?_
        refine ea_cons ?_
        refine ev_cmp ((g_eqI (eq_Map T) (Nat.le_of_ble_eq_true rfl)).or (g_eqR (eq_Map T) (Nat.le_of_ble_eq_true rfl))) ?_
        refine ev_var (i := 4) rfl (.inl rfl) rfl ?_
        refine ev_var (i := 9) rfl (.inl rfl) rfl ?_
        refine .inl ⟨_, rfl, rfl, ⟨_, _, rfl, e1⟩, .inl ⟨_, _, rfl, e3⟩, ?_⟩
        rw [hx.e]
        refine ea_cons ?_
        refine ev_cmp ((g_eqI (eq_Map T) (Nat.le_of_ble_eq_true rfl)).or (g_eqR (eq_Map T) (Nat.le_of_ble_eq_true rfl))) ?_
        refine ev_var (i := 9) rfl (.inl rfl) rfl ?_
        refine ev_var (i := 4) rfl (.inl rfl) rfl ?_
        refine .inl ⟨_, rfl, rfl, ⟨_, _, rfl, e3⟩, .inl ⟨_, _, rfl, e1⟩, ?_⟩
        rw [e4]
        refine ea_cons ?_
        refine ev_cmp ((g_neI (eq_Map T) (Nat.le_of_ble_eq_true rfl)).or (g_neR (eq_Map T) (Nat.le_of_ble_eq_true rfl))) ?_
        refine ev_var (i := 4) rfl (.inl rfl) rfl ?_
        refine ev_var (i := 9) rfl (.inl rfl) rfl ?_
        refine .inl ⟨_, rfl, rfl, ⟨_, _, rfl, e1⟩, .inl ⟨_, _, rfl, e3⟩, ?_⟩
        rw [hx.e]
        refine ea_cons ?_
        refine ev_cmp ((g_neI (eq_Map T) (Nat.le_of_ble_eq_true rfl)).or (g_neR (eq_Map T) (Nat.le_of_ble_eq_true rfl))) ?_
        refine ev_var (i := 9) rfl (.inl rfl) rfl ?_
        refine ev_var (i := 4) rfl (.inl rfl) rfl ?_
        refine .inl ⟨_, rfl, rfl, ⟨_, _, rfl, e3⟩, .inl ⟨_, _, rfl, e1⟩, ?_⟩
        rw [e4]
        refine ea_nil ⟨Nat.le_of_ble_eq_true rfl, ?_⟩
        refine ea_nil ?_
        refine ⟨shw4, ?_⟩
        refine ev_callB c_repr rfl T.m_repr bt_repr ?_
        refine ea_cons ?_
        refine ev_lst ?_
        refine ea_cons ?_
        refine ev_var (i := 10) rfl (.inl rfl) rfl ?_
        refine ea_cons ?_
        refine ev_var (i := 10) rfl (.inl rfl) rfl ?_
        refine ea_cons ?_
        refine ev_not ?_
        refine ev_var (i := 10) rfl (.inl rfl) rfl ?_
        refine ea_cons ?_
        refine ev_not ?_
        refine ev_var (i := 10) rfl (.inl rfl) rfl ?_
        refine ea_nil ⟨Nat.le_of_ble_eq_true rfl, ?_⟩
        refine ea_nil ?_
        have hs := shw4 (a := due) (b := due) (c := !due) (d := !due)
        generalize Da.lst [.bl due, .bl due, .bl !due, .bl !due] = dd at hs ⊢
        refine ⟨hs, ?_⟩
        refine neS ?_
        refine eb_nil ?_
        refine eb_nil ?_
        exact hk _ ⟨_, _, _, _, _, _, _, _, _, _, _, _, rfl⟩
      have hkx : kinC (cA mg "Map") x := by cases x <;> first | exact hkn | exact nomatch hdc
      · refine eg_tup ?_
        refine egs_cons ?_
        refine eg_name (i := 9) rfl (.inl rfl) ?_
        refine egs_cons ?_
        refine eg_name (i := 10) rfl (.inl rfl) ?_
        refine egs_nil ?_
        refine eb_cons (es_if ?_)
        refine et_cmp g_ne ?_
        refine ev_callB c_repr rfl T.m_repr bt_repr ?_
        refine ea_cons ?_
        refine ev_lst ?_
        refine ea_cons ?_
        refine ev_cmp ((g_eqI (eq_Map T) (Nat.le_of_ble_eq_true rfl)).or (g_eqR (eq_Map T) (Nat.le_of_ble_eq_true rfl))) ?_
        refine ev_var (i := 4) rfl (.inl rfl) rfl ?_
        refine ev_var (i := 9) rfl (.inl rfl) rfl ?_
        refine .inl ⟨_, rfl, hkx, ⟨_, _, rfl, e1⟩, .inr hkn, ?_⟩
        rw [hx.e]
        refine ea_cons ?_
        refine ev_cmp ((g_eqI (eq_Map T) (Nat.le_of_ble_eq_true rfl)).or (g_eqR (eq_Map T) (Nat.le_of_ble_eq_true rfl))) ?_
        refine ev_var (i := 9) rfl (.inl rfl) rfl ?_
        refine ev_var (i := 4) rfl (.inl rfl) rfl ?_
        refine .inr ⟨_, rfl, hdc, ⟨_, _, rfl, e1⟩, .inr hkn, ?_⟩
        rw [hx.e]
        refine ea_cons ?_
        refine ev_cmp ((g_neI (eq_Map T) (Nat.le_of_ble_eq_true rfl)).or (g_neR (eq_Map T) (Nat.le_of_ble_eq_true rfl))) ?_
        refine ev_var (i := 4) rfl (.inl rfl) rfl ?_
        refine ev_var (i := 9) rfl (.inl rfl) rfl ?_
        refine .inl ⟨_, rfl, hkx, ⟨_, _, rfl, e1⟩, .inr hkn, ?_⟩
        rw [hx.e]
        refine ea_cons ?_
        refine ev_cmp ((g_neI (eq_Map T) (Nat.le_of_ble_eq_true rfl)).or (g_neR (eq_Map T) (Nat.le_of_ble_eq_true rfl))) ?_
        refine ev_var (i := 9) rfl (.inl rfl) rfl ?_
        refine ev_var (i := 4) rfl (.inl rfl) rfl ?_
        refine .inr ⟨_, rfl, hdc, ⟨_, _, rfl, e1⟩, .inr hkn, ?_⟩
        rw [hx.e]
        refine ea_nil ⟨Nat.le_of_ble_eq_true rfl, ?_⟩
        refine ea_nil ?_
        refine ⟨shw4, ?_⟩
        refine ev_callB c_repr rfl T.m_repr bt_repr ?_
        refine ea_cons ?_
        refine ev_lst ?_
        refine ea_cons ?_
        refine ev_var (i := 10) rfl (.inl rfl) rfl ?_
        refine ea_cons ?_
        refine ev_var (i := 10) rfl (.inl rfl) rfl ?_
        refine ea_cons ?_
        refine ev_not ?_
        refine ev_var (i := 10) rfl (.inl rfl) rfl ?_
        refine ea_cons ?_
        refine ev_not ?_
        refine ev_var (i := 10) rfl (.inl rfl) rfl ?_
        refine ea_nil ⟨Nat.le_of_ble_eq_true rfl, ?_⟩
        refine ea_nil ?_
        have hs := shw4 (a := due) (b := due) (c := !due) (d := !due)
        generalize Da.lst [.bl due, .bl due, .bl !due, .bl !due] = dd at hs ⊢
        refine ⟨hs, ?_⟩
        refine neS ?_
        refine eb_nil ?_
        refine eb_nil ?_
        exact hk _ ⟨_, _, _, _, _, _, _, _, _, _, _, _, rfl⟩
    rintro Γ ⟨s1, s7, s9, s10, s11, s12, s13, s14, s15, s16, s17, s18, rfl⟩
    refine eb_cons (es_par (i := 11) (j := 12) rfl rfl (by decide) rfl rfl (by decide) (fun env h => by cases env; cases h; rfl) ?_)
    refine ev_callO (i := 0) (ok__law_of T) (Nat.le_of_ble_eq_true rfl) rfl (ops1 0 rfl rfl) rfl (.inl rfl) rfl ?_
    refine ea_cons ?_
    refine ev_lst ?_
    refine ea_cons ?_
    refine ev_non ?_
    refine ea_cons ?_
    refine ev_lst ?_
    refine ea_nil ⟨Nat.le_of_ble_eq_true rfl, ?_⟩
    refine ea_cons ?_
    refine ev_str ?_
    refine ea_cons ?_
    refine ev_int ?_
    refine ea_cons ?_
    refine EvD.ev ?_
    refine evd_new ?_
    refine ea_cons ?_
    refine ev_bl ?_
    refine ea_nil ⟨Nat.le_of_ble_eq_true rfl, ?_⟩
    refine ea_nil ?_
    refine ⟨_, .inl rfl, by exact Nat.le_of_ble_eq_true rfl, by exact Nat.le_of_ble_eq_true rfl, fun v hv => ?_⟩
    have hv := nonP hv
    have hl1 : (ts.map Da.str).length = ts.length := List.length_map ..
    have n0 := hm.n0
    have n1 := hm.n1
    refine ev_callO (i := 0) (ok__law_take T) (Nat.le_of_ble_eq_true rfl) rfl (ops1 0 rfl rfl) rfl (.inl rfl) rfl ?_
    refine ea_cons ?_
    refine ev_callB c_lenD rfl T.m_len bt_len ?_
    refine ea_cons ?_
    refine ev_var (i := 2) rfl (.inl rfl) rfl ?_
    refine ea_nil ?_
    refine ea_nil ?_
    refine ⟨by omega, by omega, fun r hr0 hr1 => ?_⟩
    obtain ⟨n, rfl⟩ : ∃ n : Nat, r = (n : Int) := ⟨r.toNat, by omega⟩
    have hn : n < ts.length := by omega
    refine eb_cons (EvS.cut (fun Γ' => ∃ nm, Γ' = [.inv pa PailOk, s1, .dat (townsD ts), .dat (roadsD rs), .dat (mapD mg (townsD ts) (roadsD rs)), .dat (mapD mg (townsD ts) (roadsD rs)), .dat (.tup [townsD ts2, roadsD rs2]), s7, .dat (mapD mg (townsD ts2) (roadsD rs2)), s9, s10, .dat v, .dat (.int n), .dat nm, s14, s15, s16, s17, s18] ∧ NmP ts n nm) ?_ ?_)
    · refine es_set (i := 13) rfl (.inl rfl) ?_
      refine ev_callO (i := 0) (ok__law_of T) (Nat.le_of_ble_eq_true rfl) rfl (ops1 0 rfl rfl) rfl (.inl rfl) rfl ?_
      refine ea_cons ?_
      refine ev_op g_addD ?_
      refine ev_op g_mulD ?_
      refine ev_lst ?_
      refine ea_cons ?_
      refine ev_callO (i := 0) (ok__law_no_name T) (Nat.le_of_ble_eq_true rfl) rfl (ops1 0 rfl rfl) rfl (.inl rfl) rfl ?_
      refine ea_nil ?_
      intro nx hnx
      refine ea_nil ⟨Nat.le_of_ble_eq_true rfl, ?_⟩
      refine ev_int ?_
      refine ⟨⟨by decide, by decide, Nat.le_of_ble_eq_true rfl⟩, ?_⟩
      refine ev_ifx ?_
      refine et_cmp g_gt ?_
      refine ev_var (i := 12) rfl (.inl rfl) rfl ?_
      refine ev_int ?_
      refine cond_dec (fun c => ?_) (fun c => ?_)
      · obtain ⟨j, rfl⟩ : ∃ j, n = j + 1 := ⟨n - 1, by omega⟩
        obtain ⟨u, hu⟩ : ∃ u, ts[j]? = some u := ⟨_, List.getElem?_eq_getElem (by omega)⟩
        have hun := hm.nm u (List.mem_of_getElem? hu)
        have hul := name_short hun
        have hya : atI (ts.map Da.str) (((j + 1 : Nat) : Int) - 1) = some (.str u) := by
          rw [show (((j + 1 : Nat) : Int) - 1) = (j : Int) by omega]
          exact atG_n (by rw [List.getElem?_map, hu]; rfl)
        refine ev_lst ?_
        refine ea_cons ?_
        refine ev_ix ?_
        refine ev_var (i := 2) rfl (.inl rfl) rfl ?_
        refine ev_op g_sub ?_
        refine ev_var (i := 12) rfl (.inl rfl) rfl ?_
        refine ev_int ?_
        refine ⟨_, hya, ?_⟩
        refine ea_cons ?_
        refine ev_sl ?_
        refine ev_ix ?_
        refine ev_var (i := 2) rfl (.inl rfl) rfl ?_
        refine ev_op g_sub ?_
        refine ev_var (i := 12) rfl (.inl rfl) rfl ?_
        refine ev_int ?_
        refine ⟨_, hya, ?_⟩
        refine eo_none ?_
        refine eo_some ?_
        refine ev_neg ?_
        refine ev_int ?_
        refine ⟨by omega, ?_⟩
        refine ea_nil ⟨Nat.le_of_ble_eq_true rfl, ?_⟩
        refine ⟨Nat.le_of_ble_eq_true rfl, ?_⟩
        refine ea_nil ?_
        refine ⟨_, .inl rfl, by exact Nat.le_of_ble_eq_true rfl, by exact Nat.le_of_ble_eq_true rfl, fun d hd => ?_⟩
        refine ⟨_, rfl, ?_⟩
        have hd : d ∈ [nx, nx, .str u, .str (cutS u none (some (-1)))] := hd
        simp only [List.mem_cons, List.not_mem_nil, or_false] at hd
        rcases hd with rfl | rfl | rfl | rfl
        · exact nm_no hnx
        · exact nm_no hnx
        · exact nm_prev hun hu
        · exact nm_pre hun hu
      · refine ev_lst ?_
        refine ea_nil ⟨Nat.le_of_ble_eq_true rfl, ?_⟩
        refine ⟨Nat.le_of_ble_eq_true rfl, ?_⟩
        refine ea_nil ?_
        refine ⟨_, .inl rfl, by exact Nat.le_of_ble_eq_true rfl, by exact Nat.le_of_ble_eq_true rfl, fun d hd => ?_⟩
        refine ⟨_, rfl, ?_⟩
        have hd : d ∈ [nx, nx] := hd
        simp only [List.mem_cons, List.not_mem_nil, or_false, or_self] at hd
        subst hd
        exact nm_no hnx
    rintro Γ' ⟨nm, rfl, hnm⟩
    refine eb_cons (es_own (i := 14) rfl (.inl rfl) ?_)
    refine en_lst ?_
    refine ea_cons ?_
    refine ev_callO (i := 0) (ok__law_call T) (Nat.le_of_ble_eq_true rfl) rfl (ops1 0 rfl rfl) rfl (.inl rfl) rfl ?_
    refine ea_cons ?_
    refine ev_op g_addD ?_
    refine ev_op g_addD ?_
    refine ev_sl ?_
    refine ev_var (i := 2) rfl (.inl rfl) rfl ?_
    refine eo_none ?_
    refine eo_some ?_
    refine ev_var (i := 12) rfl (.inl rfl) rfl ?_
    refine ev_tup ?_
    refine ea_cons ?_
    refine ev_var (i := 13) rfl (.inl rfl) rfl ?_
    refine ea_nil ⟨Nat.le_of_ble_eq_true rfl, ?_⟩
    rw [cut_take (by omega) (by rw [List.length_map]; omega), ← List.map_take, show ((n : Int)).toNat = n by omega]
    have hl2 : ((ts.take n).map Da.str).length = n := by rw [List.length_map, List.length_take]; omega
    have hl3 : ((ts.drop (n + 1)).map Da.str).length ≤ 12 := by rw [List.length_map, List.length_drop]; omega
    refine ⟨by rw [hl2, List.length_singleton]; omega, ?_⟩
    refine ev_sl ?_
    refine ev_var (i := 2) rfl (.inl rfl) rfl ?_
    refine eo_some ?_
    refine ev_op g_addD ?_
    refine ev_var (i := 12) rfl (.inl rfl) rfl ?_
    refine ev_int ?_
    refine eo_none ?_
    refine sl_dr (k := n + 1) (by omega) (by omega) ?_
    refine ⟨by rw [List.length_append, hl2, List.length_singleton]; omega, ?_⟩
    refine ea_cons ?_
    refine ev_callO (i := 0) (ok__law_of T) (Nat.le_of_ble_eq_true rfl) rfl (ops1 0 rfl rfl) rfl (.inl rfl) rfl ?_
    refine ea_cons ?_
    refine ev_lst ?_
    refine ea_cons ?_
    refine ev_var (i := 3) rfl (.inl rfl) rfl ?_
    refine ea_cons ?_
    refine ev_var (i := 11) rfl (.inl rfl) rfl ?_
    refine ea_nil ⟨Nat.le_of_ble_eq_true rfl, ?_⟩
    refine ea_nil ?_
    refine ⟨_, .inl rfl, by exact Nat.le_of_ble_eq_true rfl, by exact Nat.le_of_ble_eq_true rfl, fun rx hrx => ?_⟩
    have hrx : RdR rx := by
      simp only [List.mem_cons, List.not_mem_nil, or_false] at hrx
      rcases hrx with rfl | rfl
      · exact rdR_roads
      · exact hv.r
    refine ea_nil ?_
    refine ⟨hm.tw.rdb hnm, hrx, ?_⟩
    rw [hrd_t (hm.tw.bad hn (by omega) hnm.p)]
    refine ea_nil ⟨Nat.le_of_ble_eq_true rfl, ?_⟩
    intro A_told hA_told
    refine eb_freeze (i := 14) rfl hA_told (fun ds_told h_told => ?_)
    refine eb_cons (es_own (i := 14) rfl (.inl rfl) ?_)
    refine en_add ?_
    refine ev_var (i := 14) rfl (.inl rfl) rfl ?_
    refine ev_lst ?_
    refine ea_cons ?_
    refine ev_callO (i := 0) (ok__law_call T) (Nat.le_of_ble_eq_true rfl) rfl (ops1 0 rfl rfl) rfl (.inl rfl) rfl ?_
    refine ea_cons ?_
    refine ev_var (i := 11) rfl (.inl rfl) rfl ?_
    refine ea_cons ?_
    refine ev_var (i := 11) rfl (.inl rfl) rfl ?_
    refine ea_nil ?_
    subst h_told
    refine ⟨hv.t, hv.r, ?_⟩
    rw [hrd_t hv.wt]
    refine ea_cons ?_
    refine ev_callO (i := 0) (ok__law_call T) (Nat.le_of_ble_eq_true rfl) rfl (ops1 0 rfl rfl) rfl (.inl rfl) rfl ?_
    refine ea_cons ?_
    refine ev_tup ?_
    refine ea_nil ⟨Nat.le_of_ble_eq_true rfl, ?_⟩
    refine ea_cons ?_
    refine ev_var (i := 3) rfl (.inl rfl) rfl ?_
    refine ea_nil ?_
    refine ⟨rdT_0, rdR_roads, ?_⟩
    rw [hrd_t (show wrT (.tup []) = [.non] from rfl)]
    refine ea_cons ?_
    refine ev_callO (i := 0) (ok__law_call T) (Nat.le_of_ble_eq_true rfl) rfl (ops1 0 rfl rfl) rfl (.inl rfl) rfl ?_
    refine ea_cons ?_
    refine ev_var (i := 2) rfl (.inl rfl) rfl ?_
    refine ea_cons ?_
    refine ev_var (i := 11) rfl (.inl rfl) rfl ?_
    refine ea_nil ?_
    refine ⟨hm.tw.rd, hv.r, ?_⟩
    rw [hrd_r gT (hv.wr _)]
    refine ea_nil ⟨Nat.le_of_ble_eq_true rfl, ?_⟩
    refine ⟨_, _, rfl, rfl, by exact Nat.le_of_ble_eq_true rfl, ?_⟩
    intro A_told hA_told
    obtain ⟨tx, htx⟩ : ∃ tx, tx = [Da.lst [.str "towns", .int n], .lst [.str "towns", .non], .lst [.str "towns", .non], .lst [.str "roads", .non], .lst [.str "roads", .non]] := ⟨_, rfl⟩
    refine eb_cons (es_exprC ?_)
    refine ec_append (i := 14) (I' := (fun ys => ys = tx)) rfl (.inl rfl) rfl ?_
    refine EvC.of ?_
    refine ev_callO (i := 0) (ok__law_call T) (Nat.le_of_ble_eq_true rfl) rfl (ops1 0 rfl rfl) rfl (.inl rfl) rfl ?_
    refine ea_cons ?_
    refine ev_var (i := 2) rfl (.inl rfl) rfl ?_
    refine ea_cons ?_
    refine EvN.ev ?_
    refine en_list rfl T.m_list ?_
    refine ev_var (i := 3) rfl (.inl rfl) rfl ?_
    refine ea_nil ?_
    refine ⟨hm.tw.rd, rdR_lst, ?_⟩
    rw [hrd_r gT (show wrR _ (.lst _) = [.non] from rfl)]
    refine ⟨_, rfl, fun ds hds => ⟨by rw [hds]; exact Nat.le_of_ble_eq_true rfl, by rw [hds, htx]; rfl⟩, ?_⟩
    refine eb_freeze (i := 14) rfl hA_told (fun ds_told h_told => ?_)
    refine eb_cons (es_if ?_)
    refine et_cmp g_ne ?_
    refine ev_callB c_repr rfl T.m_repr bt_repr ?_
    refine ea_cons ?_
    refine ev_var (i := 14) rfl (.inl rfl) rfl ?_
    refine ea_nil ?_
    have hs : Shw (.lst tx) := by
      rw [htx]
      exact shw_of (by simp only [Da.okS, Da.okSs, and_true, true_and]; exact ⟨⟨by decide +kernel, by omega⟩, by decide +kernel, by decide +kernel, by decide +kernel, by decide +kernel⟩) (by simp only [Da.sz, Da.szs]; decide +kernel) (by simp only [Da.dp, Da.dps]; decide)
    subst h_told
    refine ⟨hs, ?_⟩
    refine ev_callB c_repr rfl T.m_repr bt_repr ?_
    refine ea_cons ?_
    refine ev_lst ?_
    refine ea_cons ?_
    refine ev_lst ?_
    refine ea_cons ?_
    refine ev_str ?_
    refine ea_cons ?_
    refine ev_var (i := 12) rfl (.inl rfl) rfl ?_
    refine ea_nil ⟨Nat.le_of_ble_eq_true rfl, ?_⟩
    refine ea_cons ?_
    refine ev_lst ?_
    refine ea_cons ?_
    refine ev_str ?_
    refine ea_cons ?_
    refine ev_non ?_
    refine ea_nil ⟨Nat.le_of_ble_eq_true rfl, ?_⟩
    refine ea_cons ?_
    refine ev_lst ?_
    refine ea_cons ?_
    refine ev_str ?_
    refine ea_cons ?_
    refine ev_non ?_
    refine ea_nil ⟨Nat.le_of_ble_eq_true rfl, ?_⟩
    refine ea_cons ?_
    refine ev_lst ?_
    refine ea_cons ?_
    refine ev_str ?_
    refine ea_cons ?_
    refine ev_non ?_
    refine ea_nil ⟨Nat.le_of_ble_eq_true rfl, ?_⟩
    refine ea_cons ?_
    refine ev_lst ?_
    refine ea_cons ?_
    refine ev_str ?_
    refine ea_cons ?_
    refine ev_non ?_
    refine ea_nil ⟨Nat.le_of_ble_eq_true rfl, ?_⟩
    refine ea_nil ⟨Nat.le_of_ble_eq_true rfl, ?_⟩
    refine ea_nil ?_
    rw [← htx]
    refine ⟨hs, ?_⟩
    refine neS ?_
    refine eb_nil ?_
    refine eb_cons (EvS.cut (fun Γ' => ∃ (s9 s10 s11 s12 s13 s14 s15 s16 s17 s18 : Slot), Γ' = [.inv pa PailOk, s1, .dat (townsD ts), .dat (roadsD rs), .dat (mapD mg (townsD ts) (roadsD rs)), .dat (mapD mg (townsD ts) (roadsD rs)), .dat (.tup [townsD ts2, roadsD rs2]), s7, .dat (mapD mg (townsD ts2) (roadsD rs2)), s9, s10, s11, s12, s13, s14, s15, s16, s17, s18]) ?_ ?_)
    · have hlr : (rs.map roadD).length = rs.length := List.length_map ..
      have hrl := hm.rl
      refine es_if ?_
      refine et_cmp g_ne ?_
      refine ev_var (i := 3) rfl (.inl rfl) rfl ?_
      refine ev_tup ?_
      refine ea_nil ⟨Nat.le_of_ble_eq_true rfl, ?_⟩
      refine ⟨hm.toMapV.eqR, eqOk_of rfl (by decide), ?_⟩
      rw [eqv_tup0]
      refine cond_nb (fun c => ?_) (fun c => ?_)
      · have hr0 : 0 < (rs.map roadD).length := by
          cases e : rs.map roadD with
          | nil => rw [e] at c; cases c
          | cons _ _ => exact Nat.succ_pos _
        refine eb_cons (es_set (i := 12) rfl (.inl rfl) ?_)
        refine ev_callO (i := 0) (ok__law_take T) (Nat.le_of_ble_eq_true rfl) rfl (ops1 0 rfl rfl) rfl (.inl rfl) rfl ?_
        refine ea_cons ?_
        refine ev_callB c_lenD rfl T.m_len bt_len ?_
        refine ea_cons ?_
        refine ev_var (i := 3) rfl (.inl rfl) rfl ?_
        refine ea_nil ?_
        refine ea_nil ?_
        refine ⟨by omega, by omega, fun r hr0 hr1 => ?_⟩
        refine eb_cons (es_set (i := 15) rfl (.inl rfl) ?_)
        refine ev_op g_addD ?_
        refine ev_op g_addD ?_
        refine ev_sl ?_
        refine ev_var (i := 3) rfl (.inl rfl) rfl ?_
        refine eo_none ?_
        refine eo_some ?_
        refine ev_var (i := 12) rfl (.inl rfl) rfl ?_
        refine ev_tup ?_
        refine ea_cons ?_
        refine ev_callO (i := 0) (ok__law_wrong_road T) (Nat.le_of_ble_eq_true rfl) rfl (ops1 0 rfl rfl) rfl (.inl rfl) rfl ?_
        refine ea_cons ?_
        refine ev_var (i := 3) rfl (.inl rfl) rfl ?_
        refine ea_cons ?_
        refine ev_var (i := 12) rfl (.inl rfl) rfl ?_
        refine ea_nil ?_
        obtain ⟨m, rfl⟩ : ∃ m : Nat, r = (m : Int) := ⟨r.toNat, by omega⟩
        have hmr : m < rs.length := by omega
        refine ⟨ts, rs, m, rfl, rfl, hmr, hm, fun d hdx hbad => ?_⟩
        have hl4 : ((rs.take m).map roadD).length = m := by rw [List.length_map, List.length_take]; omega
        have hl5 : ((rs.drop (m + 1)).map roadD).length ≤ 30 := by rw [List.length_map, List.length_drop]; omega
        refine ea_nil ⟨Nat.le_of_ble_eq_true rfl, ?_⟩
        rw [cut_take (by omega) (by rw [List.length_map]; omega), ← List.map_take, show ((m : Int)).toNat = m by omega]
        refine ⟨by rw [hl4, List.length_singleton]; omega, ?_⟩
        refine ev_sl ?_
        refine ev_var (i := 3) rfl (.inl rfl) rfl ?_
        refine eo_some ?_
        refine ev_op g_addD ?_
        refine ev_var (i := 12) rfl (.inl rfl) rfl ?_
        refine ev_int ?_
        refine eo_none ?_
        refine sl_dr (k := m + 1) (by omega) (by omega) ?_
        refine ⟨by rw [List.length_append, hl4, List.length_singleton]; omega, ?_⟩
        refine eb_cons (es_if ?_)
        refine et_cmp g_ne ?_
        refine ev_callB c_repr rfl T.m_repr bt_repr ?_
        refine ea_cons ?_
        refine ev_callO (i := 0) (ok__law_call T) (Nat.le_of_ble_eq_true rfl) rfl (ops1 0 rfl rfl) rfl (.inl rfl) rfl ?_
        refine ea_cons ?_
        refine ev_var (i := 2) rfl (.inl rfl) rfl ?_
        refine ea_cons ?_
        refine ev_var (i := 15) rfl (.inl rfl) rfl ?_
        refine ea_nil ?_
        refine ⟨hm.tw.rd, rdR_bent hdx, ?_⟩
        rw [hrd_r gT (hm.rw.bad hmr (by omega) hbad)]
        refine ea_nil ?_
        have hs : Shw (.lst [.str "roads", .int m]) := shw_of (by simp only [Da.okS, Da.okSs, and_true, true_and]; exact ⟨by decide +kernel, by omega⟩) (by simp only [Da.sz, Da.szs]; decide +kernel) (by simp only [Da.dp, Da.dps]; decide)
        refine ⟨hs, ?_⟩
        refine ev_callB c_repr rfl T.m_repr bt_repr ?_
        refine ea_cons ?_
        refine ev_lst ?_
        refine ea_cons ?_
        refine ev_str ?_
        refine ea_cons ?_
        refine ev_var (i := 12) rfl (.inl rfl) rfl ?_
        refine ea_nil ⟨Nat.le_of_ble_eq_true rfl, ?_⟩
        refine ea_nil ?_
        generalize Da.lst [.str "roads", .int m] = dd at hs ⊢
        refine ⟨hs, ?_⟩
        refine neS ?_
        refine eb_nil ?_
        refine eb_nil ?_
        exact ⟨_, _, _, _, _, _, _, _, _, _, rfl⟩
      · refine eb_nil ?_
        exact ⟨_, _, _, _, _, _, _, _, _, _, rfl⟩
    rintro Γ' ⟨s9, s10, s11, s12, s13, s14, s15, s16, s17, s18, rfl⟩
    refine eb_cons (es_set (i := 16) rfl (.inl rfl) ?_)
    refine ev_callTy c_tuple rfl T.m_tuple bt_tuple ?_
    refine ea_cons ?_
    refine ev_callB c_sortedS rfl T.m_sorted bt_sorted ?_
    refine ea_cons ?_
    refine ev_callO (i := 0) (ok__law_names T) (Nat.le_of_ble_eq_true rfl) rfl (ops1 0 rfl rfl) rfl (.inl rfl) rfl ?_
    refine ea_cons ?_
    refine ev_int ?_
    refine ea_nil ?_
    refine ⟨⟨by decide, by decide⟩, fun ws hws => ?_⟩
    refine ea_nil ?_
    refine ⟨_, rfl, fun w hw => name_ok (hws.name w hw), fun mt hp hle => ?_⟩
    have hmt : TownsOk mt := ⟨fun s hs => hws.name s (hp.mem_iff.mp hs), sorted_lt hle (hp.nodup_iff.mpr hws.d)⟩
    have hml : mt.length = 13 := by rw [hp.length_eq, hws.l]; rfl
    refine ea_nil ?_
    refine eb_cons (es_set (i := 17) rfl (.inl rfl) ?_)
    refine ev_lst ?_
    refine ea_nil ⟨Nat.le_of_ble_eq_true rfl, ?_⟩
    refine eb_cons (es_for ?_)
    refine ei_enumT rfl T.m_enumerate ?_
    refine ev_sl ?_
    refine ev_var (i := 16) rfl (.inl rfl) rfl ?_
    refine eo_none ?_
    refine eo_some ?_
    refine ev_int ?_
    have h12 : TownsOk (mt.take 12) := hmt.take 12
    have hl12 : (mt.take 12).length = 12 := by rw [List.length_take, hml]; rfl
    have hpl : ∀ k, (prs k).length ≤ 1000 → (((prs k).map (roadI (mt.take 12))).map roadD).length ≤ 1000 := fun k h => by rw [List.length_map, List.length_map]; exact h
    have hp12 : ∀ k, k ≤ 12 → (prs k).length ≤ 66 := by decide +kernel
    have ecut : GX.cutD (mt.map Da.str) none (some (12 : Int)) = (mt.take 12).map Da.str := by
      rw [cut_take (by decide) (by rw [List.length_map, hml]; decide), ← List.map_take]; rfl
    show forG _ (enumD (GX.cutD (mt.map Da.str) none (some (12 : Int)))) _ _
    rw [ecut]
    refine forG_inv (fun i Γ => ∃ (s7 s18 : Slot), Γ = [.inv pa PailOk, s1, .dat (townsD ts), .dat (roadsD rs), .dat (mapD mg (townsD ts) (roadsD rs)), .dat (mapD mg (townsD ts) (roadsD rs)), .dat (.tup [townsD ts2, roadsD rs2]), s7, .dat (mapD mg (townsD ts2) (roadsD rs2)), s9, s10, s11, s12, s13, s14, s15, .dat (townsD mt), .dat (.lst (((prs i).map (roadI (mt.take 12))).map roadD)), s18]) ⟨_, _, rfl⟩ ?_ ?_
    · rintro i d Γ k hd ⟨s7, s18, rfl⟩ hk
      obtain ⟨x1, hx1, rfl⟩ := enumD_at hd
      rw [List.getElem?_map] at hx1
      obtain ⟨e, he, rfl⟩ := Option.map_eq_some_iff.mp hx1
      have hi := (List.getElem?_eq_some_iff.mp he).1
      have hpi := hp12 i (by omega)
      refine eg_tup ?_
      refine egs_cons ?_
      refine eg_name (i := 18) rfl (.inl rfl) ?_
      refine egs_cons ?_
      refine eg_name (i := 7) rfl (.inr rfl) ?_
      refine egs_nil ?_
      refine eb_cons (es_set (i := 17) rfl (.inl rfl) ?_)
      refine ev_op g_addD ?_
      refine ev_var (i := 17) rfl (.inl rfl) rfl ?_
      refine ev_lc (own := [("mate", 8)]) (blkOk_by (N := ["urn", "turn", "towns", "roads", "one", "two", "other", "each", "mate", "thing", "due", "none", "at", "name", "told", "some", "many", "rows", "k"]) (sc := defScope s__law_right) (by decide +kernel)) (by intro i hi p k I; simp only [List.map_cons, List.map_nil, List.mem_cons, List.not_mem_nil, or_false] at hi; rcases hi with rfl <;> first | exact fun z => hno _ _ _ (Option.some.inj z) | exact fun z => nomatch z) ?_
      refine ei_tup ?_
      refine ev_sl ?_
      refine ev_var (i := 16) rfl (.inl rfl) rfl ?_
      refine eo_some ?_
      refine ev_op g_addD ?_
      refine ev_var (i := 18) rfl (.inl rfl) rfl ?_
      refine ev_int ?_
      refine eo_some ?_
      refine ev_int ?_
      have ecut2 : GX.cutD (mt.map Da.str) (some ((i : Int) + 1)) (some (12 : Int)) = ((mt.take 12).drop (i + 1)).map Da.str := by
        have z := cut_mid (l := mt.map Da.str) (a := i + 1) (b := 12) (by rw [List.length_map, hml]; decide) (by omega)
        rw [← List.map_take, ← List.map_drop] at z
        exact z
      dsimp only [asInt, slQ, asTup]
      rw [ecut2]
      refine ⟨by rw [List.length_map, List.length_drop]; omega, ?_⟩
      refine lcG_map (f := fun d => .tup [.str e, d, .int 9999]) (fun d acc k hd hk => ?_) ?_
      · refine eg_name (i := 8) rfl (.inl rfl) ?_
        refine ets_nil ?_
        refine ev_tup ?_
        refine ea_cons ?_
        refine ev_var (i := 7) rfl (.inr (.inl rfl)) rfl ?_
        refine ea_cons ?_
        refine ev_var (i := 8) rfl (.inl rfl) rfl ?_
        refine ea_cons ?_
        refine ev_int ?_
        refine ea_nil ⟨Nat.le_of_ble_eq_true rfl, ?_⟩
        exact hk
      rw [List.nil_append]
      refine ⟨by simp only [List.length_map, List.length_drop, List.length_take]; omega, ?_⟩
      rw [rows_step hl12 he]
      refine eb_nil ?_
      exact hk _ ⟨_, _, rfl⟩
    rintro Γ ⟨s7, s18, rfl⟩
    have e12 : (enumD ((mt.take 12).map Da.str)).length = 12 := by rw [enumD_len, List.length_map, hl12]
    rw [e12]
    have hro := prs_roads h12 hl12
    have rl : (((prs 12).map (roadI (mt.take 12)))).length = 66 := by rw [List.length_map, prs_l]
    obtain ⟨R, hR⟩ : ∃ R, R = (prs 12).map (roadI (mt.take 12)) := ⟨_, rfl⟩
    rw [← hR] at hro rl
    rw [← hR]
    refine eb_cons (es_own (i := 14) rfl (.inl rfl) ?_)
    refine en_lst ?_
    refine ea_cons ?_
    refine ev_callO (i := 0) (ok__law_call T) (Nat.le_of_ble_eq_true rfl) rfl (ops1 0 rfl rfl) rfl (.inl rfl) rfl ?_
    refine ea_cons ?_
    refine ev_var (i := 16) rfl (.inl rfl) rfl ?_
    refine ea_cons ?_
    refine ev_tup ?_
    refine ea_nil ⟨Nat.le_of_ble_eq_true rfl, ?_⟩
    refine ea_nil ?_
    refine ⟨hmt.rd, rdR_of (fun _ h => nomatch h), ?_⟩
    rw [hrd_t (hmt.many hml)]
    have ecutR : ∀ n : Nat, n ≤ 66 → GX.cutD (R.map roadD) none (some (n : Int)) = (R.take n).map roadD := fun n hn => by
      rw [cut_take (by omega) (by rw [List.length_map, rl]; omega), ← List.map_take, show ((n : Int)).toNat = n by omega]
    have c31 : GX.cutD (R.map roadD) none (some (31 : Int)) = (R.take 31).map roadD := ecutR 31 (by decide)
    have c30 : GX.cutD (R.map roadD) none (some (30 : Int)) = (R.take 30).map roadD := ecutR 30 (by decide)
    have g12 := h12.good (by omega) (by omega)
    have h31 := (hro.take 31).many (by rw [List.length_take, rl]; rfl)
    have h30 := (hro.take 30).good (by rw [List.length_take, rl]; decide)
    refine ea_cons ?_
    refine ev_callO (i := 0) (ok__law_call T) (Nat.le_of_ble_eq_true rfl) rfl (ops1 0 rfl rfl) rfl (.inl rfl) rfl ?_
    refine ea_cons ?_
    refine ev_sl ?_
    refine ev_var (i := 16) rfl (.inl rfl) rfl ?_
    refine eo_none ?_
    refine eo_some ?_
    refine ev_int ?_
    refine ea_cons ?_
    refine ev_callTy c_tuple rfl T.m_tuple bt_tuple ?_
    refine ea_cons ?_
    refine ev_sl ?_
    refine ev_var (i := 17) rfl (.inl rfl) rfl ?_
    refine eo_none ?_
    refine eo_some ?_
    refine ev_int ?_
    refine ea_nil ?_
    refine ea_nil ?_
    rw [ecut, c31]
    refine ⟨h12.rd, rdR_roads, ?_⟩
    rw [hrd_r g12 h31]
    refine ea_nil ⟨Nat.le_of_ble_eq_true rfl, ?_⟩
    intro A_told hA_told
    obtain ⟨tx, htx⟩ : ∃ tx, tx = [Da.lst [.str "towns", .int 12], .lst [.str "roads", .int 30], .lst [.str "let"]] := ⟨_, rfl⟩
    refine eb_cons (es_exprC ?_)
    refine ec_append (i := 14) (I' := (fun ys => ys = tx)) rfl (.inl rfl) rfl ?_
    refine EvC.of ?_
    refine ev_callO (i := 0) (ok__law_call T) (Nat.le_of_ble_eq_true rfl) rfl (ops1 0 rfl rfl) rfl (.inl rfl) rfl ?_
    refine ea_cons ?_
    refine ev_sl ?_
    refine ev_var (i := 16) rfl (.inl rfl) rfl ?_
    refine eo_none ?_
    refine eo_some ?_
    refine ev_int ?_
    refine ea_cons ?_
    refine ev_callTy c_tuple rfl T.m_tuple bt_tuple ?_
    refine ea_cons ?_
    refine ev_sl ?_
    refine ev_var (i := 17) rfl (.inl rfl) rfl ?_
    refine eo_none ?_
    refine eo_some ?_
    refine ev_int ?_
    refine ea_nil ?_
    refine ea_nil ?_
    rw [ecut, c30]
    refine ⟨h12.rd, rdR_roads, ?_⟩
    rw [hrd_l g12 h30]
    refine ⟨_, rfl, fun ds hds => ⟨by rw [hds]; exact Nat.le_of_ble_eq_true rfl, by rw [hds, htx]; rfl⟩, ?_⟩
    refine eb_freeze (i := 14) rfl hA_told (fun ds_told h_told => ?_)
    refine eb_cons (es_if ?_)
    refine et_cmp g_ne ?_
    refine ev_callB c_repr rfl T.m_repr bt_repr ?_
    refine ea_cons ?_
    refine ev_var (i := 14) rfl (.inl rfl) rfl ?_
    refine ea_nil ?_
    have hs : Shw (.lst tx) := by
      rw [htx]
      exact shw_of (by simp only [Da.okS, Da.okSs, and_true, true_and]; decide +kernel) (by simp only [Da.sz, Da.szs]; decide +kernel) (by simp only [Da.dp, Da.dps]; decide)
    subst h_told
    refine ⟨hs, ?_⟩
    refine ev_callB c_repr rfl T.m_repr bt_repr ?_
    refine ea_cons ?_
    refine ev_lst ?_
    refine ea_cons ?_
    refine ev_lst ?_
    refine ea_cons ?_
    refine ev_str ?_
    refine ea_cons ?_
    refine ev_int ?_
    refine ea_nil ⟨Nat.le_of_ble_eq_true rfl, ?_⟩
    refine ea_cons ?_
    refine ev_lst ?_
    refine ea_cons ?_
    refine ev_str ?_
    refine ea_cons ?_
    refine ev_int ?_
    refine ea_nil ⟨Nat.le_of_ble_eq_true rfl, ?_⟩
    refine ea_cons ?_
    refine ev_lst ?_
    refine ea_cons ?_
    refine ev_str ?_
    refine ea_nil ⟨Nat.le_of_ble_eq_true rfl, ?_⟩
    refine ea_nil ⟨Nat.le_of_ble_eq_true rfl, ?_⟩
    refine ea_nil ?_
    rw [← htx]
    refine ⟨hs, ?_⟩
    refine neS ?_
    refine eb_nil ?_
    refine eb_nil ?_
    exact hk _ ⟨_, _, _, _, _, _, _, _, _, _, _, _, _, _, _, _, _, _, rfl⟩
  · rintro Γ ⟨s1, s2, s3, s4, s5, s6, s7, s8, s9, s10, s11, s12, s13, s14, s15, s16, s17, s18, rfl⟩
    refine eb_cons (es_ret (ops1 0 rfl rfl) ?_)
    refine ev_bl ?_
    exact h

@[reducible] def q_law : Fd := fun ds q _ => as1 ds fun s => ∃ ns : List Int, s = .lst (ns.map Da.int) ∧ ns.length ≤ 63 ∧ q (.bl true)
theorem all_t (ds : List Da) : ([] : List Da) ++ ds.map (fun _ => Da.bl true) = (ds.map fun _ => true).map Da.bl ∧ (ds.map fun _ => true).all id = true := by
  refine ⟨by rw [List.nil_append, List.map_map]; rfl, List.all_eq_true.mpr fun b hb => ?_⟩
  obtain ⟨_, _, rfl⟩ := List.mem_map.mp hb
  rfl
theorem ok_law (T : Txt K mg base Tq) : Cal P w K mg base "law" "law" s_law 14 ["script"] (SpD K Tq q_law) := by
  refine calD T.d_law sc_law (fun _ _ _ _ _ _ us hl => match us, hl with | [_], _ => rfl) (fun ds q er h => as1_len h) fun cdv hcd F0 H0 ds q er h => ?_
  obtain ⟨script, rfl, h⟩ := as1_ h
  obtain ⟨ns, rfl, hn, hq⟩ := h
  refine eb_cons (es_ret (ops0 rfl) ?_)
  refine ev_callB c_all rfl T.m_all bt_all ?_
  refine ea_cons ?_
  refine ev_lc (own := [("lap", 1)]) (blkOk_by (N := ["script", "lap"]) (sc := defScope s_law) (by decide +kernel)) (by intro i hi p k I; simp only [List.map_cons, List.map_nil, List.mem_cons, List.not_mem_nil, or_false] at hi; rcases hi with rfl <;> first | exact fun z => hno _ _ _ (Option.some.inj z) | exact fun z => nomatch z) ?_
  refine ei_range1 rfl T.m_range ?_
  refine ev_callB c_max2 rfl T.m_max bt_max ?_
  refine ea_cons ?_
  refine ev_int ?_
  refine ea_cons ?_
  refine ev_callB c_min2 rfl T.m_min bt_min ?_
  refine ea_cons ?_
  refine ev_callB c_lenD rfl T.m_len bt_len ?_
  refine ea_cons ?_
  refine ev_var (i := 0) rfl (.inr (.inl rfl)) rfl ?_
  refine ea_nil ?_
  refine ea_cons ?_
  refine ev_int ?_
  refine ea_nil ?_
  refine ea_nil ?_
  rw [List.length_map]
  generalize hM : (if (if (3 : Int) < (ns.length : Int) then (3 : Int) else (ns.length : Int)) > 1 then (if (3 : Int) < (ns.length : Int) then (3 : Int) else (ns.length : Int)) else 1) = M
  have hM2 : 1 ≤ M ∧ M ≤ 3 := by subst hM; (repeat' split) <;> omega
  refine ⟨⟨by omega, by omega⟩, by rw [rngD_len]; omega, ?_⟩
  refine lcG_map (f := fun _ => .bl true) (fun d acc k hd hk => ?_) ?_
  · obtain ⟨i, hi, rfl⟩ := rngD_mem hd
    refine eg_name (i := 1) rfl (.inl rfl) ?_
    refine ets_nil ?_
    refine ev_callF (ok__law_right T) (Nat.le_of_ble_eq_true rfl) rfl (ops0 rfl) ?_
    refine en_call (ok__law_urn T) (Nat.le_of_ble_eq_true rfl) rfl (ops0 rfl) ?_
    refine ea_cons ?_
    refine ev_var (i := 0) rfl (.inr (.inl rfl)) rfl ?_
    refine ea_cons ?_
    refine ev_var (i := 1) rfl (.inl rfl) rfl ?_
    refine ea_nil ?_
    refine ⟨ns, rfl, by omega, by omega, by omega, fun xs hx => ?_⟩
    refine ⟨hx, ?_⟩
    exact hk
  refine ea_nil ?_
  refine ⟨_, (all_t _).1, ?_⟩
  rw [(all_t _).2]; exact hq
theorem law_start : ∀ ns : List Int, ns.length ≤ 63 → (∀ k ∈ ns, Builtin.Int.intBits k ≤ 1048576) → q_law [.lst (ns.map Da.int)] (fun d => d = .bl true) fun _ _ => False := fun ns h _ => ⟨ns, rfl, h, rfl⟩

theorem txt_of {K : PySem.W.Frag} {h : Heap} {mg : Str → Option Value} {t_check_towns : Addr} {t_check_roads : Addr} {t__law_call : Addr} (X : K.In h) (G : h.Ns mainGlobals mg)
    {tk_SMALL_LETTERS : Tok} (k_SMALL_LETTERS : PySem.W.nsIn K mainGlobals "SMALL_LETTERS" = some (some (.str "abcdefghijklmnopqrstuvwxyz" tk_SMALL_LETTERS)))
    {tk_MOST_IN_NAME : Tok} (k_MOST_IN_NAME : PySem.W.nsIn K mainGlobals "MOST_IN_NAME" = some (some (.int (8) tk_MOST_IN_NAME)))
    {a_WORDS : Addr} {o_WORDS : Obj} (k_WORDS : PySem.W.nsIn K mainGlobals "WORDS" = some (some (.ref a_WORDS))) (l_WORDS : K.lookup a_WORDS = some o_WORDS) (v_WORDS : TupO o_WORDS w_WORDS)
    {tk_MOST_TOWNS : Tok} (k_MOST_TOWNS : PySem.W.nsIn K mainGlobals "MOST_TOWNS" = some (some (.int (12) tk_MOST_TOWNS)))
    {tk_MOST_ROADS : Tok} (k_MOST_ROADS : PySem.W.nsIn K mainGlobals "MOST_ROADS" = some (some (.int (30) tk_MOST_ROADS)))
    {tk_MOST_LENGTH : Tok} (k_MOST_LENGTH : PySem.W.nsIn K mainGlobals "MOST_LENGTH" = some (some (.int (9999) tk_MOST_LENGTH)))
    (m_abs : PySem.W.nsIn K mainGlobals "abs" = some none)
    (m_all : PySem.W.nsIn K mainGlobals "all" = some none)
    (m_bool : PySem.W.nsIn K mainGlobals "bool" = some none)
    (m_divmod : PySem.W.nsIn K mainGlobals "divmod" = some none)
    (m_enumerate : PySem.W.nsIn K mainGlobals "enumerate" = some none)
    (m_int : PySem.W.nsIn K mainGlobals "int" = some none)
    (m_isinstance : PySem.W.nsIn K mainGlobals "isinstance" = some none)
    (m_len : PySem.W.nsIn K mainGlobals "len" = some none)
    (m_list : PySem.W.nsIn K mainGlobals "list" = some none)
    (m_max : PySem.W.nsIn K mainGlobals "max" = some none)
    (m_min : PySem.W.nsIn K mainGlobals "min" = some none)
    (m_property : PySem.W.nsIn K mainGlobals "property" = some none)
    (m_range : PySem.W.nsIn K mainGlobals "range" = some none)
    (m_repr : PySem.W.nsIn K mainGlobals "repr" = some none)
    (m_sorted : PySem.W.nsIn K mainGlobals "sorted" = some none)
    (m_str : PySem.W.nsIn K mainGlobals "str" = some none)
    (m_tuple : PySem.W.nsIn K mainGlobals "tuple" = some none)
    {a_is_whole : Addr} {oc_is_whole kv_is_whole dc_is_whole pm_is_whole ct_is_whole : Value} {cd_is_whole : Value} {od_is_whole an_is_whole : Option Addr} {sl_is_whole : Array (Option Value)}
    (a1_is_whole : PySem.W.nsIn K mainGlobals "is_whole" = some (some (.ref a_is_whole))) (l_is_whole : K.lookup a_is_whole = some ⟨oc_is_whole, od_is_whole, .func (PySem.W.fnOf "is_whole" "is_whole" (defArgs s_is_whole) (defBody s_is_whole) (defScope s_is_whole) .none kv_is_whole dc_is_whole pm_is_whole an_is_whole cd_is_whole ct_is_whole), sl_is_whole⟩) (c_is_whole : PySem.W.codeIn K cd_is_whole "is_whole" = true) (kp_is_whole : PySem.W.keepIn K (.ref a_is_whole) = true)
    {a_is_number : Addr} {oc_is_number kv_is_number dc_is_number pm_is_number ct_is_number : Value} {cd_is_number : Value} {od_is_number an_is_number : Option Addr} {sl_is_number : Array (Option Value)}
    (a1_is_number : PySem.W.nsIn K mainGlobals "is_number" = some (some (.ref a_is_number))) (l_is_number : K.lookup a_is_number = some ⟨oc_is_number, od_is_number, .func (PySem.W.fnOf "is_number" "is_number" (defArgs s_is_number) (defBody s_is_number) (defScope s_is_number) .none kv_is_number dc_is_number pm_is_number an_is_number cd_is_number ct_is_number), sl_is_number⟩) (c_is_number : PySem.W.codeIn K cd_is_number "is_number" = true) (kp_is_number : PySem.W.keepIn K (.ref a_is_number) = true)
    {a_is_tuple_of : Addr} {oc_is_tuple_of kv_is_tuple_of dc_is_tuple_of pm_is_tuple_of ct_is_tuple_of : Value} {cd_is_tuple_of : Value} {od_is_tuple_of an_is_tuple_of : Option Addr} {sl_is_tuple_of : Array (Option Value)}
    (a1_is_tuple_of : PySem.W.nsIn K mainGlobals "is_tuple_of" = some (some (.ref a_is_tuple_of))) (l_is_tuple_of : K.lookup a_is_tuple_of = some ⟨oc_is_tuple_of, od_is_tuple_of, .func (PySem.W.fnOf "is_tuple_of" "is_tuple_of" (defArgs s_is_tuple_of) (defBody s_is_tuple_of) (defScope s_is_tuple_of) .none kv_is_tuple_of dc_is_tuple_of pm_is_tuple_of an_is_tuple_of cd_is_tuple_of ct_is_tuple_of), sl_is_tuple_of⟩) (c_is_tuple_of : PySem.W.codeIn K cd_is_tuple_of "is_tuple_of" = true) (kp_is_tuple_of : PySem.W.keepIn K (.ref a_is_tuple_of) = true)
    {a_wrong_at : Addr} {oc_wrong_at kv_wrong_at dc_wrong_at pm_wrong_at ct_wrong_at : Value} {cd_wrong_at : Value} {od_wrong_at an_wrong_at : Option Addr} {sl_wrong_at : Array (Option Value)}
    (a1_wrong_at : PySem.W.nsIn K mainGlobals "wrong_at" = some (some (.ref a_wrong_at))) (l_wrong_at : K.lookup a_wrong_at = some ⟨oc_wrong_at, od_wrong_at, .func (PySem.W.fnOf "wrong_at" "wrong_at" (defArgs s_wrong_at) (defBody s_wrong_at) (defScope s_wrong_at) .none kv_wrong_at dc_wrong_at pm_wrong_at an_wrong_at cd_wrong_at ct_wrong_at), sl_wrong_at⟩) (c_wrong_at : PySem.W.codeIn K cd_wrong_at "wrong_at" = true) (kp_wrong_at : PySem.W.keepIn K (.ref a_wrong_at) = true)
    {a_wrong_from_one : Addr} {oc_wrong_from_one kv_wrong_from_one dc_wrong_from_one pm_wrong_from_one ct_wrong_from_one : Value} {cd_wrong_from_one : Value} {od_wrong_from_one an_wrong_from_one : Option Addr} {sl_wrong_from_one : Array (Option Value)}
    (a1_wrong_from_one : PySem.W.nsIn K mainGlobals "wrong_from_one" = some (some (.ref a_wrong_from_one))) (l_wrong_from_one : K.lookup a_wrong_from_one = some ⟨oc_wrong_from_one, od_wrong_from_one, .func (PySem.W.fnOf "wrong_from_one" "wrong_from_one" (defArgs s_wrong_from_one) (defBody s_wrong_from_one) (defScope s_wrong_from_one) .none kv_wrong_from_one dc_wrong_from_one pm_wrong_from_one an_wrong_from_one cd_wrong_from_one ct_wrong_from_one), sl_wrong_from_one⟩) (c_wrong_from_one : PySem.W.codeIn K cd_wrong_from_one "wrong_from_one" = true) (kp_wrong_from_one : PySem.W.keepIn K (.ref a_wrong_from_one) = true)
    {a_is_letters : Addr} {oc_is_letters kv_is_letters dc_is_letters pm_is_letters ct_is_letters : Value} {cd_is_letters : Value} {od_is_letters an_is_letters : Option Addr} {sl_is_letters : Array (Option Value)}
    (a1_is_letters : PySem.W.nsIn K mainGlobals "is_letters" = some (some (.ref a_is_letters))) (l_is_letters : K.lookup a_is_letters = some ⟨oc_is_letters, od_is_letters, .func (PySem.W.fnOf "is_letters" "is_letters" (defArgs s_is_letters) (defBody s_is_letters) (defScope s_is_letters) .none kv_is_letters dc_is_letters pm_is_letters an_is_letters cd_is_letters ct_is_letters), sl_is_letters⟩) (c_is_letters : PySem.W.codeIn K cd_is_letters "is_letters" = true) (kp_is_letters : PySem.W.keepIn K (.ref a_is_letters) = true)
    {a_is_name : Addr} {oc_is_name kv_is_name dc_is_name pm_is_name ct_is_name : Value} {cd_is_name : Value} {od_is_name an_is_name : Option Addr} {sl_is_name : Array (Option Value)}
    (a1_is_name : PySem.W.nsIn K mainGlobals "is_name" = some (some (.ref a_is_name))) (l_is_name : K.lookup a_is_name = some ⟨oc_is_name, od_is_name, .func (PySem.W.fnOf "is_name" "is_name" (defArgs s_is_name) (defBody s_is_name) (defScope s_is_name) .none kv_is_name dc_is_name pm_is_name an_is_name cd_is_name ct_is_name), sl_is_name⟩) (c_is_name : PySem.W.codeIn K cd_is_name "is_name" = true) (kp_is_name : PySem.W.keepIn K (.ref a_is_name) = true)
    {a_check_towns : Addr} {oc_check_towns kv_check_towns dc_check_towns pm_check_towns ct_check_towns : Value} {cd_check_towns : Addr} {od_check_towns an_check_towns : Option Addr} {sl_check_towns : Array (Option Value)}
    (a1_check_towns : PySem.W.nsIn K mainGlobals "check_towns" = some (some (.ref a_check_towns))) (l_check_towns : K.lookup a_check_towns = some ⟨oc_check_towns, od_check_towns, .func (PySem.W.fnOf "check_towns" "check_towns" (defArgs s_check_towns) (defBody s_check_towns) (defScope s_check_towns) .none kv_check_towns dc_check_towns pm_check_towns an_check_towns (.ref cd_check_towns) ct_check_towns), sl_check_towns⟩) (c_check_towns : PySem.W.codeIn K (.ref cd_check_towns) "check_towns" = true) (kp_check_towns : PySem.W.keepIn K (.ref a_check_towns) = true)
    {a_is_one_of : Addr} {oc_is_one_of kv_is_one_of dc_is_one_of pm_is_one_of ct_is_one_of : Value} {cd_is_one_of : Value} {od_is_one_of an_is_one_of : Option Addr} {sl_is_one_of : Array (Option Value)}
    (a1_is_one_of : PySem.W.nsIn K mainGlobals "is_one_of" = some (some (.ref a_is_one_of))) (l_is_one_of : K.lookup a_is_one_of = some ⟨oc_is_one_of, od_is_one_of, .func (PySem.W.fnOf "is_one_of" "is_one_of" (defArgs s_is_one_of) (defBody s_is_one_of) (defScope s_is_one_of) .none kv_is_one_of dc_is_one_of pm_is_one_of an_is_one_of cd_is_one_of ct_is_one_of), sl_is_one_of⟩) (c_is_one_of : PySem.W.codeIn K cd_is_one_of "is_one_of" = true) (kp_is_one_of : PySem.W.keepIn K (.ref a_is_one_of) = true)
    {a_is_road : Addr} {oc_is_road kv_is_road dc_is_road pm_is_road ct_is_road : Value} {cd_is_road : Value} {od_is_road an_is_road : Option Addr} {sl_is_road : Array (Option Value)}
    (a1_is_road : PySem.W.nsIn K mainGlobals "is_road" = some (some (.ref a_is_road))) (l_is_road : K.lookup a_is_road = some ⟨oc_is_road, od_is_road, .func (PySem.W.fnOf "is_road" "is_road" (defArgs s_is_road) (defBody s_is_road) (defScope s_is_road) .none kv_is_road dc_is_road pm_is_road an_is_road cd_is_road ct_is_road), sl_is_road⟩) (c_is_road : PySem.W.codeIn K cd_is_road "is_road" = true) (kp_is_road : PySem.W.keepIn K (.ref a_is_road) = true)
    {a_check_roads : Addr} {oc_check_roads kv_check_roads dc_check_roads pm_check_roads ct_check_roads : Value} {cd_check_roads : Addr} {od_check_roads an_check_roads : Option Addr} {sl_check_roads : Array (Option Value)}
    (a1_check_roads : PySem.W.nsIn K mainGlobals "check_roads" = some (some (.ref a_check_roads))) (l_check_roads : K.lookup a_check_roads = some ⟨oc_check_roads, od_check_roads, .func (PySem.W.fnOf "check_roads" "check_roads" (defArgs s_check_roads) (defBody s_check_roads) (defScope s_check_roads) .none kv_check_roads dc_check_roads pm_check_roads an_check_roads (.ref cd_check_roads) ct_check_roads), sl_check_roads⟩) (c_check_roads : PySem.W.codeIn K (.ref cd_check_roads) "check_roads" = true) (kp_check_roads : PySem.W.keepIn K (.ref a_check_roads) = true)
    {a__law_urn : Addr} {oc__law_urn kv__law_urn dc__law_urn pm__law_urn ct__law_urn : Value} {cd__law_urn : Value} {od__law_urn an__law_urn : Option Addr} {sl__law_urn : Array (Option Value)}
    (a1__law_urn : PySem.W.nsIn K mainGlobals "_law_urn" = some (some (.ref a__law_urn))) (l__law_urn : K.lookup a__law_urn = some ⟨oc__law_urn, od__law_urn, .func (PySem.W.fnOf "_law_urn" "_law_urn" (defArgs s__law_urn) (defBody s__law_urn) (defScope s__law_urn) .none kv__law_urn dc__law_urn pm__law_urn an__law_urn cd__law_urn ct__law_urn), sl__law_urn⟩) (c__law_urn : PySem.W.codeIn K cd__law_urn "_law_urn" = true) (kp__law_urn : PySem.W.keepIn K (.ref a__law_urn) = true)
    {a__law_take : Addr} {oc__law_take kv__law_take dc__law_take pm__law_take ct__law_take : Value} {cd__law_take : Value} {od__law_take an__law_take : Option Addr} {sl__law_take : Array (Option Value)}
    (a1__law_take : PySem.W.nsIn K mainGlobals "_law_take" = some (some (.ref a__law_take))) (l__law_take : K.lookup a__law_take = some ⟨oc__law_take, od__law_take, .func (PySem.W.fnOf "_law_take" "_law_take" (defArgs s__law_take) (defBody s__law_take) (defScope s__law_take) .none kv__law_take dc__law_take pm__law_take an__law_take cd__law_take ct__law_take), sl__law_take⟩) (c__law_take : PySem.W.codeIn K cd__law_take "_law_take" = true) (kp__law_take : PySem.W.keepIn K (.ref a__law_take) = true)
    {a__law_of : Addr} {oc__law_of kv__law_of dc__law_of pm__law_of ct__law_of : Value} {cd__law_of : Value} {od__law_of an__law_of : Option Addr} {sl__law_of : Array (Option Value)}
    (a1__law_of : PySem.W.nsIn K mainGlobals "_law_of" = some (some (.ref a__law_of))) (l__law_of : K.lookup a__law_of = some ⟨oc__law_of, od__law_of, .func (PySem.W.fnOf "_law_of" "_law_of" (defArgs s__law_of) (defBody s__law_of) (defScope s__law_of) .none kv__law_of dc__law_of pm__law_of an__law_of cd__law_of ct__law_of), sl__law_of⟩) (c__law_of : PySem.W.codeIn K cd__law_of "_law_of" = true) (kp__law_of : PySem.W.keepIn K (.ref a__law_of) = true)
    {a__law_names : Addr} {oc__law_names kv__law_names dc__law_names pm__law_names ct__law_names : Value} {cd__law_names : Value} {od__law_names an__law_names : Option Addr} {sl__law_names : Array (Option Value)}
    (a1__law_names : PySem.W.nsIn K mainGlobals "_law_names" = some (some (.ref a__law_names))) (l__law_names : K.lookup a__law_names = some ⟨oc__law_names, od__law_names, .func (PySem.W.fnOf "_law_names" "_law_names" (defArgs s__law_names) (defBody s__law_names) (defScope s__law_names) .none kv__law_names dc__law_names pm__law_names an__law_names cd__law_names ct__law_names), sl__law_names⟩) (c__law_names : PySem.W.codeIn K cd__law_names "_law_names" = true) (kp__law_names : PySem.W.keepIn K (.ref a__law_names) = true)
    {a__law_map : Addr} {oc__law_map kv__law_map dc__law_map pm__law_map ct__law_map : Value} {cd__law_map : Value} {od__law_map an__law_map : Option Addr} {sl__law_map : Array (Option Value)}
    (a1__law_map : PySem.W.nsIn K mainGlobals "_law_map" = some (some (.ref a__law_map))) (l__law_map : K.lookup a__law_map = some ⟨oc__law_map, od__law_map, .func (PySem.W.fnOf "_law_map" "_law_map" (defArgs s__law_map) (defBody s__law_map) (defScope s__law_map) .none kv__law_map dc__law_map pm__law_map an__law_map cd__law_map ct__law_map), sl__law_map⟩) (c__law_map : PySem.W.codeIn K cd__law_map "_law_map" = true) (kp__law_map : PySem.W.keepIn K (.ref a__law_map) = true)
    {a__law_no_name : Addr} {oc__law_no_name kv__law_no_name dc__law_no_name pm__law_no_name ct__law_no_name : Value} {cd__law_no_name : Value} {od__law_no_name an__law_no_name : Option Addr} {sl__law_no_name : Array (Option Value)}
    (a1__law_no_name : PySem.W.nsIn K mainGlobals "_law_no_name" = some (some (.ref a__law_no_name))) (l__law_no_name : K.lookup a__law_no_name = some ⟨oc__law_no_name, od__law_no_name, .func (PySem.W.fnOf "_law_no_name" "_law_no_name" (defArgs s__law_no_name) (defBody s__law_no_name) (defScope s__law_no_name) .none kv__law_no_name dc__law_no_name pm__law_no_name an__law_no_name cd__law_no_name ct__law_no_name), sl__law_no_name⟩) (c__law_no_name : PySem.W.codeIn K cd__law_no_name "_law_no_name" = true) (kp__law_no_name : PySem.W.keepIn K (.ref a__law_no_name) = true)
    {a__law_wrong_road : Addr} {oc__law_wrong_road kv__law_wrong_road dc__law_wrong_road pm__law_wrong_road ct__law_wrong_road : Value} {cd__law_wrong_road : Value} {od__law_wrong_road an__law_wrong_road : Option Addr} {sl__law_wrong_road : Array (Option Value)}
    (a1__law_wrong_road : PySem.W.nsIn K mainGlobals "_law_wrong_road" = some (some (.ref a__law_wrong_road))) (l__law_wrong_road : K.lookup a__law_wrong_road = some ⟨oc__law_wrong_road, od__law_wrong_road, .func (PySem.W.fnOf "_law_wrong_road" "_law_wrong_road" (defArgs s__law_wrong_road) (defBody s__law_wrong_road) (defScope s__law_wrong_road) .none kv__law_wrong_road dc__law_wrong_road pm__law_wrong_road an__law_wrong_road cd__law_wrong_road ct__law_wrong_road), sl__law_wrong_road⟩) (c__law_wrong_road : PySem.W.codeIn K cd__law_wrong_road "_law_wrong_road" = true) (kp__law_wrong_road : PySem.W.keepIn K (.ref a__law_wrong_road) = true)
    {a__law_bent : Addr} {oc__law_bent kv__law_bent dc__law_bent pm__law_bent ct__law_bent : Value} {cd__law_bent : Value} {od__law_bent an__law_bent : Option Addr} {sl__law_bent : Array (Option Value)}
    (a1__law_bent : PySem.W.nsIn K mainGlobals "_law_bent" = some (some (.ref a__law_bent))) (l__law_bent : K.lookup a__law_bent = some ⟨oc__law_bent, od__law_bent, .func (PySem.W.fnOf "_law_bent" "_law_bent" (defArgs s__law_bent) (defBody s__law_bent) (defScope s__law_bent) .none kv__law_bent dc__law_bent pm__law_bent an__law_bent cd__law_bent ct__law_bent), sl__law_bent⟩) (c__law_bent : PySem.W.codeIn K cd__law_bent "_law_bent" = true) (kp__law_bent : PySem.W.keepIn K (.ref a__law_bent) = true)
    {a__law_heard : Addr} {oc__law_heard kv__law_heard dc__law_heard pm__law_heard ct__law_heard : Value} {cd__law_heard : Value} {od__law_heard an__law_heard : Option Addr} {sl__law_heard : Array (Option Value)}
    (a1__law_heard : PySem.W.nsIn K mainGlobals "_law_heard" = some (some (.ref a__law_heard))) (l__law_heard : K.lookup a__law_heard = some ⟨oc__law_heard, od__law_heard, .func (PySem.W.fnOf "_law_heard" "_law_heard" (defArgs s__law_heard) (defBody s__law_heard) (defScope s__law_heard) .none kv__law_heard dc__law_heard pm__law_heard an__law_heard cd__law_heard ct__law_heard), sl__law_heard⟩) (c__law_heard : PySem.W.codeIn K cd__law_heard "_law_heard" = true) (kp__law_heard : PySem.W.keepIn K (.ref a__law_heard) = true)
    {a__law_call : Addr} {oc__law_call kv__law_call dc__law_call pm__law_call ct__law_call : Value} {cd__law_call : Addr} {od__law_call an__law_call : Option Addr} {sl__law_call : Array (Option Value)}
    (a1__law_call : PySem.W.nsIn K mainGlobals "_law_call" = some (some (.ref a__law_call))) (l__law_call : K.lookup a__law_call = some ⟨oc__law_call, od__law_call, .func (PySem.W.fnOf "_law_call" "_law_call" (defArgs s__law_call) (defBody s__law_call) (defScope s__law_call) .none kv__law_call dc__law_call pm__law_call an__law_call (.ref cd__law_call) ct__law_call), sl__law_call⟩) (c__law_call : PySem.W.codeIn K (.ref cd__law_call) "_law_call" = true) (kp__law_call : PySem.W.keepIn K (.ref a__law_call) = true)
    {a__law_right : Addr} {oc__law_right kv__law_right dc__law_right pm__law_right ct__law_right : Value} {cd__law_right : Value} {od__law_right an__law_right : Option Addr} {sl__law_right : Array (Option Value)}
    (a1__law_right : PySem.W.nsIn K mainGlobals "_law_right" = some (some (.ref a__law_right))) (l__law_right : K.lookup a__law_right = some ⟨oc__law_right, od__law_right, .func (PySem.W.fnOf "_law_right" "_law_right" (defArgs s__law_right) (defBody s__law_right) (defScope s__law_right) .none kv__law_right dc__law_right pm__law_right an__law_right cd__law_right ct__law_right), sl__law_right⟩) (c__law_right : PySem.W.codeIn K cd__law_right "_law_right" = true) (kp__law_right : PySem.W.keepIn K (.ref a__law_right) = true)
    {a_law : Addr} {oc_law kv_law dc_law pm_law ct_law : Value} {cd_law : Value} {od_law an_law : Option Addr} {sl_law : Array (Option Value)}
    (a1_law : PySem.W.nsIn K mainGlobals "law" = some (some (.ref a_law))) (l_law : K.lookup a_law = some ⟨oc_law, od_law, .func (PySem.W.fnOf "law" "law" (defArgs s_law) (defBody s_law) (defScope s_law) .none kv_law dc_law pm_law an_law cd_law ct_law), sl_law⟩) (c_law : PySem.W.codeIn K cd_law "law" = true) (kp_law : PySem.W.keepIn K (.ref a_law) = true)
    {k1_check_towns : Value} {k2_check_towns : Option Addr} {k3_check_towns : Array Value} {k4_check_towns : Array (Option Value)} (o_check_towns : K.lookup cd_check_towns = some ⟨k1_check_towns, k2_check_towns, .fields k3_check_towns, k4_check_towns⟩) (p_check_towns : k3_check_towns.getD 11 .none = .ref t_check_towns) (h_check_towns : PySem.W.codeHdIn K cd_check_towns t_check_towns = true) (g_check_towns : h.get? t_check_towns = some (PySem.W.tabObj #[])) (z_check_towns : K.lookup t_check_towns = none)
    {k1_check_roads : Value} {k2_check_roads : Option Addr} {k3_check_roads : Array Value} {k4_check_roads : Array (Option Value)} (o_check_roads : K.lookup cd_check_roads = some ⟨k1_check_roads, k2_check_roads, .fields k3_check_roads, k4_check_roads⟩) (p_check_roads : k3_check_roads.getD 11 .none = .ref t_check_roads) (h_check_roads : PySem.W.codeHdIn K cd_check_roads t_check_roads = true) (g_check_roads : h.get? t_check_roads = some (PySem.W.tabObj #[])) (z_check_roads : K.lookup t_check_roads = none)
    {k1__law_call : Value} {k2__law_call : Option Addr} {k3__law_call : Array Value} {k4__law_call : Array (Option Value)} (o__law_call : K.lookup cd__law_call = some ⟨k1__law_call, k2__law_call, .fields k3__law_call, k4__law_call⟩) (p__law_call : k3__law_call.getD 11 .none = .ref t__law_call) (h__law_call : PySem.W.codeHdIn K cd__law_call t__law_call = true) (g__law_call : h.get? t__law_call = some (PySem.W.tabObj #[])) (z__law_call : K.lookup t__law_call = none)
    (u_check_towns : ∀ p ∈ [(t_check_towns, ("check_towns.<locals>.is_right" : Str)), (t_check_roads, ("check_roads.<locals>.is_right" : Str)), (t__law_call, ("_law_call.<locals>.<lambda>" : Str))], p.1 = t_check_towns → p.2 = "check_towns.<locals>.is_right")
    (u_check_roads : ∀ p ∈ [(t_check_towns, ("check_towns.<locals>.is_right" : Str)), (t_check_roads, ("check_roads.<locals>.is_right" : Str)), (t__law_call, ("_law_call.<locals>.<lambda>" : Str))], p.1 = t_check_roads → p.2 = "check_roads.<locals>.is_right")
    (u__law_call : ∀ p ∈ [(t_check_towns, ("check_towns.<locals>.is_right" : Str)), (t_check_roads, ("check_roads.<locals>.is_right" : Str)), (t__law_call, ("_law_call.<locals>.<lambda>" : Str))], p.1 = t__law_call → p.2 = "_law_call.<locals>.<lambda>")
    {C_ClaimError : Addr} (ax_ClaimError : PySem.W.nsIn K mainGlobals "ClaimError" = some (some (.ref C_ClaimError)))
    {C_InvalidRoads : Addr} (ax_InvalidRoads : PySem.W.nsIn K mainGlobals "InvalidRoads" = some (some (.ref C_InvalidRoads)))
    {C_InvalidTowns : Addr} (ax_InvalidTowns : PySem.W.nsIn K mainGlobals "InvalidTowns" = some (some (.ref C_InvalidTowns)))
    (x_InvalidRoads : Exc P K mg "InvalidRoads" "index")
    (x_InvalidTowns : Exc P K mg "InvalidTowns" "index")
    (k_Map : Kls K mg "Map")
    (n_Map_told : NoAttr K (cA mg "Map") "told")
    (mb_Map : MadeBy K (cA mg "Map") "Map.__init__" s_Map___init__)
    (pb_Map_towns : PropBy K (cA mg "Map") "towns" "Map.towns" s_Map_towns)
    (pb_Map_roads : PropBy K (cA mg "Map") "roads" "Map.roads" s_Map_roads)
    (pb_Map_parts : PropBy K (cA mg "Map") "parts" "Map.parts" s_Map_parts)
    (eb_Map : EqBy K (cA mg "Map") "Map.__eq__" s_Map___eq__)
    (im_InvalidRoads_ClaimError : PySem.W.exmOne K (.ref C_InvalidRoads) (.ref C_ClaimError) = some true) (ik_InvalidRoads_ClaimError : PySem.W.kitOne K (.ref C_InvalidRoads) (.ref C_ClaimError) = some true)
    (im_InvalidRoads_InvalidRoads : PySem.W.exmOne K (.ref C_InvalidRoads) (.ref C_InvalidRoads) = some true) (ik_InvalidRoads_InvalidRoads : PySem.W.kitOne K (.ref C_InvalidRoads) (.ref C_InvalidRoads) = some true)
    (im_InvalidRoads_InvalidTowns : PySem.W.exmOne K (.ref C_InvalidRoads) (.ref C_InvalidTowns) = some false) (ik_InvalidRoads_InvalidTowns : PySem.W.kitOne K (.ref C_InvalidRoads) (.ref C_InvalidTowns) = some false)
    (im_InvalidTowns_ClaimError : PySem.W.exmOne K (.ref C_InvalidTowns) (.ref C_ClaimError) = some true) (ik_InvalidTowns_ClaimError : PySem.W.kitOne K (.ref C_InvalidTowns) (.ref C_ClaimError) = some true)
    (im_InvalidTowns_InvalidRoads : PySem.W.exmOne K (.ref C_InvalidTowns) (.ref C_InvalidRoads) = some false) (ik_InvalidTowns_InvalidRoads : PySem.W.kitOne K (.ref C_InvalidTowns) (.ref C_InvalidRoads) = some false)
    (im_InvalidTowns_InvalidTowns : PySem.W.exmOne K (.ref C_InvalidTowns) (.ref C_InvalidTowns) = some true) (ik_InvalidTowns_InvalidTowns : PySem.W.kitOne K (.ref C_InvalidTowns) (.ref C_InvalidTowns) = some true)
    : (∀ base : Heap, (∀ p ∈ [(t_check_towns, ("check_towns.<locals>.is_right" : Str)), (t_check_roads, ("check_roads.<locals>.is_right" : Str)), (t__law_call, ("_law_call.<locals>.<lambda>" : Str))], ∀ c, PySem.W.CodeHd h c p.1 → LamX.TabB base mg c p.1) → Txt K mg base [(t_check_towns, ("check_towns.<locals>.is_right" : Str)), (t_check_roads, ("check_roads.<locals>.is_right" : Str)), (t__law_call, ("_law_call.<locals>.<lambda>" : Str))]) ∧ (∀ p ∈ [(t_check_towns, ("check_towns.<locals>.is_right" : Str)), (t_check_roads, ("check_roads.<locals>.is_right" : Str)), (t__law_call, ("_law_call.<locals>.<lambda>" : Str))], TabAt h p.1) ∧ (∀ p ∈ [(t_check_towns, ("check_towns.<locals>.is_right" : Str)), (t_check_roads, ("check_roads.<locals>.is_right" : Str)), (t__law_call, ("_law_call.<locals>.<lambda>" : Str))], K.lookup p.1 = none) ∧ Def K mg "law" s_law := by
  refine ⟨fun base HB => ?_, ?_, ?_, ⟨_, _, fun_mk l_law c_law kp_law, PySem.W.mg_of X G a1_law⟩⟩
  rotate_left
  · refine List.forall_mem_cons.mpr ⟨tabAt_of X h_check_towns g_check_towns, ?_⟩; refine List.forall_mem_cons.mpr ⟨tabAt_of X h_check_roads g_check_roads, ?_⟩; refine List.forall_mem_cons.mpr ⟨tabAt_of X h__law_call g__law_call, ?_⟩; exact fun _ h => nomatch h
  · refine List.forall_mem_cons.mpr ⟨z_check_towns, ?_⟩; refine List.forall_mem_cons.mpr ⟨z_check_roads, ?_⟩; refine List.forall_mem_cons.mpr ⟨z__law_call, ?_⟩; exact fun _ h => nomatch h
  exact { m_abs := PySem.W.mg_none_of X G m_abs, m_all := PySem.W.mg_none_of X G m_all, m_bool := PySem.W.mg_none_of X G m_bool, m_divmod := PySem.W.mg_none_of X G m_divmod, m_enumerate := PySem.W.mg_none_of X G m_enumerate, m_int := PySem.W.mg_none_of X G m_int, m_isinstance := PySem.W.mg_none_of X G m_isinstance, m_len := PySem.W.mg_none_of X G m_len, m_list := PySem.W.mg_none_of X G m_list, m_max := PySem.W.mg_none_of X G m_max, m_min := PySem.W.mg_none_of X G m_min, m_property := PySem.W.mg_none_of X G m_property, m_range := PySem.W.mg_none_of X G m_range, m_repr := PySem.W.mg_none_of X G m_repr, m_sorted := PySem.W.mg_none_of X G m_sorted, m_str := PySem.W.mg_none_of X G m_str, m_tuple := PySem.W.mg_none_of X G m_tuple, k_SMALL_LETTERS := ⟨_, PySem.W.mg_of X G k_SMALL_LETTERS⟩, k_MOST_IN_NAME := ⟨_, PySem.W.mg_of X G k_MOST_IN_NAME⟩, k_WORDS := conT_of (PySem.W.mg_of X G k_WORDS) l_WORDS v_WORDS, k_MOST_TOWNS := ⟨_, PySem.W.mg_of X G k_MOST_TOWNS⟩, k_MOST_ROADS := ⟨_, PySem.W.mg_of X G k_MOST_ROADS⟩, k_MOST_LENGTH := ⟨_, PySem.W.mg_of X G k_MOST_LENGTH⟩, d_is_whole := ⟨_, _, fun_mk l_is_whole c_is_whole kp_is_whole, PySem.W.mg_of X G a1_is_whole⟩, d_is_number := ⟨_, _, fun_mk l_is_number c_is_number kp_is_number, PySem.W.mg_of X G a1_is_number⟩, d_is_tuple_of := ⟨_, _, fun_mk l_is_tuple_of c_is_tuple_of kp_is_tuple_of, PySem.W.mg_of X G a1_is_tuple_of⟩, d_wrong_at := ⟨_, _, fun_mk l_wrong_at c_wrong_at kp_wrong_at, PySem.W.mg_of X G a1_wrong_at⟩, d_wrong_from_one := ⟨_, _, fun_mk l_wrong_from_one c_wrong_from_one kp_wrong_from_one, PySem.W.mg_of X G a1_wrong_from_one⟩, d_is_letters := ⟨_, _, fun_mk l_is_letters c_is_letters kp_is_letters, PySem.W.mg_of X G a1_is_letters⟩, d_is_name := ⟨_, _, fun_mk l_is_name c_is_name kp_is_name, PySem.W.mg_of X G a1_is_name⟩, d_check_towns := ⟨_, _, fun_mk l_check_towns c_check_towns kp_check_towns, PySem.W.mg_of X G a1_check_towns⟩, d_is_one_of := ⟨_, _, fun_mk l_is_one_of c_is_one_of kp_is_one_of, PySem.W.mg_of X G a1_is_one_of⟩, d_is_road := ⟨_, _, fun_mk l_is_road c_is_road kp_is_road, PySem.W.mg_of X G a1_is_road⟩, d_check_roads := ⟨_, _, fun_mk l_check_roads c_check_roads kp_check_roads, PySem.W.mg_of X G a1_check_roads⟩, d__law_urn := ⟨_, _, fun_mk l__law_urn c__law_urn kp__law_urn, PySem.W.mg_of X G a1__law_urn⟩, d__law_take := ⟨_, _, fun_mk l__law_take c__law_take kp__law_take, PySem.W.mg_of X G a1__law_take⟩, d__law_of := ⟨_, _, fun_mk l__law_of c__law_of kp__law_of, PySem.W.mg_of X G a1__law_of⟩, d__law_names := ⟨_, _, fun_mk l__law_names c__law_names kp__law_names, PySem.W.mg_of X G a1__law_names⟩, d__law_map := ⟨_, _, fun_mk l__law_map c__law_map kp__law_map, PySem.W.mg_of X G a1__law_map⟩, d__law_no_name := ⟨_, _, fun_mk l__law_no_name c__law_no_name kp__law_no_name, PySem.W.mg_of X G a1__law_no_name⟩, d__law_wrong_road := ⟨_, _, fun_mk l__law_wrong_road c__law_wrong_road kp__law_wrong_road, PySem.W.mg_of X G a1__law_wrong_road⟩, d__law_bent := ⟨_, _, fun_mk l__law_bent c__law_bent kp__law_bent, PySem.W.mg_of X G a1__law_bent⟩, d__law_heard := ⟨_, _, fun_mk l__law_heard c__law_heard kp__law_heard, PySem.W.mg_of X G a1__law_heard⟩, d__law_call := ⟨_, _, fun_mk l__law_call c__law_call kp__law_call, PySem.W.mg_of X G a1__law_call⟩, d__law_right := ⟨_, _, fun_mk l__law_right c__law_right kp__law_right, PySem.W.mg_of X G a1__law_right⟩, d_law := ⟨_, _, fun_mk l_law c_law kp_law, PySem.W.mg_of X G a1_law⟩, l_check_towns := lamTab_of X (PySem.W.mg_of X G a1_check_towns) l_check_towns h_check_towns HB (by repeat first | exact List.mem_cons_self | apply List.mem_cons_of_mem) u_check_towns, l_check_roads := lamTab_of X (PySem.W.mg_of X G a1_check_roads) l_check_roads h_check_roads HB (by repeat first | exact List.mem_cons_self | apply List.mem_cons_of_mem) u_check_roads, l__law_call := lamTab_of X (PySem.W.mg_of X G a1__law_call) l__law_call h__law_call HB (by repeat first | exact List.mem_cons_self | apply List.mem_cons_of_mem) u__law_call, x_InvalidRoads := x_InvalidRoads, x_InvalidTowns := x_InvalidTowns, k_Map := k_Map, n_Map_told := n_Map_told, mb_Map := mb_Map, pb_Map_towns := pb_Map_towns, pb_Map_roads := pb_Map_roads, pb_Map_parts := pb_Map_parts, eb_Map := eb_Map, i_InvalidRoads_ClaimError := isP_of X G ax_InvalidRoads ax_ClaimError im_InvalidRoads_ClaimError ik_InvalidRoads_ClaimError, i_InvalidRoads_InvalidRoads := isP_of X G ax_InvalidRoads ax_InvalidRoads im_InvalidRoads_InvalidRoads ik_InvalidRoads_InvalidRoads, i_InvalidRoads_InvalidTowns := isP_of X G ax_InvalidRoads ax_InvalidTowns im_InvalidRoads_InvalidTowns ik_InvalidRoads_InvalidTowns, i_InvalidTowns_ClaimError := isP_of X G ax_InvalidTowns ax_ClaimError im_InvalidTowns_ClaimError ik_InvalidTowns_ClaimError, i_InvalidTowns_InvalidRoads := isP_of X G ax_InvalidTowns ax_InvalidRoads im_InvalidTowns_InvalidRoads ik_InvalidTowns_InvalidRoads, i_InvalidTowns_InvalidTowns := isP_of X G ax_InvalidTowns ax_InvalidTowns im_InvalidTowns_InvalidTowns ik_InvalidTowns_InvalidTowns }
end
end LW
open PySem PySem.W PyProof.Rows
set_option maxHeartbeats 0 in
theorem PySem.Challenge.cw_claimback_k71_maps_made_and_refused_holds : PySem.Challenge.rw_claimback_k71_maps_made_and_refused.Holds := by
  w_on; o_law; k_head; (case hw => w_witness2)
  k_fill
  refine GX.walkT (l := PySem.Challenge.rw_claimback_k71_maps_made_and_refused) (n := 63) (k := 14) (x := "script") (spec := LW.q_law) rfl (by decide) rfl ⟨rfl, by decide, by decide⟩ ?F LW.law_start
  case F =>
    intro w mg fa h Y G xp hmg
    have KX := PySem.W.km_in_of Y
    have TA := PySem.W.km_tabs_of Y
    apply GX.law_endT (LW.txt_of KX G ?k_SMALL_LETTERS ?k_MOST_IN_NAME ?k_WORDS ?l_WORDS ?v_WORDS ?k_MOST_TOWNS ?k_MOST_ROADS ?k_MOST_LENGTH ?m_abs ?m_all ?m_bool ?m_divmod ?m_enumerate ?m_int ?m_isinstance ?m_len ?m_list ?m_max ?m_min ?m_property ?m_range ?m_repr ?m_sorted ?m_str ?m_tuple ?a1_is_whole ?l_is_whole ?c_is_whole ?kp_is_whole ?a1_is_number ?l_is_number ?c_is_number ?kp_is_number ?a1_is_tuple_of ?l_is_tuple_of ?c_is_tuple_of ?kp_is_tuple_of ?a1_wrong_at ?l_wrong_at ?c_wrong_at ?kp_wrong_at ?a1_wrong_from_one ?l_wrong_from_one ?c_wrong_from_one ?kp_wrong_from_one ?a1_is_letters ?l_is_letters ?c_is_letters ?kp_is_letters ?a1_is_name ?l_is_name ?c_is_name ?kp_is_name ?a1_check_towns ?l_check_towns ?c_check_towns ?kp_check_towns ?a1_is_one_of ?l_is_one_of ?c_is_one_of ?kp_is_one_of ?a1_is_road ?l_is_road ?c_is_road ?kp_is_road ?a1_check_roads ?l_check_roads ?c_check_roads ?kp_check_roads ?a1__law_urn ?l__law_urn ?c__law_urn ?kp__law_urn ?a1__law_take ?l__law_take ?c__law_take ?kp__law_take ?a1__law_of ?l__law_of ?c__law_of ?kp__law_of ?a1__law_names ?l__law_names ?c__law_names ?kp__law_names ?a1__law_map ?l__law_map ?c__law_map ?kp__law_map ?a1__law_no_name ?l__law_no_name ?c__law_no_name ?kp__law_no_name ?a1__law_wrong_road ?l__law_wrong_road ?c__law_wrong_road ?kp__law_wrong_road ?a1__law_bent ?l__law_bent ?c__law_bent ?kp__law_bent ?a1__law_heard ?l__law_heard ?c__law_heard ?kp__law_heard ?a1__law_call ?l__law_call ?c__law_call ?kp__law_call ?a1__law_right ?l__law_right ?c__law_right ?kp__law_right ?a1_law ?l_law ?c_law ?kp_law ?o_check_towns ?p_check_towns ?h_check_towns ?g_check_towns ?z_check_towns ?o_check_roads ?p_check_roads ?h_check_roads ?g_check_roads ?z_check_roads ?o__law_call ?p__law_call ?h__law_call ?g__law_call ?z__law_call ?u_check_towns ?u_check_roads ?u__law_call ?ax_ClaimError ?ax_InvalidRoads ?ax_InvalidTowns ?x_InvalidRoads ?x_InvalidTowns ?k_Map ?n_Map_told ?mb_Map ?pb_Map_towns ?pb_Map_roads ?pb_Map_parts ?eb_Map ?im_InvalidRoads_ClaimError ?ik_InvalidRoads_ClaimError ?im_InvalidRoads_InvalidRoads ?ik_InvalidRoads_InvalidRoads ?im_InvalidRoads_InvalidTowns ?ik_InvalidRoads_InvalidTowns ?im_InvalidTowns_ClaimError ?ik_InvalidTowns_ClaimError ?im_InvalidTowns_InvalidRoads ?ik_InvalidTowns_InvalidRoads ?im_InvalidTowns_InvalidTowns ?ik_InvalidTowns_InvalidTowns) KX (fun _ _ _ _ _ _ us hl => match us, hl with | [_], _ => rfl) (fun _ T => LW.ok_law T) hmg
    (case k_SMALL_LETTERS => k_is)
    (case k_MOST_IN_NAME => k_is)
    (case k_WORDS => k_is)
    (case l_WORDS => k_is)
    (case v_WORDS => exact GX.tupO_by rfl rfl rfl (by repeat first | exact .nil | refine .cons ⟨_, rfl⟩ ?_))
    (case k_MOST_TOWNS => k_is)
    (case k_MOST_ROADS => k_is)
    (case k_MOST_LENGTH => k_is)
    (case m_abs => k_is)
    (case m_all => k_is)
    (case m_bool => k_is)
    (case m_divmod => k_is)
    (case m_enumerate => k_is)
    (case m_int => k_is)
    (case m_isinstance => k_is)
    (case m_len => k_is)
    (case m_list => k_is)
    (case m_max => k_is)
    (case m_min => k_is)
    (case m_property => k_is)
    (case m_range => k_is)
    (case m_repr => k_is)
    (case m_sorted => k_is)
    (case m_str => k_is)
    (case m_tuple => k_is)
    (case a1_is_whole => k_is)
    (case l_is_whole => k_is)
    (case c_is_whole => k_is)
    (case kp_is_whole => k_is)
    (case a1_is_number => k_is)
    (case l_is_number => k_is)
    (case c_is_number => k_is)
    (case kp_is_number => k_is)
    (case a1_is_tuple_of => k_is)
    (case l_is_tuple_of => k_is)
    (case c_is_tuple_of => k_is)
    (case kp_is_tuple_of => k_is)
    (case a1_wrong_at => k_is)
    (case l_wrong_at => k_is)
    (case c_wrong_at => k_is)
    (case kp_wrong_at => k_is)
    (case a1_wrong_from_one => k_is)
    (case l_wrong_from_one => k_is)
    (case c_wrong_from_one => k_is)
    (case kp_wrong_from_one => k_is)
    (case a1_is_letters => k_is)
    (case l_is_letters => k_is)
    (case c_is_letters => k_is)
    (case kp_is_letters => k_is)
    (case a1_is_name => k_is)
    (case l_is_name => k_is)
    (case c_is_name => k_is)
    (case kp_is_name => k_is)
    (case a1_check_towns => k_is)
    (case l_check_towns => k_is)
    (case c_check_towns => k_is)
    (case kp_check_towns => k_is)
    (case a1_is_one_of => k_is)
    (case l_is_one_of => k_is)
    (case c_is_one_of => k_is)
    (case kp_is_one_of => k_is)
    (case a1_is_road => k_is)
    (case l_is_road => k_is)
    (case c_is_road => k_is)
    (case kp_is_road => k_is)
    (case a1_check_roads => k_is)
    (case l_check_roads => k_is)
    (case c_check_roads => k_is)
    (case kp_check_roads => k_is)
    (case a1__law_urn => k_is)
    (case l__law_urn => k_is)
    (case c__law_urn => k_is)
    (case kp__law_urn => k_is)
    (case a1__law_take => k_is)
    (case l__law_take => k_is)
    (case c__law_take => k_is)
    (case kp__law_take => k_is)
    (case a1__law_of => k_is)
    (case l__law_of => k_is)
    (case c__law_of => k_is)
    (case kp__law_of => k_is)
    (case a1__law_names => k_is)
    (case l__law_names => k_is)
    (case c__law_names => k_is)
    (case kp__law_names => k_is)
    (case a1__law_map => k_is)
    (case l__law_map => k_is)
    (case c__law_map => k_is)
    (case kp__law_map => k_is)
    (case a1__law_no_name => k_is)
    (case l__law_no_name => k_is)
    (case c__law_no_name => k_is)
    (case kp__law_no_name => k_is)
    (case a1__law_wrong_road => k_is)
    (case l__law_wrong_road => k_is)
    (case c__law_wrong_road => k_is)
    (case kp__law_wrong_road => k_is)
    (case a1__law_bent => k_is)
    (case l__law_bent => k_is)
    (case c__law_bent => k_is)
    (case kp__law_bent => k_is)
    (case a1__law_heard => k_is)
    (case l__law_heard => k_is)
    (case c__law_heard => k_is)
    (case kp__law_heard => k_is)
    (case a1__law_call => k_is)
    (case l__law_call => k_is)
    (case c__law_call => k_is)
    (case kp__law_call => k_is)
    (case a1__law_right => k_is)
    (case l__law_right => k_is)
    (case c__law_right => k_is)
    (case kp__law_right => k_is)
    (case a1_law => k_is)
    (case l_law => k_is)
    (case c_law => k_is)
    (case kp_law => k_is)
    (case o_check_towns => k_is)
    (case p_check_towns => exact rfl)
    (case h_check_towns => kernel_rfl)
    (case g_check_towns => exact TA _ (by decide))
    (case z_check_towns => exact GX.km_none Y (by decide +kernel))
    (case o_check_roads => k_is)
    (case p_check_roads => exact rfl)
    (case h_check_roads => kernel_rfl)
    (case g_check_roads => exact TA _ (by decide))
    (case z_check_roads => exact GX.km_none Y (by decide +kernel))
    (case o__law_call => k_is)
    (case p__law_call => exact rfl)
    (case h__law_call => kernel_rfl)
    (case g__law_call => exact TA _ (by decide))
    (case z__law_call => exact GX.km_none Y (by decide +kernel))
    (case u_check_towns => decide +kernel)
    (case u_check_roads => decide +kernel)
    (case u__law_call => decide +kernel)
    (case ax_ClaimError => k_is)
    (case ax_InvalidRoads => k_is)
    (case ax_InvalidTowns => k_is)
    (case x_InvalidRoads => apply GX.exc_of KX G (.inr rfl) ?xx_a1 ?xx_lC ?xx_eC ?xx_vC ?xx_ini ?xx_al ?xx_sf ?xx_ve ?xx_tp ?xx_sup ?xx_sa ?xx_ga ?xx_gg ?xx_noN ?xx_iC ?xx_tC ?xx_kC ?xx_exC ?xx_tyC ?xx_hdC ?xx_top ?xx_lF ?xx_eF ?xx_cF ?xx_lK ?xx_eK ?xx_v2 ?xx_fl ?xx_lc0 ?xx_ec ?xx_hl ?xx_ha ?xx_hn ?xx_ht ?xx_hm; (case xx_a1 => first | k_is | kx_is | kernel_rfl); (case xx_lC => first | k_is | kx_is | kernel_rfl); (case xx_eC => exact rfl); (case xx_vC => decide +kernel); (case xx_ini => first | k_is | kx_is | kernel_rfl); (case xx_al => first | k_is | kx_is | kernel_rfl); (case xx_sf => first | k_is | kx_is | kernel_rfl); (case xx_ve => first | k_is | kx_is | kernel_rfl); (case xx_tp => first | k_is | kx_is | kernel_rfl); (case xx_sup => first | k_is | kx_is | kernel_rfl); (case xx_sa => first | k_is | kx_is | kernel_rfl); (case xx_ga => first | k_is | kx_is | kernel_rfl); (case xx_gg => first | k_is | kx_is | kernel_rfl); (case xx_noN => first | k_is | kx_is | kernel_rfl); (case xx_iC => first | k_is | kx_is | kernel_rfl); (case xx_tC => first | k_is | kx_is | kernel_rfl); (case xx_kC => first | k_is | kx_is | kernel_rfl); (case xx_exC => first | k_is | kx_is | kernel_rfl); (case xx_tyC => first | k_is | kx_is | kernel_rfl); (case xx_hdC => first | k_is | kx_is | kernel_rfl); (case xx_top => decide +kernel); (case xx_lF => first | k_is | kx_is | kernel_rfl); (case xx_eF => exact rfl); (case xx_cF => first | k_is | kx_is | kernel_rfl); (case xx_lK => first | k_is | kx_is | kernel_rfl); (case xx_eK => exact rfl); (case xx_v2 => exact rfl); (case xx_fl => decide +kernel); (case xx_lc0 => first | k_is | kx_is | kernel_rfl); (case xx_ec => exact rfl); (case xx_hl => decide +kernel); (case xx_ha => first | k_is | kx_is | kernel_rfl); (case xx_hn => first | k_is | kx_is | kernel_rfl); (case xx_ht => first | k_is | kx_is | kernel_rfl); (case xx_hm => first | k_is | kx_is | kernel_rfl))
    (case x_InvalidTowns => apply GX.exc_of KX G (.inr rfl) ?xx_a1 ?xx_lC ?xx_eC ?xx_vC ?xx_ini ?xx_al ?xx_sf ?xx_ve ?xx_tp ?xx_sup ?xx_sa ?xx_ga ?xx_gg ?xx_noN ?xx_iC ?xx_tC ?xx_kC ?xx_exC ?xx_tyC ?xx_hdC ?xx_top ?xx_lF ?xx_eF ?xx_cF ?xx_lK ?xx_eK ?xx_v2 ?xx_fl ?xx_lc0 ?xx_ec ?xx_hl ?xx_ha ?xx_hn ?xx_ht ?xx_hm; (case xx_a1 => first | k_is | kx_is | kernel_rfl); (case xx_lC => first | k_is | kx_is | kernel_rfl); (case xx_eC => exact rfl); (case xx_vC => decide +kernel); (case xx_ini => first | k_is | kx_is | kernel_rfl); (case xx_al => first | k_is | kx_is | kernel_rfl); (case xx_sf => first | k_is | kx_is | kernel_rfl); (case xx_ve => first | k_is | kx_is | kernel_rfl); (case xx_tp => first | k_is | kx_is | kernel_rfl); (case xx_sup => first | k_is | kx_is | kernel_rfl); (case xx_sa => first | k_is | kx_is | kernel_rfl); (case xx_ga => first | k_is | kx_is | kernel_rfl); (case xx_gg => first | k_is | kx_is | kernel_rfl); (case xx_noN => first | k_is | kx_is | kernel_rfl); (case xx_iC => first | k_is | kx_is | kernel_rfl); (case xx_tC => first | k_is | kx_is | kernel_rfl); (case xx_kC => first | k_is | kx_is | kernel_rfl); (case xx_exC => first | k_is | kx_is | kernel_rfl); (case xx_tyC => first | k_is | kx_is | kernel_rfl); (case xx_hdC => first | k_is | kx_is | kernel_rfl); (case xx_top => decide +kernel); (case xx_lF => first | k_is | kx_is | kernel_rfl); (case xx_eF => exact rfl); (case xx_cF => first | k_is | kx_is | kernel_rfl); (case xx_lK => first | k_is | kx_is | kernel_rfl); (case xx_eK => exact rfl); (case xx_v2 => exact rfl); (case xx_fl => decide +kernel); (case xx_lc0 => first | k_is | kx_is | kernel_rfl); (case xx_ec => exact rfl); (case xx_hl => decide +kernel); (case xx_ha => first | k_is | kx_is | kernel_rfl); (case xx_hn => first | k_is | kx_is | kernel_rfl); (case xx_ht => first | k_is | kx_is | kernel_rfl); (case xx_hm => first | k_is | kx_is | kernel_rfl))
    (case k_Map => apply GX.kls_of KX G ?xx_a1 ?xx_pg ?xx_hd ?xx_po ?xx_sa ?xx_ha ?xx_hn ?xx_ht ?xx_hm ?xx_own ?xx_no ?xx_tb ?xx_tl; (case xx_a1 => first | k_is | kx_is | kernel_rfl); (case xx_pg => first | k_is | kx_is | kernel_rfl); (case xx_hd => first | k_is | kx_is | kernel_rfl); (case xx_po => first | k_is | kx_is | kernel_rfl); (case xx_sa => first | k_is | kx_is | kernel_rfl); (case xx_ha => first | k_is | kx_is | kernel_rfl); (case xx_hn => first | k_is | kx_is | kernel_rfl); (case xx_ht => first | k_is | kx_is | kernel_rfl); (case xx_hm => first | k_is | kx_is | kernel_rfl); (case xx_own => first | k_is | kx_is | kernel_rfl); (case xx_no => first | k_is | kx_is | kernel_rfl); (case xx_tb => first | k_is | kx_is | kernel_rfl); (case xx_tl => first | k_is | kx_is | kernel_rfl))
    (case n_Map_told => apply GX.noAttr_of KX G ?xx_a1 ?xx_no; (case xx_a1 => first | k_is | kx_is | kernel_rfl); (case xx_no => first | k_is | kx_is | kernel_rfl))
    (case mb_Map => apply GX.madeBy_of KX G ?xx_a1 ?xx_mk ?xx_fi ?xx_fn ?xx_kC ?xx_lo ?xx_cd ?xx_kp; (case xx_a1 => first | k_is | kx_is | kernel_rfl); (case xx_mk => first | k_is | kx_is | kernel_rfl); (case xx_fi => first | k_is | kx_is | kernel_rfl); (case xx_fn => first | k_is | kx_is | kernel_rfl); (case xx_kC => first | k_is | kx_is | kernel_rfl); (case xx_lo => first | k_is | kx_is | kernel_rfl); (case xx_cd => first | k_is | kx_is | kernel_rfl); (case xx_kp => first | k_is | kx_is | kernel_rfl))
    (case pb_Map_towns => apply GX.propBy_of KX G ?xx_a1 ?xx_fi ?xx_sp ?xx_tk ?xx_rc ?xx_lo ?xx_cd ?xx_kp; (case xx_a1 => first | k_is | kx_is | kernel_rfl); (case xx_fi => first | k_is | kx_is | kernel_rfl); (case xx_sp => first | k_is | kx_is | kernel_rfl); (case xx_tk => first | k_is | kx_is | kernel_rfl); (case xx_rc => first | k_is | kx_is | kernel_rfl); (case xx_lo => first | k_is | kx_is | kernel_rfl); (case xx_cd => first | k_is | kx_is | kernel_rfl); (case xx_kp => first | k_is | kx_is | kernel_rfl))
    (case pb_Map_roads => apply GX.propBy_of KX G ?xx_a1 ?xx_fi ?xx_sp ?xx_tk ?xx_rc ?xx_lo ?xx_cd ?xx_kp; (case xx_a1 => first | k_is | kx_is | kernel_rfl); (case xx_fi => first | k_is | kx_is | kernel_rfl); (case xx_sp => first | k_is | kx_is | kernel_rfl); (case xx_tk => first | k_is | kx_is | kernel_rfl); (case xx_rc => first | k_is | kx_is | kernel_rfl); (case xx_lo => first | k_is | kx_is | kernel_rfl); (case xx_cd => first | k_is | kx_is | kernel_rfl); (case xx_kp => first | k_is | kx_is | kernel_rfl))
    (case pb_Map_parts => apply GX.propBy_of KX G ?xx_a1 ?xx_fi ?xx_sp ?xx_tk ?xx_rc ?xx_lo ?xx_cd ?xx_kp; (case xx_a1 => first | k_is | kx_is | kernel_rfl); (case xx_fi => first | k_is | kx_is | kernel_rfl); (case xx_sp => first | k_is | kx_is | kernel_rfl); (case xx_tk => first | k_is | kx_is | kernel_rfl); (case xx_rc => first | k_is | kx_is | kernel_rfl); (case xx_lo => first | k_is | kx_is | kernel_rfl); (case xx_cd => first | k_is | kx_is | kernel_rfl); (case xx_kp => first | k_is | kx_is | kernel_rfl))
    (case eb_Map => apply GX.eqBy_of KX G ?xx_a1 ?xx_fi ?xx_fn ?xx_ne ?xx_nf ?xx_nr ?xx_lo ?xx_cd ?xx_kp; (case xx_a1 => first | k_is | kx_is | kernel_rfl); (case xx_fi => first | k_is | kx_is | kernel_rfl); (case xx_fn => first | k_is | kx_is | kernel_rfl); (case xx_ne => first | k_is | kx_is | kernel_rfl); (case xx_nf => first | k_is | kx_is | kernel_rfl); (case xx_nr => first | k_is | kx_is | kernel_rfl); (case xx_lo => first | k_is | kx_is | kernel_rfl); (case xx_cd => first | k_is | kx_is | kernel_rfl); (case xx_kp => first | k_is | kx_is | kernel_rfl))
    (case im_InvalidRoads_ClaimError => first | k_is | kx_is | kernel_rfl)
    (case ik_InvalidRoads_ClaimError => first | k_is | kx_is | kernel_rfl)
    (case im_InvalidRoads_InvalidRoads => first | k_is | kx_is | kernel_rfl)
    (case ik_InvalidRoads_InvalidRoads => first | k_is | kx_is | kernel_rfl)
    (case im_InvalidRoads_InvalidTowns => first | k_is | kx_is | kernel_rfl)
    (case ik_InvalidRoads_InvalidTowns => first | k_is | kx_is | kernel_rfl)
    (case im_InvalidTowns_ClaimError => first | k_is | kx_is | kernel_rfl)
    (case ik_InvalidTowns_ClaimError => first | k_is | kx_is | kernel_rfl)
    (case im_InvalidTowns_InvalidRoads => first | k_is | kx_is | kernel_rfl)
    (case ik_InvalidTowns_InvalidRoads => first | k_is | kx_is | kernel_rfl)
    (case im_InvalidTowns_InvalidTowns => first | k_is | kx_is | kernel_rfl)
    (case ik_InvalidTowns_InvalidTowns => first | k_is | kx_is | kernel_rfl)


