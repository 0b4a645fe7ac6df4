import PyProof.Rows.All
import Wide.All
import OpenK.AllK
import Wide.FinOn
import HandS.ForMost
import HandS.Exc
import HandS.IsInst
import HandS.TupAny
import HandS.EndBits
import PyProof.SumAnyB
import PyProof.ReprRoads
import PyProof.WalksMore
import HandS.Wide
import HandS.WideBits
import PyProof.NoPylong
import PyProof.ReprBulk
import PySem.Challenge.RW_claimback_k57_whole_what_lots_draw
set_option Elab.async false
set_option linter.all false
set_option maxRecDepth 100000
set_option maxHeartbeats 4000000
namespace GX
open PySem PySem.Spec PyProof.Rows L2

/-! ## data -/
inductive Da where
  | non | bl (b : Bool) | int (i : Int) | str (x : Str)
  | lst (xs : List Da) | tup (xs : List Da) | dct (ks : List (Key × Da))
  | ins (C : Addr) (fs : List (Str × Da)) | rf (a : Addr) | ty (n : String)

abbrev Sub (H H' : Hp) : Prop := ∀ a o, H a = some o → H' a = some o
theorem Sub.refl (H : Hp) : Sub H H := fun _ _ h => h
theorem Sub.trans {H H1 H2 : Hp} (a : Sub H H1) (b : Sub H1 H2) : Sub H H2 := fun x o h => b x o (a x o h)
theorem Sub.free {H H' : Hp} {p : Addr} (e : Sub H H') (h : H' p = none) : H p = none := by
  cases q : H p with
  | none => rfl
  | some o => rw [e p o q] at h; cases h
theorem Sub.upd0 {H H' : Hp} {p : Addr} {o : HO} (e : Sub H H') (h : H p = none) : Sub H (L2.upd H' p o) := fun a u ha => by
  rw [upd_ne (ne_of_none ha h)]; exact e a u ha
theorem Sub.upd {H H' : Hp} {p : Addr} {o : HO} (e : Sub H H') (h : H' p = none) : Sub H (L2.upd H' p o) := e.upd0 (e.free h)
theorem Sub.updB {H H' : Hp} {p : Addr} {o : HO} (e : Sub H H') : Sub (L2.upd H p o) (L2.upd H' p o) := fun a u ha => by
  by_cases c : a = p
  · subst c; rw [upd_same] at ha ⊢; exact ha
  · rw [upd_ne c] at ha ⊢; exact e a u ha
theorem Sub.rd {H H' : Hp} {a : Addr} {u : HO} (e : Sub H H') (h : Rd H a u) : Rd H' a u := by
  rcases h with h | ⟨o, h⟩
  · exact .inl (e a _ h)
  · exact .inr ⟨o, e a _ h⟩
theorem Sub.sl {K : PySem.W.Frag} {H H' : Hp} {a : Addr} {xs : List V} (e : Sub H H') (h : SqL K H a xs) : SqL K H' a xs := h.imp (e.rd ·) id
theorem Sub.st {K : PySem.W.Frag} {H H' : Hp} {a : Addr} {xs : List V} (e : Sub H H') (h : SqT K H a xs) : SqT K H' a xs := h.imp (e.rd ·) id

mutual
def Rep (K : PySem.W.Frag) (H : Hp) : Da → V → Prop
  | .non, v => v = .non
  | .bl b, v => v = .bl b
  | .int i, v => v = .int i
  | .str x, v => v = .str x
  | .ty n, v => v = .ty n
  | .rf a, v => v = .ref a
  | .lst ds, v => ∃ a xs, v = .ref a ∧ SqL K H a xs ∧ Reps K H ds xs
  | .tup ds, v => ∃ a xs, v = .ref a ∧ SqT K H a xs ∧ Reps K H ds xs
  | .dct ks, v => ∃ a kvs, v = .ref a ∧ Rd H a (.dK kvs) ∧ RepK K H ks kvs
  | .ins C fs, v => ∃ a dx gs, v = .ref a ∧ H a = some (.ins C dx gs) ∧ RepF K H fs gs
def Reps (K : PySem.W.Frag) (H : Hp) : List Da → List V → Prop
  | [], xs => xs = []
  | d :: ds, xs => ∃ x r, xs = x :: r ∧ Rep K H d x ∧ Reps K H ds r
def RepK (K : PySem.W.Frag) (H : Hp) : List (Key × Da) → List (Key × V) → Prop
  | [], xs => xs = []
  | (k, d) :: ds, xs => ∃ x r, xs = (k, x) :: r ∧ Rep K H d x ∧ RepK K H ds r
def RepF (K : PySem.W.Frag) (H : Hp) : List (Str × Da) → List (Str × V) → Prop
  | [], xs => xs = []
  | (k, d) :: ds, xs => ∃ x r, xs = (k, x) :: r ∧ Rep K H d x ∧ RepF K H ds r
end
section
variable {K : PySem.W.Frag} {H H' : Hp}
mutual
theorem Rep.mono (e : Sub H H') : ∀ (d : Da) (v : V), Rep K H d v → Rep K H' d v
  | .non, _, h => h
  | .bl _, _, h => h
  | .int _, _, h => h
  | .str _, _, h => h
  | .ty _, _, h => h
  | .rf _, _, h => h
  | .lst ds, _, h => by
    unfold Rep at h ⊢
    obtain ⟨a, xs, h1, h2, h3⟩ := h
    exact ⟨a, xs, h1, e.sl h2, Reps.mono e ds xs h3⟩
  | .tup ds, _, h => by
    unfold Rep at h ⊢
    obtain ⟨a, xs, h1, h2, h3⟩ := h
    exact ⟨a, xs, h1, e.st h2, Reps.mono e ds xs h3⟩
  | .dct ks, _, h => by
    unfold Rep at h ⊢
    obtain ⟨a, xs, h1, h2, h3⟩ := h
    exact ⟨a, xs, h1, e.rd h2, RepK.mono e ks xs h3⟩
  | .ins C fs, _, h => by
    unfold Rep at h ⊢
    obtain ⟨a, dx, xs, h1, h2, h3⟩ := h
    exact ⟨a, dx, xs, h1, e _ _ h2, RepF.mono e fs xs h3⟩
theorem Reps.mono (e : Sub H H') : ∀ (ds : List Da) (vs : List V), Reps K H ds vs → Reps K H' ds vs
  | [], _, h => h
  | d :: ds, _, h => by
    unfold Reps at h ⊢
    obtain ⟨x, r, h1, h2, h3⟩ := h
    exact ⟨x, r, h1, Rep.mono e d x h2, Reps.mono e ds r h3⟩
theorem RepK.mono (e : Sub H H') : ∀ (ds : List (Key × Da)) (vs : List (Key × V)), RepK K H ds vs → RepK K H' ds vs
  | [], _, h => h
  | (k, d) :: ds, _, h => by
    unfold RepK at h ⊢
    obtain ⟨x, r, h1, h2, h3⟩ := h
    exact ⟨x, r, h1, Rep.mono e d x h2, RepK.mono e ds r h3⟩
theorem RepF.mono (e : Sub H H') : ∀ (ds : List (Str × Da)) (vs : List (Str × V)), RepF K H ds vs → RepF K H' ds vs
  | [], _, h => h
  | (k, d) :: ds, _, h => by
    unfold RepF at h ⊢
    obtain ⟨x, r, h1, h2, h3⟩ := h
    exact ⟨x, r, h1, Rep.mono e d x h2, RepF.mono e ds r h3⟩
end
end

/-! ## slots, states -/
inductive Slot where
  | no | dat (d : Da) | inv (p : Addr) (I : List Da → Prop)
def Own (K : PySem.W.Frag) (Hf H : Hp) (p : Addr) (I : List Da → Prop) : Prop := Hf p = none ∧ ∃ vs xs, H p = some (.lst vs) ∧ Reps K Hf xs vs ∧ I xs
def SlotOk (K : PySem.W.Frag) (Hf H : Hp) (x : Option V) : Slot → Prop
  | .no => True
  | .dat d => ∃ v, x = some v ∧ Rep K Hf d v
  | .inv p I => x = some (.ref p) ∧ Own K Hf H p I
/-- what is wanted of an exception: its class, the fields of its own dict -/
abbrev Er := Value → Option (List (Str × Da)) → Prop
structure Sx where
  P : Program
  w : World
  K : PySem.W.Frag
  mg : Str → Option Value
  base : Heap
  N : List Str
  sc : Scope
  k : Nat
  F0 : Hp
  H0 : Hp
  op : List (Addr × (List Da → Prop))
  E : Er
  stor : Str → Bool := fun _ => true
def Keep (H0 : Hp) (op : List (Addr × (List Da → Prop))) (H : Hp) : Prop := ∀ q o, H0 q = some o → q ∉ op.map (·.1) → H q = some o
def XRep (K : PySem.W.Frag) (Hf : Hp) : Option Addr → Option (List (Str × Da)) → Prop
  | none, none => True
  | some d, some fs => ∃ gs, Hf d = some (.xd gs) ∧ RepF K Hf fs gs
  | _, _ => False
def Sx.WX (S : Sx) : WX := fun cls d _ H => ∃ Hf fs, Sub S.F0 Hf ∧ Sub Hf H ∧ (∀ p, Hf p ≠ none → S.F0 p = none → S.H0 p = none) ∧ Keep S.H0 S.op H ∧ (∀ q ∈ S.op, Own S.K Hf H q.1 q.2) ∧ XRep S.K Hf d fs ∧ S.E cls fs
structure Sx.Ok (S : Sx) (X : Cx) : Prop where
  P : X.prog = S.P
  w : X.w = S.w
  K : X.K = S.K
  mg : X.mg = S.mg
  base : X.base = S.base
  N : X.N = S.N
  sc : X.env.scope = S.sc
  calm : X.calm = true
  room : Room S.k X.A
  gd : X.A.guards = some []
  nd : S.N.Nodup
  tk : Takes X S.WX
  po : PassesOwn (model X.prog X.w) X.A X.env X.xe
  fn : ∀ x, S.stor x = true → X.fn x = true ∨ X.env.scope.names.lookup x = some .local
/-- a name of the module, or a built-in one -/
def GlS (S : Sx) (x : Str) : Prop := S.sc.names.lookup x = some .globalImplicit
theorem GlS.gl {S : Sx} {X : Cx} {x : Str} (h : GlS S x) (ok : S.Ok X) : Gl X x := by
  show X.env.scope.names.lookup x = _
  rw [ok.sc]; exact h
structure Stt (S : Sx) (PX : Hp) (Γ : List Slot) (Hf H : Hp) (σ : L2.St) : Prop where
  len : σ.length = Γ.length
  ex0 : Sub S.F0 Hf
  ex : Sub Hf H
  keep : Keep S.H0 S.op H
  ops : ∀ q ∈ S.op, H q.1 ≠ none
  at_ : ∀ (i : Nat) s, Γ[i]? = some s → SlotOk S.K Hf H (σ[i]?).join s
  new : ∀ (i : Nat) p I, Γ[i]? = some (.inv p I) → p ∈ S.op.map (·.1) ∨ S.H0 p = none
  fr : ∀ p, Hf p ≠ none → S.F0 p = none → S.H0 p = none
  px : Sub PX H
  pf : ∀ p, PX p ≠ none → Hf p = none
  pi : ∀ (i : Nat) p I, Γ[i]? = some (.inv p I) → PX p = none
  sep : ∀ (i j : Nat) p I J, Γ[i]? = some (.inv p I) → Γ[j]? = some (.inv p J) → i = j
section
variable {K : PySem.W.Frag} {Hf Hf' H H' : Hp} {p q : Addr} {I : List Da → Prop} {o : HO} {S : Sx} {PX : Hp} {Γ : List Slot} {σ : L2.St} {x : Option V} {s : Slot}
theorem Stt.fresh0 (st : Stt S PX Γ Hf H σ) (hp : H p = none) : S.H0 p = none := by
  cases e : S.H0 p with
  | none => rfl
  | some u =>
    by_cases c : p ∈ S.op.map (·.1)
    · obtain ⟨q, h1, h2⟩ := List.mem_map.mp c
      exact absurd (h2 ▸ hp) (st.ops q h1)
    · rw [st.keep p u e c] at hp; cases hp
theorem Own.more (e : Sub Hf Hf') (hp : Hf' p = none) (eH : H' p = H p) (h : Own K Hf H p I) : Own K Hf' H' p I := by
  obtain ⟨_, vs, xs, h1, h2, h3⟩ := h
  exact ⟨hp, vs, xs, eH.trans h1, Reps.mono e _ _ h2, h3⟩
theorem SlotOk.more (e : Sub Hf Hf') (h1 : ∀ p I, s = .inv p I → Hf' p = none ∧ H' p = H p) (h : SlotOk K Hf H x s) : SlotOk K Hf' H' x s := by
  cases s with
  | no => trivial
  | dat d =>
    obtain ⟨v, a, b⟩ := h
    exact ⟨v, a, Rep.mono e _ _ b⟩
  | inv p I =>
    obtain ⟨a, b⟩ := h
    obtain ⟨c, d⟩ := h1 p I rfl
    exact ⟨a, b.more e c d⟩
theorem Stt.own (st : Stt S PX Γ Hf H σ) {i : Nat} (h : Γ[i]? = some (.inv p I)) : (σ[i]?).join = some (V.ref p) ∧ Own S.K Hf H p I := st.at_ i _ h
theorem Stt.ownH (st : Stt S PX Γ Hf H σ) {i : Nat} (h : Γ[i]? = some (.inv p I)) : H p ≠ none := by
  obtain ⟨_, _, vs, xs, e, _⟩ := st.own h
  rw [e]; exact fun z => nomatch z
/-- a new object, frozen at once -/
theorem Stt.alloc (st : Stt S PX Γ Hf H σ) (hp : H p = none) : Stt S PX Γ (upd Hf p o) (upd H p o) σ ∧ Sub Hf (upd Hf p o) := by
  have e : Sub Hf (upd Hf p o) := Sub.upd0 (Sub.refl _) (st.ex.free hp)
  refine ⟨⟨st.len, st.ex0.trans e, st.ex.updB, fun q u h1 h2 => ?_, fun q h => ?_, fun i s h => ?_, st.new, fun q h h2 => ?_, st.px.upd hp, fun q h => ?_, st.pi, st.sep⟩, e⟩
  rotate_right
  · have n : q ≠ p := fun c => h (by rw [c]; exact st.px.free hp)
    rw [upd_ne n]; exact st.pf q h
  · have z := st.keep q u h1 h2
    rw [upd_ne (ne_of_none z hp)]; exact z
  · have z := st.ops q h
    rw [upd_ne (fun c : q.1 = p => z (by rw [c]; exact hp))]; exact z
  · refine (st.at_ i s h).more e fun p' I' es => ?_
    subst es
    have n : p' ≠ p := fun c => st.ownH h (c ▸ hp)
    rw [upd_ne n, upd_ne n]
    exact ⟨(st.own h).2.1, rfl⟩
  · by_cases c : q = p
    · subst c; exact st.fresh0 hp
    · rw [upd_ne c] at h; exact st.fr q h h2
/-- what is tracked beside the owned lists is as it was -/
theorem Stt.grow (st : Stt S PX Γ Hf H σ) (e : Sub Hf Hf') (eH : Sub Hf' H') (k : Sub H H') (hn : ∀ p, Hf' p ≠ none → Hf p = none → H p = none) : Stt S PX Γ Hf' H' σ := by
  refine ⟨st.len, st.ex0.trans e, eH, fun q u h1 h2 => k _ _ (st.keep q u h1 h2), fun q h z => st.ops q h (Sub.free k z), fun i s h => ?_, st.new, fun q h h2 => ?_, st.px.trans k, fun q h => ?_, st.pi, st.sep⟩
  rotate_right
  · cases c : Hf' q with
    | none => rfl
    | some u => exact absurd (st.px.free (hn q (by rw [c]; exact fun z => nomatch z) (st.pf q h))) h
  rotate_left
  · by_cases c : Hf q = none
    · exact st.fresh0 (hn q h c)
    · exact st.fr q c h2
  refine (st.at_ i s h).more e fun p' I' es => ?_
  subst es
  have z := st.ownH h
  have f := (st.own h).2.1
  refine ⟨?_, ?_⟩
  · cases c : Hf' p' with
    | none => rfl
    | some u => exact absurd (hn p' (by rw [c]; exact fun z => nomatch z) f) z
  · cases c : H p' with
    | none => exact absurd c z
    | some u => exact k _ _ c
end

/-! ## judgements -/
def tU (S : Sx) (e : Expr) : TE := fun σ H Q => ∃ t : TE, (∀ X, S.Ok X → PE X e t) ∧ t σ H Q
def tUT (S : Sx) (e : Expr) : TT := fun σ H Q => ∃ t : TT, (∀ X, S.Ok X → PT X e t) ∧ t σ H Q
def tUA (S : Sx) (es : List Expr) : TA := fun σ H Q => ∃ t : TA, (∀ X, S.Ok X → PA X es t) ∧ t σ H Q
def tUK (S : Sx) (es : List Keyword) : TA := fun σ H Q => ∃ t : TA, (∀ X, S.Ok X → PK X es t) ∧ t σ H Q
def tUS (S : Sx) (st : Stmt) : TS := fun D σ H => ∃ t : TS, (∀ X, S.Ok X → PS X st t) ∧ t D σ H
def tUB (S : Sx) (st : List Stmt) : TS := fun D σ H => ∃ t : TS, (∀ X, S.Ok X → PSs X st t) ∧ t D σ H
def tUG (S : Sx) (e : Expr) : TG := fun v σ H Q => ∃ t : TG, (∀ X, S.Ok X → PG X e t) ∧ t v σ H Q
section
variable {S : Sx} {X : Cx} {e : Expr} {es : List Expr} {ks : List Keyword} {st : Stmt} {sts : List Stmt}
theorem pu (ok : S.Ok X) : PE X e (tU S e) := ⟨fun pins s σ H Q I ⟨_, h, q⟩ => (h X ok).run pins s σ H Q I q⟩
theorem puT (ok : S.Ok X) : PT X e (tUT S e) := ⟨fun pins s σ H Q I ⟨_, h, q⟩ => (h X ok).run pins s σ H Q I q⟩
theorem puA (ok : S.Ok X) : PA X es (tUA S es) := ⟨fun pos pins s σ H Q I ⟨_, h, q⟩ => (h X ok).run pos pins s σ H Q I q⟩
theorem puK (ok : S.Ok X) : PK X ks (tUK S ks) := ⟨fun pos pins s σ H Q I ⟨_, h, q⟩ => (h X ok).run pos pins s σ H Q I q⟩
theorem puS (ok : S.Ok X) : PS X st (tUS S st) := ⟨fun pins s σ H D I ⟨_, h, q⟩ => (h X ok).run pins s σ H D I q⟩
theorem puB (ok : S.Ok X) : PSs X sts (tUB S sts) := ⟨fun pins s σ H D I ⟨_, h, q⟩ => (h X ok).run pins s σ H D I q⟩
theorem puG (ok : S.Ok X) : PG X e (tUG S e) := ⟨fun pins s σ H v u Q I r ⟨_, h, q⟩ => (h X ok).run pins s σ H v u Q I r q⟩
end

def EvE (S : Sx) (Γ : List Slot) (e : Expr) (Q : Da → Prop) : Prop := ∀ PX σ H Hf k, Stt S PX Γ Hf H σ →
  (∀ d v Hf' H', Sub Hf Hf' → Stt S PX Γ Hf' H' σ → Rep S.K Hf' d v → Q d → k v H') → tU S e σ H k
def EvT (S : Sx) (Γ : List Slot) (e : Expr) (Q : Bool → Prop) : Prop := ∀ PX σ H Hf k, Stt S PX Γ Hf H σ →
  (∀ b Hf' H', Sub Hf Hf' → Stt S PX Γ Hf' H' σ → Q b → k b H') → tUT S e σ H k
def EvA (S : Sx) (Γ : List Slot) (es : List Expr) (Q : List Da → Prop) : Prop := ∀ PX σ H Hf k, Stt S PX Γ Hf H σ →
  (∀ ds vs Hf' H', Sub Hf Hf' → Stt S PX Γ Hf' H' σ → Reps S.K Hf' ds vs → Q ds → k vs H') → tUA S es σ H k
def EvK (S : Sx) (Γ : List Slot) (es : List Keyword) (Q : List Da → Prop) : Prop := ∀ PX σ H Hf k, Stt S PX Γ Hf H σ →
  (∀ ds vs Hf' H', Sub Hf Hf' → Stt S PX Γ Hf' H' σ → Reps S.K Hf' ds vs → Q ds → k vs H') → tUK S es σ H k
structure EnG where
  nx : List Slot → Prop
  rt : Da → Prop
  bk : List Slot → Prop := fun _ => False
  ct : List Slot → Prop := fun _ => False
  rr : List Da → Prop := fun _ => False
def OpsIn (S : Sx) (Γ : List Slot) : Prop := ∀ q ∈ S.op, Slot.inv q.1 q.2 ∈ Γ
structure EnOk (S : Sx) (PX Hf : Hp) (D : EnG) (D' : Ends) : Prop where
  nx : ∀ Γ σ Hf' H', Sub Hf Hf' → Stt S PX Γ Hf' H' σ → D.nx Γ → D'.nx σ H'
  rt : ∀ d v Γ σ Hf' H', Sub Hf Hf' → Stt S PX Γ Hf' H' σ → OpsIn S Γ → Rep S.K Hf' d v → D.rt d → D'.rt v H'
  bk : ∀ Γ σ Hf' H', Sub Hf Hf' → Stt S PX Γ Hf' H' σ → D.bk Γ → D'.bk σ H'
  ct : ∀ Γ σ Hf' H', Sub Hf Hf' → Stt S PX Γ Hf' H' σ → D.ct Γ → D'.ct σ H'
  rr : ∀ p ds vs Γ σ Hf' H', Sub Hf Hf' → Stt S (upd PX p (.lst vs)) Γ Hf' H' σ → PX p = none → S.H0 p = none → OpsIn S Γ → Reps S.K Hf' ds vs → D.rr ds → D'.rt (.ref p) H'
theorem EnOk.mono {S : Sx} {PX Hf Hf' : Hp} {D : EnG} {D' : Ends} (e : Sub Hf Hf') (h : EnOk S PX Hf D D') : EnOk S PX Hf' D D' :=
  ⟨fun Γ σ a b c => h.nx Γ σ a b (e.trans c), fun d v Γ σ a b c => h.rt d v Γ σ a b (e.trans c), fun Γ σ a b c => h.bk Γ σ a b (e.trans c), fun Γ σ a b c => h.ct Γ σ a b (e.trans c), fun p ds vs Γ σ a b c => h.rr p ds vs Γ σ a b (e.trans c)⟩
def EvS (S : Sx) (Γ : List Slot) (st : Stmt) (D : EnG) : Prop := ∀ PX σ H Hf D', Stt S PX Γ Hf H σ → EnOk S PX Hf D D' → tUS S st D' σ H
def EvB (S : Sx) (Γ : List Slot) (st : List Stmt) (D : EnG) : Prop := ∀ PX σ H Hf D', Stt S PX Γ Hf H σ → EnOk S PX Hf D D' → tUB S st D' σ H
/-- a target takes a value -/
structure Alt (W : Nat → Bool) (Γ : List Slot) (σ : L2.St) (Γ' : List Slot) (σ' : L2.St) : Prop where
  len : σ'.length = σ.length
  s : ∀ j : Nat, W j = false → σ'[j]? = σ[j]?
  g : ∀ j : Nat, W j = false → Γ'[j]? = Γ[j]?
theorem Alt.refl {W : Nat → Bool} {Γ : List Slot} {σ : L2.St} : Alt W Γ σ Γ σ := ⟨rfl, fun _ _ => rfl, fun _ _ => rfl⟩
theorem Alt.trans {W : Nat → Bool} {Γ Γ1 Γ2 : List Slot} {σ σ1 σ2 : L2.St} (a : Alt W Γ σ Γ1 σ1) (b : Alt W Γ1 σ1 Γ2 σ2) : Alt W Γ σ Γ2 σ2 := ⟨b.len.trans a.len, fun j h => (b.s j h).trans (a.s j h), fun j h => (b.g j h).trans (a.g j h)⟩
theorem Alt.set {W : Nat → Bool} {Γ : List Slot} {σ : L2.St} {i : Nat} {x : Option V} {y : Slot} (h : W i = true) : Alt W Γ σ (Γ.set i y) (σ.set i x) :=
  ⟨List.length_set .., fun j hj => List.getElem?_set_ne (fun e => by rw [e, hj] at h; cases h), fun j hj => List.getElem?_set_ne (fun e => by rw [e, hj] at h; cases h)⟩
abbrev anyW : Nat → Bool := fun _ => true
def EvG (S : Sx) (W : Nat → Bool) (Γ : List Slot) (e : Expr) (d : Da) (Q : List Slot → Prop) : Prop := ∀ PX v σ H Hf k, Stt S PX Γ Hf H σ → Rep S.K Hf d v →
  (∀ Γ' σ' Hf' H', Sub Hf Hf' → Stt S PX Γ' Hf' H' σ' → Alt W Γ σ Γ' σ' → Q Γ' → k σ' H') → tUG S e v σ H k

/-! ### kinds of data -/
@[reducible] def asInt (d : Da) (k : Int → Prop) : Prop := match d with | .int i => k i | _ => False
@[reducible] def asBl (d : Da) (k : Bool → Prop) : Prop := match d with | .bl i => k i | _ => False
@[reducible] def asStr (d : Da) (k : Str → Prop) : Prop := match d with | .str i => k i | _ => False
@[reducible] def asTup (d : Da) (k : List Da → Prop) : Prop := match d with | .tup i => k i | _ => False
@[reducible] def asLst (d : Da) (k : List Da → Prop) : Prop := match d with | .lst i => k i | _ => False
@[reducible] def asSeq (d : Da) (k : List Da → Prop) : Prop := match d with | .lst i => k i | .tup i => k i | _ => False
theorem asInt_ {d : Da} {k : Int → Prop} (h : asInt d k) : ∃ i, d = .int i ∧ k i := by cases d <;> first | exact ⟨_, rfl, h⟩ | exact h.elim
theorem asBl_ {d : Da} {k : Bool → Prop} (h : asBl d k) : ∃ i, d = .bl i ∧ k i := by cases d <;> first | exact ⟨_, rfl, h⟩ | exact h.elim
theorem asStr_ {d : Da} {k : Str → Prop} (h : asStr d k) : ∃ i, d = .str i ∧ k i := by cases d <;> first | exact ⟨_, rfl, h⟩ | exact h.elim
theorem asTup_ {d : Da} {k : List Da → Prop} (h : asTup d k) : ∃ i, d = .tup i ∧ k i := by cases d <;> first | exact ⟨_, rfl, h⟩ | exact h.elim
theorem asLst_ {d : Da} {k : List Da → Prop} (h : asLst d k) : ∃ i, d = .lst i ∧ k i := by cases d <;> first | exact ⟨_, rfl, h⟩ | exact h.elim
theorem asSeq_ {d : Da} {k : List Da → Prop} (h : asSeq d k) : ∃ i, (d = .lst i ∨ d = .tup i) ∧ k i := by cases d <;> first | exact ⟨_, .inl rfl, h⟩ | exact ⟨_, .inr rfl, h⟩ | exact h.elim

section
variable {S : Sx} {Γ : List Slot} {e a b c : Expr} {es : List Expr} {Q : Da → Prop} {pos : Pos}
theorem EvE.imp {Q' : Da → Prop} (h : EvE S Γ e Q) (q : ∀ d, Q d → Q' d) : EvE S Γ e Q' := fun PX σ H Hf k st hk => h PX σ H Hf k st fun d v Hf' H' a b c z => hk d v Hf' H' a b c (q d z)
theorem EvT.imp {Q Q' : Bool → Prop} (h : EvT S Γ e Q) (q : ∀ d, Q d → Q' d) : EvT S Γ e Q' := fun PX σ H Hf k st hk => h PX σ H Hf k st fun d Hf' H' a b z => hk d Hf' H' a b (q d z)
theorem ev_of {t : TE} (h : ∀ X, S.Ok X → PE X e t) (q : ∀ PX σ H Hf k, Stt S PX Γ Hf H σ → (∀ d v Hf' H', Sub Hf Hf' → Stt S PX Γ Hf' H' σ → Rep S.K Hf' d v → Q d → k v H') → t σ H k) : EvE S Γ e Q :=
  fun PX σ H Hf k st hk => ⟨t, h, q PX σ H Hf k st hk⟩
/-! ### names, constants -/
theorem ev_var {i : Nat} {x : Str} {d : Da} (hN : S.N[i]? = some x) (hv : Vis S.sc x) (hΓ : Γ[i]? = some (.dat d)) (q : Q d)
    (hd : (x == ("__debug__" : Str)) = false := by decide) (hcd : (x == ("__classdict__" : Str)) = false := by decide) : EvE S Γ (.Name x pos) Q :=
  ev_of (fun X ok => pe_var (i := i) (by rw [ok.N]; exact hN) (by rw [ok.sc]; exact hv) hd hcd) fun PX σ H Hf k st hk => by
    obtain ⟨v, e, r⟩ := st.at_ i _ hΓ
    refine ⟨v, ?_, hk d v Hf H (Sub.refl _) st r q⟩
    cases z : σ[i]? with
    | none => rw [z] at e; cases e
    | some o => rw [z] at e; exact congrArg some e
theorem ev_const {d : Da} {v : V} (h : ∀ X, S.Ok X → PE X e (tC v)) (r : ∀ H, Rep S.K H d v) (q : Q d) : EvE S Γ e Q := ev_of h fun PX σ H Hf k st hk => hk d v Hf H (Sub.refl _) st (r _) q
theorem ev_int {i : Int} {j} (q : Q (.int i)) : EvE S Γ (.Constant (.int i) j pos) Q := ev_const (d := .int i) (v := .int i) (fun _ _ => pe_int) (fun _ => rfl) q
theorem ev_bl {i : Bool} {j} (q : Q (.bl i)) : EvE S Γ (.Constant (.bool i) j pos) Q := ev_const (d := .bl i) (v := .bl i) (fun _ _ => pe_bl) (fun _ => rfl) q
theorem ev_non {j} (q : Q .non) : EvE S Γ (.Constant .none j pos) Q := ev_const (d := .non) (v := .non) (fun _ _ => pe_non) (fun _ => rfl) q
theorem ev_str {i : Str} {j} (q : Q (.str i)) : EvE S Γ (.Constant (.str i) j pos) Q := ev_const (d := .str i) (v := .str i) (fun _ _ => pe_str) (fun _ => rfl) q
/-- a constant of the module -/
theorem ev_glob {x : Str} {d : Da} {v : V} {u : Value} (hg : GlS S x) (hm : S.mg x = some u) (rv : RelV v u) (r : ∀ H, Rep S.K H d v) (q : Q d) (hd : (x == ("__debug__" : Str)) = false := by decide) : EvE S Γ (.Name x pos) Q :=
  ev_const (v := v) (fun X ok => pe_glob (hg.gl ok) (by rw [ok.mg]; exact hm) rv hd) r q

/-! ### operators -/
structure OpG (S : Sx) (f : Value → Value → Sem Value) (r : Da → Da → (Da → Prop) → Prop) : Prop where
  ex : ∃ rr : R2, (∀ X, S.Ok X → OpR X f rr) ∧ ∀ PX Γ σ Hf H x y v u (Q : Da → Prop) k, Stt S PX Γ Hf H σ → Rep S.K Hf x v → Rep S.K Hf y u → r x y Q →
    (∀ d v Hf' H', Sub Hf Hf' → Stt S PX Γ Hf' H' σ → Rep S.K Hf' d v → Q d → k v H') → rr v u H k
theorem OpG.pure {f : Value → Value → Sem Value} {r : Da → Da → (Da → Prop) → Prop} (rr : R2) (h : ∀ X, S.Ok X → OpR X f rr)
    (q : ∀ Hf H x y v u Q k, Sub Hf H → Rep S.K Hf x v → Rep S.K Hf y u → r x y Q → (∀ d v, Rep S.K Hf d v → Q d → k v H) → rr v u H k) : OpG S f r :=
  ⟨rr, h, fun PX Γ σ Hf H x y v u Q k st rx ry hr hk => q Hf H x y v u Q k st.ex rx ry hr fun d v a b => hk d v Hf H (Sub.refl _) st a b⟩
theorem two {r : Da → Da → (Da → Prop) → Prop} {f : Value → Value → Sem Value} (ho : OpG S f r) {t : TE} {rr : R2} (hrr : ho.ex.choose = rr) (h : EvE S Γ a fun x => EvE S Γ b fun y => r x y Q) :
    ∀ PX σ H Hf k, Stt S PX Γ Hf H σ → (∀ d v Hf' H', Sub Hf Hf' → Stt S PX Γ Hf' H' σ → Rep S.K Hf' d v → Q d → k v H') → tOp rr (tU S a) (tU S b) σ H k := by
  subst hrr
  intro PX σ H Hf k st hk
  refine h PX σ H Hf _ st fun x v Hf1 H1 e1 st1 r1 q1 => ?_
  refine q1 PX σ H1 Hf1 _ st1 fun y u Hf2 H2 e2 st2 r2 q2 => ?_
  exact ho.ex.choose_spec.2 PX Γ σ Hf2 H2 x y v u Q k st2 (Rep.mono e2 _ _ r1) r2 q2 fun d v Hf' H' e => hk d v Hf' H' ((e1.trans e2).trans e)
theorem ev_op {op : Operator} {r : Da → Da → (Da → Prop) → Prop} (ho : OpG S (binaryOp op) r) (h : EvE S Γ a fun x => EvE S Γ b fun y => r x y Q) : EvE S Γ (.BinOp a op b pos) Q :=
  ev_of (fun X ok => pe_op (ho.ex.choose_spec.1 X ok) (pu ok) (pu ok)) (two (t := tU S a) ho rfl h)
theorem ev_cmp {op : CmpOp} {r : Da → Da → (Da → Prop) → Prop} (ho : OpG S (compareOp op) r) (h : EvE S Γ a fun x => EvE S Γ b fun y => r x y Q) (hm : behindInMarks op b = false := by first | exact nomark _ | rfl) : EvE S Γ (.Compare a [op] [b] pos) Q :=
  ev_of (fun X ok => pe_cmpR (ho.ex.choose_spec.1 X ok) (pu ok) (pu ok) hm) (two (t := tU S a) ho rfl h)
theorem et_cmp {op : CmpOp} {r : Da → Da → (Da → Prop) → Prop} {Q : Bool → Prop} (ho : OpG S (compareOp op) r) (h : EvE S Γ a fun x => EvE S Γ b fun y => r x y fun d => asBl d Q) (hm : behindInMarks op b = false := by first | exact nomark _ | rfl) : EvT S Γ (.Compare a [op] [b] pos) Q :=
  fun PX σ H Hf k st hk => ⟨_, fun X ok => pt_cmpR (ho.ex.choose_spec.1 X ok) (pu ok) (pu ok) hm, two (t := tU S a) ho rfl h PX σ H Hf _ st fun d v Hf' H' e st' r q => by
    obtain ⟨i, rfl, q⟩ := asBl_ q
    exact ⟨i, r, hk i Hf' H' e st' q⟩⟩

variable {f : Value → Value → Sem Value}
theorem og_I {g : Int → Int → Da} {g' : Int → Int → V} (ho : ∀ X, S.Ok X → OpR X f (rI0 g')) (hg : ∀ i j H, Rep S.K H (g i j) (g' i j)) : OpG S f fun x y Q => asInt x fun i => asInt y fun j => Q (g i j) :=
  .pure _ ho fun Hf H x y v u Q k _ rx ry hr hk => by
    obtain ⟨i, rfl, h1⟩ := asInt_ hr
    obtain ⟨j, rfl, h2⟩ := asInt_ h1
    exact ⟨i, j, rx, ry, hk _ _ (hg i j _) h2⟩
theorem og_IC {C : Int → Int → Prop} {g : Int → Int → Da} {g' : Int → Int → V} (ho : ∀ X, S.Ok X → OpR X f (rI C g')) (hg : ∀ i j H, Rep S.K H (g i j) (g' i j)) : OpG S f fun x y Q => asInt x fun i => asInt y fun j => C i j ∧ Q (g i j) :=
  .pure _ ho fun Hf H x y v u Q k _ rx ry hr hk => by
    obtain ⟨i, rfl, h1⟩ := asInt_ hr
    obtain ⟨j, rfl, h2⟩ := asInt_ h1
    exact ⟨i, j, rx, ry, h2.1, hk _ _ (hg i j _) h2.2⟩
theorem g_add : OpG S (binaryOp .Add) fun x y Q => asInt x fun i => asInt y fun j => Q (.int (i + j)) := og_I (fun _ _ => op_add) fun _ _ _ => rfl
theorem g_sub : OpG S (binaryOp .Sub) fun x y Q => asInt x fun i => asInt y fun j => Q (.int (i - j)) := og_I (fun _ _ => op_sub) fun _ _ _ => rfl
theorem g_mul : OpG S (binaryOp .Mult) fun x y Q => asInt x fun i => asInt y fun j => CMul i j ∧ Q (.int (i * j)) := og_IC (fun _ _ => op_mul) fun _ _ _ => rfl
theorem g_mod : OpG S (binaryOp .Mod) fun x y Q => asInt x fun i => asInt y fun j => 0 < j ∧ Q (.int (i % j)) := og_IC (fun _ _ => op_mod) fun _ _ _ => rfl
/-- what a divisor must be -/
abbrev Dv (j : Int) : Prop := 0 < j ∧ j < 18446744073709551616
theorem Dv.lg {j : Int} (h : Dv j) : j.natAbs.log2 < 9000 := Nat.lt_of_lt_of_le (PySem.Flt.log2_lt_of (k := 64) (by decide) (by have := h.1; have := h.2; omega)) (by decide)
theorem Dv.w {i j : Int} (h : Dv j) : CDivW i j := ⟨h.1, h.lg⟩
theorem Dv.p {i j : Int} (h : Dv j) : CDivP i j := ⟨h.1, PyProof.noPylong_of_log2 h.lg⟩
theorem g_div : OpG S (binaryOp .FloorDiv) fun x y Q => asInt x fun i => asInt y fun j => Dv j ∧ Q (.int (i / j)) :=
  .pure _ (fun _ _ => op_fdivW) fun Hf H x y v u Q k _ rx ry hr hk => by
    obtain ⟨i, rfl, h1⟩ := asInt_ hr
    obtain ⟨j, rfl, h2⟩ := asInt_ h1
    exact ⟨i, j, rx, ry, h2.1.w, hk (.int (i / j)) _ rfl h2.2⟩
theorem g_Pow : OpG S (binaryOp .Pow) fun x y Q => asInt x fun i => asInt y fun j => CPow i j ∧ Q (.int (i ^ j.toNat)) := og_IC (fun _ _ => op_pow) fun _ _ _ => rfl
theorem g_lt : OpG S (compareOp .Lt) fun x y Q => asInt x fun i => asInt y fun j => Q (.bl (decide (i < j))) := og_I (fun _ _ => op_lt) fun _ _ _ => rfl
theorem g_le : OpG S (compareOp .LtE) fun x y Q => asInt x fun i => asInt y fun j => Q (.bl (decide (i ≤ j))) := og_I (fun _ _ => op_le) fun _ _ _ => rfl
theorem g_gt : OpG S (compareOp .Gt) fun x y Q => asInt x fun i => asInt y fun j => Q (.bl (decide (j < i))) := og_I (fun _ _ => op_gt) fun _ _ _ => rfl
theorem g_ge : OpG S (compareOp .GtE) fun x y Q => asInt x fun i => asInt y fun j => Q (.bl (decide (j ≤ i))) := og_I (fun _ _ => op_ge) fun _ _ _ => rfl
end

section
variable {S : Sx} {Γ : List Slot} {e a b c : Expr} {es : List Expr} {Q : Da → Prop} {B : Bool → Prop} {pos : Pos}
/-! ### tests -/
@[reducible] def cond (b : Bool) (p q : Prop) : Prop := match b with | true => p | false => q
theorem cond_ite {b : Bool} {p q : Prop} (h : cond b p q) : if b = true then p else q := by cases b <;> first | exact iteT h | exact iteF h
theorem et_val (h : EvE S Γ e fun d => asBl d B) (he : ∀ env whole, isTrue e env whole = (do let v ← whole; standAt e.pos; holding [v] (truthy v)) := by intro _ _; rfl) : EvT S Γ e B :=
  fun PX σ H Hf k st hk => ⟨_, fun X ok => pt_val (pu ok) (he X.env), h PX σ H Hf _ st fun d v Hf' H' e' st' r q => by
    obtain ⟨i, rfl, q⟩ := asBl_ q
    exact ⟨i, r, hk i Hf' H' e' st' q⟩⟩
theorem et_not (h : EvT S Γ a fun c => B (!c)) : EvT S Γ (.UnaryOp .Not a pos) B :=
  fun PX σ H Hf k st hk => ⟨_, fun X ok => pt_not (puT ok), h PX σ H Hf _ st fun c Hf' H' e' st' q => hk (!c) Hf' H' e' st' q⟩
def EvW (S : Sx) (Γ : List Slot) (e : Expr) (Q : Bool → Prop) : Prop := ∀ PX σ H Hf k, Stt S PX Γ Hf H σ →
  (∀ b Hf' H', Sub Hf Hf' → Stt S PX Γ Hf' H' σ → Q b → k b H') → ∃ t : TT, (∀ X, S.Ok X → PW X e t) ∧ t σ H k
def tUW (S : Sx) (e : Expr) : TT := fun σ H Q => ∃ t : TT, (∀ X, S.Ok X → PW X e t) ∧ t σ H Q
theorem puW {X : Cx} (ok : S.Ok X) : PW X e (tUW S e) := ⟨fun wh pins s σ H Q I ⟨_, h, q⟩ => (h X ok).run wh pins s σ H Q I q⟩
theorem et_w (h : EvW S Γ e B) : EvT S Γ e B := fun PX σ H Hf k st hk => by
  obtain ⟨t, h1, h2⟩ := h PX σ H Hf k st hk
  exact ⟨t, fun X ok => (h1 X ok).pt, h2⟩
theorem ew_and1 (h : EvT S Γ a B) : EvW S Γ (.BoolOp .And [a] pos) B := fun PX σ H Hf k st hk => ⟨_, fun X ok => pw_and1 (puT ok), h PX σ H Hf k st hk⟩
theorem ew_or1 (h : EvT S Γ a B) : EvW S Γ (.BoolOp .Or [a] pos) B := fun PX σ H Hf k st hk => ⟨_, fun X ok => pw_or1 (puT ok), h PX σ H Hf k st hk⟩
theorem ew_and (h : EvT S Γ a fun c => cond c (EvW S Γ (.BoolOp .And (b :: es) pos) B) (B false)) : EvW S Γ (.BoolOp .And (a :: b :: es) pos) B :=
  fun PX σ H Hf k st hk => ⟨_, fun X ok => pw_and (puT ok) (puW ok), h PX σ H Hf _ st fun c Hf1 H1 e1 st1 q => cond_ite (by
    cases c with
    | true => exact q PX σ H1 Hf1 k st1 fun b Hf' H' e => hk b Hf' H' (e1.trans e)
    | false => exact hk false Hf1 H1 e1 st1 q)⟩
theorem ew_or (h : EvT S Γ a fun c => cond c (B true) (EvW S Γ (.BoolOp .Or (b :: es) pos) B)) : EvW S Γ (.BoolOp .Or (a :: b :: es) pos) B :=
  fun PX σ H Hf k st hk => ⟨_, fun X ok => pw_or (puT ok) (puW ok), h PX σ H Hf _ st fun c Hf1 H1 e1 st1 q => cond_ite (by
    cases c with
    | false => exact q PX σ H1 Hf1 k st1 fun b Hf' H' e => hk b Hf' H' (e1.trans e)
    | true => exact hk true Hf1 H1 e1 st1 q)⟩
/-! ### and, or, not, if as values -/
theorem ev_one {op} (h : EvE S Γ a Q) : EvE S Γ (.BoolOp op [a] pos) Q := ev_of (fun X ok => pe_one (pu ok)) h
theorem ev_and (h : EvE S Γ a fun d => asBl d fun c => cond c (EvE S Γ (.BoolOp .And (b :: es) pos) Q) (Q (.bl false))) : EvE S Γ (.BoolOp .And (a :: b :: es) pos) Q :=
  ev_of (fun X ok => pe_and (pu ok) (pu ok)) fun PX σ H Hf k st hk => h PX σ H Hf _ st fun d v Hf1 H1 e1 st1 r q => by
    obtain ⟨c, rfl, q⟩ := asBl_ q
    refine ⟨c, r, cond_ite ?_⟩
    cases c with
    | true => exact q PX σ H1 Hf1 k st1 fun d v Hf' H' e => hk d v Hf' H' (e1.trans e)
    | false => exact hk (.bl false) _ Hf1 H1 e1 st1 rfl q
theorem ev_or (h : EvE S Γ a fun d => asBl d fun c => cond c (Q (.bl true)) (EvE S Γ (.BoolOp .Or (b :: es) pos) Q)) : EvE S Γ (.BoolOp .Or (a :: b :: es) pos) Q :=
  ev_of (fun X ok => pe_or (pu ok) (pu ok)) fun PX σ H Hf k st hk => h PX σ H Hf _ st fun d v Hf1 H1 e1 st1 r q => by
    obtain ⟨c, rfl, q⟩ := asBl_ q
    refine ⟨c, r, cond_ite ?_⟩
    cases c with
    | false => exact q PX σ H1 Hf1 k st1 fun d v Hf' H' e => hk d v Hf' H' (e1.trans e)
    | true => exact hk (.bl true) _ Hf1 H1 e1 st1 rfl q
theorem ev_not (h : EvE S Γ a fun d => asBl d fun c => Q (.bl (!c))) : EvE S Γ (.UnaryOp .Not a pos) Q :=
  ev_of (fun X ok => pe_not (pu ok)) fun PX σ H Hf k st hk => h PX σ H Hf _ st fun d v Hf1 H1 e1 st1 r q => by
    obtain ⟨c, rfl, q⟩ := asBl_ q
    exact ⟨c, r, hk (.bl (!c)) _ Hf1 H1 e1 st1 rfl q⟩
theorem ev_ifx (h : EvT S Γ c fun t => cond t (EvE S Γ a Q) (EvE S Γ b Q)) : EvE S Γ (.IfExp c a b pos) Q :=
  ev_of (fun X ok => pe_ifExp (puT ok) (pu ok) (pu ok)) fun PX σ H Hf k st hk => h PX σ H Hf _ st fun t Hf1 H1 e1 st1 q => cond_ite (by
    cases t with
    | true => exact q PX σ H1 Hf1 k st1 fun d v Hf' H' e => hk d v Hf' H' (e1.trans e)
    | false => exact q PX σ H1 Hf1 k st1 fun d v Hf' H' e => hk d v Hf' H' (e1.trans e))
theorem ev_neg (h : EvE S Γ a fun d => asInt d fun i => Q (.int (-i))) : EvE S Γ (.UnaryOp .USub a pos) Q :=
  ev_of (fun X ok => pe_un un_neg (pu ok)) fun PX σ H Hf k st hk => h PX σ H Hf _ st fun d v Hf1 H1 e1 st1 r q => by
    obtain ⟨c, rfl, q⟩ := asInt_ q
    exact ⟨c, r, hk (.int (-c)) _ Hf1 H1 e1 st1 rfl q⟩
/-- is None -/
@[reducible] def isNon (d : Da) : Bool := match d with | .non => true | _ => false
theorem Rep.non_iff {K : PySem.W.Frag} {H : Hp} {d : Da} {v : V} (r : Rep K H d v) : decide (v = V.non) = isNon d := by
  cases d <;> unfold Rep at r
  case non => subst r; rfl
  case bl => subst r; rfl
  case int => subst r; rfl
  case str => subst r; rfl
  case ty => subst r; rfl
  case rf => subst r; rfl
  case lst => obtain ⟨_, _, rfl, _⟩ := r; rfl
  case tup => obtain ⟨_, _, rfl, _⟩ := r; rfl
  case dct => obtain ⟨_, _, rfl, _⟩ := r; rfl
  case ins => obtain ⟨_, _, _, rfl, _⟩ := r; rfl
theorem g_is : OpG S (compareOp .Is) fun x y Q => y = .non ∧ Q (.bl (isNon x)) :=
  .pure _ (fun _ _ => op_isN) fun Hf H x y v u Q k _ rx ry hr hk => by
    obtain ⟨rfl, q⟩ := hr
    exact ⟨ry, hk (.bl (isNon x)) _ (by rw [Rep.non_iff rx]; rfl) q⟩
theorem g_isnot : OpG S (compareOp .IsNot) fun x y Q => y = .non ∧ Q (.bl (!isNon x)) :=
  .pure _ (fun _ _ => op_notN) fun Hf H x y v u Q k _ rx ry hr hk => by
    obtain ⟨rfl, q⟩ := hr
    exact ⟨ry, hk (.bl (!isNon x)) _ (by rw [Rep.non_iff rx]; rfl) q⟩

/-! ### argument lists, displays -/
theorem ea_nil {Q : List Da → Prop} (q : Q []) : EvA S Γ [] Q := fun PX σ H Hf k st hk => ⟨_, fun X _ => pa_nil, hk [] [] Hf H (Sub.refl _) st rfl q⟩
theorem ea_cons {Q : List Da → Prop} (h : EvE S Γ e fun d => EvA S Γ es fun ds => Q (d :: ds)) (hs : ∀ env, starEach (e :: es) env = (false, eval e env) :: starEach es env := by intro _; rfl) : EvA S Γ (e :: es) Q :=
  fun PX σ H Hf k st hk => ⟨_, fun X ok => pa_cons (pu ok) (puA ok) (hs _), h PX σ H Hf _ st fun d v Hf1 H1 e1 st1 r1 q1 => q1 PX σ H1 Hf1 _ st1 fun ds vs Hf2 H2 e2 st2 r2 q2 =>
    hk (d :: ds) (v :: vs) Hf2 H2 (e1.trans e2) st2 ⟨v, vs, rfl, Rep.mono e2 _ _ r1, r2⟩ q2⟩
theorem ek_nil {Q : List Da → Prop} (q : Q []) : EvK S Γ [] Q := fun PX σ H Hf k st hk => ⟨_, fun X _ => pk_nil, hk [] [] Hf H (Sub.refl _) st rfl q⟩
theorem ek_cons {Q : List Da → Prop} {nm : Option Str} {kpos : Pos} {ks : List Keyword} (h : EvE S Γ e fun d => EvK S Γ ks fun ds => Q (d :: ds)) : EvK S Γ (⟨nm, e, kpos⟩ :: ks) Q :=
  fun PX σ H Hf k st hk => ⟨_, fun X ok => pk_cons (pu ok) (puK ok), h PX σ H Hf _ st fun d v Hf1 H1 e1 st1 r1 q1 => q1 PX σ H1 Hf1 _ st1 fun ds vs Hf2 H2 e2 st2 r2 q2 =>
    hk (d :: ds) (v :: vs) Hf2 H2 (e1.trans e2) st2 ⟨v, vs, rfl, Rep.mono e2 _ _ r1, r2⟩ q2⟩
theorem Reps.len {K : PySem.W.Frag} {H : Hp} : ∀ {ds : List Da} {vs : List V}, Reps K H ds vs → vs.length = ds.length
  | [], _, h => by unfold Reps at h; subst h; rfl
  | d :: ds, _, h => by
    unfold Reps at h
    obtain ⟨x, r, rfl, _, h⟩ := h
    rw [List.length_cons, List.length_cons, Reps.len h]
abbrev Sz (n : Nat) : Prop := n ≤ 100000
theorem Sz.ok {n : Nat} (h : Sz n) : n ≤ sizeLine := Nat.le_trans h (by decide)
theorem ev_tup {x1} (h : EvA S Γ es fun ds => Sz ds.length ∧ Q (.tup ds)) : EvE S Γ (.Tuple es x1 pos) Q :=
  ev_of (fun X ok => pe_tup (puA ok)) fun PX σ H Hf k st hk => h PX σ H Hf _ st fun ds vs Hf1 H1 e1 st1 r1 q1 => ⟨by rw [r1.len]; exact q1.1.ok, fun p hp => by
    obtain ⟨st2, e2⟩ := st1.alloc (o := .tup vs) hp
    exact hk (.tup ds) _ _ _ (e1.trans e2) st2 ⟨p, vs, rfl, SqT.of upd_same, Reps.mono e2 _ _ r1⟩ q1.2⟩
theorem ev_lst (h : EvA S Γ es fun ds => Sz ds.length ∧ Q (.lst ds)) : EvE S Γ (.List es pos) Q :=
  ev_of (fun X ok => pe_lst (puA ok)) fun PX σ H Hf k st hk => h PX σ H Hf _ st fun ds vs Hf1 H1 e1 st1 r1 q1 => ⟨by rw [r1.len]; exact q1.1.ok, fun p hp => by
    obtain ⟨st2, e2⟩ := st1.alloc (o := .lst vs) hp
    exact hk (.lst ds) _ _ _ (e1.trans e2) st2 ⟨p, vs, rfl, SqL.of upd_same, Reps.mono e2 _ _ r1⟩ q1.2⟩
end

/-! ## defs -/
/-- what becomes of the frozen part and of the heap -/
structure Gr (Hf H Hf' H' : Hp) : Prop where
  f : Sub Hf Hf'
  e : Sub Hf' H'
  n : ∀ p, Hf' p ≠ none → Hf p = none → H p = none
abbrev Fd := List Da → (Da → Prop) → Er → Prop
def SpD (K : PySem.W.Frag) (f : Fd) : Sp := fun vs H Q E => ∃ ds Hf q er, Sub Hf H ∧ Reps K Hf ds vs ∧ f ds q er ∧
  (∀ d v Hf' H', Gr Hf H Hf' H' → Sub H H' → Rep K Hf' d v → q d → Q v H') ∧
  (∀ cls x fs Hf' H', Gr Hf H Hf' H' → Sub H H' → XRep K Hf' x fs → er cls fs → E cls x H')
/-- the first argument is a list of the caller's that may change within I -/
def SpO (K : PySem.W.Frag) (I : List Da → Prop) (f : Fd) : Sp := fun vs H Q E => ∃ p us ds Hf q er, vs = .ref p :: us ∧ Sub Hf H ∧ Own K Hf H p I ∧ Reps K Hf ds us ∧ f ds q er ∧
  (∀ d v Hf' H', Gr Hf H Hf' H' → (∀ a o, a ≠ p → H a = some o → H' a = some o) → Own K Hf' H' p I → Rep K Hf' d v → q d → Q v H') ∧
  (∀ cls x fs Hf' H', Gr Hf H Hf' H' → (∀ a o, a ≠ p → H a = some o → H' a = some o) → Own K Hf' H' p I → XRep K Hf' x fs → er cls fs → E cls x H')
/-- a def keeps its promise, where no repr is under way -/
structure FnG (P : Program) (w : World) (K : PySem.W.Frag) (mg : Str → Option Value) (base : Heap) (k : Nat) (f : Addr) (fd : FuncData) (ps : List Str) (sp : Sp) : Prop where
  len : ∀ vs H Q E, sp vs H Q E → vs.length = ps.length
  run : ∀ (A : Around) (outer : List Env) (s : Shared) (H : Hp) (args : Args) (us : List Value) (vs : List V) (Q : VK) (E : XK), Room k A → A.guards = some [] →
    Env0 P w K mg base A outer s H → BindsTo s fd args (ps.zip us) → Vals vs us → sp vs H Q E → codeAny (model P w) A (.call (.ref f) args) (CR (L2.CX P w) outer P w H s Q E) s
theorem FnG.mono {P : Program} {w : World} {K : PySem.W.Frag} {mg : Str → Option Value} {base : Heap} {j k : Nat} {f : Addr} {fd : FuncData} {ps : List Str} {sp : Sp} (F : FnG P w K mg base j f fd ps sp) (h : j ≤ k) :
    FnG P w K mg base k f fd ps sp := { len := F.len, run := fun A outer s H args us vs Q E hr => F.run A outer s H args us vs Q E (hr.mono h) }

section
variable {S : Sx} {X : Cx} {k : Nat} {f : Addr} {fd : FuncData} {ps : List Str} {sp : Sp} {E : XK} {x : Str} {p pos : Pos} {e : Expr} {es : List Expr} {kws : List Keyword} {t tk : TA}
/-- the callee runs: its arguments in whatever way they bind -/
theorem runG {pins : List (Addr × Obj)} {σ : L2.St} {H : Hp} {s : Shared} {Q : VK} {args : Args} {us : List Value} {vs : List V} (F : FnG X.prog X.w X.K X.mg X.base k f fd ps sp) (hr : Room k X.A) (hgd : X.A.guards = some []) (hx : Passes (L2.CX X.prog X.w) X E)
    (I : Inv X pins σ H s) (hb : BindsTo s fd args (ps.zip us)) (r : Vals vs us) (h : sp vs H Q E) : wpAny (model X.prog X.w) X.A (call (.ref f) args.pos args.kw) (EP X pins σ Q) X.xe s := by
  refine wpAny_call (codeAny_mono (F.run X.A X.stack s H args us vs Q E hr hgd I.env0 hb r h) fun res s' hq => ?_)
  match res, hq with
  | .error e, hq => exact hx pins σ H s e s' I hq
  | .ok (.ret u), hq => exact I.after hq
  | .ok .next, hq => exact False.elim hq
  | .ok .brk, hq => exact False.elim hq
  | .ok .cont, hq => exact False.elim hq
def BindP (fd : FuncData) (ps : List Str) : Prop := ∀ us : List Value, us.length = ps.length → bindArgs fd ⟨us, []⟩ = pure (ps.zip us)
/-- positional values, keywords' values: how they come in the parameters' order, by places -/
def perm {α : Type} (pm : List Nat) (us ws : List α) : List α := pm.filterMap fun i => (us ++ ws)[i]?
def BindK (fd : FuncData) (ps : List Str) (n : Nat) (ks : List Str) (pm : List Nat) : Prop :=
  ∀ us ws : List Value, us.length = n → ws.length = ks.length → bindArgs fd ⟨us, ks.zip ws⟩ = pure (ps.zip (perm pm us ws))
theorem peG (F : FnG X.prog X.w X.K X.mg X.base k f fd ps sp) (hr : Room k X.A) (hgd : X.A.guards = some []) (hg : Gl X x) (hm : X.mg x = some (.ref f)) (hk : PySem.W.keepIn X.K (.ref f) = true) (hb : BindP fd ps) (hx : Passes (L2.CX X.prog X.w) X E)
    (ha : PA X (e :: es) t) (hd : (x == ("__debug__" : Str)) = false) (he : starEach (e :: es) X.env = (false, eval e X.env) :: starEach es X.env) (hpl : (backTo pos (starEach es X.env)).any (·.1) = false) :
    PE X (.Call (.Name x p) (e :: es) [] pos) (tCall sp [] E t) := by
  refine ⟨fun pins s σ H Q I h => wpAny_Call_Name_kw (ld_glob I hg hm ?_ hd)⟩
  refine PySem.W.callWith_K (h₀ := X.base) I.ok.mod.kin hk (thn (ha.run pos pins s σ H _ I h) fun us s1 hh => ?_) he hpl
  obtain ⟨vs, H1, I1, r, q⟩ := hh
  rw [List.append_nil] at q
  exact ⟨I1.kIn, runG (args := ⟨us, []⟩) F hr hgd hx I1 (.of_eq (hb us (by rw [← r.length]; exact F.len _ _ _ _ q))) r q⟩
theorem peG0 (F : FnG X.prog X.w X.K X.mg X.base k f fd ps sp) (hr : Room k X.A) (hgd : X.A.guards = some []) (hg : Gl X x) (hm : X.mg x = some (.ref f)) (hk : PySem.W.keepIn X.K (.ref f) = true) (hb : BindP fd ps) (hx : Passes (L2.CX X.prog X.w) X E)
    (hd : (x == ("__debug__" : Str)) = false) : PE X (.Call (.Name x p) [] [] pos) (tCall sp [] E tNil) := by
  refine ⟨fun pins s σ H Q I h => wpAny_Call_Name_kw (ld_glob I hg hm ?_ hd)⟩
  have h : sp [] H Q E := h
  exact PySem.W.callWith_K0 I.kIn hk (runG (args := ⟨[], []⟩) (us := []) F hr hgd hx I (.of_eq (hb [] (F.len _ _ _ _ h))) .nil h)
def tCallP (sp : Sp) (pm : List Nat) (n m : Nat) (E : XK) (t tk : TA) : TE := fun σ H Q => t σ H fun vs H1 => tk σ H1 fun zs H2 => vs.length = n ∧ zs.length = m ∧ sp (perm pm vs zs) H2 Q E
theorem Vals.perm {pm : List Nat} {vs zs : List V} {us ws : List Value} (r : Vals vs us) (rz : Vals zs ws) : Vals (perm pm vs zs) (perm pm us ws) := by
  have ra := r.append rz
  induction pm with
  | nil => exact .nil
  | cons i pm ih =>
    unfold GX.perm at ih ⊢
    rw [List.filterMap_cons, List.filterMap_cons]
    cases q : (vs ++ zs)[i]? with
    | none => rw [ra.none_of q]; exact ih
    | some v =>
      obtain ⟨u, h1, h2⟩ := ra.get q
      rw [h1]
      exact .cons h2 ih
theorem peGK0 {ks : List Str} {pm : List Nat} (F : FnG X.prog X.w X.K X.mg X.base k f fd ps sp) (hr : Room k X.A) (hgd : X.A.guards = some []) (hg : Gl X x) (hm : X.mg x = some (.ref f)) (hk : PySem.W.keepIn X.K (.ref f) = true)
    (hb : BindK fd ps 0 ks pm) (hx : Passes (L2.CX X.prog X.w) X E) (hkw : PK X kws tk)
    (hall : (backToKw pos (keywordEach kws X.env)).all (·.1.isSome) = true) (hks : (backToKw pos (keywordEach kws X.env)).filterMap (·.1) = ks)
    (hd : (x == ("__debug__" : Str)) = false) (hpl : (backToKw pos (keywordEach kws X.env)).any (·.1.isNone) = false) : PE X (.Call (.Name x p) [] kws pos) (tCallP sp pm 0 ks.length E tNil tk) := by
  refine ⟨fun pins s σ H Q I h => wpAny_Call_Name_kw (ld_glob I hg hm ?_ hd)⟩
  refine PySem.W.callWith_KW0 (h₀ := X.base) I.ok.mod.kin hk hall (thn (hkw.run pos pins s σ H _ I h) fun ws s2 hh => ?_) hpl
  obtain ⟨zs, H2, I2, rz, _, hl, q2⟩ := hh
  rw [hks]
  exact ⟨I2.kIn, runG (args := ⟨[], ks.zip ws⟩) F hr hgd hx I2 (.of_eq (hb [] ws rfl (by rw [← rz.length]; exact hl))) (Vals.perm .nil rz) q2⟩
theorem peGK {n : Nat} {ks : List Str} {pm : List Nat} (F : FnG X.prog X.w X.K X.mg X.base k f fd ps sp) (hr : Room k X.A) (hgd : X.A.guards = some []) (hg : Gl X x) (hm : X.mg x = some (.ref f)) (hk : PySem.W.keepIn X.K (.ref f) = true)
    (hb : BindK fd ps n ks pm) (hx : Passes (L2.CX X.prog X.w) X E) (ha : PA X (e :: es) t) (hkw : PK X kws tk)
    (hall : (backToKw pos (keywordEach kws X.env)).all (·.1.isSome) = true) (hks : (backToKw pos (keywordEach kws X.env)).filterMap (·.1) = ks)
    (hd : (x == ("__debug__" : Str)) = false) (he : starEach (e :: es) X.env = (false, eval e X.env) :: starEach es X.env)
    (hpl : ((backTo pos (starEach (e :: es) X.env)).any (·.1) || (backToKw pos (keywordEach kws X.env)).any (·.1.isNone)) = false) : PE X (.Call (.Name x p) (e :: es) kws pos) (tCallP sp pm n ks.length E t tk) := by
  refine ⟨fun pins s σ H Q I h => wpAny_Call_Name_kw (ld_glob I hg hm ?_ hd)⟩
  refine PySem.W.callWith_KW (h₀ := X.base) I.ok.mod.kin hk hall (thn (ha.run pos pins s σ H _ I h) fun us s1 hh => ?_) hpl he
  obtain ⟨vs, H1, I1, r, q⟩ := hh
  refine thn (hkw.run pos pins s1 σ H1 _ I1 q) fun ws s2 hh => ?_
  obtain ⟨zs, H2, I2, rz, hl1, hl, q2⟩ := hh
  rw [hks]
  exact ⟨I2.kIn, runG (args := ⟨us, ks.zip ws⟩) F hr hgd hx I2 (.of_eq (hb us ws (by rw [← r.length]; exact hl1) (by rw [← rz.length]; exact hl))) (Vals.perm r rz) q2⟩
end
/-! ## a def by its body -/
section
variable {P : Program} {w : World} {K : PySem.W.Frag} {mg : Str → Option Value} {base : Heap} {k : Nat} {f : Addr} {fd : FuncData} {x qual : Str} {st : Stmt} {N ps : List Str} {sp : Sp}
theorem Fun.okG (F : Fun K x qual st f fd) (C : FnScope N ps (defScope st)) (len : ∀ vs H Q E, sp vs H Q E → vs.length = ps.length)
    (hbody : ∀ (cdv : Value) (A : Around) (outer : List Env) (s : Shared) (H : Hp) (vs : List V) (Q : VK) (E : XK), Room k (A.deeper (envOfC qual (defScope st) s.heap.objs.size f cdv)) → A.guards = some [] → sp vs H Q E →
      ∃ t, PSs (cxOf (L2.CX P w) P w K mg base N qual (defScope st) f cdv A outer s H E) (defBody st) t ∧ t { nx := fun _ H' => Q .non H', rt := Q } (L2.start N vs) H) :
    FnG P w K mg base (k + 1) f fd ps sp := by
  obtain ⟨oc, od, kV, doc, pm, an, cdv, ct, osl, rfl, lk, hcd⟩ := F.ex
  refine ⟨len, fun A outer s H args us vs Q E hr hgd e0 hb r hsp => ?_⟩
  have hl := len _ _ _ _ hsp
  have KX : K.In s.heap := e0.mod.kin.keeps fun b o e => (e0.bs b o e).1
  have lim : s.heap.NoLimit := e0.mod.nolimit.keeps fun b o e => (e0.bs b o e).1
  refine codeAny_call_function hr.depth (KX _ _ lk) rfl C.co C.gen rfl (PySem.W.codeRec_of KX hcd) (hb _ _ _ _ ?_)
  refine wpAny_newFunctionEnv_cells C.kind (fun y hy => ?_) fun env he s1 z => ?_
  · rcases C.par y.1 (List.of_mem_zip (a := y.1) (b := y.2) hy).1 with q | q
    · exact .inl q
    · exact .inr ⟨q, PySem.W.cellsFrom_some _ _ _ (.inl q)⟩
  subst he
  refine ⟨lim.keeps z.toInCall.keep, codeAny_func ?_⟩
  obtain ⟨t, ht, hq⟩ := hbody cdv A outer s H vs Q E (hr.deeper _) hgd hsp
  refine wpAny_mono (ht.run [] s1 (L2.start N vs) H _ (inv_start C hr.hd e0 hl r z) hq) (fun fl s' hs => ?_) fun e s' hs => hs
  match fl, hs with
  | .ret u, ⟨v, _, H', J, rv, q⟩ => exact ⟨v, H', J.os, J.bare, J.base, J.hok, rv, q⟩
  | .next, ⟨_, H', J, q⟩ => exact ⟨V.non, H', J.os, J.bare, J.base, J.hok, rfl, q⟩
  | .brk, ⟨_, _, _, q⟩ => exact False.elim q
  | .cont, ⟨_, _, _, q⟩ => exact False.elim q

def mkS (P : Program) (w : World) (K : PySem.W.Frag) (mg : Str → Option Value) (base : Heap) (N : List Str) (sc : Scope) (k : Nat) (F0 H0 : Hp) (op : List (Addr × (List Da → Prop))) (E : Er) : Sx := ⟨P, w, K, mg, base, N, sc, k, F0, H0, op, E, fun _ => true⟩
theorem ok_body {cdv : Value} {A : Around} {outer : List Env} {s : Shared} {H F0 : Hp} {op : List (Addr × (List Da → Prop))} {E : XK} {er : Er} (hr : Room k (A.deeper (envOfC qual (defScope st) s.heap.objs.size f cdv))) (hgd : A.guards = some []) (nd : N.Nodup)
    (hE : ∀ cls d σ H', (mkS P w K mg base N (defScope st) k F0 H op er).WX cls d σ H' → E cls d H') :
    (mkS P w K mg base N (defScope st) k F0 H op er).Ok (cxOf (L2.CX P w) P w K mg base N qual (defScope st) f cdv A outer s H E) where
  P := rfl
  w := rfl
  K := rfl
  mg := rfl
  base := rfl
  N := rfl
  sc := rfl
  calm := rfl
  room := hr
  gd := hgd
  nd := nd
  tk := (takes_of (E := E) rfl rfl rfl rfl).imp fun c d σ H' h => hE c d σ H' h
  po := passes_of rfl
  fn := fun _ _ => .inl rfl
theorem start_get {N : List Str} {vs : List V} {i : Nat} {v : V} (h : vs[i]? = some v) : (L2.start N vs)[i]? = some (some v) := by
  unfold L2.start
  have hi : i < vs.length := (List.getElem?_eq_some_iff.mp h).1
  rw [List.getElem?_append_left (by simpa using hi), List.getElem?_map, h]; rfl
theorem Reps.get {H : Hp} : ∀ {ds : List Da} {vs : List V} {i : Nat} {d : Da}, Reps K H ds vs → ds[i]? = some d → ∃ v, vs[i]? = some v ∧ Rep K H d v
  | [], _, _, _, _, h => by simp at h
  | c :: ds, _, 0, d, r, h => by
    unfold Reps at r
    obtain ⟨x, l, rfl, r1, _⟩ := r
    simp at h; subst h
    exact ⟨x, rfl, r1⟩
  | c :: ds, _, i + 1, d, r, h => by
    unfold Reps at r
    obtain ⟨x, l, rfl, _, r2⟩ := r
    obtain ⟨v, h1, h2⟩ := Reps.get (i := i) r2 (by simpa using h)
    exact ⟨v, by simpa using h1, h2⟩
/-- the slots at a def's entry -/
def st0 (ds : List Da) (n : Nat) : List Slot := ds.map .dat ++ List.replicate (n - ds.length) .no
theorem st0_get {ds : List Da} {n i : Nat} {s : Slot} (h : (st0 ds n)[i]? = some s) : (∃ d, ds[i]? = some d ∧ s = .dat d) ∨ s = .no := by
  unfold st0 at h
  by_cases hi : i < ds.length
  · rw [List.getElem?_append_left (by simpa using hi), List.getElem?_map] at h
    cases e : ds[i]? with
    | none => rw [e] at h; cases h
    | some d => rw [e] at h; cases h; exact .inl ⟨d, rfl, rfl⟩
  · rw [List.getElem?_append_right (by simpa using hi), List.getElem?_replicate] at h
    split at h <;> cases h
    exact .inr rfl
theorem fnD {F : Fun K x qual st f fd} {spec : Fd} (C : FnScope N ps (defScope st)) (len : ∀ ds q er, spec ds q er → ds.length = ps.length)
    (body : ∀ (F0 H0 : Hp) ds q er, spec ds q er → EvB (mkS P w K mg base N (defScope st) k F0 H0 [] er) (st0 ds N.length) (defBody st) { nx := fun _ => q .non, rt := q }) :
    FnG P w K mg base (k + 1) f fd ps (SpD K spec) := by
  refine Fun.okG F C (fun vs H Q E h => ?_) fun cdv A outer s H vs Q E hr hgd h => ?_
  · obtain ⟨ds, Hf, q, er, _, r, h, _⟩ := h
    rw [r.len]; exact len ds q er h
  · obtain ⟨ds, Hf, q, er, e, r, h, hQ, hE⟩ := h
    have hl := len ds q er h
    have hb := body Hf H ds q er h
    have hps : ps.length ≤ N.length := by
      have z := congrArg List.length C.pre
      rw [List.length_take] at z; omega
    have st0' : Stt (mkS P w K mg base N (defScope st) k Hf H [] er) (fun _ => none) (st0 ds N.length) Hf H (L2.start N vs) := by
      refine ⟨?_, Sub.refl _, e, fun q o h _ => h, fun q h => (nomatch h), fun i s h => ?_, fun i p I h => ?_, fun p h1 h2 => absurd h2 h1, fun _ _ z => (nomatch z), fun p h => absurd rfl h, fun _ _ _ _ => rfl, fun i j p I J h => ?_⟩
      · unfold L2.start st0
        rw [List.length_append, List.length_map, List.length_replicate, List.length_append, List.length_map, List.length_replicate, r.len]
      · rcases st0_get h with ⟨d, h1, rfl⟩ | rfl
        · obtain ⟨v, h2, h3⟩ := r.get h1
          exact ⟨v, by rw [start_get h2]; rfl, h3⟩
        · trivial
      · rcases st0_get h with ⟨d, h1, z⟩ | z <;> cases z
      · rcases st0_get h with ⟨d, h1, z⟩ | z <;> cases z
    have gr : ∀ {Γ σ Hf' H'}, Stt (mkS P w K mg base N (defScope st) k Hf H [] er) (fun _ => none) Γ Hf' H' σ → Gr Hf H Hf' H' ∧ Sub H H' := fun z => ⟨⟨z.ex0, z.ex, z.fr⟩, fun a o h => z.keep a o h (by exact List.not_mem_nil)⟩
    obtain ⟨t, h1, h2⟩ := hb (fun _ => none) (L2.start N vs) H Hf { nx := fun _ H' => Q .non H', rt := Q } st0' ⟨fun Γ σ Hf' H' _ z q => hQ .non .non Hf' H' (gr z).1 (gr z).2 rfl q, fun d v Γ σ Hf' H' _ z _ rr q => hQ d v Hf' H' (gr z).1 (gr z).2 rr q, fun _ _ _ _ _ _ z => z, fun _ _ _ _ _ _ z => z, fun _ _ _ _ _ _ _ _ _ _ _ _ _ z => z.elim⟩
    refine ⟨t, h1 _ (ok_body hr hgd C.nd fun cls d σ H' hw => ?_), h2⟩
    obtain ⟨Hf', fs, a1, a2, a4, a3, _, a5, a6⟩ := hw
    exact hE cls d fs Hf' H' ⟨a1, a2, a4⟩ (fun a o h => a3 a o h (by exact List.not_mem_nil)) a5 a6
theorem fnO {I : List Da → Prop} {F : Fun K x qual st f fd} {spec : Fd} (C : FnScope N ps (defScope st)) (len : ∀ ds q er, spec ds q er → ds.length + 1 = ps.length)
    (body : ∀ (F0 H0 : Hp) (p : Addr) ds q er, spec ds q er → EvB (mkS P w K mg base N (defScope st) k F0 H0 [(p, I)] er) (.inv p I :: st0 ds (N.length - 1)) (defBody st) { nx := fun Γ => Slot.inv p I ∈ Γ ∧ q .non, rt := q }) :
    FnG P w K mg base (k + 1) f fd ps (SpO K I spec) := by
  refine Fun.okG F C (fun vs H Q E h => ?_) fun cdv A outer s H vs Q E hr hgd h => ?_
  · obtain ⟨p, us, ds, Hf, q, er, rfl, _, _, r, h, _⟩ := h
    rw [List.length_cons, r.len]; exact len ds q er h
  · obtain ⟨p, us, ds, Hf, q, er, rfl, e, ow, r, h, hQ, hE⟩ := h
    have hl := len ds q er h
    have hb := body Hf H p ds q er h
    have hps : ps.length ≤ N.length := by
      have z := congrArg List.length C.pre
      rw [List.length_take] at z; omega
    have hN : N.length - us.length - 1 = N.length - 1 - us.length := by omega
    have es : L2.start N (V.ref p :: us) = some (V.ref p) :: (us.map some ++ List.replicate (N.length - 1 - us.length) none) := by
      unfold L2.start
      rw [List.map_cons, List.cons_append, List.length_cons, show N.length - (us.length + 1) = N.length - 1 - us.length by omega]
    have hsp : H p ≠ none := by
      obtain ⟨_, _, _, z, _⟩ := ow
      rw [z]; exact fun z => nomatch z
    have st0' : Stt (mkS P w K mg base N (defScope st) k Hf H [(p, I)] er) (fun _ => none) (.inv p I :: st0 ds (N.length - 1)) Hf H (L2.start N (V.ref p :: us)) := by
      refine ⟨?_, Sub.refl _, e, fun q o h _ => h, fun q h => ?_, fun i s h => ?_, fun i p' I' h => ?_, fun p h1 h2 => absurd h2 h1, fun _ _ z => (nomatch z), fun p h => absurd rfl h, fun _ _ _ _ => rfl, fun i j p' I' J h1 h2 => ?_⟩
      · rw [es, List.length_cons, List.length_cons]
        unfold st0
        rw [List.length_append, List.length_map, List.length_replicate, List.length_append, List.length_map, List.length_replicate, r.len]
      · rw [List.mem_singleton.mp h]; exact hsp
      · cases i with
        | zero =>
          cases h
          exact ⟨by rw [es]; rfl, ow⟩
        | succ i =>
          rcases st0_get (show (st0 ds (N.length - 1))[i]? = some s from h) with ⟨d, h1, rfl⟩ | rfl
          · obtain ⟨v, h2, h3⟩ := r.get h1
            refine ⟨v, ?_, h3⟩
            have hi : i < us.length := (List.getElem?_eq_some_iff.mp h2).1
            rw [es, List.getElem?_cons_succ, List.getElem?_append_left (by simpa using hi), List.getElem?_map, h2]; rfl
          · trivial
      · cases i with
        | zero => cases h; exact .inl (by exact List.mem_singleton.mpr rfl)
        | succ i => rcases st0_get (show (st0 ds (N.length - 1))[i]? = _ from h) with ⟨d, h1, z⟩ | z <;> cases z
      · cases i with
        | succ i => rcases st0_get (show (st0 ds (N.length - 1))[i]? = _ from h1) with ⟨d, h1, z⟩ | z <;> cases z
        | zero =>
          cases j with
          | zero => rfl
          | succ j => rcases st0_get (show (st0 ds (N.length - 1))[j]? = _ from h2) with ⟨d, h1, z⟩ | z <;> cases z
    have gr : ∀ {Γ σ Hf' H'}, Stt (mkS P w K mg base N (defScope st) k Hf H [(p, I)] er) (fun _ => none) Γ Hf' H' σ → Gr Hf H Hf' H' ∧ (∀ a o, a ≠ p → H a = some o → H' a = some o) :=
      fun z => ⟨⟨z.ex0, z.ex, z.fr⟩, fun a o n h => z.keep a o h (fun m => n (List.mem_singleton.mp m))⟩
    have own : ∀ {Γ σ Hf' H'}, Stt (mkS P w K mg base N (defScope st) k Hf H [(p, I)] er) (fun _ => none) Γ Hf' H' σ → Slot.inv p I ∈ Γ → Own K Hf' H' p I := fun z m => by
      obtain ⟨i, hi⟩ := List.mem_iff_getElem?.mp m
      exact (z.own hi).2
    obtain ⟨t, h1, h2⟩ := hb (fun _ => none) (L2.start N (V.ref p :: us)) H Hf { nx := fun _ H' => Q .non H', rt := Q } st0' ⟨fun Γ σ Hf' H' _ z q => hQ .non .non Hf' H' (gr z).1 (gr z).2 (own z q.1) rfl q.2,
      fun d v Γ σ Hf' H' _ z oi rr q => hQ d v Hf' H' (gr z).1 (gr z).2 (own z (oi (p, I) (List.mem_singleton.mpr rfl))) rr q, fun _ _ _ _ _ _ z => z, fun _ _ _ _ _ _ z => z, fun _ _ _ _ _ _ _ _ _ _ _ _ _ z => z.elim⟩
    refine ⟨t, h1 _ (ok_body hr hgd C.nd fun cls d σ H' hw => ?_), h2⟩
    obtain ⟨Hf', fs, a1, a2, a4, a3, ao, a5, a6⟩ := hw
    exact hE cls d fs Hf' H' ⟨a1, a2, a4⟩ (fun a o n h => a3 a o h (fun m => n (List.mem_singleton.mp m))) (ao (p, I) (List.mem_singleton.mpr rfl)) a5 a6
end

/-! ## calls of defs -/
/-- a def of the module that keeps a promise -/
structure Cal (P : Program) (w : World) (K : PySem.W.Frag) (mg : Str → Option Value) (base : Heap) (x qual : Str) (st : Stmt) (k : Nat) (ps : List Str) (sp : Sp) : Prop where
  ex : ∃ f fd, Fun K x qual st f fd ∧ mg x = some (.ref f) ∧ FnG P w K mg base k f fd ps sp
  bp : ∀ (kV doc pm : Value) (an : Option Addr) (cdv ct : Value) (us : List Value), us.length = ps.length → bindArgs (PySem.W.fnOf x qual (defArgs st) (defBody st) (defScope st) .none kV doc pm an cdv ct) ⟨us, []⟩ = pure (ps.zip us)
def BK (x qual : Str) (st : Stmt) (ps : List Str) (n : Nat) (ks : List Str) (pm : List Nat) : Prop :=
  ∀ (kV doc pm' : Value) (an : Option Addr) (cdv ct : Value) (us ws : List Value), us.length = n → ws.length = ks.length → bindArgs (PySem.W.fnOf x qual (defArgs st) (defBody st) (defScope st) .none kV doc pm' an cdv ct) ⟨us, ks.zip ws⟩ = pure (ps.zip (perm pm us ws))
theorem Cal.bind {P : Program} {w : World} {K : PySem.W.Frag} {mg : Str → Option Value} {base : Heap} {x qual : Str} {st : Stmt} {k : Nat} {ps : List Str} {sp : Sp} (c : Cal P w K mg base x qual st k ps sp) {f : Addr} {fd : FuncData} (F : Fun K x qual st f fd) : BindP fd ps := by
  obtain ⟨oc, od, kV, doc, pm, an, cdv, ct, osl, rfl, lk, hcd⟩ := F.ex
  exact fun us h => c.bp kV doc pm an cdv ct us h
theorem BK.bind {K : PySem.W.Frag} {x qual : Str} {st : Stmt} {ps : List Str} {n : Nat} {ks : List Str} {pm : List Nat} (c : BK x qual st ps n ks pm) {f : Addr} {fd : FuncData} (F : Fun K x qual st f fd) : BindK fd ps n ks pm := by
  obtain ⟨oc, od, kV, doc, pm, an, cdv, ct, osl, rfl, lk, hcd⟩ := F.ex
  exact fun us ws h1 h2 => c kV doc pm an cdv ct us ws h1 h2
section
variable {S : Sx} {Γ : List Slot} {e : Expr} {es : List Expr} {kws : List Keyword} {Q : Da → Prop} {p pos : Pos} {x qual : Str} {st : Stmt} {k : Nat} {ps : List Str} {spec : Fd} {I : List Da → Prop}
theorem Sx.Ok.passes {X : Cx} (ok : S.Ok X) : Passes (L2.CX X.prog X.w) X (fun cls d H => S.WX cls d [] H) := passes_call ok.tk fun _ _ _ _ h => h
theorem Stt.wx {PX Hf H : Hp} {σ : L2.St} (st : Stt S PX Γ Hf H σ) (hO : OpsIn S Γ) {cls : Value} {d : Option Addr} {fs : Option (List (Str × Da))} (xr : XRep S.K Hf d fs) (er : S.E cls fs) (σ' : L2.St) : S.WX cls d σ' H :=
  ⟨Hf, fs, st.ex0, st.ex, st.fr, st.keep, fun q hq => by
    obtain ⟨i, hi⟩ := List.mem_iff_getElem?.mp (hO q hq)
    exact (st.own hi).2, xr, er⟩
theorem Stt.growO {PX Hf H Hf' H' : Hp} {σ : L2.St} {i : Nat} {p : Addr} (st : Stt S PX Γ Hf H σ) (hi : Γ[i]? = some (.inv p I)) (g : Gr Hf H Hf' H') (k : ∀ a o, a ≠ p → H a = some o → H' a = some o) (ow : Own S.K Hf' H' p I) : Stt S PX Γ Hf' H' σ := by
  have np : ∀ q o, S.H0 q = some o → q ∉ S.op.map (·.1) → q ≠ p := fun q o h1 h2 z => by
    subst z
    rcases st.new i _ _ hi with c | c
    · exact h2 c
    · rw [h1] at c; cases c
  have npx : ∀ q, PX q ≠ none → q ≠ p := fun q h z => h (by rw [z]; exact st.pi i p I hi)
  refine ⟨st.len, st.ex0.trans g.f, g.e, fun q u h1 h2 => k _ _ (np q u h1 h2) (st.keep q u h1 h2), fun q h z => ?_, fun j s h => ?_, st.new, fun q h h2 => ?_, fun a o h => k a o (npx a (by rw [h]; exact fun z => nomatch z)) (st.px a o h), fun q h => ?_, st.pi, st.sep⟩
  rotate_right
  · cases c : Hf' q with
    | none => rfl
    | some u => exact absurd (st.px.free (g.n q (by rw [c]; exact fun z => nomatch z) (st.pf q h))) h
  · by_cases c : q.1 = p
    · obtain ⟨_, _, _, y, _⟩ := ow
      rw [c, y] at z; cases z
    · cases y : H q.1 with
      | none => exact st.ops q h y
      | some o => rw [k _ _ c y] at z; cases z
  · cases s with
    | no => trivial
    | dat d => exact (st.at_ j _ h).more g.f fun _ _ z => nomatch z
    | inv p' I' =>
      by_cases c : p' = p
      · subst c
        have z := st.sep j i _ _ _ h hi
        subst z
        rw [hi] at h; cases h
        exact ⟨(st.own hi).1, ow⟩
      · refine (st.at_ j _ h).more g.f fun p'' I'' z => ?_
        cases z
        have z := st.ownH h
        refine ⟨?_, ?_⟩
        · cases y : Hf' p' with
          | none => rfl
          | some u => exact absurd (g.n p' (by rw [y]; exact fun z => nomatch z) (st.own h).2.1) z
        · cases y : H p' with
          | none => exact absurd y z
          | some u => exact k _ _ c y
  · by_cases c : Hf q = none
    · exact st.fresh0 (g.n q h c)
    · exact st.fr q c h2
theorem sp_call {σ : L2.St} {PX Hf H : Hp} {ds : List Da} {vs : List V} {k : VK} (st1 : Stt S PX Γ Hf H σ) (hO : OpsIn S Γ) (r : Reps S.K Hf ds vs) (q : spec ds Q S.E)
    (hk : ∀ d v Hf' H', Sub Hf Hf' → Stt S PX Γ Hf' H' σ → Rep S.K Hf' d v → Q d → k v H') : SpD S.K spec vs H k (fun cls d H => S.WX cls d [] H) :=
  ⟨ds, Hf, Q, S.E, st1.ex, r, q, fun d v Hf' H' g kp rr qq => hk d v Hf' H' g.f (st1.grow g.f g.e kp g.n) rr qq, fun cls x fs Hf' H' g kp xr er => (st1.grow g.f g.e kp g.n).wx hO xr er []⟩
theorem ev_call (c : Cal S.P S.w S.K S.mg S.base x qual st k ps (SpD S.K spec)) (hk : k ≤ S.k) (hg : GlS S x) (hO : OpsIn S Γ) (h : EvA S Γ (e :: es) fun ds => spec ds Q S.E)
    (hd : (x == ("__debug__" : Str)) = false := by decide) (he : ∀ env, starEach (e :: es) env = (false, eval e env) :: starEach es env := by intro _; rfl) (hpl : ∀ env, (backTo pos (starEach es env)).any (·.1) = false := by intro _; rfl) :
    EvE S Γ (.Call (.Name x p) (e :: es) [] pos) Q := by
  obtain ⟨f, fd, F, hm, G⟩ := c.ex
  refine ev_of (fun X ok => peG (sp := SpD S.K spec) (E := fun cls d H => S.WX cls d [] H) (by rw [ok.P, ok.w, ok.K, ok.mg, ok.base]; exact G) (ok.room.mono hk) ok.gd (hg.gl ok) (by rw [ok.mg]; exact hm) (by rw [ok.K]; exact F.kp) (c.bind F) ok.passes (puA ok) hd (he _) (hpl _)) ?_
  intro PX σ H Hf k st hk
  refine h PX σ H Hf _ st fun ds vs Hf1 H1 e1 st1 r1 q1 => ?_
  show SpD S.K spec (vs ++ []) H1 k _
  rw [List.append_nil]
  exact sp_call st1 hO r1 q1 fun d v Hf' H' e2 => hk d v Hf' H' (e1.trans e2)
theorem ev_call0 (c : Cal S.P S.w S.K S.mg S.base x qual st k ps (SpD S.K spec)) (hk : k ≤ S.k) (hg : GlS S x) (hO : OpsIn S Γ) (h : spec [] Q S.E)
    (hd : (x == ("__debug__" : Str)) = false := by decide) : EvE S Γ (.Call (.Name x p) [] [] pos) Q := by
  obtain ⟨f, fd, F, hm, G⟩ := c.ex
  refine ev_of (fun X ok => peG0 (sp := SpD S.K spec) (E := fun cls d H => S.WX cls d [] H) (by rw [ok.P, ok.w, ok.K, ok.mg, ok.base]; exact G) (ok.room.mono hk) ok.gd (hg.gl ok) (by rw [ok.mg]; exact hm) (by rw [ok.K]; exact F.kp) (c.bind F) ok.passes hd) ?_
  intro PX σ H Hf k st hk
  exact sp_call (ds := []) (vs := []) st hO rfl h fun d v Hf' H' e2 => hk d v Hf' H' e2
theorem Reps.app {K : PySem.W.Frag} {H : Hp} {zs : List Da} {ws : List V} (r2 : Reps K H zs ws) : ∀ {ds : List Da} {vs : List V}, Reps K H ds vs → Reps K H (ds ++ zs) (vs ++ ws)
  | [], _, r => by unfold Reps at r; subst r; exact r2
  | d :: ds, _, r => by
    unfold Reps at r
    obtain ⟨v, l, rfl, a, b⟩ := r
    exact ⟨v, l ++ ws, rfl, a, Reps.app r2 b⟩
theorem Reps.perm {K : PySem.W.Frag} {H : Hp} {pm : List Nat} {ds zs : List Da} {vs ws : List V} (r : Reps K H ds vs) (r2 : Reps K H zs ws) : Reps K H (perm pm ds zs) (perm pm vs ws) := by
  have ra : Reps K H (ds ++ zs) (vs ++ ws) := r2.app r
  induction pm with
  | nil => rfl
  | cons i pm ih =>
    unfold GX.perm at ih ⊢
    rw [List.filterMap_cons, List.filterMap_cons]
    cases q : (ds ++ zs)[i]? with
    | none =>
      have z := ra.len
      have y := List.getElem?_eq_none_iff.mp q
      rw [List.getElem?_eq_none_iff.mpr (by omega)]; exact ih
    | some d =>
      obtain ⟨v, h1, h2⟩ := ra.get q
      rw [h1]
      exact ⟨v, _, rfl, h2, ih⟩
/-- keywords alone, and behind positional arguments -/
theorem ev_callK0 {ks : List Str} {pm : List Nat} (c : Cal S.P S.w S.K S.mg S.base x qual st k ps (SpD S.K spec)) (hb : BK x qual st ps 0 ks pm) (hk : k ≤ S.k) (hg : GlS S x) (hO : OpsIn S Γ)
    (h : EvK S Γ kws fun zs => zs.length = ks.length ∧ spec (perm pm [] zs) Q S.E)
    (hall : ∀ env, (backToKw pos (keywordEach kws env)).all (·.1.isSome) = true := by intro _; rfl) (hks : ∀ env, (backToKw pos (keywordEach kws env)).filterMap (·.1) = ks := by intro _; rfl)
    (hd : (x == ("__debug__" : Str)) = false := by decide) (hpl : ∀ env, (backToKw pos (keywordEach kws env)).any (·.1.isNone) = false := by intro _; rfl) : EvE S Γ (.Call (.Name x p) [] kws pos) Q := by
  obtain ⟨f, fd, F, hm, G⟩ := c.ex
  refine ev_of (fun X ok => peGK0 (sp := SpD S.K spec) (E := fun cls d H => S.WX cls d [] H) (by rw [ok.P, ok.w, ok.K, ok.mg, ok.base]; exact G) (ok.room.mono hk) ok.gd (hg.gl ok) (by rw [ok.mg]; exact hm) (by rw [ok.K]; exact F.kp) (hb.bind F) ok.passes (puK ok) (hall _) (hks _) hd (hpl _)) ?_
  intro PX σ H Hf k st hk
  show tUK S kws σ H fun zs H2 => _
  refine h PX σ H Hf _ st fun ds vs Hf1 H1 e1 st1 r1 q1 => ⟨rfl, by rw [r1.len]; exact q1.1, ?_⟩
  exact sp_call st1 hO (Reps.perm (ds := []) (vs := []) rfl r1) q1.2 fun d v Hf' H' e2 => hk d v Hf' H' (e1.trans e2)
theorem ev_callK {n : Nat} {ks : List Str} {pm : List Nat} (c : Cal S.P S.w S.K S.mg S.base x qual st k ps (SpD S.K spec)) (hb : BK x qual st ps n ks pm) (hk : k ≤ S.k) (hg : GlS S x) (hO : OpsIn S Γ)
    (h : EvA S Γ (e :: es) fun ds => EvK S Γ kws fun zs => ds.length = n ∧ zs.length = ks.length ∧ spec (perm pm ds zs) Q S.E)
    (hall : ∀ env, (backToKw pos (keywordEach kws env)).all (·.1.isSome) = true := by intro _; rfl) (hks : ∀ env, (backToKw pos (keywordEach kws env)).filterMap (·.1) = ks := by intro _; rfl)
    (hd : (x == ("__debug__" : Str)) = false := by decide) (he : ∀ env, starEach (e :: es) env = (false, eval e env) :: starEach es env := by intro _; rfl)
    (hpl : ∀ env, ((backTo pos (starEach (e :: es) env)).any (·.1) || (backToKw pos (keywordEach kws env)).any (·.1.isNone)) = false := by intro _; rfl) : EvE S Γ (.Call (.Name x p) (e :: es) kws pos) Q := by
  obtain ⟨f, fd, F, hm, G⟩ := c.ex
  refine ev_of (fun X ok => peGK (sp := SpD S.K spec) (E := fun cls d H => S.WX cls d [] H) (by rw [ok.P, ok.w, ok.K, ok.mg, ok.base]; exact G) (ok.room.mono hk) ok.gd (hg.gl ok) (by rw [ok.mg]; exact hm) (by rw [ok.K]; exact F.kp) (hb.bind F) ok.passes (puA ok) (puK ok) (hall _) (hks _) hd (he _) (hpl _)) ?_
  intro PX σ H Hf k st hk
  refine h PX σ H Hf _ st fun ds vs Hf1 H1 e1 st1 r1 q1 => q1 PX σ H1 Hf1 _ st1 fun zs ws Hf2 H2 e2 st2 r2 q2 => ⟨by rw [r1.len]; exact q2.1, by rw [r2.len]; exact q2.2.1, ?_⟩
  exact sp_call st2 hO (Reps.perm (Reps.mono e2 _ _ r1) r2) q2.2.2 fun d v Hf' H' e3 => hk d v Hf' H' ((e1.trans e2).trans e3)
/-- f(own, ..): a list of the def's own is handed on, it may change within I -/
theorem ev_callO {i : Nat} {y : Str} {py : Pos} {a : Addr} (c : Cal S.P S.w S.K S.mg S.base x qual st k ps (SpO S.K I spec)) (hk : k ≤ S.k) (hg : GlS S x) (hO : OpsIn S Γ)
    (hN : S.N[i]? = some y) (hv : Vis S.sc y) (hΓ : Γ[i]? = some (.inv a I)) (h : EvA S Γ es fun ds => spec ds Q S.E)
    (hd : (x == ("__debug__" : Str)) = false := by decide) (hd' : (y == ("__debug__" : Str)) = false := by decide) (hcd : (y == ("__classdict__" : Str)) = false := by decide) (hpl : ∀ env, (backTo pos (starEach es env)).any (·.1) = false := by intro _; rfl) :
    EvE S Γ (.Call (.Name x p) (.Name y py :: es) [] pos) Q := by
  obtain ⟨f, fd, F, hm, G⟩ := c.ex
  refine ev_of (fun X ok => peG (sp := SpO S.K I spec) (E := fun cls d H => S.WX cls d [] H) (by rw [ok.P, ok.w, ok.K, ok.mg, ok.base]; exact G) (ok.room.mono hk) ok.gd (hg.gl ok) (by rw [ok.mg]; exact hm) (by rw [ok.K]; exact F.kp) (c.bind F) ok.passes
    (pa_cons (pe_var (i := i) (by rw [ok.N]; exact hN) (by rw [ok.sc]; exact hv) hd' hcd) (puA ok)) hd rfl (hpl _)) ?_
  intro PX σ H Hf k st hk
  have o1 := (st.own hΓ).1
  refine ⟨.ref a, ?_, ?_⟩
  · cases z : σ[i]? with
    | none => rw [z] at o1; cases o1
    | some o => rw [z] at o1; exact congrArg some o1
  refine h PX σ H Hf _ st fun ds vs Hf1 H1 e1 st1 r1 q1 => ?_
  show SpO S.K I spec ((.ref a :: vs) ++ []) H1 k _
  rw [List.append_nil]
  refine ⟨a, vs, ds, Hf1, Q, S.E, rfl, st1.ex, (st1.own hΓ).2, r1, q1, fun d v Hf' H' g kp ow rr qq => ?_, fun cls x fs Hf' H' g kp ow xr er => ?_⟩
  · exact hk d v Hf' H' (e1.trans g.f) (st1.growO hΓ g kp ow) rr qq
  · exact (st1.growO hΓ g kp ow).wx hO xr er []
end

/-! ## targets, statements -/
section
variable {S : Sx} {Γ : List Slot} {e a b c : Expr} {es : List Expr} {sts body orelse : List Stmt} {st : Stmt} {D : EnG} {Q : List Slot → Prop} {p pos spos : Pos} {x : Str} {i : Nat} {d : Da} {W : Nat → Bool}
/-- a slot is stored -/
theorem Stt.set {PX Hf H : Hp} {σ : L2.St} {v : V} (st : Stt S PX Γ Hf H σ) (r : Rep S.K Hf d v) (i : Nat) : Stt S PX (Γ.set i (.dat d)) Hf H (σ.set i (some v)) := by
  refine ⟨by rw [List.length_set, List.length_set]; exact st.len, st.ex0, st.ex, st.keep, st.ops, fun j s h => ?_, fun j q I h => ?_, st.fr, st.px, st.pf, fun j q I h => ?_, fun j l q I J h1 h2 => ?_⟩
  · by_cases hj : i = j
    · subst hj
      have hi : i < Γ.length := by
        have z := (List.getElem?_eq_some_iff.mp h).1
        rwa [List.length_set] at z
      rw [List.getElem?_set_self hi] at h
      cases h
      exact ⟨v, by rw [List.getElem?_set_self (by rw [st.len]; exact hi)]; rfl, r⟩
    · rw [List.getElem?_set_ne hj] at h ⊢
      exact st.at_ j s h
  · by_cases hj : i = j
    · subst hj
      have hi : i < Γ.length := by
        have z := (List.getElem?_eq_some_iff.mp h).1
        rwa [List.length_set] at z
      rw [List.getElem?_set_self hi] at h; cases h
    · rw [List.getElem?_set_ne hj] at h
      exact st.new j q I h
  · by_cases hj : i = j
    · subst hj
      have hi : i < Γ.length := by
        have z := (List.getElem?_eq_some_iff.mp h).1
        rwa [List.length_set] at z
      rw [List.getElem?_set_self hi] at h; cases h
    · rw [List.getElem?_set_ne hj] at h
      exact st.pi j q I h
  · have ne : ∀ j I, (Γ.set i (.dat d))[j]? = some (Slot.inv q I) → Γ[j]? = some (Slot.inv q I) := fun j I h => by
      by_cases hj : i = j
      · subst hj
        have hi : i < Γ.length := by
          have z := (List.getElem?_eq_some_iff.mp h).1
          rwa [List.length_set] at z
        rw [List.getElem?_set_self hi] at h; cases h
      · rwa [List.getElem?_set_ne hj] at h
    exact st.sep j l q I J (ne j I h1) (ne l J h2)
theorem eg_name (hN : S.N[i]? = some x) (hx : Loc S.sc x) (q : Q (Γ.set i (.dat d))) (hst : S.stor x = true := by rfl) (hW : W i = true := by rfl) : EvG S W Γ (.Name x p) d Q := fun PX v σ H Hf k st r hk =>
  ⟨gName i, fun X ok => pg_name (by rw [ok.N]; exact ok.nd) (by rw [ok.N]; exact hN) (by rw [ok.sc]; exact hx) (ok.fn x hst), hk _ _ Hf H (Sub.refl _) (st.set r i) (.set hW) q⟩
/-- several targets, one after another -/
def EvGs (S : Sx) (W : Nat → Bool) (Γ : List Slot) (es : List Expr) (ds : List Da) (Q : List Slot → Prop) : Prop := ∀ PX vs σ H Hf k, Stt S PX Γ Hf H σ → Reps S.K Hf ds vs →
  (∀ Γ' σ' Hf' H', Sub Hf Hf' → Stt S PX Γ' Hf' H' σ' → Alt W Γ σ Γ' σ' → Q Γ' → k σ' H') → ∃ t : TGs, (∀ X, S.Ok X → PGs X es t) ∧ t vs σ H k
def tUGs (S : Sx) (es : List Expr) : TGs := fun vs σ H Q => ∃ t : TGs, (∀ X, S.Ok X → PGs X es t) ∧ t vs σ H Q
theorem puGs {X : Cx} (ok : S.Ok X) : PGs X es (tUGs S es) := ⟨fun pins s σ H vs us Q I r ⟨_, h, q⟩ => (h X ok).run pins s σ H vs us Q I r q⟩
theorem egs_nil (q : Q Γ) : EvGs S W Γ [] [] Q := fun PX vs σ H Hf k st r hk => ⟨_, fun _ _ => pgs_nil, r, hk Γ σ Hf H (Sub.refl _) st .refl q⟩
theorem egs_cons {ds : List Da} (h : EvG S W Γ e d fun Γ' => EvGs S W Γ' es ds Q) (hs : ∀ env, (assignEach (e :: es) env).map (·.2) = assign e env :: (assignEach es env).map (·.2) := by intro _; rfl) : EvGs S W Γ (e :: es) (d :: ds) Q := fun PX vs σ H Hf k st r hk => by
  unfold Reps at r
  obtain ⟨v, l, rfl, r1, r2⟩ := r
  refine ⟨_, fun X ok => pgs_cons (puG ok) (puGs ok) (hs _), v, l, rfl, h PX v σ H Hf _ st r1 fun Γ1 σ1 Hf1 H1 e1 st1 a1 q1 => ?_⟩
  exact q1 PX l σ1 H1 Hf1 k st1 (Reps.mono e1 _ _ r2) fun Γ' σ' Hf' H' e2 s2 a2 => hk Γ' σ' Hf' H' (e1.trans e2) s2 (a1.trans a2)

theorem eg_tup {ds : List Da} {kk : Nat} (h : EvGs S W Γ es ds Q) (hn : ∀ env, (assignEach es env).length = ds.length := by intro _; rfl) (hst : ∀ env, (assignEach es env).findIdx? (·.1) = none := by intro _; rfl) : EvG S W Γ (.Tuple es kk pos) (.tup ds) Q := fun PX v σ H Hf k st r hk => by
  unfold Rep at r
  obtain ⟨a, xs, rfl, r1, r2⟩ := r
  refine ⟨gTup S.K ds.length (tUGs S es), fun X ok => ?_, a, xs, rfl, st.ex.st r1, r2.len, h PX xs σ H Hf k st r2 hk⟩
  have z := pg_tup (pos := pos) (k := kk) ok.calm (puGs (es := es) ok) (hn X.env) (hst X.env)
  rw [ok.K] at z; exact z
theorem es_of {t : TS} (h : ∀ X, S.Ok X → PS X st t) (q : ∀ PX σ H Hf D', Stt S PX Γ Hf H σ → EnOk S PX Hf D D' → t D' σ H) : EvS S Γ st D := fun PX σ H Hf D' s k => ⟨t, h, q PX σ H Hf D' s k⟩
theorem eb_nil (q : D.nx Γ) : EvB S Γ [] D := fun PX σ H Hf D' s k => ⟨_, fun _ _ => pss_nil, k.nx Γ σ Hf H (Sub.refl _) s q⟩
theorem eb_cons (h : EvS S Γ st { D with nx := fun Γ' => EvB S Γ' sts D }) : EvB S Γ (st :: sts) D := fun PX σ H Hf D' s k =>
  ⟨_, fun X ok => pss_cons (puS ok) (puB ok), h PX σ H Hf { D' with nx := tUB S sts D' } s ⟨fun Γ' σ' Hf' H' e s' q => q PX σ' H' Hf' D' s' (k.mono e), k.rt, k.bk, k.ct, k.rr⟩⟩
/-- the way joins -/
theorem EvS.cut (G : List Slot → Prop) (h : EvS S Γ st { D with nx := G }) (q : ∀ Γ', G Γ' → D.nx Γ') : EvS S Γ st D := fun PX σ H Hf D' s k =>
  h PX σ H Hf D' s ⟨fun Γ' σ' Hf' H' e s' g => k.nx Γ' σ' Hf' H' e s' (q Γ' g), k.rt, k.bk, k.ct, k.rr⟩
theorem es_pass (q : D.nx Γ) : EvS S Γ (.Pass pos) D := es_of (fun _ _ => ps_pass) fun PX σ H Hf D' s k => k.nx Γ σ Hf H (Sub.refl _) s q
theorem es_break (q : D.bk Γ) : EvS S Γ (.Break pos) D := es_of (fun _ _ => ps_break) fun PX σ H Hf D' s k => k.bk Γ σ Hf H (Sub.refl _) s q
theorem es_cont (q : D.ct Γ) : EvS S Γ (.Continue pos) D := es_of (fun _ _ => ps_continue) fun PX σ H Hf D' s k => k.ct Γ σ Hf H (Sub.refl _) s q
theorem es_expr (h : EvE S Γ e fun _ => D.nx Γ) (hs : ∀ env, swapsWith e none pos.line env = pure false := by intro _; rfl) : EvS S Γ (.Expr e pos) D :=
  es_of (fun X ok => ps_expr (pu ok) (hs _)) fun PX σ H Hf D' s k => h PX σ H Hf _ s fun d v Hf' H' e s' _ q => k.nx Γ σ Hf' H' e s' q
theorem es_ret (hO : OpsIn S Γ) (h : EvE S Γ e D.rt) : EvS S Γ (.Return (some e) pos) D :=
  es_of (fun X ok => ps_ret (pu ok)) fun PX σ H Hf D' s k => h PX σ H Hf _ s fun d v Hf' H' e s' r q => k.rt d v Γ σ Hf' H' e s' hO r q
theorem es_retN (hO : OpsIn S Γ) (q : D.rt .non) : EvS S Γ (.Return none pos) D :=
  es_of (fun X ok => ps_retN) fun PX σ H Hf D' s k => k.rt .non .non Γ σ Hf H (Sub.refl _) s hO rfl q
theorem es_if (h : EvT S Γ c fun t => cond t (EvB S Γ body D) (EvB S Γ orelse D)) : EvS S Γ (.If c body orelse pos) D :=
  es_of (fun X ok => ps_if (puT ok) (puB ok) (puB ok)) fun PX σ H Hf D' s k => h PX σ H Hf _ s fun t Hf1 H1 e1 s1 q => cond_ite (by
    cases t with
    | true => exact q PX σ H1 Hf1 D' s1 (k.mono e1)
    | false => exact q PX σ H1 Hf1 D' s1 (k.mono e1))
theorem es_asg (h : EvE S Γ e fun d => EvG S anyW Γ a d D.nx) (hs : ∀ env, swapsWithSole [a] e spos.line env = pure false := by intro _; rfl) (hw : ∀ env : Env, env.scope = S.sc → swappedStores [a] e env = pure none := by intro _ _; rfl) (h1 : ∀ env, (assignEach [a] env).map (·.2) = [assign a env] := by intro _; rfl) : EvS S Γ (.Assign [a] e spos) D :=
  es_of (fun X ok => ps_asg (pu ok) (puG ok) (hs _) (hw _ ok.sc) (h1 _)) fun PX σ H Hf D' s k => h PX σ H Hf _ s fun d v Hf1 H1 e1 s1 r q => q PX v σ H1 Hf1 _ s1 r fun Γ' σ' Hf' H' e2 s2 _ g => k.nx Γ' σ' Hf' H' (e1.trans e2) s2 g
theorem es_set (hN : S.N[i]? = some x) (hx : Loc S.sc x) (h : EvE S Γ e fun d => D.nx (Γ.set i (.dat d))) (hs : ∀ env, swapsWith e (some (.Name x p)) spos.line env = pure false := by intro _; rfl) (hst : S.stor x = true := by rfl) : EvS S Γ (.Assign [.Name x p] e spos) D :=
  es_of (fun X ok => ps_set (i := i) (by rw [ok.N]; exact ok.nd) (by rw [ok.N]; exact hN) (by rw [ok.sc]; exact hx) (pu ok) (hs _) (ok.fn x hst)) fun PX σ H Hf D' s k => h PX σ H Hf _ s fun d v Hf1 H1 e1 s1 r q =>
    k.nx _ _ Hf1 H1 e1 (s1.set r i) q
/-- two plain names at once -/
theorem es_par {j : Nat} {y : Str} {py pt pt2 : Pos} {kt k2} (hN : S.N[i]? = some x) (hM : S.N[j]? = some y) (hij : i ≠ j) (hx : S.sc.names.lookup x = some .local) (hy : S.sc.names.lookup y = some .local) (hxy : x ≠ y)
    (hw : ∀ env : Env, env.scope = S.sc → swappedStores [.Tuple [.Name x p, .Name y py] kt pt] (.Tuple [a, b] k2 pt2) env = pure (some [x, y]))
    (h : EvE S Γ a fun d => EvE S Γ b fun d' => D.nx ((Γ.set i (.dat d)).set j (.dat d')))
    (he : ∀ env, starEach [a, b] env = (false, eval a env) :: starEach [b] env := by intro _; rfl) (he2 : ∀ env, starEach [b] env = (false, eval b env) :: starEach [] env := by intro _; rfl)
    (hs : ∀ env, swapsWithSole [.Tuple [.Name x p, .Name y py] kt pt] (.Tuple [a, b] k2 pt2) spos.line env = pure false := by intro _; rfl) :
    EvS S Γ (.Assign [.Tuple [.Name x p, .Name y py] kt pt] (.Tuple [a, b] k2 pt2) spos) D :=
  es_of (fun X ok => ps_par ok.calm (by rw [ok.N]; exact ok.nd) (by rw [ok.N]; exact hN) (by rw [ok.N]; exact hM) hij (by rw [ok.sc]; exact hx) (by rw [ok.sc]; exact hy)
    (pa_cons (pu ok) (pa_cons (pu ok) pa_nil (he2 _)) (he _)) (hw _ ok.sc) (hs _)) fun PX σ H Hf D' s k => h PX σ H Hf _ s fun d v Hf1 H1 e1 s1 r q => q PX σ H1 Hf1 _ s1 fun d' v' Hf2 H2 e2 s2 r2 q2 =>
      ⟨v, v', rfl, k.nx _ _ Hf2 H2 (e1.trans e2) ((s2.set (Rep.mono e2 _ _ r) i).set r2 j) q2⟩
/-- x op= e of a name -/
theorem es_aug {op : Operator} {r : Da → Da → (Da → Prop) → Prop} (ho : ∃ rr : TIp, (∀ X, S.Ok X → PIp X op rr) ∧ ∀ PX Γ σ Hf H x y v u (Q : Da → Prop) k, Stt S PX Γ Hf H σ → Rep S.K Hf x v → Rep S.K Hf y u → r x y Q →
      (∀ d v Hf' H', Sub Hf Hf' → Stt S PX Γ Hf' H' σ → Rep S.K Hf' d v → Q d → k v H') → rr v u H k) (hN : S.N[i]? = some x) (hx : Loc S.sc x) (hΓ : Γ[i]? = some (.dat d))
    (h : EvE S Γ e fun d' => r d d' fun d2 => D.nx (Γ.set i (.dat d2))) (hst : S.stor x = true := by rfl) : EvS S Γ (.AugAssign (.Name x p) op e spos) D := by
  obtain ⟨rr, h1, h2⟩ := ho
  refine es_of (fun X ok => ps_aug (i := i) (by rw [ok.N]; exact ok.nd) (by rw [ok.N]; exact hN) (by rw [ok.sc]; exact hx) (pu ok) (h1 X ok) (ok.fn x hst)) fun PX σ H Hf D' s k => ?_
  obtain ⟨v, ev, rv⟩ := s.at_ i _ hΓ
  refine ⟨v, ?_, h PX σ H Hf _ s fun d' v' Hf1 H1 e1 s1 r1 q1 => ?_⟩
  · cases z : σ[i]? with
    | none => rw [z] at ev; cases ev
    | some o => rw [z] at ev; exact congrArg some ev
  · exact h2 PX Γ σ Hf1 H1 d d' v v' _ _ s1 (Rep.mono e1 _ _ rv) r1 q1 fun d2 v2 Hf2 H2 e2 s2 r2 q2 => k.nx _ _ Hf2 H2 (e1.trans e2) (s2.set r2 i) q2
theorem ipg {op : Operator} {f : Int → Int → Int} (ho : ∀ X : Cx, PIp X op (ipI f)) : ∃ rr : TIp, (∀ X, S.Ok X → PIp X op rr) ∧ ∀ PX Γ σ Hf H x y v u (Q : Da → Prop) k, Stt S PX Γ Hf H σ → Rep S.K Hf x v → Rep S.K Hf y u → (asInt x fun i => asInt y fun j => Q (.int (f i j))) →
      (∀ d v Hf' H', Sub Hf Hf' → Stt S PX Γ Hf' H' σ → Rep S.K Hf' d v → Q d → k v H') → rr v u H k :=
  ⟨_, fun X _ => ho X, fun PX Γ σ Hf H x y v u Q k s rx ry h hk => by
    obtain ⟨i, rfl, h1⟩ := asInt_ h
    obtain ⟨j, rfl, h2⟩ := asInt_ h1
    exact ⟨i, j, rx, ry, hk (.int (f i j)) _ Hf H (Sub.refl _) s rfl h2⟩⟩
theorem es_add (hN : S.N[i]? = some x) (hx : Loc S.sc x) (hΓ : Γ[i]? = some (.dat d)) (h : EvE S Γ e fun d' => asInt d fun i' => asInt d' fun j => D.nx (Γ.set i (.dat (.int (i' + j))))) (hst : S.stor x = true := by rfl) : EvS S Γ (.AugAssign (.Name x p) .Add e spos) D :=
  es_aug (ipg fun _ => ip_add) hN hx hΓ h hst
theorem es_sub (hN : S.N[i]? = some x) (hx : Loc S.sc x) (hΓ : Γ[i]? = some (.dat d)) (h : EvE S Γ e fun d' => asInt d fun i' => asInt d' fun j => D.nx (Γ.set i (.dat (.int (i' - j))))) (hst : S.stor x = true := by rfl) : EvS S Γ (.AugAssign (.Name x p) .Sub e spos) D :=
  es_aug (ipg fun _ => ip_sub) hN hx hΓ h hst
end

/-! ## what is walked -/
/-- the iterator gives the items ds, one a turn -/
structure Yld (S : Sx) (J : It) (ds : List Da) (Hf : Hp) : Prop where
  go : ∀ i Hf' H', Sub Hf Hf' → Sub Hf' H' → i < ds.length → J.go i H'
  stop : ∀ i Hf' H', Sub Hf Hf' → Sub Hf' H' → ds.length ≤ i → J.stop i H'
  yld : ∀ PX i x Γ σ Hf' H' H'', Sub Hf Hf' → Stt S PX Γ Hf' H' σ → i < ds.length → J.yld i H' x H'' → ∃ Hf'' d, Sub Hf' Hf'' ∧ Stt S PX Γ Hf'' H'' σ ∧ ds[i]? = some d ∧ Rep S.K Hf'' d x
def EvI (S : Sx) (Γ : List Slot) (tg it : Expr) (Q : List Da → Prop) : Prop := ∀ PX σ H Hf k, Stt S PX Γ Hf H σ →
  (∀ ds J Hf' H', Sub Hf Hf' → Stt S PX Γ Hf' H' σ → Yld S J ds Hf' → Q ds → k J H') → ∃ w : TI, (∀ X, S.Ok X → PI X tg it w) ∧ w σ H k
def tUI (S : Sx) (tg it : Expr) : TI := fun σ H R => ∃ w : TI, (∀ X, S.Ok X → PI X tg it w) ∧ w σ H R
theorem puI {S : Sx} {X : Cx} {tg it : Expr} (ok : S.Ok X) : PI X tg it (tUI S tg it) := ⟨fun pins s σ H R I ⟨_, h, q⟩ => (h X ok).run pins s σ H R I q⟩
theorem Yld.mono {S : Sx} {J : It} {ds : List Da} {Hf Hf' : Hp} (h : Yld S J ds Hf) (e : Sub Hf Hf') : Yld S J ds Hf' :=
  ⟨fun i a b c => h.go i a b (e.trans c), fun i a b c => h.stop i a b (e.trans c), fun PX i x Γ σ a b c d => h.yld PX i x Γ σ a b c (e.trans d)⟩
theorem Reps.at {K : PySem.W.Frag} {H : Hp} {ds : List Da} {vs : List V} {i : Nat} (r : Reps K H ds vs) (hi : i < ds.length) : ∃ d v, ds[i]? = some d ∧ vs[i]? = some v ∧ Rep K H d v := by
  have e := List.getElem?_eq_getElem hi
  obtain ⟨v, h1, h2⟩ := r.get e
  exact ⟨_, v, e, h1, h2⟩
section
variable {S : Sx} {Γ : List Slot} {e a b c tg it elt : Expr} {es : List Expr} {sts body orelse : List Stmt} {st : Stmt} {D : EnG} {p pos spos : Pos} {x : Str} {i : Nat} {d : Da}
theorem ei_seq {Q : List Da → Prop} (h : EvE S Γ e fun d => asLst d Q) : EvI S Γ tg e Q := fun PX σ H Hf k st hk => ⟨iList S.K (tU S e), fun X ok => by
    have z := pi_list (tg := tg) (pu (e := e) ok)
    rw [ok.K] at z; exact z, h PX σ H Hf _ st fun d v Hf1 H1 e1 st1 r q => by
  obtain ⟨ds, rfl, q⟩ := asLst_ q
  unfold Rep at r
  obtain ⟨a, xs, rfl, r1, r2⟩ := r
  refine ⟨a, rfl, ⟨xs, st1.ex.sl r1⟩, hk ds _ Hf1 H1 e1 st1 ⟨fun i Hf' H' e e' hi => ?_, fun i Hf' H' e e' hi => ⟨xs, e'.sl (e.sl r1), by rw [r2.len]; exact hi⟩, fun PX i x Γ σ Hf' H' H'' e s hi y => ?_⟩ q⟩
  · obtain ⟨d, v, h1, h2, h3⟩ := r2.at hi
    exact ⟨xs, v, e'.sl (e.sl r1), h2⟩
  · obtain ⟨rfl, y⟩ := y
    obtain ⟨d, v, h1, h2, h3⟩ := r2.at hi
    have z := (y xs (s.ex.sl (e.sl r1))).symm.trans h2
    cases z
    exact ⟨Hf', d, Sub.refl _, s, h1, Rep.mono e _ _ h3⟩⟩
theorem ei_tup {Q : List Da → Prop} (h : EvE S Γ e fun d => asTup d Q) : EvI S Γ tg e Q := fun PX σ H Hf k st hk => ⟨iTup S.K (tU S e), fun X ok => by
    have z := pi_tup (tg := tg) (pu (e := e) ok)
    rw [ok.K] at z; exact z, h PX σ H Hf _ st fun d v Hf1 H1 e1 st1 r q => by
  obtain ⟨ds, rfl, q⟩ := asTup_ q
  unfold Rep at r
  obtain ⟨a, xs, rfl, r1, r2⟩ := r
  refine ⟨a, rfl, ⟨xs, st1.ex.st r1⟩, hk ds _ Hf1 H1 e1 st1 ⟨fun i Hf' H' e e' hi => ?_, fun i Hf' H' e e' hi => ⟨xs, e'.st (e.st r1), by rw [r2.len]; exact hi⟩, fun PX i x Γ σ Hf' H' H'' e s hi y => ?_⟩ q⟩
  · obtain ⟨d, v, h1, h2, h3⟩ := r2.at hi
    exact ⟨xs, v, e'.st (e.st r1), h2⟩
  · obtain ⟨rfl, y⟩ := y
    obtain ⟨d, v, h1, h2, h3⟩ := r2.at hi
    have z := (y xs (s.ex.st (e.st r1))).symm.trans h2
    cases z
    exact ⟨Hf', d, Sub.refl _, s, h1, Rep.mono e _ _ h3⟩⟩
def rngD (lo : Int) (n : Nat) : List Da := (List.range n).map fun i : Nat => Da.int (lo + (i : Int))
theorem rngD_len {lo : Int} {n : Nat} : (rngD lo n).length = n := by unfold rngD; rw [List.length_map, List.length_range]
theorem rngD_get {lo : Int} {n i : Nat} (h : i < n) : (rngD lo n)[i]? = some (.int (lo + (i : Int))) := by
  unfold rngD; rw [List.getElem?_map, List.getElem?_range h]; rfl
theorem yld_r {Hf : Hp} {lo : Int} {n : Nat} : Yld S (Itr lo n) (rngD lo n) Hf := by
  refine ⟨fun i Hf' H' _ _ hi => by rw [rngD_len] at hi; exact hi, fun i Hf' H' _ _ hi => by rw [rngD_len] at hi; exact hi, fun PX i x Γ σ Hf' H' H'' _ s hi y => ?_⟩
  obtain ⟨rfl, rfl⟩ := y
  rw [rngD_len] at hi
  exact ⟨Hf', _, Sub.refl _, s, rngD_get hi, rfl⟩
abbrev Rg (j : Int) : Prop := -(2 ^ 62) ≤ j ∧ j < 2 ^ 62
theorem ei_range1 {Q : List Da → Prop} {q : Pos} (hg : GlS S "range") (hm : S.mg "range" = none) (h : EvE S Γ a fun d => asInt d fun j => Rg j ∧ Q (rngD 0 j.toNat))
    (hs : ∀ env, starEach [a] env = (false, eval a env) :: starEach [] env := by intro _; rfl) : EvI S Γ tg (.Call (.Name "range" p) [a] [] q) Q := fun PX σ H Hf k st hk =>
  ⟨iRng1 (tCons (tU S a) tNil), fun X ok => pi_range1 (hg.gl ok) (by rw [ok.mg]; exact hm) (pa_cons (pu ok) pa_nil (hs _)) (hs _), h PX σ H Hf _ st fun d v Hf1 H1 e1 st1 r q => by
    obtain ⟨j, rfl, q⟩ := asInt_ q
    exact ⟨j, congrArg (· :: []) r, q.1.1, q.1.2, hk _ _ Hf1 H1 e1 st1 yld_r q.2⟩⟩
theorem ei_range2 {Q : List Da → Prop} {q : Pos} (hg : GlS S "range") (hm : S.mg "range" = none) (h : EvE S Γ a fun d => EvE S Γ b fun d' => asInt d fun i => asInt d' fun j => Rg i ∧ Rg j ∧ Q (rngD i (j - i).toNat))
    (hs : ∀ env, starEach [a, b] env = (false, eval a env) :: starEach [b] env := by intro _; rfl) (hs2 : ∀ env, starEach [b] env = (false, eval b env) :: starEach [] env := by intro _; rfl) : EvI S Γ tg (.Call (.Name "range" p) [a, b] [] q) Q := fun PX σ H Hf k st hk =>
  ⟨iRng2 (tCons (tU S a) (tCons (tU S b) tNil)), fun X ok => pi_range2 (hg.gl ok) (by rw [ok.mg]; exact hm) (pa_cons (pu ok) (pa_cons (pu ok) pa_nil (hs2 _)) (hs _)) (by rw [hs, hs2]; rfl) (by rw [hs2]; rfl),
    h PX σ H Hf _ st fun d v Hf1 H1 e1 st1 r q => q PX σ H1 Hf1 _ st1 fun d' v' Hf2 H2 e2 st2 r' q => by
    obtain ⟨i, rfl, q1⟩ := asInt_ q
    obtain ⟨j, rfl, q2⟩ := asInt_ q1
    have r1 : v = .int i := r
    have r2 : v' = .int j := r'
    subst r1; subst r2
    exact ⟨i, j, rfl, ⟨q2.1.1, q2.1.2, q2.2.1.1, q2.2.1.2⟩, hk _ _ Hf2 H2 (e1.trans e2) st2 yld_r q2.2.2⟩⟩

/-! ## for -/
def forG (step : Da → List Slot → (List Slot → Prop) → Prop) : List Da → List Slot → (List Slot → Prop) → Prop
  | [], Γ, K => K Γ
  | d :: ds, Γ, K => step d Γ fun Γ' => forG step ds Γ' K
theorem forG_drop {step : Da → List Slot → (List Slot → Prop) → Prop} {ds : List Da} {i : Nat} {d : Da} {Γ : List Slot} {K : List Slot → Prop} (h : ds[i]? = some d) (q : forG step (ds.drop i) Γ K) : step d Γ fun Γ' => forG step (ds.drop (i + 1)) Γ' K := by
  obtain ⟨hi, e⟩ := List.getElem?_eq_some_iff.mp h
  rw [List.drop_eq_getElem_cons hi, e] at q
  exact q
/-- an invariant by the turn -/
theorem forG_inv {step : Da → List Slot → (List Slot → Prop) → Prop} {ds : List Da} {Γ : List Slot} {K : List Slot → Prop} (G : Nat → List Slot → Prop) (h0 : G 0 Γ)
    (hs : ∀ i d Γ (k : List Slot → Prop), ds[i]? = some d → G i Γ → (∀ Γ', G (i + 1) Γ' → k Γ') → step d Γ k) (hd : ∀ Γ, G ds.length Γ → K Γ) : forG step ds Γ K := by
  have main : ∀ (n i : Nat) (Γ : List Slot), n + i = ds.length → G i Γ → forG step (ds.drop i) Γ K := by
    intro n
    induction n with
    | zero =>
      intro i Γ hi g
      rw [List.drop_eq_nil_of_le (by omega)]
      have e : i = ds.length := by omega
      subst e
      exact hd Γ g
    | succ n ih =>
      intro i Γ hi g
      have hl : i < ds.length := by omega
      rw [List.drop_eq_getElem_cons hl]
      exact hs i _ Γ _ (List.getElem?_eq_getElem hl) g fun Γ' g' => ih (i + 1) Γ' (by omega) g'
  have z := main ds.length 0 Γ (by omega) h0
  rwa [List.drop_zero] at z
theorem es_for (h : EvI S Γ tg it fun ds => forG (fun d Γ K => EvG S anyW Γ tg d fun Γ' => EvB S Γ' body { D with nx := K, ct := K, bk := D.nx }) ds Γ D.nx)
    (hs : ∀ env x, foldedSetIterable it env x = pure x := by intro _ _; rfl) : EvS S Γ (.For tg it body [] pos) D :=
  es_of (fun X ok => ps_for ok.po ok.calm (puI ok) (puG ok) (puB ok) (hs _)) fun PX σ H Hf D' s k => by
    show tUI S tg it σ H _
    refine h PX σ H Hf _ s fun ds J Hf1 H1 e1 s1 y q => ?_
    let step := fun d Γ (K : List Slot → Prop) => EvG S anyW Γ tg d fun Γ' => EvB S Γ' body { D with nx := K, ct := K, bk := D.nx }
    refine ⟨fun i m σ' H' => ∃ Γ' Hf', Sub Hf1 Hf' ∧ Stt S PX Γ' Hf' H' σ' ∧ m = ds.length - i ∧ i ≤ ds.length ∧ forG step (ds.drop i) Γ' D.nx, ⟨ds.length, Γ, Hf1, Sub.refl _, s1, by simp, Nat.zero_le _, by rw [List.drop_zero]; exact q⟩, ?_⟩
    rintro i m σ' H' ⟨Γ', Hf', e2, s2, rfl, hi, f⟩
    by_cases hl : i < ds.length
    · refine .inr ⟨y.go i Hf' H' e2 s2.ex hl, fun σ3 H3 => ∃ Γ3 Hf3, Sub Hf1 Hf3 ∧ Stt S PX Γ3 Hf3 H3 σ3 ∧ forG step (ds.drop (i + 1)) Γ3 D.nx, fun σ3 H3 ⟨Γ3, Hf3, a, b, c⟩ => ⟨ds.length - (i + 1), by omega, Γ3, Hf3, a, b, rfl, hl, c⟩, fun x H3 hy => ?_⟩
      obtain ⟨Hf3, d, e3, s3, hd, r⟩ := y.yld PX i x Γ' σ' Hf' H' H3 e2 s2 hl hy
      refine forG_drop hd f PX x σ' H3 Hf3 _ s3 r fun Γ4 σ4 Hf4 H4 e4 s4 _ q4 => ?_
      refine q4 PX σ4 H4 Hf4 _ s4 ⟨fun Γ5 σ5 Hf5 H5 e5 s5 q5 => ⟨Γ5, Hf5, ((e2.trans e3).trans e4).trans e5, s5, q5⟩, fun d v Γ5 σ5 Hf5 H5 e5 => k.rt d v Γ5 σ5 Hf5 H5 ((((e1.trans e2).trans e3).trans e4).trans e5),
        fun Γ5 σ5 Hf5 H5 e5 => k.nx Γ5 σ5 Hf5 H5 ((((e1.trans e2).trans e3).trans e4).trans e5), fun Γ5 σ5 Hf5 H5 e5 s5 q5 => ⟨Γ5, Hf5, ((e2.trans e3).trans e4).trans e5, s5, q5⟩, fun p ds vs Γ5 σ5 Hf5 H5 e5 => k.rr p ds vs Γ5 σ5 Hf5 H5 ((((e1.trans e2).trans e3).trans e4).trans e5)⟩
    · refine .inl ⟨y.stop i Hf' H' e2 s2.ex (by omega), ?_⟩
      rw [List.drop_eq_nil_of_le (by omega)] at f
      exact k.nx Γ' σ' Hf' H' (e1.trans e2) s2 f
end

/-! ## comprehensions -/
def Sx.blk (S : Sx) (scope : Scope) : Sx := { S with sc := relS scope S.sc, E := fun _ _ => False, stor := fun x => match scope.names.lookup x with | some .local => true | some .cell => true | _ => false }
theorem Sx.Ok.blk {S : Sx} {X : Cx} (ok : S.Ok X) (s : Shared) (H : Hp) (scope : Scope) (C : Addr) (cl : List (Str × Addr)) (fp : List Addr) : (S.blk scope).Ok (X.blk s H scope (compEnvC scope cl C X.env) fp) where
  P := ok.P
  w := ok.w
  K := ok.K
  mg := ok.mg
  base := ok.base
  N := ok.N
  sc := show relS scope X.env.scope = relS scope S.sc by rw [ok.sc]
  calm := ok.calm
  room := ok.room
  gd := ok.gd
  nd := ok.nd
  tk := fun u s' z => by
    obtain ⟨_, _, _, _, _, _, _, _, _, _, _, _, _, _, _, _, _, _, _, _, _, _, _, _, z⟩ := z
    exact z
  po := PassesOwn.never
  fn := fun x h => by
    cases e : scope.names.lookup x with
    | none => unfold Sx.blk at h; simp only [e] at h; cases h
    | some kd =>
      cases kd with
      | «local» =>
        refine .inr ?_
        show (relS scope X.env.scope).names.lookup x = _
        unfold relS
        exact lookup_relS_keep (by decide) e
      | cell =>
        refine .inl ?_
        show (scope.names.lookup x == some .cell) = true
        rw [e]; rfl
      | _ => unfold Sx.blk at h; simp only [e] at h; cases h
def wipeG (Γ : List Slot) : List Nat → List Slot
  | [] => Γ
  | v :: vs => (wipeG Γ vs).set v .no
theorem wipeG_out {Γ : List Slot} {i : Nat} : ∀ {vs : List Nat}, i ∉ vs → (wipeG Γ vs)[i]? = Γ[i]?
  | [], _ => rfl
  | v :: vs, h => by
    unfold wipeG
    rw [List.getElem?_set_ne (fun e => h (by rw [e]; exact List.mem_cons_self))]
    exact wipeG_out fun m => h (List.mem_cons_of_mem _ m)
theorem wipe_in {σ : L2.St} {i : Nat} : ∀ {vs : List Nat}, i ∈ vs → i < σ.length → (wipe σ vs)[i]? = some none
  | v :: vs, h, hi => by
    unfold wipe
    by_cases e : v = i
    · subst e; rw [List.getElem?_set_self (by rw [wipe_length]; exact hi)]
    · rw [List.getElem?_set_ne e]
      exact wipe_in (by rcases List.mem_cons.mp h with z | z; exact absurd z.symm e; exact z) hi
theorem wipe_eq {σ σ' : L2.St} {vs : List Nat} (hl : σ'.length = σ.length) (h : ∀ j : Nat, j ∉ vs → σ'[j]? = σ[j]?) : wipe σ' vs = wipe σ vs := by
  refine List.ext_getElem? fun j => ?_
  by_cases m : j ∈ vs
  · by_cases hj : j < σ.length
    · rw [wipe_in m hj, wipe_in m (by rw [hl]; exact hj)]
    · rw [List.getElem?_eq_none (by rw [wipe_length]; omega), List.getElem?_eq_none (by rw [wipe_length]; omega)]
  · rw [wipe_out m, wipe_out m]; exact h j m
section
variable {S : Sx} {PX Hf Hf' H H' : Hp} {Γ Γ' : List Slot} {σ σ' : L2.St} {D : Addr} {o o' : HO}
theorem Stt.no (st : Stt S PX Γ Hf H σ) (i : Nat) : Stt S PX (Γ.set i .no) Hf H (σ.set i none) := by
  have ne : ∀ (j : Nat) s, (Γ.set i .no)[j]? = some s → s = .no ∨ (i ≠ j ∧ Γ[j]? = some s) := fun j s h => by
    by_cases hj : i = j
    · subst hj
      have hi : i < Γ.length := by
        have z := (List.getElem?_eq_some_iff.mp h).1
        rwa [List.length_set] at z
      rw [List.getElem?_set_self hi] at h
      cases h; exact .inl rfl
    · rw [List.getElem?_set_ne hj] at h; exact .inr ⟨hj, h⟩
  have nv : ∀ (j : Nat) p I, (Γ.set i .no)[j]? = some (Slot.inv p I) → Γ[j]? = some (Slot.inv p I) := fun j p I h => by
    rcases ne j _ h with z | z
    · cases z
    · exact z.2
  refine ⟨by rw [List.length_set, List.length_set]; exact st.len, st.ex0, st.ex, st.keep, st.ops, fun j s h => ?_, fun j q I h => st.new j q I (nv j q I h), st.fr, st.px, st.pf, fun j q I h => st.pi j q I (nv j q I h), fun j l q I J h1 h2 => st.sep j l q I J (nv j q I h1) (nv l q J h2)⟩
  rcases ne j s h with rfl | ⟨z, h⟩
  · trivial
  · rw [List.getElem?_set_ne z]; exact st.at_ j s h
theorem Stt.wipe (st : Stt S PX Γ Hf H σ) : ∀ vs : List Nat, Stt S PX (wipeG Γ vs) Hf H (L2.wipe σ vs)
  | [] => st
  | v :: vs => (st.wipe vs).no v
theorem Stt.toBlk (st : Stt S PX Γ Hf H σ) (scope : Scope) : Stt (S.blk scope) PX Γ Hf H σ := ⟨st.len, st.ex0, st.ex, st.keep, st.ops, st.at_, st.new, st.fr, st.px, st.pf, st.pi, st.sep⟩
/-- a new object that is held apart -/
theorem Stt.frame (st : Stt S PX Γ Hf H σ) (hD : H D = none) : Stt S (upd PX D o) Γ Hf (upd H D o) σ := by
  have hn : ∀ (i : Nat) p I, Γ[i]? = some (.inv p I) → p ≠ D := fun i p I h z => st.ownH h (z ▸ hD)
  refine ⟨st.len, st.ex0, st.ex.upd hD, fun q u h1 h2 => ?_, fun q h => ?_, fun i s h => ?_, st.new, st.fr, st.px.updB, fun q h => ?_, fun i p I h => ?_, st.sep⟩
  · have z := st.keep q u h1 h2
    rw [upd_ne (ne_of_none z hD)]; exact z
  · have z := st.ops q h
    rw [upd_ne (fun c : q.1 = D => z (by rw [c]; exact hD))]; exact z
  · refine (st.at_ i s h).more (Sub.refl _) fun p I e => ?_
    subst e
    rw [upd_ne (hn i p I h)]
    exact ⟨(st.own h).2.1, rfl⟩
  · by_cases c : q = D
    · subst c; exact st.ex.free hD
    · rw [upd_ne c] at h; exact st.pf q h
  · rw [upd_ne (hn i p I h)]; exact st.pi i p I h
/-- what is held apart is changed -/
theorem Stt.reframe (st : Stt S (upd PX D o) Γ Hf H σ) (h0 : S.H0 D = none) : Stt S (upd PX D o') Γ Hf (upd H D o') σ := by
  have hn : ∀ (i : Nat) p I, Γ[i]? = some (.inv p I) → p ≠ D := fun i p I h z => by
    have y := st.pi i p I h
    rw [z, upd_same] at y; cases y
  have hf : Hf D = none := st.pf D (by rw [upd_same]; exact fun z => nomatch z)
  refine ⟨st.len, st.ex0, fun a u h => ?_, fun q u h1 h2 => ?_, fun q h => ?_, fun i s h => ?_, st.new, st.fr, fun a u h => ?_, fun q h => ?_, fun i p I h => ?_, st.sep⟩
  · rw [upd_ne (ne_of_none h hf)]; exact st.ex a u h
  · rw [upd_ne (ne_of_none h1 h0)]; exact st.keep q u h1 h2
  · by_cases c : q.1 = D
    · rw [c, upd_same]; exact fun z => nomatch z
    · rw [upd_ne c]; exact st.ops q h
  · refine (st.at_ i s h).more (Sub.refl _) fun p I e => ?_
    subst e
    rw [upd_ne (hn i p I h)]
    exact ⟨(st.own h).2.1, rfl⟩
  · by_cases c : a = D
    · subst c; rw [upd_same] at h ⊢; exact h
    · rw [upd_ne c] at h ⊢
      exact st.px a u (by rw [upd_ne c]; exact h)
  · by_cases c : q = D
    · subst c; exact hf
    · rw [upd_ne c] at h; exact st.pf q (by rw [upd_ne c]; exact h)
  · have y := st.pi i p I h
    rw [upd_ne (hn i p I h)] at y ⊢; exact y
/-- what was held apart is frozen -/
theorem Stt.freeze (st : Stt S (upd PX D o) Γ Hf H σ) (hP : PX D = none) (h0 : S.H0 D = none) : Stt S PX Γ (upd Hf D o) H σ ∧ Sub Hf (upd Hf D o) := by
  have hn : ∀ (i : Nat) p I, Γ[i]? = some (.inv p I) → p ≠ D := fun i p I h z => by
    have y := st.pi i p I h
    rw [z, upd_same] at y; cases y
  have hf : Hf D = none := st.pf D (by rw [upd_same]; exact fun z => nomatch z)
  have e : Sub Hf (upd Hf D o) := Sub.upd0 (Sub.refl _) hf
  have hD : H D = some o := st.px D o upd_same
  have pn : ∀ q, PX q ≠ none → q ≠ D := fun q h c => h (by rw [c]; exact hP)
  refine ⟨⟨st.len, st.ex0.trans e, fun a u h => ?_, st.keep, st.ops, fun i s h => ?_, st.new, fun q h h2 => ?_, fun a u h => ?_, fun q h => ?_, fun i p I h => ?_, st.sep⟩, e⟩
  · by_cases c : a = D
    · subst c; rw [upd_same] at h; rw [hD]; exact h
    · rw [upd_ne c] at h; exact st.ex a u h
  · refine (st.at_ i s h).more e fun p I e => ?_
    subst e
    rw [upd_ne (hn i p I h)]
    exact ⟨(st.own h).2.1, rfl⟩
  · by_cases c : q = D
    · subst c; exact h0
    · rw [upd_ne c] at h; exact st.fr q h h2
  · exact st.px a u (by rw [upd_ne (pn a (by rw [h]; exact fun z => nomatch z))]; exact h)
  · rw [upd_ne (pn q h)]
    exact st.pf q (by rw [upd_ne (pn q h)]; exact h)
  · have y := st.pi i p I h
    rw [upd_ne (hn i p I h)] at y; exact y
/-- back at the outer slots -/
theorem Stt.back {S' : Sx} {PX' : Hp} (st : Stt S PX Γ Hf H σ) (s2 : Stt S' PX' Γ' Hf' H' σ') (hS : S'.K = S.K ∧ S'.F0 = S.F0 ∧ S'.H0 = S.H0 ∧ S'.op = S.op) (e : Sub Hf Hf') (hi : ∀ (i : Nat) p I, Γ[i]? = some (.inv p I) → ∃ j : Nat, Γ'[j]? = some (.inv p I)) : Stt S PX' Γ Hf' H' σ := by
  obtain ⟨k1, k2, k3, k4⟩ := hS
  refine ⟨st.len, st.ex0.trans e, s2.ex, by rw [← k3, ← k4]; exact s2.keep, by rw [← k4]; exact s2.ops, fun i s h => ?_, st.new, by rw [← k2, ← k3]; exact s2.fr, s2.px, s2.pf, fun i p I h => ?_, st.sep⟩
  · cases s with
    | no => trivial
    | dat d => exact (st.at_ i _ h).more e fun _ _ z => nomatch z
    | inv p I =>
      obtain ⟨j, hj⟩ := hi i p I h
      exact ⟨(st.own h).1, by rw [← k1]; exact (s2.own hj).2⟩
  · obtain ⟨j, hj⟩ := hi i p I h
    exact s2.pi j p I hj
end
def EvTs (S : Sx) (Γ : List Slot) (ifs : List Expr) (Q : Bool → Prop) : Prop := ∀ PX σ H Hf k, Stt S PX Γ Hf H σ →
  (∀ b Hf' H', Sub Hf Hf' → Stt S PX Γ Hf' H' σ → Q b → k b H') → ∃ t : TT, (∀ X, S.Ok X → PTs X ifs t) ∧ t σ H k
def tUTs (S : Sx) (ifs : List Expr) : TT := fun σ H Q => ∃ t : TT, (∀ X, S.Ok X → PTs X ifs t) ∧ t σ H Q
theorem puTs {S : Sx} {X : Cx} {ifs : List Expr} (ok : S.Ok X) : PTs X ifs (tUTs S ifs) := ⟨fun pins s σ H Q I ⟨_, h, q⟩ => (h X ok).run pins s σ H Q I q⟩
theorem ets_nil {S : Sx} {Γ : List Slot} {Q : Bool → Prop} (q : Q true) : EvTs S Γ [] Q := fun PX σ H Hf k st hk => ⟨_, fun _ _ => pts_nil, hk true Hf H (Sub.refl _) st q⟩
theorem ets_one {S : Sx} {Γ : List Slot} {c : Expr} {Q : Bool → Prop} (h : EvT S Γ c Q) : EvTs S Γ [c] Q := fun PX σ H Hf k st hk => ⟨_, fun X ok => pts_one (puT ok), h PX σ H Hf k st hk⟩
def lcG (step : Da → List Da → (List Da → Prop) → Prop) : List Da → List Da → (List Da → Prop) → Prop
  | [], acc, Q => Q acc
  | d :: ds, acc, Q => step d acc fun acc' => lcG step ds acc' Q
theorem lcG_drop {step : Da → List Da → (List Da → Prop) → Prop} {ds acc : List Da} {i : Nat} {d : Da} {Q : List Da → Prop} (h : ds[i]? = some d) (q : lcG step (ds.drop i) acc Q) : step d acc fun acc' => lcG step (ds.drop (i + 1)) acc' Q := by
  obtain ⟨hi, e⟩ := List.getElem?_eq_some_iff.mp h
  rw [List.drop_eq_getElem_cons hi, e] at q
  exact q
/-- each item gives one -/
theorem lcG_map {step : Da → List Da → (List Da → Prop) → Prop} {f : Da → Da} {Q : List Da → Prop} : ∀ {ds acc : List Da}, (∀ d acc (k : List Da → Prop), d ∈ ds → k (acc ++ [f d]) → step d acc k) → Q (acc ++ ds.map f) → lcG step ds acc Q
  | [], acc, _, q => by rw [List.map_nil, List.append_nil] at q; exact q
  | d :: ds, acc, h, q => h d acc _ List.mem_cons_self (lcG_map (fun d' acc' k hd hk => h d' acc' k (List.mem_cons_of_mem _ hd) hk) (by rw [List.map_cons] at q; rw [List.append_assoc]; exact q))
/-- each item is kept or not -/
theorem lcG_filter {step : Da → List Da → (List Da → Prop) → Prop} {p : Da → Bool} {f : Da → Da} {Q : List Da → Prop} : ∀ {ds acc : List Da}, (∀ d acc (k : List Da → Prop), d ∈ ds → k (if p d then acc ++ [f d] else acc) → step d acc k) → Q (acc ++ (ds.filter p).map f) → lcG step ds acc Q
  | [], acc, _, q => by rw [List.filter_nil, List.map_nil, List.append_nil] at q; exact q
  | d :: ds, acc, h, q => h d acc _ List.mem_cons_self (lcG_filter (fun d' acc' k hd hk => h d' acc' k (List.mem_cons_of_mem _ hd) hk) (by
    rw [List.filter_cons] at q
    split at q <;> rename_i c
    · rw [if_pos c, List.append_assoc]; rw [List.map_cons] at q; exact q
    · rw [if_neg c]; exact q))
def noInv (Γ : List Slot) (vs : List Nat) : Prop := ∀ i ∈ vs, ∀ p I, Γ[i]? ≠ some (.inv p I)
/-! ## built-ins -/
mutual
def Da.pure : Da → Bool
  | .non | .bl _ | .int _ | .str _ => true
  | .lst xs | .tup xs => Da.pures xs
  | _ => false
def Da.pures : List Da → Bool
  | [] => true
  | x :: xs => x.pure && Da.pures xs
end
mutual
def Da.py : Da → PyData
  | .bl b => .bool b
  | .int i => .int i
  | .str x => .str x
  | .lst xs => .list (Da.pys xs)
  | .tup xs => .tuple (Da.pys xs)
  | _ => .none
def Da.pys : List Da → List PyData
  | [] => []
  | x :: xs => x.py :: Da.pys xs
end
mutual
theorem Rep.dp {K : PySem.W.Frag} {H : Hp} : ∀ (d : Da) (v : V), d.pure = true → Rep K H d v → Dp K H v d.py
  | .non, v, _, r => by unfold Rep at r; subst r; unfold Da.py; exact .non
  | .bl b, v, _, r => by unfold Rep at r; subst r; unfold Da.py; exact .bl b
  | .int b, v, _, r => by unfold Rep at r; subst r; unfold Da.py; exact .int b
  | .str b, v, _, r => by unfold Rep at r; subst r; unfold Da.py; exact .str b
  | .lst ds, v, h, r => by
    unfold Rep at r
    obtain ⟨a, xs, rfl, r1, r2⟩ := r
    unfold Da.pure at h
    unfold Da.py
    exact .lst r1 (Reps.dp ds xs h r2)
  | .tup ds, v, h, r => by
    unfold Rep at r
    obtain ⟨a, xs, rfl, r1, r2⟩ := r
    unfold Da.pure at h
    unfold Da.py
    exact .tup r1 (Reps.dp ds xs h r2)
  | .dct _, _, h, _ => by unfold Da.pure at h; cases h
  | .ins _ _, _, h, _ => by unfold Da.pure at h; cases h
  | .rf _, _, h, _ => by unfold Da.pure at h; cases h
  | .ty _, _, h, _ => by unfold Da.pure at h; cases h
theorem Reps.dp {K : PySem.W.Frag} {H : Hp} : ∀ (ds : List Da) (vs : List V), Da.pures ds = true → Reps K H ds vs → DpAll K H vs (Da.pys ds)
  | [], vs, _, r => by unfold Reps at r; subst r; unfold Da.pys; exact .nil
  | d :: ds, vs, h, r => by
    unfold Reps at r
    obtain ⟨x, l, rfl, r1, r2⟩ := r
    unfold Da.pures at h
    rw [Bool.and_eq_true] at h
    unfold Da.pys
    exact .cons (Rep.dp d x h.1 r1) (Reps.dp ds l h.2 r2)
end
structure CallG (S : Sx) (f : Value) (r : List Da → (Da → Prop) → Prop) : Prop where
  ex : ∃ rr : List V → Hp → VK → Prop, (∀ X, S.Ok X → CallR X f rr) ∧ ∀ PX Γ σ Hf H ds vs (Q : Da → Prop) k, Stt S PX Γ Hf H σ → Reps S.K Hf ds vs → r ds Q →
    (∀ d v Hf' H', Sub Hf Hf' → Stt S PX Γ Hf' H' σ → Rep S.K Hf' d v → Q d → k v H') → rr vs H k
theorem CallG.keep {S : Sx} {f : Value} {r : List Da → (Da → Prop) → Prop} (rr : List V → Hp → VK → Prop) (h : ∀ X, S.Ok X → CallR X f rr)
    (q : ∀ Hf H ds vs (Q : Da → Prop) k, Sub Hf H → Reps S.K Hf ds vs → r ds Q → (∀ d v, Rep S.K Hf d v → Q d → k v H) → rr vs H k) : CallG S f r :=
  ⟨rr, h, fun PX Γ σ Hf H ds vs Q k st rx hr hk => q Hf H ds vs Q k st.ex rx hr fun d v a b => hk d v Hf H (Sub.refl _) st a b⟩
section
variable {S : Sx} {Γ : List Slot} {e a b c : Expr} {es : List Expr} {Q : Da → Prop} {p pos : Pos} {x : Str} {id T : String} {r : List Da → (Da → Prop) → Prop}
theorem ev_callB (ho : CallG S (.builtin id) r) (hg : GlS S x) (hm : S.mg x = none) (hv : bootBuiltins x = some (.builtin id)) (h : EvA S Γ (e :: es) fun ds => r ds Q) (hn : x ≠ "__name__" := by decide) (hdb : (x == ("__debug__" : Str)) = false := by decide)
    (he : ∀ env, starEach (e :: es) env = (false, eval e env) :: starEach es env := by intro _; rfl) (hpl : ∀ env, (backTo pos (starEach es env)).any (·.1) = false := by intro _; rfl) : EvE S Γ (.Call (.Name x p) (e :: es) [] pos) Q := by
  obtain ⟨rr, h1, h2⟩ := ho.ex
  exact ev_of (fun X ok => pe_callB (h1 X ok) (hg.gl ok) (by rw [ok.mg]; exact hm) hv (puA ok) hn hdb (he _) (hpl _)) fun PX σ H Hf k st hk => h PX σ H Hf _ st fun ds vs Hf1 H1 e1 st1 r1 q1 =>
    h2 PX Γ σ Hf1 H1 ds vs Q k st1 r1 q1 fun d v Hf' H' e2 => hk d v Hf' H' (e1.trans e2)
theorem ev_callTy (ho : CallG S (.type T) r) (hg : GlS S x) (hm : S.mg x = none) (hv : bootBuiltins x = some (.type T)) (h : EvA S Γ (e :: es) fun ds => r ds Q) (hn : x ≠ "__name__" := by decide) (hdb : (x == ("__debug__" : Str)) = false := by decide)
    (he : ∀ env, starEach (e :: es) env = (false, eval e env) :: starEach es env := by intro _; rfl) (hpl : ∀ env, (backTo pos (starEach es env)).any (·.1) = false := by intro _; rfl) : EvE S Γ (.Call (.Name x p) (e :: es) [] pos) Q := by
  obtain ⟨rr, h1, h2⟩ := ho.ex
  exact ev_of (fun X ok => pe_callTy (h1 X ok) (hg.gl ok) (by rw [ok.mg]; exact hm) hv (puA ok) hn hdb (he _) (hpl _)) fun PX σ H Hf k st hk => h PX σ H Hf _ st fun ds vs Hf1 H1 e1 st1 r1 q1 =>
    h2 PX Γ σ Hf1 H1 ds vs Q k st1 r1 q1 fun d v Hf' H' e2 => hk d v Hf' H' (e1.trans e2)
@[reducible] def as1 (ds : List Da) (k : Da → Prop) : Prop := match ds with | [d] => k d | _ => False
@[reducible] def as2 (ds : List Da) (k : Da → Da → Prop) : Prop := match ds with | [d, e] => k d e | _ => False
theorem as1_ {ds : List Da} {k : Da → Prop} (h : as1 ds k) : ∃ d, ds = [d] ∧ k d := by
  match ds, h with
  | [d], h => exact ⟨d, rfl, h⟩
theorem as2_ {ds : List Da} {k : Da → Da → Prop} (h : as2 ds k) : ∃ d e, ds = [d, e] ∧ k d e := by
  match ds, h with
  | [d, e], h => exact ⟨d, e, rfl, h⟩
theorem Reps.one {K : PySem.W.Frag} {H : Hp} {d : Da} {vs : List V} (r : Reps K H [d] vs) : ∃ v, vs = [v] ∧ Rep K H d v := by
  obtain ⟨v, l, rfl, r1, r2⟩ := r
  unfold Reps at r2; subst r2
  exact ⟨v, rfl, r1⟩
theorem Reps.two {K : PySem.W.Frag} {H : Hp} {d e : Da} {vs : List V} (r : Reps K H [d, e] vs) : ∃ v u, vs = [v, u] ∧ Rep K H d v ∧ Rep K H e u := by
  obtain ⟨v, l, rfl, r1, r2⟩ := r
  obtain ⟨u, rfl, r3⟩ := r2.one
  exact ⟨v, u, rfl, r1, r3⟩
theorem c_abs : CallG S (.builtin "abs") fun ds Q => as1 ds fun d => asInt d fun i => Q (.int (if i < 0 then -i else i)) := .keep _ (fun _ _ => call_abs) fun Hf H ds vs Q k _ r h hk => by
  obtain ⟨d, rfl, h⟩ := as1_ h
  obtain ⟨i, rfl, h⟩ := asInt_ h
  obtain ⟨v, rfl, r1⟩ := r.one
  exact ⟨i, congrArg (· :: []) r1, hk (.int (if i < 0 then -i else i)) _ rfl h⟩
theorem c_max2 : CallG S (.builtin "max") fun ds Q => as2 ds fun d e => asInt d fun i => asInt e fun j => Q (.int (if j > i then j else i)) := .keep _ (fun X ok => call_max2 ok.calm) fun Hf H ds vs Q k _ r h hk => by
  obtain ⟨d, e, rfl, h⟩ := as2_ h
  obtain ⟨i, rfl, h⟩ := asInt_ h
  obtain ⟨j, rfl, h⟩ := asInt_ h
  obtain ⟨v, u, rfl, r1, r2⟩ := r.two
  have e1 : v = .int i := r1
  have e2 : u = .int j := r2
  subst e1; subst e2
  exact ⟨i, j, rfl, hk (.int (if j > i then j else i)) _ rfl h⟩
theorem c_min2 : CallG S (.builtin "min") fun ds Q => as2 ds fun d e => asInt d fun i => asInt e fun j => Q (.int (if j < i then j else i)) := .keep _ (fun X ok => call_min2 ok.calm) fun Hf H ds vs Q k _ r h hk => by
  obtain ⟨d, e, rfl, h⟩ := as2_ h
  obtain ⟨i, rfl, h⟩ := asInt_ h
  obtain ⟨j, rfl, h⟩ := asInt_ h
  obtain ⟨v, u, rfl, r1, r2⟩ := r.two
  have e1 : v = .int i := r1
  have e2 : u = .int j := r2
  subst e1; subst e2
  exact ⟨i, j, rfl, hk (.int (if j < i then j else i)) _ rfl h⟩
theorem c_int : CallG S (.type "int") fun ds Q => as1 ds fun d => asInt d fun i => Q (.int i) := .keep _ (fun _ _ => call_int1) fun Hf H ds vs Q k _ r h hk => by
  obtain ⟨d, rfl, h⟩ := as1_ h
  obtain ⟨i, rfl, h⟩ := asInt_ h
  obtain ⟨v, rfl, r1⟩ := r.one
  exact .inl ⟨i, congrArg (· :: []) r1, hk (.int i) _ rfl h⟩
theorem Rep.seq {K : PySem.W.Frag} {H : Hp} {d : Da} {v : V} {Q : List Da → Prop} (h : asSeq d Q) (r : Rep K H d v) : ∃ ds a xs, v = .ref a ∧ (SqL K H a xs ∨ SqT K H a xs) ∧ Reps K H ds xs ∧ Q ds := by
  obtain ⟨ds, rfl | rfl, q⟩ := asSeq_ h
  · obtain ⟨a, xs, e, r1, r2⟩ := r
    exact ⟨ds, a, xs, e, .inl r1, r2, q⟩
  · obtain ⟨a, xs, e, r1, r2⟩ := r
    exact ⟨ds, a, xs, e, .inr r1, r2, q⟩
theorem c_len : CallG S (.builtin "len") fun ds Q => as1 ds fun d => asSeq d fun xs => Q (.int (xs.length : Int)) :=
  .keep (fun xs H Q => ∃ p ys, xs = [.ref p] ∧ (SqL S.K H p ys ∨ SqT S.K H p ys) ∧ Q (.int ys.length) H) (fun X ok => by have z := call_len_seq (X := X); rw [ok.K] at z; exact z) fun Hf H ds vs Q k e r h hk => by
  obtain ⟨d, rfl, h⟩ := as1_ h
  obtain ⟨v, rfl, r1⟩ := r.one
  obtain ⟨ys, a, xs, rfl, hs, r2, q⟩ := r1.seq h
  exact ⟨a, xs, rfl, hs.imp e.sl e.st, hk _ _ (by rw [r2.len]; rfl) q⟩
theorem c_divmod : CallG S (.builtin "divmod") fun ds Q => as2 ds fun d e => asInt d fun i => asInt e fun j => Dv j ∧ Q (.tup [.int (i / j), .int (i % j)]) :=
  ⟨_, fun _ _ => call_divmodW, fun PX Γ σ Hf H ds vs Q k st r h hk => by
    obtain ⟨d, e, rfl, h⟩ := as2_ h
    obtain ⟨i, rfl, h⟩ := asInt_ h
    obtain ⟨j, rfl, h⟩ := asInt_ h
    obtain ⟨v, u, rfl, r1, r2⟩ := r.two
    have e1 : v = .int i := r1
    have e2 : u = .int j := r2
    subst e1; subst e2
    refine ⟨i, j, rfl, h.1.p, fun p hp => ?_⟩
    obtain ⟨st2, e2⟩ := st.alloc (o := .tup [.int (i / j), .int (i % j)]) hp
    exact hk (.tup [.int (i / j), .int (i % j)]) _ _ _ e2 st2 ⟨p, _, rfl, SqT.of upd_same, _, _, rfl, rfl, _, _, rfl, rfl, rfl⟩ h.2⟩
/-! sums of numbers and truths -/
def numV : V → Int
  | .int i => i
  | .bl b => if b = true then 1 else 0
  | _ => 0
def isNumV : V → Bool
  | .int _ => true
  | .bl _ => true
  | _ => false
def Da.num : Da → Int
  | .int i => i
  | .bl b => if b = true then 1 else 0
  | _ => 0
def Da.isNum : Da → Bool
  | .int _ => true
  | .bl _ => true
  | _ => false
theorem num_of {v : V} {u : Value} (r : RelV v u) (h : isNumV v = true) : NumOf (numV v) u := by
  cases v with
  | int i => obtain ⟨t, rfl⟩ := r; exact .inl ⟨t, rfl⟩
  | bl b => cases r; exact .inr ⟨b, rfl, rfl⟩
  | _ => cases h
theorem preSum_vals (val : Nat → Int) : ∀ n, preSum val n = ((List.range n).map val).sum
  | 0 => rfl
  | n + 1 => by
    show preSum val n + val n = _
    rw [preSum_vals val n, List.range_succ, List.map_append, List.sum_append, List.map_cons, List.map_nil, List.sum_cons, List.sum_nil]; omega
theorem range_getD {xs : List Int} : (List.range xs.length).map (fun i => xs.getD i 0) = xs := by
  refine List.ext_getElem? fun i => ?_
  rw [List.getElem?_map]
  by_cases h : i < xs.length
  · rw [List.getElem?_range h, List.getElem?_eq_getElem h]
    show some (xs.getD i 0) = _
    rw [List.getD_eq_getElem?_getD, List.getElem?_eq_getElem h]; rfl
  · rw [List.getElem?_eq_none (by rw [List.length_range]; omega), List.getElem?_eq_none (by omega)]; rfl
theorem sum_seq {X : Cx} (hc : X.calm = true) : CallR X (.builtin "sum") (fun vs H Q => ∃ a xs, vs = [V.ref a] ∧ (SqL X.K H a xs ∨ SqT X.K H a xs) ∧ xs.all isNumV = true ∧ Q (.int (xs.map numV).sum) H) := by
  intro pins s σ H vs us Q I r h
  obtain ⟨a, xs, rfl, hs, hn, q⟩ := h
  rw [Vals.ref1 r]
  have hh := I.ok.hd hc
  have val : ∀ (its : List Value), Vals xs its → ∀ i v, its.toArray[i]? = some v → NumOf ((xs.map numV).getD i 0) v := fun its rv i v e => by
    have e' : its[i]? = some v := by simpa using e
    have hi : i < xs.length := by rw [rv.length]; exact (List.getElem?_eq_some_iff.mp e').1
    obtain ⟨u, h1, h2⟩ := rv.get (List.getElem?_eq_getElem hi)
    rw [e'] at h1; cases h1
    rw [List.getD_eq_getElem?_getD, List.getElem?_map, List.getElem?_eq_getElem hi]
    exact num_of h2 (List.all_eq_true.mp hn _ (List.getElem_mem hi))
  have sm : ∀ (its : List Value), Vals xs its → preSum (fun i => (xs.map numV).getD i 0) its.toArray.size = (xs.map numV).sum := fun its rv => by
    rw [preSum_vals, List.size_toArray, ← rv.length, ← List.length_map (f := numV) (as := xs), range_getD]
  have fin : ∀ (ob : Obj) (n : Nat) (s' : Shared), n = (xs.map numV).sum.toNat ∨ True → Moved [s.heap.objs.size] (fun a b => b = a) { s with heap := s.heap.push ob } s' → Inv X pins σ H s' := fun ob n s' _ m => by
    obtain ⟨h2, g2, d2, t2, o2⟩ := s'
    have e1 : g2 = s.gens := m.gens
    have e2 : d2 = s.drawn := m.drawn
    have e3 : o2 = s.os := m.os
    subst e1; subst e2; subst e3
    exact I.kept (h' := h2) (t' := t2) fun b u e => m.heap b u (by simp only [List.mem_singleton]; exact Nat.ne_of_lt (Heap.lt_size e)) (Heap.get?_push_of_some _ e)
  rcases hs with hs | hs
  · obtain ⟨its, rv, hl, _⟩ := I.list hs
    have ha : a < s.heap.objs.size := by
      obtain ⟨o, n, e, _⟩ := hl
      exact Heap.lt_size e
    refine call_sum_walkAnyB (wpAny_pyIter_list hl.isList ?_)
    refine ⟨s.heap.objs.size, [s.heap.objs.size, a], [s.heap.objs.size], _, _, _, _, _, rfl, (Walks.list (A := X.A.in1) hh s.heap.objs.size a (Nat.ne_of_lt ha) its.toArray).toS, ?_, ?_, val its rv, fun s' t' m => ?_⟩
    · exact ⟨⟨_, Heap.get?_push_size _ rfl, rfl, rfl⟩, hl.isList.at fun o e => Heap.get?_push_of_some _ e⟩
    · intro b hb
      rcases List.mem_cons.mp hb with rfl | hb
      · rw [Heap.size_push]; exact Nat.lt_succ_self _
      · rw [List.mem_singleton.mp hb, Heap.size_push]; exact Nat.lt_succ_of_lt ha
    · rw [sm its rv]
      exact ⟨.int _, H, fin _ 0 s' (.inr trivial) m, ⟨_, rfl⟩, q⟩
  · obtain ⟨its, rv, hl, _⟩ := I.tuple hs
    have ha : a < s.heap.objs.size := hl.lt
    refine call_sum_walkAnyB (wpAny_pyIter_tuple hl ?_)
    refine ⟨s.heap.objs.size, [s.heap.objs.size, a], [s.heap.objs.size], _, _, _, _, _, rfl, (Walks.tuple (A := X.A.in1) hh s.heap.objs.size a (Nat.ne_of_lt ha) its.toArray).toS, ?_, ?_, val its rv, fun s' t' m => ?_⟩
    · exact ⟨⟨_, Heap.get?_push_size _ rfl, rfl, rfl⟩, (show s.heap.IsTuple a its.toArray from hl).at fun o e => Heap.get?_push_of_some _ e⟩
    · intro b hb
      rcases List.mem_cons.mp hb with rfl | hb
      · rw [Heap.size_push]; exact Nat.lt_succ_self _
      · rw [List.mem_singleton.mp hb, Heap.size_push]; exact Nat.lt_succ_of_lt ha
    · rw [sm its rv]
      exact ⟨.int _, H, fin _ 0 s' (.inr trivial) m, ⟨_, rfl⟩, q⟩
theorem Reps.nums {K : PySem.W.Frag} {H : Hp} : ∀ {ds : List Da} {vs : List V}, Reps K H ds vs → ds.all Da.isNum = true → vs.all isNumV = true ∧ vs.map numV = ds.map Da.num
  | [], _, r, _ => by unfold Reps at r; subst r; exact ⟨rfl, rfl⟩
  | d :: ds, _, r, h => by
    obtain ⟨v, l, rfl, r1, r2⟩ := r
    rw [List.all_cons, Bool.and_eq_true] at h
    obtain ⟨h1, h2⟩ := Reps.nums r2 h.2
    have z : isNumV v = true ∧ numV v = d.num := by
      cases d with
      | int i => have e : v = .int i := r1; subst e; exact ⟨rfl, rfl⟩
      | bl i => have e : v = .bl i := r1; subst e; exact ⟨rfl, rfl⟩
      | _ => cases h.1
    rw [List.all_cons, List.map_cons, List.map_cons, z.1, h1, h2, z.2]
    exact ⟨rfl, rfl⟩
theorem c_sum : CallG S (.builtin "sum") fun ds Q => as1 ds fun d => asSeq d fun xs => xs.all Da.isNum = true ∧ Q (.int (xs.map Da.num).sum) :=
  .keep (fun vs H Q => ∃ a xs, vs = [V.ref a] ∧ (SqL S.K H a xs ∨ SqT S.K H a xs) ∧ xs.all isNumV = true ∧ Q (.int (xs.map numV).sum) H) (fun X ok => by have z := sum_seq (X := X) ok.calm; rw [ok.K] at z; exact z) fun Hf H ds vs Q k e r h hk => by
  obtain ⟨d, rfl, h⟩ := as1_ h
  obtain ⟨v, rfl, r1⟩ := r.one
  obtain ⟨ys, a, xs, rfl, hs, r2, q⟩ := r1.seq h
  obtain ⟨z1, z2⟩ := r2.nums q.1
  exact ⟨a, xs, rfl, hs.imp e.sl e.st, z1, hk (.int (ys.map Da.num).sum) _ (by rw [z2]; rfl) q.2⟩
/-! repr -/
theorem repr_any {X : Cx} (hg : X.A.guards = some []) (hu : X.A.units + 64 < cLine) : CallR X (.builtin "repr") (fun vs H Q => ∃ v d, vs = [v] ∧ Dp X.K H v d ∧ d.showable = true ∧ d.hasDict = false ∧ d.depth ≤ 60 ∧ d.shown.length ≤ sizeLine ∧ Q (.str d.shown) H) := by
  intro pins s σ H vs us Q I r h
  obtain ⟨v, d, rfl, hd, h1, h2, h3, h4, q⟩ := h
  obtain ⟨u, rfl, ru⟩ := vals1 r
  cases hd with
  | non => cases ru; exact PySem.P.repr_of_none ⟨.str _, H, I.tok _, ⟨_, rfl⟩, q⟩
  | bl b => cases ru; exact PySem.P.repr_of_bool ⟨.str _, H, I.tok _, ⟨_, rfl⟩, q⟩
  | int i =>
    obtain ⟨t, rfl⟩ := ru
    exact PySem.P.repr_of_int (of_decide_eq_true h1) ⟨.str _, H, I.tok _, ⟨_, rfl⟩, q⟩
  | str x =>
    obtain ⟨t, rfl⟩ := ru
    exact PySem.P.repr_of_str ⟨.str _, H, I.tok _, ⟨_, rfl⟩, q⟩ h4
  | lst hs ha =>
    obtain ⟨as, rd⟩ := Dp.reads I _ _ _ (.lst hs ha) ru
    cases ru
    exact repr_of_reads' rd h1 (PyData.noDict_hsm h2) hg (by omega) (fun _ _ e => e) (fun h' u tk hk => ⟨.str _, H, I.kept hk, ⟨_, rfl⟩, q⟩) h4
  | tup hs ha =>
    obtain ⟨as, rd⟩ := Dp.reads I _ _ _ (.tup hs ha) ru
    cases ru
    exact repr_of_reads' rd h1 (PyData.noDict_hsm h2) hg (by omega) (fun _ _ e => e) (fun h' u tk hk => ⟨.str _, H, I.kept hk, ⟨_, rfl⟩, q⟩) h4
mutual
theorem Da.py_noDict : ∀ d : Da, d.py.hasDict = false
  | .bl _ => by unfold Da.py PyData.hasDict; rfl
  | .int _ => by unfold Da.py PyData.hasDict; rfl
  | .str _ => by unfold Da.py PyData.hasDict; rfl
  | .lst xs => by unfold Da.py PyData.hasDict; exact Da.pys_noDict xs
  | .tup xs => by unfold Da.py PyData.hasDict; exact Da.pys_noDict xs
  | .non => by unfold Da.py PyData.hasDict; rfl
  | .dct _ => by unfold Da.py PyData.hasDict; rfl
  | .ins _ _ => by unfold Da.py PyData.hasDict; rfl
  | .rf _ => by unfold Da.py PyData.hasDict; rfl
  | .ty _ => by unfold Da.py PyData.hasDict; rfl
theorem Da.pys_noDict : ∀ ds : List Da, PyData.hasDictAll (Da.pys ds) = false
  | [] => by unfold Da.pys PyData.hasDictAll; rfl
  | d :: ds => by unfold Da.pys PyData.hasDictAll; rw [Da.py_noDict d, Da.pys_noDict ds]; rfl
end
/-- data whose repr is asked -/
structure Shw (d : Da) : Prop where
  p : d.pure = true
  s : d.py.showable = true
  dp : d.py.depth ≤ 60
  l : d.py.shown.length ≤ 1000000
theorem c_repr : CallG S (.builtin "repr") fun ds Q => as1 ds fun d => Shw d ∧ Q (.str d.py.shown) :=
  .keep (fun vs H Q => ∃ v d, vs = [v] ∧ Dp S.K H v d ∧ d.showable = true ∧ d.hasDict = false ∧ d.depth ≤ 60 ∧ d.shown.length ≤ sizeLine ∧ Q (.str d.shown) H) (fun X ok => by have z := repr_any (X := X) ok.gd ok.room.units; rw [ok.K] at z; exact z) fun Hf H ds vs Q k e r h hk => by
  obtain ⟨d, rfl, h, q⟩ := as1_ h
  obtain ⟨v, rfl, r1⟩ := r.one
  exact ⟨v, d.py, rfl, Rep.dp d v h.p (Rep.mono e _ _ r1), h.s, d.py_noDict, h.dp, Nat.le_trans h.l (by decide : 1000000 ≤ sizeLine), hk (.str d.py.shown) _ rfl q⟩
/-! == of data -/
structure EqOk (d : Da) : Prop where
  p : d.pure = true
  s : SeqAt.shaped d.py = true
@[reducible] def eqQ (x y : Da) (k : Bool → Prop) : Prop := match x, y with
  | .int i, .int j => k (decide (i = j))
  | .str i, .str j => k (decide (i = j))
  | .bl i, .bl j => k (decide (i = j))
  | x, y => EqOk x ∧ EqOk y ∧ k (PyData.eqv x.py y.py)
theorem eq_any {f : Value → Value → Sem Value} {g : Bool → Bool} (h1 : ∀ X, S.Ok X → OpR X f (fun x y H Q => scal x y = true ∧ Q (.bl (g (decide (x = y)))) H)) (h2 : ∀ X, S.Ok X → OpR X f (fun x y H Q => ∃ d e, Dp S.K H x d ∧ Dp S.K H y e ∧ SeqAt.shaped d = true ∧ SeqAt.shaped e = true ∧ Q (.bl (g (PyData.eqv d e))) H)) :
    OpG S f fun x y Q => eqQ x y fun b => Q (.bl (g b)) :=
  .pure _ (fun X ok => (h1 X ok).or (h2 X ok)) fun Hf H x y v u Q k e rx ry hr hk => by
    unfold eqQ at hr
    split at hr
    · rename_i i j
      have e1 : v = .int i := rx
      have e2 : u = .int j := ry
      subst e1; subst e2
      exact .inl ⟨rfl, hk (.bl (g (decide (i = j)))) _ (by rw [show decide (V.int i = V.int j) = decide (i = j) by rw [Bool.eq_iff_iff]; simp]; rfl) hr⟩
    · rename_i i j
      have e1 : v = .str i := rx
      have e2 : u = .str j := ry
      subst e1; subst e2
      exact .inl ⟨rfl, hk (.bl (g (decide (i = j)))) _ (by rw [show decide (V.str i = V.str j) = decide (i = j) by rw [Bool.eq_iff_iff]; simp]; rfl) hr⟩
    · rename_i i j
      have e1 : v = .bl i := rx
      have e2 : u = .bl j := ry
      subst e1; subst e2
      exact .inl ⟨rfl, hk (.bl (g (decide (i = j)))) _ (by rw [show decide (V.bl i = V.bl j) = decide (i = j) by rw [Bool.eq_iff_iff]; simp]; rfl) hr⟩
    · obtain ⟨a, b, q⟩ := hr
      exact .inr ⟨x.py, y.py, Rep.dp x v a.p (Rep.mono e _ _ rx), Rep.dp y u b.p (Rep.mono e _ _ ry), a.s, b.s, hk (.bl (g (PyData.eqv x.py y.py))) _ rfl q⟩
theorem g_eq : OpG S (compareOp .Eq) fun x y Q => eqQ x y fun b => Q (.bl b) := eq_any (g := fun b => b) (fun _ _ => op_eq) fun X ok => by have z := op_eqD (X := X) ok.room.units; unfold rEqD at z; rw [ok.K] at z; exact z
theorem g_ne : OpG S (compareOp .NotEq) fun x y Q => eqQ x y fun b => Q (.bl (!b)) := eq_any (g := fun b => !b) (fun _ _ => op_ne) fun X ok => by have z := op_neD (X := X) ok.room.units; unfold rNeD at z; rw [ok.K] at z; exact z
end

/-! ## items, slices, stores, methods -/
def cutD {α : Type} (xs : List α) (lo hi : Option Int) : List α := (xs.drop (HT.sIx xs.length 0 lo)).take (HT.sIx xs.length xs.length hi - HT.sIx xs.length 0 lo)
theorem Reps.drop {K : PySem.W.Frag} {H : Hp} : ∀ {ds : List Da} {vs : List V} (n : Nat), Reps K H ds vs → Reps K H (ds.drop n) (vs.drop n)
  | _, _, 0, r => r
  | [], _, n + 1, r => by unfold Reps at r; subst r; exact rfl
  | d :: ds, _, n + 1, r => by
    obtain ⟨v, l, rfl, r1, r2⟩ := r
    exact Reps.drop n r2
theorem Reps.take {K : PySem.W.Frag} {H : Hp} : ∀ {ds : List Da} {vs : List V} (n : Nat), Reps K H ds vs → Reps K H (ds.take n) (vs.take n)
  | ds, vs, 0, r => by rw [List.take_zero, List.take_zero]; exact rfl
  | [], _, n + 1, r => by unfold Reps at r; subst r; exact rfl
  | d :: ds, _, n + 1, r => by
    obtain ⟨v, l, rfl, r1, r2⟩ := r
    exact ⟨v, _, rfl, r1, Reps.take n r2⟩
theorem Reps.cut {K : PySem.W.Frag} {H : Hp} {ds : List Da} {vs : List V} (lo hi : Option Int) (r : Reps K H ds vs) : Reps K H (cutD ds lo hi) (cutV vs lo hi) := by
  unfold cutD cutV
  rw [r.len]
  exact (r.drop _).take _
theorem Reps.set {K : PySem.W.Frag} {H : Hp} {d : Da} {v : V} (rd : Rep K H d v) : ∀ {ds : List Da} {vs : List V} (n : Nat), Reps K H ds vs → Reps K H (ds.set n d) (vs.set n v)
  | [], _, n, r => by unfold Reps at r; subst r; exact rfl
  | e :: ds, _, 0, r => by
    obtain ⟨u, l, rfl, r1, r2⟩ := r
    exact ⟨v, l, rfl, rd, r2⟩
  | e :: ds, _, n + 1, r => by
    obtain ⟨u, l, rfl, r1, r2⟩ := r
    exact ⟨u, _, rfl, r1, Reps.set rd n r2⟩
theorem atI_rep {K : PySem.W.Frag} {H : Hp} {ds : List Da} {vs : List V} {i : Int} {d : Da} (r : Reps K H ds vs) (h : atI ds i = some d) : ∃ v, atI vs i = some v ∧ Rep K H d v := by
  unfold atI at h ⊢
  rw [r.len]
  cases e : ixN ds.length i with
  | none => rw [e] at h; cases h
  | some j =>
    rw [e] at h
    exact r.get h
section
variable {S : Sx} {Γ : List Slot} {e a b c o : Expr} {es : List Expr} {lo hi : Option Expr} {Q : Da → Prop} {p pos p2 apos : Pos} {x : Str} {i : Nat} {A : Addr} {I : List Da → Prop}
/-- x[i], x a list, a tuple -/
theorem ev_ix (h : EvE S Γ a fun d => EvE S Γ b fun j => asSeq d fun ds => asInt j fun i => ∃ d, atI ds i = some d ∧ Q d) (hs : ∀ o i, subscripted b false o i = operate [o, i] (getItem o i) := by intro _ _; rfl) : EvE S Γ (.Subscript a b pos) Q :=
  ev_of (t := tOp (rIx S.K) (tU S a) (tU S b)) (fun X ok => by have z := pe_ix (pos := pos) ix_seq (pu (e := a) ok) (pu (e := b) ok) hs; rw [ok.K] at z; exact z) fun PX σ H Hf k st hk => h PX σ H Hf _ st fun d v Hf1 H1 e1 st1 r1 q => q PX σ H1 Hf1 _ st1 fun j u Hf2 H2 e2 st2 r2 q2 => by
    obtain ⟨ds, P, xs, rfl, hq, rr, q3⟩ := (Rep.mono e2 _ _ r1).seq q2
    obtain ⟨i, rfl, dd, hi, q4⟩ := asInt_ q3
    obtain ⟨w, h1, h2⟩ := atI_rep rr hi
    have e' : u = .int i := r2
    subst e'
    rcases hq with hq | hq
    · exact .inl ⟨P, xs, i, w, rfl, rfl, st2.ex.sl hq, h1, hk dd w Hf2 H2 (e1.trans e2) st2 h2 q4⟩
    · exact .inr (.inl ⟨P, xs, i, w, rfl, rfl, st2.ex.st hq, h1, hk dd w Hf2 H2 (e1.trans e2) st2 h2 q4⟩)
/-- a sign of a text -/
theorem ev_ixS (h : EvE S Γ a fun d => EvE S Γ b fun j => asStr d fun z => asInt j fun i => z.length ≤ 1000000 ∧ ∃ c, atI z.cps.toList i = some c ∧ Q (.str ⟨#[c]⟩)) (hs : ∀ o i, subscripted b false o i = operate [o, i] (getItem o i) := by intro _ _; rfl) : EvE S Γ (.Subscript a b pos) Q :=
  ev_of (t := tOp rIxS (tU S a) (tU S b)) (fun X ok => pe_ix (pos := pos) ix_str (pu (e := a) ok) (pu (e := b) ok) hs) fun PX σ H Hf k st hk => h PX σ H Hf _ st fun d v Hf1 H1 e1 st1 r1 q => q PX σ H1 Hf1 _ st1 fun j u Hf2 H2 e2 st2 r2 q2 => by
    obtain ⟨z, rfl, q3⟩ := asStr_ q2
    obtain ⟨i, rfl, hz, c, hi, q4⟩ := asInt_ q3
    have e' : u = .int i := r2
    have e'' : v = .str z := r1
    subst e'; subst e''
    exact ⟨z, i, c, rfl, rfl, Nat.le_trans hz (by decide : 1000000 ≤ sizeLine), hi, hk (.str ⟨#[c]⟩) _ Hf2 H2 (e1.trans e2) st2 rfl q4⟩
theorem slot_of {σ : L2.St} {PX Hf H : Hp} (st : Stt S PX Γ Hf H σ) (hΓ : Γ[i]? = some (.inv A I)) : σ[i]? = some (some (.ref A)) := by
  have o1 := (st.own hΓ).1
  cases z : σ[i]? with
  | none => rw [z] at o1; cases o1
  | some o => rw [z] at o1; exact congrArg some o1
/-- an item of a list of the def's own -/
theorem ev_ixO (hN : S.N[i]? = some x) (hv : Vis S.sc x) (hΓ : Γ[i]? = some (.inv A I)) (h : EvE S Γ b fun j => asInt j fun j => ∀ ds, I ds → ∃ d, atI ds j = some d ∧ Q d) (hs : ∀ o i, subscripted b false o i = operate [o, i] (getItem o i) := by intro _ _; rfl)
    (hd : (x == ("__debug__" : Str)) = false := by decide) (hcd : (x == ("__classdict__" : Str)) = false := by decide) : EvE S Γ (.Subscript (.Name x p) b pos) Q :=
  ev_of (t := tOp (rIxL S.K) (tVar i) (tU S b)) (fun X ok => by have z := pe_ix (pos := pos) ix_list (pe_var (pos := p) (i := i) (by rw [ok.N]; exact hN) (by rw [ok.sc]; exact hv) hd hcd) (pu (e := b) ok) hs; rw [ok.K] at z; exact z) fun PX σ H Hf k st hk => by
    refine ⟨.ref A, slot_of st hΓ, h PX σ H Hf _ st fun j u Hf2 H2 e2 st2 r2 q2 => ?_⟩
    obtain ⟨i, rfl, q3⟩ := asInt_ q2
    obtain ⟨_, _, vs, ds, hA, rr, hI⟩ := st2.own hΓ
    obtain ⟨d, hi, q4⟩ := q3 ds hI
    obtain ⟨w, h1, h2⟩ := atI_rep rr hi
    have e' : u = .int i := r2
    subst e'
    exact ⟨A, vs, i, w, rfl, rfl, SqL.of hA, h1, hk d w Hf2 H2 e2 st2 h2 q4⟩
def EvO (S : Sx) (Γ : List Slot) (e : Option Expr) (Q : Option Int → Prop) : Prop := ∀ PX σ H Hf k, Stt S PX Γ Hf H σ →
  (∀ b Hf' H', Sub Hf Hf' → Stt S PX Γ Hf' H' σ → Q b → k b H') → ∃ t : TO, (∀ X, S.Ok X → PO X e t) ∧ t σ H k
def tUO (S : Sx) (e : Option Expr) : TO := fun σ H Q => ∃ t : TO, (∀ X, S.Ok X → PO X e t) ∧ t σ H Q
theorem puO {X : Cx} (ok : S.Ok X) : PO X lo (tUO S lo) := ⟨fun pins s σ H Q I ⟨_, h, q⟩ => (h X ok).run pins s σ H Q I q⟩
theorem eo_none {Q : Option Int → Prop} (q : Q none) : EvO S Γ none Q := fun PX σ H Hf k st hk => ⟨_, fun _ _ => po_none, hk none Hf H (Sub.refl _) st q⟩
theorem eo_some {Q : Option Int → Prop} (h : EvE S Γ e fun d => asInt d fun i => Q (some i)) : EvO S Γ (some e) Q := fun PX σ H Hf k st hk => ⟨_, fun X ok => po_some (pu ok), h PX σ H Hf _ st fun d v Hf1 H1 e1 st1 r q => by
  obtain ⟨i, rfl, q⟩ := asInt_ q
  exact ⟨i, r, hk (some i) Hf1 H1 e1 st1 q⟩⟩
theorem ev_slL (h : EvE S Γ a fun d => EvO S Γ lo fun l => EvO S Γ hi fun u => asLst d fun ds => Q (.lst (cutD ds l u))) : EvE S Γ (.Subscript a (.Slice lo hi none p2) pos) Q :=
  ev_of (t := tSl (rSlL S.K) (tU S a) (tUO S lo) (tUO S hi)) (fun X ok => by have z := pe_slice (pos := pos) (p2 := p2) sl_list (pu (e := a) ok) (puO (lo := lo) ok) (puO (lo := hi) ok); rw [ok.K] at z; exact z) fun PX σ H Hf k st hk =>
    h PX σ H Hf _ st fun d v Hf1 H1 e1 st1 r1 q => q PX σ H1 Hf1 _ st1 fun l Hf2 H2 e2 st2 q2 => q2 PX σ H2 Hf2 _ st2 fun u Hf3 H3 e3 st3 q3 => by
    obtain ⟨ds, rfl, q4⟩ := asLst_ q3
    obtain ⟨P, xs, rfl, hq, rr⟩ := Rep.mono (e2.trans e3) _ _ r1
    refine ⟨P, xs, rfl, st3.ex.sl hq, fun p hp => ?_⟩
    obtain ⟨st4, e4⟩ := st3.alloc (o := .lst (cutV xs l u)) hp
    exact hk (.lst (cutD ds l u)) _ _ _ (((e1.trans e2).trans e3).trans e4) st4 ⟨p, _, rfl, SqL.of upd_same, Reps.mono e4 _ _ (rr.cut l u)⟩ q4
theorem cutV_all {xs : List V} {lo hi : Option Int} (h : HT.sIx xs.length 0 lo = 0 ∧ HT.sIx xs.length xs.length hi = xs.length) : cutV xs lo hi = xs := by
  unfold cutV
  rw [h.1, h.2, List.drop_zero, Nat.sub_zero, List.take_length]
theorem ev_slT (h : EvE S Γ a fun d => EvO S Γ lo fun l => EvO S Γ hi fun u => asTup d fun ds => Q (.tup (cutD ds l u))) : EvE S Γ (.Subscript a (.Slice lo hi none p2) pos) Q :=
  ev_of (t := tSl (rSlA S.K) (tU S a) (tUO S lo) (tUO S hi)) (fun X ok => by have z := pe_slice (pos := pos) (p2 := p2) sl_tupA (pu (e := a) ok) (puO (lo := lo) ok) (puO (lo := hi) ok); rw [ok.K] at z; exact z) fun PX σ H Hf k st hk =>
    h PX σ H Hf _ st fun d v Hf1 H1 e1 st1 r1 q => q PX σ H1 Hf1 _ st1 fun l Hf2 H2 e2 st2 q2 => q2 PX σ H2 Hf2 _ st2 fun u Hf3 H3 e3 st3 q3 => by
    obtain ⟨ds, rfl, q4⟩ := asTup_ q3
    obtain ⟨P, xs, rfl, hq, rr⟩ := Rep.mono (e2.trans e3) _ _ r1
    refine ⟨P, xs, rfl, st3.ex.st hq, fun w => ?_, fun w p hp => ?_⟩
    · have z := rr.cut l u
      rw [cutV_all w] at z
      exact hk (.tup (cutD ds l u)) _ _ _ ((e1.trans e2).trans e3) st3 ⟨P, xs, rfl, hq, z⟩ q4
    · obtain ⟨st4, e4⟩ := st3.alloc (o := .tup (cutV xs l u)) hp
      exact hk (.tup (cutD ds l u)) _ _ _ (((e1.trans e2).trans e3).trans e4) st4 ⟨p, _, rfl, SqT.of upd_same, Reps.mono e4 _ _ (rr.cut l u)⟩ q4
/-- a list of the def's own is changed -/
theorem Stt.put {PX Hf H : Hp} {σ : L2.St} (st : Stt S PX Γ Hf H σ) (hΓ : Γ[i]? = some (.inv A I)) {I' : List Da → Prop} {vs : List V} {xs : List Da} (r : Reps S.K Hf xs vs) (hI : I' xs) : Stt S PX (Γ.set i (.inv A I')) Hf (upd H A (.lst vs)) σ := by
  have hi : i < Γ.length := (List.getElem?_eq_some_iff.mp hΓ).1
  have get : ∀ (j : Nat) s, (Γ.set i (.inv A I'))[j]? = some s → (j = i ∧ s = .inv A I') ∨ (i ≠ j ∧ Γ[j]? = some s) := fun j s h => by
    by_cases c : i = j
    · subst c
      rw [List.getElem?_set_self hi] at h; cases h
      exact .inl ⟨rfl, rfl⟩
    · rw [List.getElem?_set_ne c] at h; exact .inr ⟨c, h⟩
  have ap : ∀ (j : Nat) p J, i ≠ j → Γ[j]? = some (Slot.inv p J) → p ≠ A := fun j p J c h z => by
    subst z; exact c (st.sep i j _ _ _ hΓ h)
  have fA := (st.own hΓ).2.1
  have pA := st.pi i A I hΓ
  refine ⟨by rw [List.length_set]; exact st.len, st.ex0, fun a u h => ?_, fun q u h1 h2 => ?_, fun q h => ?_, fun j s h => ?_, fun j p J h => ?_, st.fr, fun a u h => ?_, st.pf, fun j p J h => ?_, fun j l p J1 J2 h1 h2 => ?_⟩
  · rw [upd_ne (ne_of_none h fA)]; exact st.ex a u h
  · rw [upd_ne (fun z => ?_)]; exact st.keep q u h1 h2
    subst z
    rcases st.new i _ _ hΓ with c | c
    · exact h2 c
    · rw [h1] at c; cases c
  · by_cases c : q.1 = A
    · rw [c, upd_same]; exact fun z => nomatch z
    · rw [upd_ne c]; exact st.ops q h
  · rcases get j s h with ⟨rfl, rfl⟩ | ⟨c, h⟩
    · exact ⟨(st.own hΓ).1, fA, vs, xs, upd_same, r, hI⟩
    · refine (st.at_ j s h).more (Sub.refl _) fun p J e => ?_
      subst e
      rw [upd_ne (ap j p J c h)]
      exact ⟨(st.own h).2.1, rfl⟩
  · rcases get j _ h with ⟨rfl, e⟩ | ⟨c, h⟩
    · cases e; exact st.new _ _ _ hΓ
    · exact st.new j p J h
  · rw [upd_ne (ne_of_none h pA)]; exact st.px a u h
  · rcases get j _ h with ⟨rfl, e⟩ | ⟨c, h⟩
    · cases e; exact pA
    · exact st.pi j p J h
  · rcases get j _ h1 with ⟨rfl, e⟩ | ⟨c, h4⟩
    · cases e
      rcases get l _ h2 with ⟨rfl, e⟩ | ⟨c, h3⟩
      · rfl
      · exact absurd rfl (ap l _ _ c h3)
    · rcases get l _ h2 with ⟨rfl, e⟩ | ⟨c2, h3⟩
      · cases e; exact absurd rfl (ap j _ _ c h4)
      · exact st.sep j l p _ _ h4 h3
/-- x[i] = v, x a list of the def's own -/
theorem eg_sub {W : Nat → Bool} {d : Da} {Q : List Slot → Prop} {I' : List Da → Prop} (hN : S.N[i]? = some x) (hv : Vis S.sc x) (hΓ : Γ[i]? = some (.inv A I)) (h : EvE S Γ b fun j => asInt j fun j => (∀ ds, I ds → ∃ n, ixN ds.length j = some n ∧ I' (ds.set n d)) ∧ Q (Γ.set i (.inv A I')))
    (hW : W i = true := by rfl) (hd : (x == ("__debug__" : Str)) = false := by decide) (hcd : (x == ("__classdict__" : Str)) = false := by decide)
    (ha : ∀ env v, assign (.Subscript (.Name x p) b pos) env v = (do
      let ov ← holding [v] (eval (.Name x p) env)
      let iv ← holding [v, ov] (eval b env)
      standAt pos
      holding [v, ov, iv] (setItem ov iv v)
      release [v, ov, iv] []) := by intro _ _; rfl) : EvG S W Γ (.Subscript (.Name x p) b pos) d Q := by
  intro PX v σ H Hf k st r hk
  refine ⟨gSub (tVar i) (tU S b) rSetL, fun X ok => pg_sub (pe_var (pos := p) (i := i) (by rw [ok.N]; exact hN) (by rw [ok.sc]; exact hv) hd hcd) (pu ok) set_list (ha _), .ref A, slot_of st hΓ, ?_⟩
  refine h PX σ H Hf _ st fun j u Hf2 H2 e2 st2 r2 q2 => ?_
  obtain ⟨i', rfl, q3, q4⟩ := asInt_ q2
  obtain ⟨_, _, vs, ds, hA, rr, hI⟩ := st2.own hΓ
  obtain ⟨n, h1, h2⟩ := q3 ds hI
  have e' : u = .int i' := r2
  subst e'
  refine ⟨A, vs, i', n, rfl, rfl, hA, by rw [rr.len]; exact h1, ?_⟩
  exact hk _ _ Hf2 _ e2 (st2.put hΓ (Reps.set (Rep.mono e2 _ _ r) n rr) h2) ⟨rfl, fun _ _ => rfl, (Alt.set (σ := σ) (x := none) hW).g⟩ q4
theorem Stt.ice {PX Hf H : Hp} {σ : L2.St} (st : Stt S PX Γ Hf H σ) (hΓ : Γ[i]? = some (.inv A I)) (hop : A ∉ S.op.map (·.1)) : ∃ ds vs, I ds ∧ Sub Hf (upd Hf A (.lst vs)) ∧ Stt S PX (Γ.set i (.dat (.lst ds))) (upd Hf A (.lst vs)) H σ := by
  obtain ⟨_, fA, vs, ds, hA, rr, hI⟩ := st.own hΓ
  have hi : i < Γ.length := (List.getElem?_eq_some_iff.mp hΓ).1
  have e : Sub Hf (upd Hf A (.lst vs)) := Sub.upd0 (Sub.refl _) fA
  have pA := st.pi i A I hΓ
  have pn : ∀ q, PX q ≠ none → q ≠ A := fun q h c => h (by rw [c]; exact pA)
  have h0 : S.H0 A = none := (st.new i _ _ hΓ).resolve_left hop
  have get : ∀ (j : Nat) s, (Γ.set i (.dat (.lst ds)))[j]? = some s → (j = i ∧ s = .dat (.lst ds)) ∨ (i ≠ j ∧ Γ[j]? = some s) := fun j s h => by
    by_cases c : i = j
    · subst c
      rw [List.getElem?_set_self hi] at h; cases h
      exact .inl ⟨rfl, rfl⟩
    · rw [List.getElem?_set_ne c] at h; exact .inr ⟨c, h⟩
  have old : ∀ (j : Nat) p J, (Γ.set i (.dat (.lst ds)))[j]? = some (Slot.inv p J) → i ≠ j ∧ Γ[j]? = some (Slot.inv p J) := fun j p J h => by
    rcases get j _ h with ⟨_, z⟩ | z
    · cases z
    · exact z
  refine ⟨ds, vs, hI, e, by rw [List.length_set]; exact st.len, st.ex0.trans e, fun a u h => ?_, st.keep, st.ops, fun j s h => ?_, fun j p J h => st.new j p J (old j p J h).2, fun q h h2 => ?_, st.px, fun q h => ?_, fun j p J h => st.pi j p J (old j p J h).2, fun j l p J1 J2 h1 h2 => st.sep j l p J1 J2 (old j p J1 h1).2 (old l p J2 h2).2⟩
  · by_cases c : a = A
    · subst c; rw [upd_same] at h; rw [hA]; exact h
    · rw [upd_ne c] at h; exact st.ex a u h
  · rcases get j s h with ⟨rfl, rfl⟩ | ⟨c, h⟩
    · exact ⟨.ref A, (st.own hΓ).1, A, vs, rfl, SqL.of upd_same, Reps.mono e _ _ rr⟩
    · refine (st.at_ j s h).more e fun p J es => ?_
      subst es
      have n : p ≠ A := fun z => by subst z; exact c (st.sep i j _ _ _ hΓ h)
      rw [upd_ne n]
      exact ⟨(st.own h).2.1, rfl⟩
  · by_cases c : q = A
    · subst c; exact h0
    · rw [upd_ne c] at h; exact st.fr q h h2
  · rw [upd_ne (pn q h)]; exact st.pf q h
/-- a list of the def's own is read as it is (frozen from here on) -/
theorem eb_freeze {sts : List Stmt} {D : EnG} (hΓ : Γ[i]? = some (.inv A I)) (hop : A ∉ S.op.map (·.1)) (h : ∀ ds, I ds → EvB S (Γ.set i (.dat (.lst ds))) sts D) : EvB S Γ sts D := fun PX σ H Hf D' s k => by
  obtain ⟨ds, vs, hI, e, s2⟩ := s.ice hΓ hop
  exact h ds hI PX σ H _ D' s2 (k.mono e)
theorem eb_weak {sts : List Stmt} {D : EnG} {I' : List Da → Prop} (hΓ : Γ[i]? = some (.inv A I)) (hI : ∀ ds, I ds → I' ds) (h : EvB S (Γ.set i (.inv A I')) sts D) : EvB S Γ sts D := fun PX σ H Hf D' s k => by
  obtain ⟨_, _, vs, ds, hA, rr, hi⟩ := s.own hΓ
  have z := s.put hΓ rr (hI ds hi)
  have e : upd H A (.lst vs) = H := by
    funext q
    by_cases c : q = A
    · subst c; rw [upd_same, hA]
    · rw [upd_ne c]
  rw [e] at z
  exact h PX σ H Hf D' z k
theorem eb_open {sts : List Stmt} {D : EnG} (hΓ : Γ[i]? = some (.inv A I)) (h : ∀ ds, I ds → EvB S (Γ.set i (.inv A fun ys => ys = ds)) sts D) : EvB S Γ sts D := fun PX σ H Hf D' s k => by
  obtain ⟨_, _, vs, ds, hA, rr, hi⟩ := s.own hΓ
  have z := s.put (I' := fun ys => ys = ds) hΓ rr rfl
  have e : upd H A (.lst vs) = H := by
    funext q
    by_cases c : q = A
    · subst c; rw [upd_same, hA]
    · rw [upd_ne c]
  rw [e] at z
  exact h ds hi PX σ H Hf D' z k
end

/-! isinstance; names of built-in types; all, any -/
@[reducible] def isI (d : Da) : Bool := match d with | .int _ => true | .bl _ => true | _ => false
@[reducible] def isB (d : Da) : Bool := match d with | .bl _ => true | _ => false
@[reducible] def isSt (d : Da) : Bool := match d with | .str _ => true | _ => false
@[reducible] def isTu (d : Da) : Bool := match d with | .tup _ => true | _ => false
@[reducible] def isLs (d : Da) : Bool := match d with | .lst _ => true | _ => false
@[reducible] def isDc (d : Da) : Bool := match d with | .dct _ => true | _ => false
/-- data of a built-in kind -/
@[reducible] def Da.known (d : Da) : Bool := match d with | .ins _ _ => false | .rf _ => false | .ty _ => false | _ => true
def Da.tyn (d : Da) : String := match d with | .non => "NoneType" | .bl _ => "bool" | .int _ => "int" | .str _ => "str" | .lst _ => "list" | .tup _ => "tuple" | .dct _ => "dict" | _ => ""
theorem Rep.tyx {K : PySem.W.Frag} {H : Hp} {d : Da} {v : V} (h : d.known = true) (r : Rep K H d v) : TyX K H v (.type d.tyn) := by
  cases d with
  | non => have e : v = .non := r; subst e; exact .base .non
  | bl b => have e : v = .bl b := r; subst e; exact .base (.bl b)
  | int b => have e : v = .int b := r; subst e; exact .base (.int b)
  | str b => have e : v = .str b := r; subst e; exact .base (.str b)
  | lst ds =>
    obtain ⟨a, xs, rfl, h1, _⟩ := r
    rcases h1 with (h1 | ⟨o, h1⟩) | ⟨o, _, _, h1, h2, _⟩
    · exact .base (.lst h1)
    · exact .base (.frz h1)
    · exact .kList h1 h2
  | tup ds =>
    obtain ⟨a, xs, rfl, h1, _⟩ := r
    rcases h1 with (h1 | ⟨o, h1⟩) | ⟨o, _, _, h1, h2, _⟩
    · exact .base (.tup h1)
    · exact .fTuple h1
    · exact .kTuple h1 h2
  | dct ds =>
    obtain ⟨a, xs, rfl, h1, _⟩ := r
    rcases h1 with h1 | ⟨o, h1⟩
    · exact .base (.dK h1)
    · exact .fDict h1
  | _ => cases h
section
variable {S : Sx} {Γ : List Slot} {e : Expr} {Q : Da → Prop} {p pos : Pos} {x : Str}
theorem ev_bltn {n : String} (hg : GlS S x) (hm : S.mg x = none) (hv : bootBuiltins x = some (.type n)) (q : Q (.ty n)) (hn : x ≠ "__name__" := by decide) (hd : (x == ("__debug__" : Str)) = false := by decide) : EvE S Γ (.Name x p) Q :=
  ev_const (d := .ty n) (v := .ty n) (fun X ok => pe_bltn (hg.gl ok) (by rw [ok.mg]; exact hm) hv rfl hn hd) (fun _ => rfl) q
theorem c_isi {n : String} {f : Da → Bool} (hf : ∀ d : Da, d.known = true → kitB d.tyn n = some (f d)) : CallG S (.builtin "isinstance") fun ds Q => as2 ds fun d c => c = .ty n ∧ d.known = true ∧ Q (.bl (f d)) :=
  .keep (rIsi S.K) (fun X ok => by have z := call_isi (X := X); rw [ok.K] at z; exact z) fun Hf H ds vs Q k e r h hk => by
  obtain ⟨d, c, rfl, rfl, hd, q⟩ := as2_ h
  obtain ⟨v, u, rfl, r1, r2⟩ := r.two
  have e2 : u = .ty n := r2
  subst e2
  exact ⟨v, .ty n, _, _, f d, rfl, .ty n, Rep.tyx hd (Rep.mono e _ _ r1), kit_ty (hf d hd), hk (.bl (f d)) _ rfl q⟩
theorem c_isInt : CallG S (.builtin "isinstance") fun ds Q => as2 ds fun d c => c = .ty "int" ∧ d.known = true ∧ Q (.bl (isI d)) := c_isi fun d h => by
  cases d with
  | non => exact (by decide +kernel : kitB "NoneType" "int" = some false)
  | bl _ => exact (by decide +kernel : kitB "bool" "int" = some true)
  | int _ => exact (by decide +kernel : kitB "int" "int" = some true)
  | str _ => exact (by decide +kernel : kitB "str" "int" = some false)
  | lst _ => exact (by decide +kernel : kitB "list" "int" = some false)
  | tup _ => exact (by decide +kernel : kitB "tuple" "int" = some false)
  | dct _ => exact (by decide +kernel : kitB "dict" "int" = some false)
  | _ => cases h
theorem c_isBool : CallG S (.builtin "isinstance") fun ds Q => as2 ds fun d c => c = .ty "bool" ∧ d.known = true ∧ Q (.bl (isB d)) := c_isi fun d h => by
  cases d with
  | non => exact (by decide +kernel : kitB "NoneType" "bool" = some false)
  | bl _ => exact (by decide +kernel : kitB "bool" "bool" = some true)
  | int _ => exact (by decide +kernel : kitB "int" "bool" = some false)
  | str _ => exact (by decide +kernel : kitB "str" "bool" = some false)
  | lst _ => exact (by decide +kernel : kitB "list" "bool" = some false)
  | tup _ => exact (by decide +kernel : kitB "tuple" "bool" = some false)
  | dct _ => exact (by decide +kernel : kitB "dict" "bool" = some false)
  | _ => cases h
theorem c_isStr : CallG S (.builtin "isinstance") fun ds Q => as2 ds fun d c => c = .ty "str" ∧ d.known = true ∧ Q (.bl (isSt d)) := c_isi fun d h => by
  cases d with
  | non => exact (by decide +kernel : kitB "NoneType" "str" = some false)
  | bl _ => exact (by decide +kernel : kitB "bool" "str" = some false)
  | int _ => exact (by decide +kernel : kitB "int" "str" = some false)
  | str _ => exact (by decide +kernel : kitB "str" "str" = some true)
  | lst _ => exact (by decide +kernel : kitB "list" "str" = some false)
  | tup _ => exact (by decide +kernel : kitB "tuple" "str" = some false)
  | dct _ => exact (by decide +kernel : kitB "dict" "str" = some false)
  | _ => cases h
theorem c_isTuple : CallG S (.builtin "isinstance") fun ds Q => as2 ds fun d c => c = .ty "tuple" ∧ d.known = true ∧ Q (.bl (isTu d)) := c_isi fun d h => by
  cases d with
  | non => exact (by decide +kernel : kitB "NoneType" "tuple" = some false)
  | bl _ => exact (by decide +kernel : kitB "bool" "tuple" = some false)
  | int _ => exact (by decide +kernel : kitB "int" "tuple" = some false)
  | str _ => exact (by decide +kernel : kitB "str" "tuple" = some false)
  | lst _ => exact (by decide +kernel : kitB "list" "tuple" = some false)
  | tup _ => exact (by decide +kernel : kitB "tuple" "tuple" = some true)
  | dct _ => exact (by decide +kernel : kitB "dict" "tuple" = some false)
  | _ => cases h
theorem c_isList : CallG S (.builtin "isinstance") fun ds Q => as2 ds fun d c => c = .ty "list" ∧ d.known = true ∧ Q (.bl (isLs d)) := c_isi fun d h => by
  cases d with
  | non => exact (by decide +kernel : kitB "NoneType" "list" = some false)
  | bl _ => exact (by decide +kernel : kitB "bool" "list" = some false)
  | int _ => exact (by decide +kernel : kitB "int" "list" = some false)
  | str _ => exact (by decide +kernel : kitB "str" "list" = some false)
  | lst _ => exact (by decide +kernel : kitB "list" "list" = some true)
  | tup _ => exact (by decide +kernel : kitB "tuple" "list" = some false)
  | dct _ => exact (by decide +kernel : kitB "dict" "list" = some false)
  | _ => cases h
theorem reps_bls {K : PySem.W.Frag} {H : Hp} : ∀ {bs : List Bool} {vs : List V}, Reps K H (bs.map Da.bl) vs → vs = bs.map V.bl
  | [], _, r => r
  | b :: bs, _, r => by
    obtain ⟨v, l, rfl, r1, r2⟩ := r
    have e : v = .bl b := r1
    rw [e, reps_bls r2]; rfl
theorem c_all : CallG S (.builtin "all") fun ds Q => as1 ds fun d => asLst d fun xs => ∃ bs : List Bool, xs = bs.map Da.bl ∧ Q (.bl (bs.all id)) :=
  .keep (rAll S.K) (fun X ok => by have z := cr_all (X := X) ok.calm; rw [ok.K] at z; exact z) fun Hf H ds vs Q k e r h hk => by
  obtain ⟨d, rfl, h⟩ := as1_ h
  obtain ⟨xs, rfl, bs, rfl, q⟩ := asLst_ h
  obtain ⟨v, rfl, a, xs, rfl, r1, r2⟩ := r.one
  rw [reps_bls r2] at r1
  exact ⟨a, bs, rfl, e.sl r1, hk (.bl (bs.all id)) _ rfl q⟩
theorem c_any : CallG S (.builtin "any") fun ds Q => as1 ds fun d => asLst d fun xs => ∃ bs : List Bool, xs = bs.map Da.bl ∧ Q (.bl (bs.any id)) :=
  .keep (rAny S.K) (fun X ok => by have z := cr_any (X := X) ok.calm; rw [ok.K] at z; exact z) fun Hf H ds vs Q k e r h hk => by
  obtain ⟨d, rfl, h⟩ := as1_ h
  obtain ⟨xs, rfl, bs, rfl, q⟩ := asLst_ h
  obtain ⟨v, rfl, a, xs, rfl, r1, r2⟩ := r.one
  rw [reps_bls r2] at r1
  exact ⟨a, bs, rfl, e.sl r1, hk (.bl (bs.any id)) _ rfl q⟩
end
/-! ## a def's own facts -/
section
variable {P : Program} {w : World} {K : PySem.W.Frag} {mg : Str → Option Value} {base : Heap} {x qual : Str} {st : Stmt} {k : Nat} {N ps : List Str} {spec : Fd} {I : List Da → Prop}
def Def (K : PySem.W.Frag) (mg : Str → Option Value) (x : Str) (st : Stmt) : Prop := ∃ f fd, Fun K x x st f fd ∧ mg x = some (.ref f)
theorem calD (h : Def K mg x st) (C : FnScope N ps (defScope st))
    (bp : ∀ (kV doc pm : Value) (an : Option Addr) (cdv ct : Value) (us : List Value), us.length = ps.length → bindArgs (PySem.W.fnOf x x (defArgs st) (defBody st) (defScope st) .none kV doc pm an cdv ct) ⟨us, []⟩ = pure (ps.zip us))
    (len : ∀ ds q er, spec ds q er → ds.length = ps.length)
    (body : ∀ (F0 H0 : Hp) ds q er, spec ds q er → EvB (mkS P w K mg base N (defScope st) k F0 H0 [] er) (st0 ds N.length) (defBody st) { nx := fun _ => q .non, rt := q }) :
    Cal P w K mg base x x st (k + 1) ps (SpD K spec) := by
  obtain ⟨f, fd, F, hm⟩ := h
  exact ⟨⟨f, fd, F, hm, fnD (F := F) C len body⟩, bp⟩
theorem calO (h : Def K mg x st) (C : FnScope N ps (defScope st))
    (bp : ∀ (kV doc pm : Value) (an : Option Addr) (cdv ct : Value) (us : List Value), us.length = ps.length → bindArgs (PySem.W.fnOf x x (defArgs st) (defBody st) (defScope st) .none kV doc pm an cdv ct) ⟨us, []⟩ = pure (ps.zip us))
    (len : ∀ ds q er, spec ds q er → ds.length + 1 = ps.length)
    (body : ∀ (F0 H0 : Hp) (p : Addr) ds q er, spec ds q er → EvB (mkS P w K mg base N (defScope st) k F0 H0 [(p, I)] er) (.inv p I :: st0 ds (N.length - 1)) (defBody st) { nx := fun Γ => Slot.inv p I ∈ Γ ∧ q .non, rt := q }) :
    Cal P w K mg base x x st (k + 1) ps (SpO K I spec) := by
  obtain ⟨f, fd, F, hm⟩ := h
  exact ⟨⟨f, fd, F, hm, fnO (F := F) C len body⟩, bp⟩
theorem ops0 {S : Sx} {Γ : List Slot} (h : S.op = []) : OpsIn S Γ := fun q hq => by rw [h] at hq; cases hq
theorem ops1 {S : Sx} {Γ : List Slot} {p : Addr} (i : Nat) (h : S.op = [(p, I)]) (hi : Γ[i]? = some (.inv p I)) : OpsIn S Γ := fun q hq => by
  rw [h] at hq
  rw [List.mem_singleton.mp hq]
  exact List.mem_iff_getElem?.mpr ⟨i, hi⟩
end
/-! ## the law -/
theorem vals_of_script : ∀ {us : List Value} {ns : List Int}, IntsAre us ns → Vals (ns.map V.int) us
  | _, _, .nil => .nil
  | _, _, .cons n t r => .cons ⟨t, rfl⟩ (vals_of_script r)
theorem reps_ints {K : PySem.W.Frag} {H : Hp} : ∀ ns : List Int, Reps K H (ns.map Da.int) (ns.map V.int)
  | [] => rfl
  | n :: ns => ⟨.int n, _, rfl, rfl, reps_ints ns⟩
section
variable {P : Program} {w : World} {K : PySem.W.Frag} {mg mb : Str → Option Value} {k : Nat} {fa a : Addr} {fd : FuncData} {x : Str} {spec : Fd} {s1 : Shared} {us : List Value} {ns : List Int}
/-- one abstract heap H over the state behind the top, the script alone tracked in it (or nothing) -/
theorem law_over (H : Hp) (hH : ∀ b, H b = none ∨ (b = a ∧ K.lookup a = none ∧ ∃ o xs, H b = some (.frz o (.lst xs)))) (hS : SqL K H a (ns.map V.int)) (hok : HOk P w H s1.heap)
    (KX : K.In s1.heap) (hns : s1.heap.Ns mainGlobals mg) (hb : s1.heap.Ns builtinsNs mb) (hbb : ∀ x : Str, x ≠ "__name__" → mb x = bootBuiltins x) (hlim : s1.heap.NoLimit) (hg : s1.gens = #[])
    (ha : s1.heap.get? a = some { cls := .type "list", data := .seq us.toArray }) (hr : Room k callerA)
    (F : ∀ base : Heap, K.In base → base.Ns mainGlobals mg → FnG P w K mg base k fa fd [x] (SpD K spec)) (hbind : ∀ (s : Shared) (u : Value), BindsTo s fd ⟨[u], []⟩ [(x, u)])
    (hsp : spec [.lst (ns.map Da.int)] (fun d => d = .bl true) fun _ _ => False) :
    codeAny (model P w) callerA (.call (.ref fa) ⟨[.ref a], []⟩) (fun r s' => r = .ok (.ret (.bool true)) ∧ PySem.OldK s1.heap s'.heap ∧ s'.os = s1.os ∧ AllBare s'.gens) s1 := by
  have dict_free : ∀ {b : Addr} {o : Obj} {es : Array DictEntry} {ep : Nat}, s1.heap.get? b = some o → o.data = .dict es ep → H b = none := fun {b o es ep} e d => by
    rcases hH b with z | ⟨rfl, _⟩
    · exact z
    · rw [ha] at e
      cases e
      exact (nomatch d)
  have low : ∀ {b : Addr} {m : Str → Option Value}, s1.heap.Ns b m → (hidT s1.heap H).Ns b m := fun {b m} z => by
    obtain ⟨o, es, ep, e, d, r⟩ := z
    exact ⟨o, es, ep, hidT_get e (dict_free e d), d, r⟩
  have kin : K.In (hidT s1.heap H) := fun b o e => by
    refine hidT_get (KX b o e) ?_
    rcases hH b with z | ⟨rfl, z, _⟩
    · exact z
    · rw [z] at e; cases e
  have md : Mod K mg (hidT s1.heap H) := ⟨kin, low hns, ⟨mb, low hb, hbb⟩, by
    obtain ⟨mc, h1, h2⟩ := hlim
    exact ⟨mc, low h1, h2⟩⟩
  have e0 : Env0 P w K mg (hidT s1.heap H) callerA [] s1 H := { frames := rfl, mod := md, bs := fun b o e => of_hidT e, bsz := Nat.le_of_eq (hidT_size _ _), funs := trivial, frf := fun b z => (nomatch z), hok := hok, bare := .of_eq hg }
  refine codeAny_mono ((F _ kin (low hns)).run callerA [] s1 H ⟨[.ref a], []⟩ [.ref a] [.ref a] (fun v _ => v = .bl true) (fun _ _ _ => False) hr rfl e0 (hbind s1 (.ref a)) (.cons rfl .nil) ?_) fun r s' h => ?_
  · refine ⟨[.lst (ns.map Da.int)], H, _, _, Sub.refl _, ⟨.ref a, [], rfl, ⟨a, _, rfl, hS, reps_ints ns⟩, rfl⟩, hsp, fun d v Hf' H' _ _ r q => ?_, fun _ _ _ _ _ _ _ _ z => z⟩
    subst q
    exact r
  · match r, h with
    | .error e, h =>
      obtain ⟨_, _, _, _, _, _, _, _, _, _, _, _, z⟩ := h
      exact z.elim
    | .ok (.ret u), ⟨v, H', os, bare, un, hok', r', q⟩ =>
      subst q
      have eu : u = Value.bool true := r'
      subst eu
      refine ⟨rfl, PySem.OldK.of_keep fun b o e => ?_, os, bare⟩
      rcases hH b with z | ⟨_, _, ob, xs, z⟩
      · exact un.keep b o e z (fun z => nomatch z) (fun z => nomatch z)
      · have e1 := (hok b _ z).1
        have e2 := (hok' b _ (un.frzs b ob _ z)).1
        rw [e] at e1
        rw [e2, ← e1]
    | .ok .next, h => exact h.elim
    | .ok .brk, h => exact h.elim
    | .ok .cont, h => exact h.elim
theorem law_G (KX : K.In s1.heap) (hns : s1.heap.Ns mainGlobals mg) (hb : s1.heap.Ns builtinsNs mb) (hbb : ∀ x : Str, x ≠ "__name__" → mb x = bootBuiltins x) (hlim : s1.heap.NoLimit) (hg : s1.gens = #[])
    (ha : s1.heap.get? a = some { cls := .type "list", data := .seq us.toArray }) (hi : IntsAre us ns) (hl : ns.length ≤ sizeLine) (hr : Room k callerA)
    (F : ∀ base : Heap, K.In base → base.Ns mainGlobals mg → FnG P w K mg base k fa fd [x] (SpD K spec)) (hbind : ∀ (s : Shared) (u : Value), BindsTo s fd ⟨[u], []⟩ [(x, u)])
    (hsp : spec [.lst (ns.map Da.int)] (fun d => d = .bl true) fun _ _ => False) :
    codeAny (model P w) callerA (.call (.ref fa) ⟨[.ref a], []⟩) (fun r s' => r = .ok (.ret (.bool true)) ∧ PySem.OldK s1.heap s'.heap ∧ s'.os = s1.os ∧ AllBare s'.gens) s1 := by
  have rv := vals_of_script hi
  cases hk : K.lookup a with
  | some o =>
    have e := KX a o hk
    rw [ha] at e
    have e' := (Option.some.inj e).symm
    subst e'
    exact law_over (a := a) (fun _ => none) (fun _ => .inl rfl) (.inr ⟨_, us.toArray, _, hk, rfl, rfl, rfl, by rw [List.size_toArray, hi.length]; exact hl, by simpa using rv⟩) (fun b u z => by cases z) KX hns hb hbb hlim hg ha hr F hbind hsp
  | none =>
    have at_ : ∀ b, (upd (fun _ => none) a (.frz { cls := .type "list", data := .seq us.toArray } (.lst (ns.map V.int))) : Hp) b = none ∨ b = a := fun b => by
      by_cases c : b = a
      · exact .inr c
      · rw [upd_ne c]; exact .inl rfl
    refine law_over (a := a) (upd (fun _ => none) a (.frz { cls := .type "list", data := .seq us.toArray } (.lst (ns.map V.int)))) (fun b => ?_) (.inl (.inr ⟨_, upd_same⟩)) (fun b u z => ?_) KX hns hb hbb hlim hg ha hr F hbind hsp
    · rcases at_ b with z | rfl
      · exact .inl z
      · exact .inr ⟨rfl, hk, _, _, upd_same⟩
    · rcases at_ b with y | rfl
      · rw [y] at z; cases z
      · rw [upd_same] at z
        have z' := (Option.some.inj z).symm
        subst z'
        exact ⟨ha, by rw [List.length_map]; exact hl, us, _, rv, ha⟩
end
/-- the goal that k_head and k_fill leave -/
theorem walkG {l : PySem.W.OpenLaw} {n k : Nat} {q : Program} {loose : List Str} {XP : (Str → Option Value) → Heap → Prop} {YP : World → Heap → Prop} {d : PySem.DefRec} {K : Params → PySem.W.Frag} {spec : Fd} {x : Str}
    (hn : l.most = some n) (hn2 : n ≤ sizeLine) (hdf : d.params.defaults = []) (hr : Room k callerA) (hY : ∀ (w : World) (h : Heap), YP w h → (K w.params).In h)
    (F : ∀ (w : World) (mg : Str → Option Value) (fa : Addr) (h : Heap), (K w.params).In h → h.Ns mainGlobals mg → XP mg h → mg d.name = some (.ref fa) →
      ∃ fd : FuncData, (∀ (s : Shared) (u : Value), BindsTo s fd ⟨[u], []⟩ [(x, u)]) ∧ ∀ base : Heap, (K w.params).In base → base.Ns mainGlobals mg → FnG l.prog w (K w.params) mg base k fa fd [x] (SpD (K w.params) spec))
    (hsp : ∀ ns : List Int, ns.length ≤ n → (∀ k ∈ ns, Builtin.Int.intBits k ≤ 1048576) → spec [.lst (ns.map Da.int)] (fun d => d = .bl true) fun _ _ => False) :
    PySem.W.WalkO q loose XP YP l.row.toRowW d [] (fun f vs => PySem.call f vs) := by
  refine Att.attach_callB hn hdf fun w s0 s1 mg mb fa o pm cd doc a vs ns G Y ho hd hcd hmg hobj hints hlen hbits hg => ?_
  obtain ⟨fd, hb, hF⟩ := F w mg fa _ (hY w _ Y) G.T.g G.X hmg
  exact law_G (hY w _ Y) G.T.g G.T.b G.T.builtins G.T.nolimit hg hobj hints (Nat.le_trans hlen hn2) hr hF hb (hsp ns hlen hbits)
end GX

namespace GX
open PySem PySem.Spec PyProof.Rows L2
/-! ## lists that an expression makes and nobody else holds -/
def EvN (S : Sx) (Γ : List Slot) (e : Expr) (Q : List Da → Prop) : Prop := ∀ PX σ H Hf k, Stt S PX Γ Hf H σ →
  (∀ p ds vs Hf' H', Sub Hf Hf' → PX p = none → S.H0 p = none → p ∉ S.op.map (·.1) → Stt S (upd PX p (.lst vs)) Γ Hf' H' σ → Reps S.K Hf' ds vs → Q ds → k (.ref p) H') → tU S e σ H k
section
variable {S : Sx} {PX Hf Hf' H H' : Hp} {Γ Γ' : List Slot} {σ σ' : L2.St} {D : Addr} {o o' : HO} {p : Addr} {I : List Da → Prop}
theorem Stt.opn (st : Stt S PX Γ Hf H σ) (hp : H p = none) : p ∉ S.op.map (·.1) := fun m => by
  obtain ⟨q, h1, h2⟩ := List.mem_map.mp m
  exact st.ops q h1 (by rw [h2]; exact hp)
/-- an object that nobody knows is held apart -/
theorem Stt.hold (st : Stt S PX Γ Hf H σ) (h1 : H p = some o) (h2 : Hf p = none) (hn : ∀ (i : Nat) q I, Γ[i]? = some (.inv q I) → q ≠ p) : Stt S (upd PX p o) Γ Hf H σ := by
  refine ⟨st.len, st.ex0, st.ex, st.keep, st.ops, st.at_, st.new, st.fr, fun a u h => ?_, fun q h => ?_, fun i q I h => ?_, st.sep⟩
  · by_cases c : a = p
    · subst c; rw [upd_same] at h; rw [h1]; exact h
    · rw [upd_ne c] at h; exact st.px a u h
  · by_cases c : q = p
    · subst c; exact h2
    · rw [upd_ne c] at h; exact st.pf q h
  · rw [upd_ne (hn i q I h)]; exact st.pi i q I h
theorem Stt.heldN (st : Stt S (upd PX p o) Γ Hf H σ) : ∀ (i : Nat) q I, Γ[i]? = some (.inv q I) → q ≠ p := fun i q I h z => by
  have y := st.pi i q I h
  rw [z, upd_same] at y; cases y
theorem Stt.heldF (st : Stt S (upd PX p o) Γ Hf H σ) : Hf p = none := st.pf p (by rw [upd_same]; exact fun z => nomatch z)
theorem Stt.heldH (st : Stt S (upd PX p o) Γ Hf H σ) : H p = some o := st.px p o upd_same
/-- .. and no more -/
theorem Stt.unhold (st : Stt S (upd PX p o) Γ Hf H σ) (hP : PX p = none) : Stt S PX Γ Hf H σ := by
  have pn : ∀ q, PX q ≠ none → q ≠ p := fun q h c => h (by rw [c]; exact hP)
  refine ⟨st.len, st.ex0, st.ex, st.keep, st.ops, st.at_, st.new, st.fr, fun a u h => ?_, fun q h => ?_, fun i q I h => ?_, st.sep⟩
  · exact st.px a u (by rw [upd_ne (pn a (by rw [h]; exact fun z => nomatch z))]; exact h)
  · exact st.pf q (by rw [upd_ne (pn q h)]; exact h)
  · have y := st.pi i q I h
    rw [upd_ne (st.heldN i q I h)] at y; exact y
/-- a slot takes it -/
theorem Stt.setO {vs : List V} {ds : List Da} (st : Stt S (upd PX p (.lst vs)) Γ Hf H σ) (hP : PX p = none) (h0 : S.H0 p = none) (r : Reps S.K Hf ds vs) (hI : I ds) (i : Nat) : Stt S PX (Γ.set i (.inv p I)) Hf H (σ.set i (some (.ref p))) := by
  have u := st.unhold hP
  have hn := st.heldN
  have get : ∀ (j : Nat) s, (Γ.set i (.inv p I))[j]? = some s → (i = j ∧ j < Γ.length ∧ s = .inv p I) ∨ (i ≠ j ∧ Γ[j]? = some s) := fun j s h => by
    by_cases c : i = j
    · subst c
      have hi : i < Γ.length := by
        have z := (List.getElem?_eq_some_iff.mp h).1
        rwa [List.length_set] at z
      rw [List.getElem?_set_self hi] at h; cases h
      exact .inl ⟨rfl, hi, rfl⟩
    · rw [List.getElem?_set_ne c] at h; exact .inr ⟨c, h⟩
  refine ⟨by rw [List.length_set, List.length_set]; exact st.len, st.ex0, st.ex, st.keep, st.ops, fun j s h => ?_, fun j q J h => ?_, st.fr, u.px, u.pf, fun j q J h => ?_, fun j l q J1 J2 h1 h2 => ?_⟩
  · rcases get j s h with ⟨rfl, hj, rfl⟩ | ⟨c, h⟩
    · exact ⟨by rw [List.getElem?_set_self (by rw [st.len]; exact hj)]; rfl, st.heldF, vs, ds, st.heldH, r, hI⟩
    · rw [List.getElem?_set_ne c]; exact st.at_ j s h
  · rcases get j _ h with ⟨rfl, hj, e⟩ | ⟨c, h⟩
    · cases e; exact .inr h0
    · exact st.new j q J h
  · rcases get j _ h with ⟨rfl, hj, e⟩ | ⟨c, h⟩
    · cases e; exact hP
    · exact u.pi j q J h
  · rcases get j _ h1 with ⟨rfl, hj, e⟩ | ⟨c, h4⟩
    · cases e
      rcases get l _ h2 with ⟨rfl, _, e⟩ | ⟨c, h3⟩
      · rfl
      · exact absurd rfl (hn l _ _ h3)
    · rcases get l _ h2 with ⟨rfl, _, e⟩ | ⟨c2, h3⟩
      · cases e; exact absurd rfl (hn j _ _ h4)
      · exact st.sep j l q _ _ h4 h3
/-- all but an object that nobody knows is as it was -/
theorem Stt.growX (st : Stt S PX Γ Hf H σ) (hn : ∀ (i : Nat) q I, Γ[i]? = some (.inv q I) → q ≠ p) (hP : PX p = none) (h0 : S.H0 p = none) (hop : p ∉ S.op.map (·.1)) (g : Gr Hf H Hf' H') (k : ∀ a o, a ≠ p → H a = some o → H' a = some o) : Stt S PX Γ Hf' H' σ := by
  have npx : ∀ q, PX q ≠ none → q ≠ p := fun q h z => h (by rw [z]; exact hP)
  refine ⟨st.len, st.ex0.trans g.f, g.e, fun q u h1 h2 => k _ _ (ne_of_none h1 h0) (st.keep q u h1 h2), fun q h z => ?_, fun j s h => ?_, st.new, fun q h h2 => ?_, fun a o h => k a o (npx a (by rw [h]; exact fun z => nomatch z)) (st.px a o h), fun q h => ?_, st.pi, st.sep⟩
  · have c : q.1 ≠ p := fun c => hop (List.mem_map.mpr ⟨q, h, c⟩)
    cases y : H q.1 with
    | none => exact st.ops q h y
    | some o => rw [k _ _ c y] at z; cases z
  · cases s with
    | no => trivial
    | dat d => exact (st.at_ j _ h).more g.f fun _ _ z => nomatch z
    | inv p' I' =>
      have c := hn j p' I' h
      refine (st.at_ j _ h).more g.f fun p'' I'' z => ?_
      cases z
      have z := st.ownH h
      refine ⟨?_, ?_⟩
      · cases y : Hf' p' with
        | none => rfl
        | some u => exact absurd (g.n p' (by rw [y]; exact fun z => nomatch z) (st.own h).2.1) z
      · cases y : H p' with
        | none => exact absurd y z
        | some u => exact k _ _ c y
  · by_cases c : Hf q = none
    · exact st.fresh0 (g.n q h c)
    · exact st.fr q c h2
  · cases c : Hf' q with
    | none => rfl
    | some u => exact absurd (st.px.free (g.n q (by rw [c]; exact fun z => nomatch z) (st.pf q h))) h
end
/-- a def that gives a list of its own making -/
def SpN (K : PySem.W.Frag) (f : List Da → (List Da → Prop) → Er → Prop) : Sp := fun vs H Q E => ∃ ds Hf q er, Sub Hf H ∧ Reps K Hf ds vs ∧ f ds q er ∧
  (∀ p xs us Hf' H', Gr Hf H Hf' H' → Sub H H' → H p = none → Hf' p = none → H' p = some (.lst us) → Reps K Hf' xs us → q xs → Q (.ref p) H') ∧
  (∀ cls x fs Hf' H', Gr Hf H Hf' H' → Sub H H' → XRep K Hf' x fs → er cls fs → E cls x H')
section
variable {S : Sx} {Γ : List Slot} {e a b c : Expr} {es : List Expr} {kws : List Keyword} {Q : Da → Prop} {QN : List Da → Prop} {p pos spos : Pos} {x qual : Str} {st : Stmt} {k i : Nat} {ps : List Str} {spec : Fd} {specN : List Da → (List Da → Prop) → Er → Prop} {I : List Da → Prop} {D : EnG}
theorem EvN.ev (h : EvN S Γ e fun ds => Q (.lst ds)) : EvE S Γ e Q := fun PX σ H Hf k st hk => h PX σ H Hf k st fun p ds vs Hf' H' e1 hP h0 _ s r q => by
  obtain ⟨s8, e8⟩ := s.freeze hP h0
  exact hk (.lst ds) (.ref p) _ H' (e1.trans e8) s8 ⟨p, vs, rfl, SqL.of upd_same, Reps.mono e8 _ _ r⟩ q
theorem en_of {t : TE} (h : ∀ X, S.Ok X → PE X e t) (q : ∀ PX σ H Hf k, Stt S PX Γ Hf H σ → (∀ p ds vs Hf' H', Sub Hf Hf' → PX p = none → S.H0 p = none → p ∉ S.op.map (·.1) → Stt S (upd PX p (.lst vs)) Γ Hf' H' σ → Reps S.K Hf' ds vs → QN ds → k (.ref p) H') → t σ H k) : EvN S Γ e QN :=
  fun PX σ H Hf k st hk => ⟨t, h, q PX σ H Hf k st hk⟩
theorem en_lst (h : EvA S Γ es fun ds => Sz ds.length ∧ QN ds) : EvN S Γ (.List es pos) QN :=
  en_of (fun X ok => pe_lst (puA ok)) fun PX σ H Hf k st hk => h PX σ H Hf _ st fun ds vs Hf1 H1 e1 st1 r1 q1 => ⟨by rw [r1.len]; exact q1.1.ok, fun p hp =>
    hk p ds vs Hf1 _ e1 (st1.px.free hp) (st1.fresh0 hp) (st1.opn hp) (st1.frame hp) r1 q1.2⟩
/-- x = .., a list of the def's own -/
theorem es_own (hN : S.N[i]? = some x) (hx : Loc S.sc x) (h : EvN S Γ e fun ds => ∀ A, A ∉ S.op.map (·.1) → D.nx (Γ.set i (.inv A fun ys => ys = ds))) (hs : ∀ env, swapsWith e (some (.Name x p)) spos.line env = pure false := by intro _; rfl) (hst : S.stor x = true := by rfl) : EvS S Γ (.Assign [.Name x p] e spos) D :=
  es_of (fun X ok => ps_set (i := i) (by rw [ok.N]; exact ok.nd) (by rw [ok.N]; exact hN) (by rw [ok.sc]; exact hx) (pu ok) (hs _) (ok.fn x hst)) fun PX σ H Hf D' s k => h PX σ H Hf _ s fun A ds vs Hf1 H1 e1 hP h0 hop s1 r q =>
    k.nx _ _ Hf1 H1 e1 (s1.setO (I := fun ys => ys = ds) hP h0 r rfl i) (q A hop)
theorem es_retF (hO : OpsIn S Γ) (h : EvN S Γ e D.rr) : EvS S Γ (.Return (some e) pos) D :=
  es_of (fun X ok => ps_ret (pu ok)) fun PX σ H Hf D' s k => h PX σ H Hf _ s fun A ds vs Hf1 H1 e1 hP h0 hop s1 r q => k.rr A ds vs Γ σ Hf1 H1 e1 s1 hP h0 hO r q
theorem en_call (c : Cal S.P S.w S.K S.mg S.base x qual st k ps (SpN S.K specN)) (hk : k ≤ S.k) (hg : GlS S x) (hO : OpsIn S Γ) (h : EvA S Γ (e :: es) fun ds => specN ds QN S.E)
    (hd : (x == ("__debug__" : Str)) = false := by decide) (he : ∀ env, starEach (e :: es) env = (false, eval e env) :: starEach es env := by intro _; rfl) (hpl : ∀ env, (backTo pos (starEach es env)).any (·.1) = false := by intro _; rfl) :
    EvN S Γ (.Call (.Name x p) (e :: es) [] pos) QN := by
  obtain ⟨f, fd, F, hm, G⟩ := c.ex
  refine en_of (fun X ok => peG (sp := SpN S.K specN) (E := fun cls d H => S.WX cls d [] H) (by rw [ok.P, ok.w, ok.K, ok.mg, ok.base]; exact G) (ok.room.mono hk) ok.gd (hg.gl ok) (by rw [ok.mg]; exact hm) (by rw [ok.K]; exact F.kp) (c.bind F) ok.passes (puA ok) hd (he _) (hpl _)) ?_
  intro PX σ H Hf k st hk
  refine h PX σ H Hf _ st fun ds vs Hf1 H1 e1 st1 r1 q1 => ?_
  show SpN S.K specN (vs ++ []) H1 k _
  rw [List.append_nil]
  refine ⟨ds, Hf1, QN, S.E, st1.ex, r1, q1, fun p xs us Hf' H' g kp hp hf hl rr qq => ?_, fun cls x fs Hf' H' g kp xr er => (st1.grow g.f g.e kp g.n).wx hO xr er []⟩
  have st2 := st1.grow g.f g.e kp g.n
  exact hk p xs us Hf' H' (e1.trans g.f) (st1.px.free hp) (st1.fresh0 hp) (st1.opn hp) (st2.hold hl hf fun i q I h z => st1.ownH h (by rw [z]; exact hp)) rr qq
/-- f(g(..)): a list that the argument has made is handed on -/
theorem ev_callF (c : Cal S.P S.w S.K S.mg S.base x qual st k ps (SpO S.K I spec)) (hk : k ≤ S.k) (hg : GlS S x) (hO : OpsIn S Γ) (h : EvN S Γ e fun ds => I ds ∧ spec [] Q S.E)
    (hd : (x == ("__debug__" : Str)) = false := by decide) (he : ∀ env, starEach [e] env = (false, eval e env) :: starEach [] env := by intro _; rfl) (hpl : ∀ env, (backTo pos (starEach [] env)).any (·.1) = false := by intro _; rfl) :
    EvE S Γ (.Call (.Name x p) [e] [] pos) Q := by
  obtain ⟨f, fd, F, hm, G⟩ := c.ex
  refine ev_of (fun X ok => peG (sp := SpO S.K I spec) (E := fun cls d H => S.WX cls d [] H) (by rw [ok.P, ok.w, ok.K, ok.mg, ok.base]; exact G) (ok.room.mono hk) ok.gd (hg.gl ok) (by rw [ok.mg]; exact hm) (by rw [ok.K]; exact F.kp) (c.bind F) ok.passes
    (pa_cons (pu ok) pa_nil (he _)) hd (he _) (hpl _)) ?_
  intro PX σ H Hf k st hk
  refine h PX σ H Hf _ st fun a ds vs Hf1 H1 e1 hP h0 hop st1 r1 q1 => ?_
  have hn := st1.heldN
  have hf := st1.heldF
  have hh := st1.heldH
  have st2 := st1.unhold hP
  exact ⟨a, [], [], Hf1, Q, S.E, rfl, st1.ex, ⟨hf, vs, ds, hh, r1, q1.1⟩, rfl, q1.2, fun d v Hf' H' g kp ow rr qq => hk d v Hf' H' (e1.trans g.f) (st2.growX hn hP h0 hop g kp) rr qq,
    fun cls x fs Hf' H' g kp ow xr er => (st2.growX hn hP h0 hop g kp).wx hO xr er []⟩
end
/-! list comprehensions -/
theorem lc_run {S : Sx} {Γ : List Slot} {tg it elt : Expr} {ifs : List Expr} {scope : Scope} {own : List (Str × Nat)} {Q : List Da → Prop} (hv : noInv Γ (own.map (·.2)))
    (h : EvI S Γ tg it fun ds => Sz ds.length ∧ lcG (fun d acc K => EvG (S.blk scope) (fun i => (own.map (·.2)).contains i) (wipeG Γ (own.map (·.2))) tg d fun Γ' => EvTs (S.blk scope) Γ' ifs fun b => cond b (EvE (S.blk scope) Γ' elt fun y => K (acc ++ [y])) (K acc)) ds [] Q)
    {PX : Hp} {σ : L2.St} {H Hf : Hp} {k : VK} (st : Stt S PX Γ Hf H σ)
    (hk : ∀ p ds vs Hf' H', Sub Hf Hf' → PX p = none → S.H0 p = none → p ∉ S.op.map (·.1) → Stt S (upd PX p (.lst vs)) Γ Hf' H' σ → Reps S.K Hf' ds vs → Q ds → k (.ref p) H') :
    tLc (tUI S tg it) (tUG (S.blk scope) tg) (tUTs (S.blk scope) ifs) (tU (S.blk scope) elt) (own.map (·.2)) σ H k := by
  generalize hvs : own.map (·.2) = vs at hv h ⊢
  show tUI S tg it σ H _
  refine h PX σ H Hf _ st fun ds J Hf1 H1 e1 s1 y q D hD => ?_
  obtain ⟨hz, q⟩ := q
  have hP : PX D = none := s1.px.free hD
  have h0 : S.H0 D = none := s1.fresh0 hD
  have hop := s1.opn hD
  let step := fun d acc (K : List Da → Prop) => EvG (S.blk scope) (fun i => vs.contains i) (wipeG Γ vs) tg d fun Γ' => EvTs (S.blk scope) Γ' ifs fun b => cond b (EvE (S.blk scope) Γ' elt fun y => K (acc ++ [y])) (K acc)
  refine ⟨fun i m H' => ∃ Hf' acc accV, Sub Hf1 Hf' ∧ Stt S (upd PX D (.lst accV)) Γ Hf' H' σ ∧ Reps S.K Hf' acc accV ∧ acc.length ≤ i ∧ m = ds.length - i ∧ i ≤ ds.length ∧ lcG step (ds.drop i) acc Q,
    ⟨ds.length, Hf1, [], [], Sub.refl _, s1.frame hD, rfl, Nat.le_refl _, by simp, Nat.zero_le _, by rw [List.drop_zero]; exact q⟩, ?_⟩
  rintro i m H' ⟨Hf', acc, accV, e2, s2, ra, hl, rfl, hi, f⟩
  by_cases hlt : i < ds.length
  · refine .inr ⟨y.go i Hf' H' e2 s2.ex hlt, fun H' => ∃ Hf' acc accV, Sub Hf1 Hf' ∧ Stt S (upd PX D (.lst accV)) Γ Hf' H' σ ∧ Reps S.K Hf' acc accV ∧ acc.length ≤ i + 1 ∧ lcG step (ds.drop (i + 1)) acc Q,
      fun H' ⟨Hf', acc, accV, a, b, c, d, e⟩ => ⟨ds.length - (i + 1), by omega, Hf', acc, accV, a, b, c, d, rfl, hlt, e⟩, fun x H3 hy => ?_⟩
    obtain ⟨Hf3, d, e3, s3, hd, r⟩ := y.yld _ i x Γ σ Hf' H' H3 e2 s2 hlt hy
    have inv4 : ∀ {Γ4 : List Slot} {σ4 : L2.St}, Alt (fun i => vs.contains i) (wipeG Γ vs) (wipe σ vs) Γ4 σ4 → ∀ (i : Nat) p I, Γ[i]? = some (.inv p I) → ∃ j : Nat, Γ4[j]? = some (Slot.inv p I) := fun a i p I h => by
      have n : i ∉ vs := fun m => hv i m p I h
      exact ⟨i, by rw [a.g i (by simpa using n), wipeG_out n]; exact h⟩
    refine lcG_drop hd f _ x _ H3 Hf3 _ ((s3.wipe vs).toBlk scope) r fun Γ4 σ4 Hf4 H4 e4 s4 a4 q4 => ⟨?_, ?_⟩
    · rw [wipe_eq a4.len fun j hj => a4.s j (by simpa using hj)]
      exact wipe_eq (wipe_length _ _) fun j hj => wipe_out hj
    refine q4 _ σ4 H4 Hf4 _ s4 fun b Hf5 H5 e5 s5 q5 => cond_ite ?_
    cases b with
    | false =>
      exact ⟨Hf5, acc, accV, ((e2.trans e3).trans e4).trans e5, s3.back s5 ⟨rfl, rfl, rfl, rfl⟩ (e4.trans e5) (inv4 a4), Reps.mono ((e3.trans e4).trans e5) _ _ ra, by omega, q5⟩
    | true =>
      refine q5 _ σ4 H5 Hf5 _ s5 fun y yv Hf6 H6 e6 s6 r6 q6 => ?_
      have s7 := s3.back s6 ⟨rfl, rfl, rfl, rfl⟩ ((e4.trans e5).trans e6) (inv4 a4)
      refine ⟨accV, s7.px D _ upd_same, by rw [ra.len]; exact Nat.lt_of_le_of_lt hl (Nat.lt_of_lt_of_le hlt hz.ok), Hf6, acc ++ [y], accV ++ [yv], (((e2.trans e3).trans e4).trans e5).trans e6, s7.reframe h0, ?_, by rw [List.length_append]; exact Nat.add_le_add_right hl 1, q6⟩
      exact Reps.app (zs := [y]) (ws := [yv]) ⟨yv, [], rfl, r6, rfl⟩ (Reps.mono (((e3.trans e4).trans e5).trans e6) _ _ ra)
  · refine .inl ⟨y.stop i Hf' H' e2 s2.ex (by omega), ?_⟩
    rw [List.drop_eq_nil_of_le (by omega)] at f
    exact hk D acc accV Hf' H' (e1.trans e2) hP h0 hop s2 ra f

section
variable {S : Sx} {Γ : List Slot} {tg it elt : Expr} {ifs : List Expr} {scope : Scope} {own : List (Str × Nat)} {pos : Pos}
theorem en_lc {Q : List Da → Prop} (ok' : BlkOk S.N S.sc scope own) (hv : noInv Γ (own.map (·.2)))
    (h : EvI S Γ tg it fun ds => Sz ds.length ∧ lcG (fun d acc K => EvG (S.blk scope) (fun i => (own.map (·.2)).contains i) (wipeG Γ (own.map (·.2))) tg d fun Γ' => EvTs (S.blk scope) Γ' ifs fun b => cond b (EvE (S.blk scope) Γ' elt fun y => K (acc ++ [y])) (K acc)) ds [] Q)
    (hs : ∀ env x, foldedSetIterable it env x = pure x := by intro _ _; rfl) : EvN S Γ (.ListComp elt [⟨tg, it, ifs, 0⟩] scope pos) Q :=
  en_of (fun X ok => pe_lc (wi := tUI S tg it) (g := tUG (S.blk scope) tg) (tt := tUTs (S.blk scope) ifs) (te := tU (S.blk scope) elt) (own := own) ok.calm (by rw [ok.N]; exact ok.nd) (puI ok) (by rw [ok.N, ok.sc]; exact ok')
    (fun s H C cl fp => puG (ok.blk s H scope C cl fp)) (fun s H C cl fp => puTs (ok.blk s H scope C cl fp)) (fun s H C cl fp => pu (ok.blk s H scope C cl fp)) (hs _)) fun PX σ H Hf k st hk => lc_run hv h st hk
theorem ev_lc {Q : Da → Prop} (ok' : BlkOk S.N S.sc scope own) (hv : noInv Γ (own.map (·.2)))
    (h : EvI S Γ tg it fun ds => Sz ds.length ∧ lcG (fun d acc K => EvG (S.blk scope) (fun i => (own.map (·.2)).contains i) (wipeG Γ (own.map (·.2))) tg d fun Γ' => EvTs (S.blk scope) Γ' ifs fun b => cond b (EvE (S.blk scope) Γ' elt fun y => K (acc ++ [y])) (K acc)) ds [] fun acc => Q (.lst acc))
    (hs : ∀ env x, foldedSetIterable it env x = pure x := by intro _ _; rfl) : EvE S Γ (.ListComp elt [⟨tg, it, ifs, 0⟩] scope pos) Q := EvN.ev (en_lc ok' hv h hs)
theorem ls_of {t : TS} {st : Stmt} {D : EnG} (h : ∀ X, S.Ok X → PS X st t) (q : ∀ PX σ H Hf D', Stt S PX Γ Hf H σ → EnOk S PX Hf D D' → t D' σ H) : EvS S Γ st D := es_of h q
/-- x = [.. for ..] on one line -/
theorem es_lcN {i : Nat} {x : Str} {p spos : Pos} {D : EnG} (hN : S.N[i]? = some x) (hx : S.sc.names.lookup x = some .local) (hfk : S.sc.kind = .function) (hl : (p.line == pos.line) = true) (ha : (scope.names.any fun (n, k) => n == x && (k == .local || k == .cell)) = false) (ok' : BlkOk S.N S.sc scope own) (hv : noInv Γ (own.map (·.2)))
    (h : EvI S Γ tg it fun ds => Sz ds.length ∧ lcG (fun d acc K => EvG (S.blk scope) (fun i => (own.map (·.2)).contains i) (wipeG Γ (own.map (·.2))) tg d fun Γ' => EvTs (S.blk scope) Γ' ifs fun b => cond b (EvE (S.blk scope) Γ' elt fun y => K (acc ++ [y])) (K acc)) ds [] fun acc => ∀ A, A ∉ S.op.map (·.1) → D.nx (Γ.set i (.inv A fun ys => ys = acc)))
    (hs : ∀ env x, foldedSetIterable it env x = pure x := by intro _ _; rfl) : EvS S Γ (.Assign [.Name x p] (.ListComp elt [⟨tg, it, ifs, 0⟩] scope pos) spos) D :=
  es_of (fun X ok => ps_setLc (i := i) (wi := tUI S tg it) (g := tUG (S.blk scope) tg) (tt := tUTs (S.blk scope) ifs) (te := tU (S.blk scope) elt) (own := own) ok.calm (by rw [ok.N]; exact ok.nd) (by rw [ok.N]; exact hN) (by rw [ok.sc]; exact hx) (sw_true (by rw [ok.sc]; exact hfk) (by rw [ok.sc]; exact hx) hl ha) (puI ok) (by rw [ok.N, ok.sc]; exact ok')
    (fun s H C cl fp => puG (ok.blk s H scope C cl fp)) (fun s H C cl fp => puTs (ok.blk s H scope C cl fp)) (fun s H C cl fp => pu (ok.blk s H scope C cl fp)) (hs _)) fun PX σ H Hf D' s k =>
      lc_run (k := fun x H1 => gName i x σ H1 D'.nx) hv h s fun A ds vs Hf1 H1 e1 hP h0 hop s1 r q => k.nx _ _ Hf1 H1 e1 (s1.setO (I := fun ys => ys = ds) hP h0 r rfl i) (q A hop)
theorem es_lc {i : Nat} {x : Str} {p spos : Pos} {D : EnG} (hN : S.N[i]? = some x) (hx : S.sc.names.lookup x = some .local) (hfk : S.sc.kind = .function) (hl : (p.line == pos.line) = true) (ha : (scope.names.any fun (n, k) => n == x && (k == .local || k == .cell)) = false) (ok' : BlkOk S.N S.sc scope own) (hv : noInv Γ (own.map (·.2)))
    (h : EvI S Γ tg it fun ds => Sz ds.length ∧ lcG (fun d acc K => EvG (S.blk scope) (fun i => (own.map (·.2)).contains i) (wipeG Γ (own.map (·.2))) tg d fun Γ' => EvTs (S.blk scope) Γ' ifs fun b => cond b (EvE (S.blk scope) Γ' elt fun y => K (acc ++ [y])) (K acc)) ds [] fun acc => D.nx (Γ.set i (.dat (.lst acc))))
    (hs : ∀ env x, foldedSetIterable it env x = pure x := by intro _ _; rfl) : EvS S Γ (.Assign [.Name x p] (.ListComp elt [⟨tg, it, ifs, 0⟩] scope pos) spos) D :=
  es_of (fun X ok => ps_setLc (i := i) (wi := tUI S tg it) (g := tUG (S.blk scope) tg) (tt := tUTs (S.blk scope) ifs) (te := tU (S.blk scope) elt) (own := own) ok.calm (by rw [ok.N]; exact ok.nd) (by rw [ok.N]; exact hN) (by rw [ok.sc]; exact hx) (sw_true (by rw [ok.sc]; exact hfk) (by rw [ok.sc]; exact hx) hl ha) (puI ok) (by rw [ok.N, ok.sc]; exact ok')
    (fun s H C cl fp => puG (ok.blk s H scope C cl fp)) (fun s H C cl fp => puTs (ok.blk s H scope C cl fp)) (fun s H C cl fp => pu (ok.blk s H scope C cl fp)) (hs _)) fun PX σ H Hf D' s k =>
      lc_run (k := fun x H1 => gName i x σ H1 D'.nx) hv h s fun A ds vs Hf1 H1 e1 hP h0 hop s1 r q => by
        obtain ⟨s8, e8⟩ := s1.freeze hP h0
        exact k.nx _ _ _ H1 (e1.trans e8) (s8.set (d := .lst ds) ⟨A, vs, rfl, SqL.of upd_same, Reps.mono e8 _ _ r⟩ i) q
end
section
variable {P : Program} {w : World} {K : PySem.W.Frag} {mg : Str → Option Value} {base : Heap} {k : Nat} {f : Addr} {fd : FuncData} {x qual : Str} {st : Stmt} {N ps : List Str}
theorem fnN {F : Fun K x qual st f fd} {spec : List Da → (List Da → Prop) → Er → Prop} (C : FnScope N ps (defScope st)) (len : ∀ ds q er, spec ds q er → ds.length = ps.length)
    (body : ∀ (F0 H0 : Hp) ds q er, spec ds q er → EvB (mkS P w K mg base N (defScope st) k F0 H0 [] er) (st0 ds N.length) (defBody st) { nx := fun _ => False, rt := fun _ => False, rr := q }) :
    FnG P w K mg base (k + 1) f fd ps (SpN K spec) := by
  refine Fun.okG F C (fun vs H Q E h => ?_) fun cdv A outer s H vs Q E hr hgd h => ?_
  · obtain ⟨ds, Hf, q, er, _, r, h, _⟩ := h
    rw [r.len]; exact len ds q er h
  · obtain ⟨ds, Hf, q, er, e, r, h, hQ, hE⟩ := h
    have hl := len ds q er h
    have hb := body Hf H ds q er h
    have hps : ps.length ≤ N.length := by
      have z := congrArg List.length C.pre
      rw [List.length_take] at z; omega
    have st0' : Stt (mkS P w K mg base N (defScope st) k Hf H [] er) (fun _ => none) (st0 ds N.length) Hf H (L2.start N vs) := by
      refine ⟨?_, Sub.refl _, e, fun q o h _ => h, fun q h => (nomatch h), fun i s h => ?_, fun i p I h => ?_, fun p h1 h2 => absurd h2 h1, fun _ _ z => (nomatch z), fun p h => absurd rfl h, fun _ _ _ _ => rfl, fun i j p I J h => ?_⟩
      · unfold L2.start st0
        rw [List.length_append, List.length_map, List.length_replicate, List.length_append, List.length_map, List.length_replicate, r.len]
      · rcases st0_get h with ⟨d, h1, rfl⟩ | rfl
        · obtain ⟨v, h2, h3⟩ := r.get h1
          exact ⟨v, by rw [start_get h2]; rfl, h3⟩
        · trivial
      · rcases st0_get h with ⟨d, h1, z⟩ | z <;> cases z
      · rcases st0_get h with ⟨d, h1, z⟩ | z <;> cases z
    have gr : ∀ {PX Γ σ Hf' H'}, Stt (mkS P w K mg base N (defScope st) k Hf H [] er) PX Γ Hf' H' σ → Gr Hf H Hf' H' ∧ Sub H H' := fun z => ⟨⟨z.ex0, z.ex, z.fr⟩, fun a o h => z.keep a o h (by exact List.not_mem_nil)⟩
    obtain ⟨t, h1, h2⟩ := hb (fun _ => none) (L2.start N vs) H Hf { nx := fun _ H' => Q .non H', rt := Q } st0' ⟨fun _ _ _ _ _ _ z => z.elim, fun _ _ _ _ _ _ _ _ _ _ z => z.elim, fun _ _ _ _ _ _ z => z, fun _ _ _ _ _ _ z => z,
      fun p xs us Γ σ Hf' H' _ z hP h0 _ rr q => hQ p xs us Hf' H' (gr z).1 (gr z).2 h0 z.heldF z.heldH rr q⟩
    refine ⟨t, h1 _ (ok_body hr hgd C.nd fun cls d σ H' hw => ?_), h2⟩
    obtain ⟨Hf', fs, a1, a2, a4, a3, _, a5, a6⟩ := hw
    exact hE cls d fs Hf' H' ⟨a1, a2, a4⟩ (fun a o h => a3 a o h (by exact List.not_mem_nil)) a5 a6
theorem calN {spec : List Da → (List Da → Prop) → Er → Prop} (h : Def K mg x st) (C : FnScope N ps (defScope st))
    (bp : ∀ (kV doc pm : Value) (an : Option Addr) (cdv ct : Value) (us : List Value), us.length = ps.length → bindArgs (PySem.W.fnOf x x (defArgs st) (defBody st) (defScope st) .none kV doc pm an cdv ct) ⟨us, []⟩ = pure (ps.zip us))
    (len : ∀ ds q er, spec ds q er → ds.length = ps.length)
    (body : ∀ (F0 H0 : Hp) ds q er, spec ds q er → EvB (mkS P w K mg base N (defScope st) k F0 H0 [] er) (st0 ds N.length) (defBody st) { nx := fun _ => False, rt := fun _ => False, rr := q }) :
    Cal P w K mg base x x st (k + 1) ps (SpN K spec) := by
  obtain ⟨f, fd, F, hm⟩ := h
  exact ⟨⟨f, fd, F, hm, fnN (F := F) C len body⟩, bp⟩
end
/-! ## small helps -/
theorem cond_t {p q : Prop} (h : p) : cond true p q := h
theorem cond_f {p q : Prop} (h : q) : cond false p q := h
theorem cond_dec {c : Prop} [Decidable c] {p q : Prop} (h1 : c → p) (h2 : ¬ c → q) : cond (decide c) p q := by
  by_cases h : c
  · rw [decide_eq_true h]; exact h1 h
  · rw [decide_eq_false h]; exact h2 h
theorem cond_ndec {c : Prop} [Decidable c] {p q : Prop} (h1 : ¬ c → p) (h2 : c → q) : cond (!decide c) p q := by
  by_cases h : c
  · rw [decide_eq_true h]; exact h2 h
  · rw [decide_eq_false h]; exact h1 h
theorem cond_b {b : Bool} {p q : Prop} (h1 : b = true → p) (h2 : b = false → q) : cond b p q := by
  cases b with
  | true => exact h1 rfl
  | false => exact h2 rfl
theorem cond_nb {b : Bool} {p q : Prop} (h1 : b = false → p) (h2 : b = true → q) : cond (!b) p q := by
  cases b with
  | true => exact h2 rfl
  | false => exact h1 rfl
@[reducible] def as0 (ds : List Da) (k : Prop) : Prop := match ds with | [] => k | _ => False
@[reducible] def as3 (ds : List Da) (k : Da → Da → Da → Prop) : Prop := match ds with | [d, e, f] => k d e f | _ => False
@[reducible] def as4 (ds : List Da) (k : Da → Da → Da → Da → Prop) : Prop := match ds with | [d, e, f, g] => k d e f g | _ => False
theorem as0_ {ds : List Da} {k : Prop} (h : as0 ds k) : ds = [] ∧ k := by
  match ds, h with
  | [], h => exact ⟨rfl, h⟩
theorem as3_ {ds : List Da} {k : Da → Da → Da → Prop} (h : as3 ds k) : ∃ d e f, ds = [d, e, f] ∧ k d e f := by
  match ds, h with
  | [d, e, f], h => exact ⟨d, e, f, rfl, h⟩
theorem as4_ {ds : List Da} {k : Da → Da → Da → Da → Prop} (h : as4 ds k) : ∃ d e f g, ds = [d, e, f, g] ∧ k d e f g := by
  match ds, h with
  | [d, e, f, g], h => exact ⟨d, e, f, g, rfl, h⟩
theorem as0_len {ds : List Da} {k : Prop} (h : as0 ds k) : ds.length = 0 := by obtain ⟨rfl, _⟩ := as0_ h; rfl
theorem as1_len {ds : List Da} {k : Da → Prop} (h : as1 ds k) : ds.length = 1 := by obtain ⟨_, rfl, _⟩ := as1_ h; rfl
theorem as2_len {ds : List Da} {k : Da → Da → Prop} (h : as2 ds k) : ds.length = 2 := by obtain ⟨_, _, rfl, _⟩ := as2_ h; rfl
theorem as3_len {ds : List Da} {k : Da → Da → Da → Prop} (h : as3 ds k) : ds.length = 3 := by obtain ⟨_, _, _, rfl, _⟩ := as3_ h; rfl
theorem as4_len {ds : List Da} {k : Da → Da → Da → Da → Prop} (h : as4 ds k) : ds.length = 4 := by obtain ⟨_, _, _, _, rfl, _⟩ := as4_ h; rfl
theorem bt_int : bootBuiltins "int" = some (.type "int") := by decide +kernel
theorem bt_bool : bootBuiltins "bool" = some (.type "bool") := by decide +kernel
theorem bt_str : bootBuiltins "str" = some (.type "str") := by decide +kernel
theorem bt_tuple : bootBuiltins "tuple" = some (.type "tuple") := by decide +kernel
theorem bt_list : bootBuiltins "list" = some (.type "list") := by decide +kernel
theorem bt_isinstance : bootBuiltins "isinstance" = some (.builtin "isinstance") := by decide +kernel
theorem bt_len : bootBuiltins "len" = some (.builtin "len") := by decide +kernel
theorem bt_abs : bootBuiltins "abs" = some (.builtin "abs") := by decide +kernel
theorem bt_all : bootBuiltins "all" = some (.builtin "all") := by decide +kernel
theorem bt_any : bootBuiltins "any" = some (.builtin "any") := by decide +kernel
theorem bt_sum : bootBuiltins "sum" = some (.builtin "sum") := by decide +kernel
theorem bt_min : bootBuiltins "min" = some (.builtin "min") := by decide +kernel
theorem bt_max : bootBuiltins "max" = some (.builtin "max") := by decide +kernel
theorem bt_repr : bootBuiltins "repr" = some (.builtin "repr") := by decide +kernel
theorem bt_divmod : bootBuiltins "divmod" = some (.builtin "divmod") := by decide +kernel
theorem bt_sorted : bootBuiltins "sorted" = some (.builtin "sorted") := by decide +kernel
/-! the law's own def, at the end -/
theorem law_end {P : Program} {w : World} {K : PySem.W.Frag} {mg : Str → Option Value} {k : Nat} {fa : Addr} {x p : Str} {st : Stmt} {spec : Fd} {T : Prop} (t : T)
    (ok : ∀ base : Heap, T → Cal P w K mg base x x st k [p] (SpD K spec)) (hm : mg x = some (.ref fa)) :
    ∃ fd : FuncData, (∀ (s : Shared) (u : Value), BindsTo s fd ⟨[u], []⟩ [(p, u)]) ∧ ∀ base : Heap, K.In base → base.Ns mainGlobals mg → FnG P w K mg base k fa fd [p] (SpD K spec) := by
  obtain ⟨f0, fd0, F0, hm0, _⟩ := (ok (default : Heap) t).ex
  rw [hm] at hm0; cases hm0
  refine ⟨fd0, fun s u => .of_eq ((ok (default : Heap) t).bind F0 [u] rfl), fun base _ _ => ?_⟩
  obtain ⟨f, fd, F, hm', G⟩ := (ok base t).ex
  rw [hm] at hm'; cases hm'
  obtain ⟨oc, od, kV, doc, pm, an, cdv, ct, osl, rfl, lk, hcd⟩ := F.ex
  obtain ⟨oc', od', kV', doc', pm', an', cdv', ct', osl', rfl, lk', hcd'⟩ := F0.ex
  rw [lk] at lk'; cases lk'
  exact G
end GX
namespace GX
open PySem PySem.Spec PyProof.Rows L2
theorem ev_pow {S : Sx} {Γ : List Slot} {Q : Da → Prop} {i j : Int} {a b} {p1 p2 pos : Pos} (v : Int) (hc : CPow i j) (hv : i ^ j.toNat = v) (q : Q (.int v)) : EvE S Γ (.BinOp (.Constant (.int i) a p1) .Pow (.Constant (.int j) b p2) pos) Q :=
  ev_op g_Pow (ev_int (ev_int ⟨hc, by rw [hv]; exact q⟩))
end GX
namespace GX
open PySem PySem.Spec PyProof.Rows L2
/-! ## data that can be shown -/
mutual
def Da.okS : Da → Prop
  | .int i => i.natAbs < 10 ^ 40
  | .str x => ∀ c ∈ x.cps.toList, c < 16 ^ 8
  | .lst xs | .tup xs => Da.okSs xs
  | .non | .bl _ => True
  | _ => False
def Da.okSs : List Da → Prop
  | [] => True
  | x :: xs => x.okS ∧ Da.okSs xs
end
mutual
def Da.sz : Da → Nat
  | .str x => x.cps.size
  | .lst xs | .tup xs => Da.szs xs
  | _ => 0
def Da.szs : List Da → Nat
  | [] => 0
  | x :: xs => x.sz + 1 + Da.szs xs
end
mutual
def Da.dp : Da → Nat
  | .lst xs | .tup xs => Da.dps xs + 1
  | _ => 0
def Da.dps : List Da → Nat
  | [] => 0
  | x :: xs => max x.dp (Da.dps xs)
end
mutual
theorem Da.py_bulk : ∀ d : Da, d.py.bulk = d.sz
  | .lst xs => by unfold Da.py Da.sz PyData.bulk; exact Da.pys_bulk xs
  | .tup xs => by unfold Da.py Da.sz PyData.bulk; exact Da.pys_bulk xs
  | .str x => by unfold Da.py Da.sz PyData.bulk; rfl
  | .int x => by unfold Da.py Da.sz PyData.bulk; rfl
  | .bl x => by unfold Da.py Da.sz PyData.bulk; rfl
  | .non => by unfold Da.py Da.sz PyData.bulk; rfl
  | .dct _ => by unfold Da.py Da.sz PyData.bulk; rfl
  | .ins _ _ => by unfold Da.py Da.sz PyData.bulk; rfl
  | .rf _ => by unfold Da.py Da.sz PyData.bulk; rfl
  | .ty _ => by unfold Da.py Da.sz PyData.bulk; rfl
theorem Da.pys_bulk : ∀ ds : List Da, PyData.bulkAll (Da.pys ds) = Da.szs ds
  | [] => by unfold Da.pys Da.szs PyData.bulkAll; rfl
  | d :: ds => by unfold Da.pys Da.szs PyData.bulkAll; rw [Da.py_bulk d, Da.pys_bulk ds]
end
mutual
theorem Da.py_depth : ∀ d : Da, d.py.depth = d.dp
  | .lst xs => by unfold Da.py Da.dp PyData.depth; rw [Da.pys_depth xs]
  | .tup xs => by unfold Da.py Da.dp PyData.depth; rw [Da.pys_depth xs]
  | .str x => by unfold Da.py Da.dp PyData.depth; rfl
  | .int x => by unfold Da.py Da.dp PyData.depth; rfl
  | .bl x => by unfold Da.py Da.dp PyData.depth; rfl
  | .non => by unfold Da.py Da.dp PyData.depth; rfl
  | .dct _ => by unfold Da.py Da.dp PyData.depth; rfl
  | .ins _ _ => by unfold Da.py Da.dp PyData.depth; rfl
  | .rf _ => by unfold Da.py Da.dp PyData.depth; rfl
  | .ty _ => by unfold Da.py Da.dp PyData.depth; rfl
theorem Da.pys_depth : ∀ ds : List Da, PyData.depthAll (Da.pys ds) = Da.dps ds
  | [] => by unfold Da.pys Da.dps PyData.depthAll; rfl
  | d :: ds => by unfold Da.pys Da.dps PyData.depthAll; rw [Da.py_depth d, Da.pys_depth ds]
end
theorem int_short {i : Int} (h : i.natAbs < 10 ^ 40) : (PyData.shown (.int i)).length ≤ 41 := by
  have e := int_text_length_le10 (k := 40) (by decide) h
  show (Str.ofString (toString i)).length ≤ 41
  rw [PySem.ofString_length]; exact e
mutual
theorem Da.py_okS : ∀ d : Da, d.okS → d.pure = true ∧ d.py.showable = true ∧ d.py.leavesShort 41 = true
  | .lst xs, h => by unfold Da.okS at h; unfold Da.py Da.pure PyData.showable PyData.leavesShort; exact Da.pys_okS xs h
  | .tup xs, h => by unfold Da.okS at h; unfold Da.py Da.pure PyData.showable PyData.leavesShort; exact Da.pys_okS xs h
  | .str x, h => by
    unfold Da.okS at h; unfold Da.py Da.pure PyData.showable PyData.leavesShort
    exact ⟨rfl, rfl, List.all_eq_true.mpr fun c hc => decide_eq_true (h c hc)⟩
  | .int x, h => by
    unfold Da.okS at h; unfold Da.py Da.pure PyData.showable PyData.leavesShort
    refine ⟨rfl, decide_eq_true ?_, decide_eq_true (int_short h)⟩
    exact Nat.lt_of_lt_of_le (PySem.Flt.log2_lt_of (k := 140) (by decide) (Nat.lt_of_lt_of_le h (by decide))) (by decide)
  | .bl x, _ => by unfold Da.py Da.pure PyData.showable PyData.leavesShort; exact ⟨rfl, rfl, rfl⟩
  | .non, _ => by unfold Da.py Da.pure PyData.showable PyData.leavesShort; exact ⟨rfl, rfl, rfl⟩
  | .dct _, h => by unfold Da.okS at h; exact h.elim
  | .ins _ _, h => by unfold Da.okS at h; exact h.elim
  | .rf _, h => by unfold Da.okS at h; exact h.elim
  | .ty _, h => by unfold Da.okS at h; exact h.elim
theorem Da.pys_okS : ∀ ds : List Da, Da.okSs ds → Da.pures ds = true ∧ PyData.showableAll (Da.pys ds) = true ∧ PyData.leavesShortAll 41 (Da.pys ds) = true
  | [], _ => by unfold Da.pys Da.pures PyData.showableAll PyData.leavesShortAll; exact ⟨rfl, rfl, rfl⟩
  | d :: ds, h => by
    unfold Da.okSs at h
    obtain ⟨a1, a2, a3⟩ := Da.py_okS d h.1
    obtain ⟨b1, b2, b3⟩ := Da.pys_okS ds h.2
    unfold Da.pys Da.pures PyData.showableAll PyData.leavesShortAll
    rw [a1, a2, a3, b1, b2, b3]
    exact ⟨rfl, rfl, rfl⟩
end
theorem shw_of {d : Da} (h1 : d.okS) (h2 : d.sz ≤ 20000) (h3 : d.dp ≤ 60) : Shw d := by
  obtain ⟨a1, a2, a3⟩ := Da.py_okS d h1
  refine ⟨a1, a2, by rw [Da.py_depth]; exact h3, ?_⟩
  have z := PyData.shown_le_bulk 41 (by decide) _ a3
  rw [Da.py_bulk] at z
  omega
/-! lists of numbers -/
theorem rngD_mem {lo : Int} {n : Nat} {d : Da} (h : d ∈ rngD lo n) : ∃ i : Nat, i < n ∧ d = .int (lo + i) := by
  unfold rngD at h
  obtain ⟨i, h1, h2⟩ := List.mem_map.mp h
  exact ⟨i, List.mem_range.mp h1, h2.symm⟩
theorem atI_mem {ds : List Da} {i : Int} (h0 : 0 ≤ i) (h1 : i < ds.length) : ∃ d, atI ds i = some d ∧ d ∈ ds := by
  obtain ⟨k, rfl⟩ := Int.eq_ofNat_of_zero_le h0
  have hk : k < ds.length := by exact_mod_cast h1
  refine ⟨ds[k], ?_, List.getElem_mem hk⟩
  unfold atI ixN
  rw [if_pos h0, if_pos h1]
  exact List.getElem?_eq_getElem hk
theorem mem_cut {ds : List Da} {lo hi : Option Int} {d : Da} (h : d ∈ cutD ds lo hi) : d ∈ ds := List.mem_of_mem_drop (List.mem_of_mem_take h)
theorem mem_ints {ns : List Int} {d : Da} (h : d ∈ ns.map Da.int) : ∃ n, n ∈ ns ∧ d = .int n := by
  obtain ⟨n, h1, h2⟩ := List.mem_map.mp h
  exact ⟨n, h1, h2.symm⟩
end GX
namespace GX
open PySem PySem.Spec PyProof.Rows L2
theorem cut_take {ds : List Da} {u : Int} (h0 : 0 ≤ u) (h1 : u ≤ ds.length) : cutD ds none (some u) = ds.take u.toNat := by
  unfold cutD
  have e0 : HT.sIx ds.length 0 none = 0 := rfl
  have e1 : HT.sIx ds.length ds.length (some u) = u.toNat := by
    show (if u < 0 then (u + (ds.length : Int)).toNat else min u.toNat ds.length) = _
    rw [if_neg (by omega)]; omega
  rw [e0, e1, List.drop_zero, Nat.sub_zero]
end GX
namespace GX
open PySem PySem.Spec PyProof.Rows L2
/-- each item is kept or not: the two ways apart -/
theorem lcG_fil {step : Da → List Da → (List Da → Prop) → Prop} {p : Da → Bool} {f : Da → Da} {Q : List Da → Prop} {ds acc : List Da} (h : ∀ d acc (k : List Da → Prop), d ∈ ds → (p d = true → k (acc ++ [f d])) → (p d = false → k acc) → step d acc k) (q : Q (acc ++ (ds.filter p).map f)) : lcG step ds acc Q :=
  lcG_filter (p := p) (f := f) (fun d acc k hd hk => h d acc k hd (fun c => by rw [if_pos c] at hk; exact hk) (fun c => by rw [if_neg (by rw [c]; decide)] at hk; exact hk)) q
/-- numbers of a list within bounds -/
def allI (lo hi : Int) : List Da → Prop
  | [] => True
  | .int x :: r => (lo ≤ x ∧ x ≤ hi) ∧ allI lo hi r
  | _ :: _ => False
theorem allI_mem {lo hi : Int} : ∀ {xs : List Da} {d : Da}, allI lo hi xs → d ∈ xs → ∃ x, d = .int x ∧ lo ≤ x ∧ x ≤ hi
  | .int x :: r, d, h, m => by
    unfold allI at h
    rcases List.mem_cons.mp m with rfl | m
    · exact ⟨x, rfl, h.1⟩
    · exact allI_mem h.2 m
  | .non :: _, _, h, _ => by unfold allI at h; exact h.elim
  | .bl _ :: _, _, h, _ => by unfold allI at h; exact h.elim
  | .str _ :: _, _, h, _ => by unfold allI at h; exact h.elim
  | .lst _ :: _, _, h, _ => by unfold allI at h; exact h.elim
  | .tup _ :: _, _, h, _ => by unfold allI at h; exact h.elim
  | .dct _ :: _, _, h, _ => by unfold allI at h; exact h.elim
  | .ins _ _ :: _, _, h, _ => by unfold allI at h; exact h.elim
  | .rf _ :: _, _, h, _ => by unfold allI at h; exact h.elim
  | .ty _ :: _, _, h, _ => by unfold allI at h; exact h.elim
end GX

namespace GX
open PySem PySem.Spec PyProof.Rows L2
theorem loose_int {lv : List (Str × PySem.W.WData)} {mg : Str → Option Value} {h : Heap} {x : Str} {i : Int} (V : PySem.W.LooseAre lv mg h) (hx : (x, PySem.W.WData.int i) ∈ lv) : ∃ t, mg x = some (.int i t) := by
  obtain ⟨v, h1, h2⟩ := V.val _ hx
  cases h2
  exact ⟨_, h1⟩
end GX

namespace LW
open PySem PySem.Spec PyProof.Rows L2 GX
def topS (i : Nat) : Stmt := PySem.Challenge.pw_claimback_k57_whole_what_lots_draw.main.body.getD i (.Pass ⟨0, 0, 0, 0⟩)
abbrev s_is_whole : Stmt := topS 5
theorem sc_is_whole : FnScope ["value"] ["value"] (defScope s_is_whole) := ⟨rfl, rfl, rfl, by decide +kernel, rfl, by decide +kernel, by decide +kernel⟩
abbrev s_is_number : Stmt := topS 6
theorem sc_is_number : FnScope ["value", "low", "high"] ["value", "low", "high"] (defScope s_is_number) := ⟨rfl, rfl, rfl, by decide +kernel, rfl, by decide +kernel, by decide +kernel⟩
abbrev s_is_tuple_of : Stmt := topS 8
theorem sc_is_tuple_of : FnScope ["value", "many"] ["value", "many"] (defScope s_is_tuple_of) := ⟨rfl, rfl, rfl, by decide +kernel, rfl, by decide +kernel, by decide +kernel⟩
abbrev s_check_number : Stmt := topS 7
theorem sc_check_number : FnScope ["value", "low", "high"] ["value", "low", "high"] (defScope s_check_number) := ⟨rfl, rfl, rfl, by decide +kernel, rfl, by decide +kernel, by decide +kernel⟩
abbrev s_is_lot : Stmt := topS 12
theorem sc_is_lot : FnScope ["value"] ["value"] (defScope s_is_lot) := ⟨rfl, rfl, rfl, by decide +kernel, rfl, by decide +kernel, by decide +kernel⟩
abbrev s_check_lot : Stmt := topS 13
theorem sc_check_lot : FnScope ["value"] ["value"] (defScope s_check_lot) := ⟨rfl, rfl, rfl, by decide +kernel, rfl, by decide +kernel, by decide +kernel⟩
abbrev s_does_draw : Stmt := topS 14
theorem sc_does_draw : FnScope ["lot", "number", "times", "more", "bound"] ["lot", "number"] (defScope s_does_draw) := ⟨rfl, rfl, rfl, by decide +kernel, rfl, by decide +kernel, by decide +kernel⟩
abbrev s_drawn_below : Stmt := topS 15
theorem sc_drawn_below : FnScope ["lot", "number", "hundreds", "rest", "each", "own"] ["lot", "number"] (defScope s_drawn_below) := ⟨rfl, rfl, rfl, by decide +kernel, rfl, by decide +kernel, by decide +kernel⟩
abbrev s_draws : Stmt := topS 16
theorem sc_draws : FnScope ["lot", "number"] ["lot", "number"] (defScope s_draws) := ⟨rfl, rfl, rfl, by decide +kernel, rfl, by decide +kernel, by decide +kernel⟩
abbrev s_drawn : Stmt := topS 17
theorem sc_drawn : FnScope ["lot", "first", "last"] ["lot", "first", "last"] (defScope s_drawn) := ⟨rfl, rfl, rfl, by decide +kernel, rfl, by decide +kernel, by decide +kernel⟩
abbrev s__law_pail : Stmt := topS 19
theorem sc__law_pail : FnScope ["script", "turn", "mixed", "cell", "own"] ["script", "turn"] (defScope s__law_pail) := ⟨rfl, rfl, rfl, by decide +kernel, rfl, by decide +kernel, by decide +kernel⟩
abbrev s__law_deal : Stmt := topS 20
theorem sc__law_deal : FnScope ["pail", "top", "figure", "mixed"] ["pail", "top"] (defScope s__law_deal) := ⟨rfl, rfl, rfl, by decide +kernel, rfl, by decide +kernel, by decide +kernel⟩
abbrev s__law_any : Stmt := topS 21
theorem sc__law_any : FnScope ["pail", "some"] ["pail", "some"] (defScope s__law_any) := ⟨rfl, rfl, rfl, by decide +kernel, rfl, by decide +kernel, by decide +kernel⟩
abbrev s__law_lot : Stmt := topS 22
theorem sc__law_lot : FnScope ["pail", "a"] ["pail"] (defScope s__law_lot) := ⟨rfl, rfl, rfl, by decide +kernel, rfl, by decide +kernel, by decide +kernel⟩
abbrev s__law_draws : Stmt := topS 23
theorem sc__law_draws : FnScope ["lot", "number"] ["lot", "number"] (defScope s__law_draws) := ⟨rfl, rfl, rfl, by decide +kernel, rfl, by decide +kernel, by decide +kernel⟩
abbrev s__law_many : Stmt := topS 24
theorem sc__law_many : FnScope ["lot", "first", "last", "hundreds", "left", "whole", "number", "k"] ["lot", "first", "last"] (defScope s__law_many) := ⟨rfl, rfl, rfl, by decide +kernel, rfl, by decide +kernel, by decide +kernel⟩
abbrev s__law_right : Stmt := topS 25
theorem sc__law_right : FnScope ["pail", "lap", "lot", "many", "number", "due", "first", "last", "k", "end", "told"] ["pail"] (defScope s__law_right) := ⟨rfl, rfl, rfl, by decide +kernel, rfl, by decide +kernel, by decide +kernel⟩
abbrev s_law : Stmt := topS 26
theorem sc_law : FnScope ["script", "turn"] ["script"] (defScope s_law) := ⟨rfl, rfl, rfl, by decide +kernel, rfl, by decide +kernel, by decide +kernel⟩
structure Txt (K : PySem.W.Frag) (mg : Str → Option Value) : Prop where
  m_abs : mg "abs" = none
  m_all : mg "all" = none
  m_bool : mg "bool" = none
  m_divmod : mg "divmod" = none
  m_int : mg "int" = none
  m_isinstance : mg "isinstance" = none
  m_len : mg "len" = none
  m_max : mg "max" = none
  m_min : mg "min" = none
  m_range : mg "range" = none
  m_repr : mg "repr" = none
  m_sum : mg "sum" = none
  m_tuple : mg "tuple" = none
  k_MOST_AMOUNT : ∃ t, mg "MOST_AMOUNT" = some (.int 10000000000000 t)
  k_HUNDRED : ∃ t, mg "HUNDRED" = some (.int 100 t)
  d_is_whole : Def K mg "is_whole" s_is_whole
  d_is_number : Def K mg "is_number" s_is_number
  d_is_tuple_of : Def K mg "is_tuple_of" s_is_tuple_of
  d_check_number : Def K mg "check_number" s_check_number
  d_is_lot : Def K mg "is_lot" s_is_lot
  d_check_lot : Def K mg "check_lot" s_check_lot
  d_does_draw : Def K mg "does_draw" s_does_draw
  d_drawn_below : Def K mg "drawn_below" s_drawn_below
  d_draws : Def K mg "draws" s_draws
  d_drawn : Def K mg "drawn" s_drawn
  d__law_pail : Def K mg "_law_pail" s__law_pail
  d__law_deal : Def K mg "_law_deal" s__law_deal
  d__law_any : Def K mg "_law_any" s__law_any
  d__law_lot : Def K mg "_law_lot" s__law_lot
  d__law_draws : Def K mg "_law_draws" s__law_draws
  d__law_many : Def K mg "_law_many" s__law_many
  d__law_right : Def K mg "_law_right" s__law_right
  d_law : Def K mg "law" s_law
section
variable {P : Program} {w : World} {K : PySem.W.Frag} {mg : Str → Option Value} {base : Heap}
theorem c_MOST_AMOUNT {S : Sx} {Γ : List Slot} {Q : Da → Prop} {pos : Pos} (T : Txt S.K S.mg) (hg : GlS S "MOST_AMOUNT") (q : Q (.int 10000000000000)) : EvE S Γ (.Name "MOST_AMOUNT" pos) Q := by
  obtain ⟨t, h⟩ := T.k_MOST_AMOUNT
  exact ev_glob (d := .int 10000000000000) (v := .int 10000000000000) hg h ⟨t, rfl⟩ (fun _ => rfl) q
theorem c_HUNDRED {S : Sx} {Γ : List Slot} {Q : Da → Prop} {pos : Pos} (T : Txt S.K S.mg) (hg : GlS S "HUNDRED") (q : Q (.int 100)) : EvE S Γ (.Name "HUNDRED" pos) Q := by
  obtain ⟨t, h⟩ := T.k_HUNDRED
  exact ev_glob (d := .int 100) (v := .int 100) hg h ⟨t, rfl⟩ (fun _ => rfl) q
/-! whole numbers, bounds -/
@[reducible] def isWh (d : Da) : Bool := match d with | .int _ => true | _ => false
@[reducible] def isBd (d : Da) : Bool := match d with | .int _ => true | .non => true | _ => false
@[reducible] def loOk (lo : Da) (i : Int) : Bool := match lo with | .int l => decide (l ≤ i) | _ => true
@[reducible] def hiOk (hi : Da) (i : Int) : Bool := match hi with | .int h => decide (i ≤ h) | _ => true
@[reducible] def numOk (d lo hi : Da) : Bool := match d with | .int i => loOk lo i && hiOk hi i | _ => false
theorem wh_int {d : Da} (h : isWh d = true) : ∃ i, d = .int i := by cases d <;> first | exact ⟨_, rfl⟩ | cases h
theorem numOk_of {i l h : Int} (h1 : l ≤ i) (h2 : i ≤ h) : numOk (.int i) (.int l) (.int h) = true := by
  show (decide (l ≤ i) && decide (i ≤ h)) = true
  rw [decide_eq_true h1, decide_eq_true h2]; rfl
@[reducible] def q_is_whole : Fd := fun ds q _ => as1 ds fun d => d.known = true ∧ q (.bl (isWh d))
@[reducible] def q_is_number : Fd := fun ds q _ => as3 ds fun d lo hi => d.known = true ∧ isBd lo = true ∧ isBd hi = true ∧ q (.bl (numOk d lo hi))
theorem ok_is_whole (T : Txt K mg) : Cal P w K mg base "is_whole" "is_whole" s_is_whole 1 ["value"] (SpD K q_is_whole) := by
  refine calD T.d_is_whole sc_is_whole (fun _ _ _ _ _ _ us hl => match us, hl with | [_], _ => rfl) (fun ds q er h => as1_len h) fun F0 H0 ds q er h => ?_
  obtain ⟨value, rfl, h⟩ := as1_ h
  obtain ⟨hk, hq⟩ := h
  refine eb_cons (es_ret (ops0 rfl) ?_)
  refine ev_and ?_
  refine ev_callB c_isInt rfl T.m_isinstance bt_isinstance ?_
  refine ea_cons ?_
  refine ev_var (i := 0) rfl (.inl rfl) rfl ?_
  refine ea_cons ?_
  refine ev_bltn (n := "int") rfl T.m_int bt_int ?_
  refine ea_nil ?_
  refine ⟨rfl, by first | rfl | assumption, ?_⟩
  cases value <;> first | cases hk | skip
  case bl => 
    refine ev_one ?_
    refine ev_not ?_
    refine ev_callB c_isBool rfl T.m_isinstance bt_isinstance ?_
    refine ea_cons ?_
    refine ev_var (i := 0) rfl (.inl rfl) rfl ?_
    refine ea_cons ?_
    refine ev_bltn (n := "bool") rfl T.m_bool bt_bool ?_
    refine ea_nil ?_
    refine ⟨rfl, by first | rfl | assumption, ?_⟩
    exact hq
  case int => 
    refine ev_one ?_
    refine ev_not ?_
    refine ev_callB c_isBool rfl T.m_isinstance bt_isinstance ?_
    refine ea_cons ?_
    refine ev_var (i := 0) rfl (.inl rfl) rfl ?_
    refine ea_cons ?_
    refine ev_bltn (n := "bool") rfl T.m_bool bt_bool ?_
    refine ea_nil ?_
    refine ⟨rfl, by first | rfl | assumption, ?_⟩
    exact hq
  all_goals exact hq
theorem ok_is_number (T : Txt K mg) : Cal P w K mg base "is_number" "is_number" s_is_number 2 ["value", "low", "high"] (SpD K q_is_number) := by
  refine calD T.d_is_number sc_is_number (fun _ _ _ _ _ _ us hl => match us, hl with | [_, _, _], _ => rfl) (fun ds q er h => as3_len h) fun F0 H0 ds q er h => ?_
  obtain ⟨value, low, high, rfl, h⟩ := as3_ h
  obtain ⟨hk, hlo, hhi, hq⟩ := h
  refine eb_cons (EvS.cut (fun Γ' => Γ' = st0 [value, low, high] 3 ∧ ∃ i, value = .int i ∧ loOk low i = true) ?_ ?_)
  · refine es_if ?_
    refine et_w ?_
    refine ew_or ?_
    refine et_not ?_
    refine et_val ?_
    refine ev_call (ok_is_whole T) (Nat.le_of_ble_eq_true rfl) rfl (ops0 rfl) ?_
    refine ea_cons ?_
    refine ev_var (i := 0) rfl (.inl rfl) rfl ?_
    refine ea_nil ?_
    refine ⟨by first | rfl | assumption, ?_⟩
    refine cond_nb (fun c => ?_) (fun c => ?_)
    · refine eb_cons (es_ret (ops0 rfl) ?_)
      refine ev_bl ?_
      have e : numOk value low high = false := by cases value <;> first | rfl | cases c
      rw [e] at hq; exact hq
    obtain ⟨i, rfl⟩ := wh_int c
    refine ew_or1 ?_
    refine et_w ?_
    refine ew_and ?_
    refine et_cmp g_isnot ?_
    refine ev_var (i := 1) rfl (.inl rfl) rfl ?_
    refine ev_non ?_
    refine ⟨rfl, ?_⟩
    cases low with
    | non =>
      refine eb_nil ?_
      exact ⟨rfl, i, rfl, rfl⟩
    | int l =>
      refine ew_and1 ?_
      refine et_cmp g_lt ?_
      refine ev_var (i := 0) rfl (.inl rfl) rfl ?_
      refine ev_var (i := 1) rfl (.inl rfl) rfl ?_
      refine cond_dec (fun c => ?_) (fun c => ?_)
      · refine eb_cons (es_ret (ops0 rfl) ?_)
        refine ev_bl ?_
        have e : numOk (.int i) (.int l) high = false := by show (decide (l ≤ i) && _) = false; rw [decide_eq_false (by omega)]; rfl
        rw [e] at hq; exact hq
      · refine eb_nil ?_
        exact ⟨rfl, i, rfl, decide_eq_true (by omega)⟩
    | _ => cases hlo
  · rintro Γ' ⟨rfl, i, rfl, hl⟩
    refine eb_cons (es_ret (ops0 rfl) ?_)
    refine ev_or ?_
    refine ev_cmp g_is ?_
    refine ev_var (i := 2) rfl (.inl rfl) rfl ?_
    refine ev_non ?_
    refine ⟨rfl, ?_⟩
    have e : numOk (.int i) low high = (true && hiOk high i) := by show (loOk low i && hiOk high i) = _; rw [hl]
    rw [e] at hq
    cases high with
    | non => exact hq
    | int j =>
      refine ev_one ?_
      refine ev_cmp g_le ?_
      refine ev_var (i := 0) rfl (.inl rfl) rfl ?_
      refine ev_var (i := 2) rfl (.inl rfl) rfl ?_
      exact hq
    | _ => cases hhi

/-! lots -/
@[reducible] def tupN (d : Da) (n : Int) : Bool := match d with | .tup xs => decide ((xs.length : Int) = n) | _ => false
theorem tupN_ {d : Da} {n : Int} (h : tupN d n = true) : ∃ xs, d = .tup xs ∧ (xs.length : Int) = n := by
  cases d <;> first | exact ⟨_, rfl, of_decide_eq_true h⟩ | cases h
theorem tup3_ {d : Da} (h : tupN d 3 = true) : ∃ a b c, d = .tup [a, b, c] := by
  obtain ⟨xs, rfl, h2⟩ := tupN_ h
  clear h
  match xs, h2 with
  | [a, b, c], _ => exact ⟨a, b, c, rfl⟩
  | [], h => exact absurd (show (0 : Int) = 3 from h) (by decide)
  | [a], h => exact absurd (show (1 : Int) = 3 from h) (by decide)
  | [a, b], h => exact absurd (show (2 : Int) = 3 from h) (by decide)
  | a :: b :: c :: d :: l, h => exact absurd h (by simp only [List.length_cons]; omega)
@[reducible] def q_is_tuple_of : Fd := fun ds q _ => as2 ds fun d m => d.known = true ∧ asInt m fun n => q (.bl (tupN d n))
theorem ok_is_tuple_of (T : Txt K mg) : Cal P w K mg base "is_tuple_of" "is_tuple_of" s_is_tuple_of 1 ["value", "many"] (SpD K q_is_tuple_of) := by
  refine calD T.d_is_tuple_of sc_is_tuple_of (fun _ _ _ _ _ _ us hl => match us, hl with | [_, _], _ => rfl) (fun ds q er h => as2_len h) fun F0 H0 ds q er h => ?_
  obtain ⟨value, many, rfl, h⟩ := as2_ h
  obtain ⟨hk, h2⟩ := h
  obtain ⟨n, rfl, hq⟩ := asInt_ h2
  refine eb_cons (es_ret (ops0 rfl) ?_)
  refine ev_and ?_
  refine ev_callB c_isTuple rfl T.m_isinstance bt_isinstance ?_
  refine ea_cons ?_
  refine ev_var (i := 0) rfl (.inl rfl) rfl ?_
  refine ea_cons ?_
  refine ev_bltn (n := "tuple") rfl T.m_tuple bt_tuple ?_
  refine ea_nil ?_
  refine ⟨rfl, by first | rfl | assumption, ?_⟩
  cases value <;> first | cases hk | skip
  case tup xs => 
    refine ev_one ?_
    refine ev_cmp g_eq ?_
    refine ev_callB c_len rfl T.m_len bt_len ?_
    refine ea_cons ?_
    refine ev_var (i := 0) rfl (.inl rfl) rfl ?_
    refine ea_nil ?_
    refine ev_var (i := 1) rfl (.inl rfl) rfl ?_
    exact hq
  all_goals exact hq
@[reducible] def q_check_number : Fd := fun ds q _ => as3 ds fun d lo hi => d.known = true ∧ isBd lo = true ∧ isBd hi = true ∧ numOk d lo hi = true ∧ q .non
theorem ok_check_number (T : Txt K mg) : Cal P w K mg base "check_number" "check_number" s_check_number 3 ["value", "low", "high"] (SpD K q_check_number) := by
  refine calD T.d_check_number sc_check_number (fun _ _ _ _ _ _ us hl => match us, hl with | [_, _, _], _ => rfl) (fun ds q er h => as3_len h) fun F0 H0 ds q er h => ?_
  obtain ⟨value, low, high, rfl, h⟩ := as3_ h
  obtain ⟨hk, hl, hh, hn, hq⟩ := h
  refine eb_cons (es_if ?_)
  refine et_not ?_
  refine et_val ?_
  refine ev_call (ok_is_number T) (Nat.le_of_ble_eq_true rfl) rfl (ops0 rfl) ?_
  refine ea_cons ?_
  refine ev_var (i := 0) rfl (.inl rfl) rfl ?_
  refine ea_cons ?_
  refine ev_var (i := 1) rfl (.inl rfl) rfl ?_
  refine ea_cons ?_
  refine ev_var (i := 2) rfl (.inl rfl) rfl ?_
  refine ea_nil ?_
  refine ⟨by first | rfl | assumption, by first | rfl | assumption, by first | rfl | assumption, ?_⟩
  refine cond_nb (fun c => ?_) (fun _ => ?_)
  · rw [hn] at c; cases c
  refine eb_nil ?_
  refine eb_nil ?_
  exact hq
def dr (a b p : Int) (x : Int) : Bool := decide ((a * x + b) % 100 < p)
structure LotP (a b p : Int) : Prop where
  a0 : 0 ≤ a
  a1 : a ≤ 99
  b0 : 0 ≤ b
  b1 : b ≤ 99
  p0 : 0 ≤ p
  p1 : p ≤ 100
@[reducible] def lotD (a b p : Int) : Da := .tup [.int a, .int b, .int p]
@[reducible] def isLot (d : Da) : Bool := match d with | .tup [a, b, p] => numOk a (.int 0) (.int 99) && numOk b (.int 0) (.int 99) && numOk p (.int 0) (.int 100) | _ => false
theorem LotP.lot {a b p : Int} (h : LotP a b p) : isLot (lotD a b p) = true := by
  show (numOk _ _ _ && numOk _ _ _ && numOk _ _ _) = true
  rw [numOk_of h.a0 h.a1, numOk_of h.b0 h.b1, numOk_of h.p0 h.p1]; rfl
@[reducible] def q_is_lot : Fd := fun ds q _ => as1 ds fun d => d.known = true ∧ (∀ xs, d = .tup xs → ∀ x ∈ xs, x.known = true) ∧ q (.bl (isLot d))
theorem ok_is_lot (T : Txt K mg) : Cal P w K mg base "is_lot" "is_lot" s_is_lot 3 ["value"] (SpD K q_is_lot) := by
  refine calD T.d_is_lot sc_is_lot (fun _ _ _ _ _ _ us hl => match us, hl with | [_], _ => rfl) (fun ds q er h => as1_len h) fun F0 H0 ds q er h => ?_
  obtain ⟨value, rfl, h⟩ := as1_ h
  obtain ⟨hk, hx, hq⟩ := h
  refine eb_cons (es_if ?_)
  refine et_w ?_
  refine ew_or ?_
  refine et_not ?_
  refine et_val ?_
  refine ev_call (ok_is_tuple_of T) (Nat.le_of_ble_eq_true rfl) rfl (ops0 rfl) ?_
  refine ea_cons ?_
  refine ev_var (i := 0) rfl (.inl rfl) rfl ?_
  refine ea_cons ?_
  refine ev_int ?_
  refine ea_nil ?_
  refine ⟨by first | rfl | assumption, ?_⟩
  refine cond_nb (fun c => ?_) (fun c => ?_)
  · refine eb_cons (es_ret (ops0 rfl) ?_)
    refine ev_bl ?_
    have e : isLot value = false := by
      cases value <;> first | rfl | skip
      rename_i xs
      match xs, c with
      | [], _ => rfl
      | [_], _ => rfl
      | [_, _], _ => rfl
      | [_, _, _], c => cases c
      | _ :: _ :: _ :: _ :: _, _ => rfl
    rw [e] at hq; exact hq
  obtain ⟨a, b, p, rfl⟩ := tup3_ c
  have ha : a.known = true := hx _ rfl a (by simp)
  have hb : b.known = true := hx _ rfl b (by simp)
  have hp : p.known = true := hx _ rfl p (by simp)
  refine ew_or ?_
  refine et_not ?_
  refine et_val ?_
  refine ev_call (ok_is_number T) (Nat.le_of_ble_eq_true rfl) rfl (ops0 rfl) ?_
  refine ea_cons ?_
  refine ev_ix ?_
  refine ev_var (i := 0) rfl (.inl rfl) rfl ?_
  refine ev_int ?_
  refine ⟨_, rfl, ?_⟩
  refine ea_cons ?_
  refine ev_int ?_
  refine ea_cons ?_
  refine ev_op g_sub ?_
  refine c_HUNDRED T rfl ?_
  refine ev_int ?_
  refine ea_nil ?_
  refine ⟨by first | rfl | assumption, by first | rfl | assumption, by first | rfl | assumption, ?_⟩
  refine cond_nb (fun c => ?_) (fun c1 => ?_)
  · refine eb_cons (es_ret (ops0 rfl) ?_)
    refine ev_bl ?_
    have e : isLot (.tup [a, b, p]) = false := by show (numOk a _ _ && _ && _) = false; rw [show numOk a (.int 0) (.int 99) = false from c]; rfl
    rw [e] at hq; exact hq
  refine ew_or1 ?_
  refine et_not ?_
  refine et_val ?_
  refine ev_call (ok_is_number T) (Nat.le_of_ble_eq_true rfl) rfl (ops0 rfl) ?_
  refine ea_cons ?_
  refine ev_ix ?_
  refine ev_var (i := 0) rfl (.inl rfl) rfl ?_
  refine ev_int ?_
  refine ⟨_, rfl, ?_⟩
  refine ea_cons ?_
  refine ev_int ?_
  refine ea_cons ?_
  refine ev_op g_sub ?_
  refine c_HUNDRED T rfl ?_
  refine ev_int ?_
  refine ea_nil ?_
  refine ⟨by first | rfl | assumption, by first | rfl | assumption, by first | rfl | assumption, ?_⟩
  refine cond_nb (fun c => ?_) (fun c2 => ?_)
  · refine eb_cons (es_ret (ops0 rfl) ?_)
    refine ev_bl ?_
    have e : isLot (.tup [a, b, p]) = false := by show (numOk a _ _ && numOk b _ _ && _) = false; rw [show numOk a (.int 0) (.int 99) = true from c1, show numOk b (.int 0) (.int 99) = false from c]; rfl
    rw [e] at hq; exact hq
  refine eb_nil ?_
  refine eb_cons (es_ret (ops0 rfl) ?_)
  refine ev_call (ok_is_number T) (Nat.le_of_ble_eq_true rfl) rfl (ops0 rfl) ?_
  refine ea_cons ?_
  refine ev_ix ?_
  refine ev_var (i := 0) rfl (.inl rfl) rfl ?_
  refine ev_int ?_
  refine ⟨_, rfl, ?_⟩
  refine ea_cons ?_
  refine ev_int ?_
  refine ea_cons ?_
  refine c_HUNDRED T rfl ?_
  refine ea_nil ?_
  refine ⟨by first | rfl | assumption, by first | rfl | assumption, by first | rfl | assumption, ?_⟩
  have e : isLot (.tup [a, b, p]) = numOk p (.int 0) (.int 100) := by show (numOk a _ _ && numOk b _ _ && _) = _; rw [show numOk a (.int 0) (.int 99) = true from c1, show numOk b (.int 0) (.int 99) = true from c2]; rfl
  rw [e] at hq; exact hq
theorem allT {a b p : Int} : ∀ xs, lotD a b p = .tup xs → ∀ x ∈ xs, x.known = true := fun xs e x hx => by
  cases e
  simp only [List.mem_cons, List.not_mem_nil, or_false] at hx
  rcases hx with rfl | rfl | rfl <;> rfl
@[reducible] def q_check_lot : Fd := fun ds q _ => as1 ds fun d => ∃ a b p, d = lotD a b p ∧ LotP a b p ∧ q .non
theorem ok_check_lot (T : Txt K mg) : Cal P w K mg base "check_lot" "check_lot" s_check_lot 4 ["value"] (SpD K q_check_lot) := by
  refine calD T.d_check_lot sc_check_lot (fun _ _ _ _ _ _ us hl => match us, hl with | [_], _ => rfl) (fun ds q er h => as1_len h) fun F0 H0 ds q er h => ?_
  obtain ⟨value, rfl, h⟩ := as1_ h
  obtain ⟨a, b, p, rfl, hl, hq⟩ := h
  refine eb_cons (es_if ?_)
  refine et_not ?_
  refine et_val ?_
  refine ev_call (ok_is_lot T) (Nat.le_of_ble_eq_true rfl) rfl (ops0 rfl) ?_
  refine ea_cons ?_
  refine ev_var (i := 0) rfl (.inl rfl) rfl ?_
  refine ea_nil ?_
  refine ⟨rfl, allT, ?_⟩
  refine cond_nb (fun c => ?_) (fun _ => ?_)
  · rw [hl.lot] at c; cases c
  refine eb_nil ?_
  refine eb_nil ?_
  exact hq
@[reducible] def q_does_draw : Fd := fun ds q _ => as2 ds fun d n => ∃ a b p, d = lotD a b p ∧ LotP a b p ∧ asInt n fun x => q (.bl (dr a b p x))
theorem ok_does_draw (T : Txt K mg) : Cal P w K mg base "does_draw" "does_draw" s_does_draw 1 ["lot", "number"] (SpD K q_does_draw) := by
  refine calD T.d_does_draw sc_does_draw (fun _ _ _ _ _ _ us hl => match us, hl with | [_, _], _ => rfl) (fun ds q er h => as2_len h) fun F0 H0 ds q er h => ?_
  obtain ⟨lot, number, rfl, h⟩ := as2_ h
  obtain ⟨a, b, p, rfl, hl, h2⟩ := h
  obtain ⟨x, rfl, hq⟩ := asInt_ h2
  have := hl.a0; have := hl.a1
  refine eb_cons (es_asg ?_)
  refine ev_var (i := 0) rfl (.inl rfl) rfl ?_
  refine eg_tup ?_
  refine egs_cons ?_
  refine eg_name (i := 2) rfl (.inl rfl) ?_
  refine egs_cons ?_
  refine eg_name (i := 3) rfl (.inl rfl) ?_
  refine egs_cons ?_
  refine eg_name (i := 4) rfl (.inl rfl) ?_
  refine egs_nil ?_
  refine eb_cons (es_ret (ops0 rfl) ?_)
  refine ev_cmp g_lt ?_
  refine ev_op g_mod ?_
  refine ev_op g_add ?_
  refine ev_op g_mul ?_
  refine ev_var (i := 2) rfl (.inl rfl) rfl ?_
  refine ev_var (i := 1) rfl (.inl rfl) rfl ?_
  refine ⟨by first | (exact .inr ⟨by decide, by decide⟩) | (exact .inl ⟨by decide, by decide⟩) | (right; constructor <;> omega) | (left; constructor <;> omega), ?_⟩
  refine ev_var (i := 3) rfl (.inl rfl) rfl ?_
  refine c_HUNDRED T rfl ?_
  refine ⟨by first | decide | omega, ?_⟩
  refine ev_var (i := 4) rfl (.inl rfl) rfl ?_
  exact hq
/-! counting -/
def cnt (f : Nat → Bool) : Nat → Int
  | 0 => 0
  | n + 1 => cnt f n + (if f n = true then 1 else 0)
theorem cnt_add {f : Nat → Bool} {m : Nat} : ∀ n, cnt f (m + n) = cnt f m + cnt (fun i => f (m + i)) n
  | 0 => by simp [cnt]
  | n + 1 => by
    show cnt f (m + n) + (if f (m + n) = true then 1 else 0) = cnt f m + (cnt (fun i => f (m + i)) n + (if f (m + n) = true then 1 else 0))
    rw [cnt_add n, Int.add_assoc]
theorem cnt_ext {f g : Nat → Bool} (h : ∀ i, f i = g i) : ∀ n, cnt f n = cnt g n
  | 0 => rfl
  | n + 1 => by unfold cnt; rw [cnt_ext h n, h n]
theorem cnt_per {f : Nat → Bool} (h : ∀ i, f (100 + i) = f i) : ∀ k r, cnt f (100 * k + r) = (k : Int) * cnt f 100 + cnt f r
  | 0, r => by simp
  | k + 1, r => by
    rw [show 100 * (k + 1) + r = 100 + (100 * k + r) by omega, cnt_add, cnt_ext h, cnt_per h k r]
    rw [show ((k + 1 : Nat) : Int) = (k : Int) + 1 by omega, Int.add_mul]; omega
theorem cnt_shift {f : Nat → Bool} (h : ∀ i, f (100 + i) = f i) : ∀ m, cnt (fun i => f (m + i)) 100 = cnt f 100
  | 0 => cnt_ext (fun i => by rw [Nat.zero_add]) 100
  | m + 1 => by
    have h1 : cnt (fun i => f (m + i)) 101 = cnt (fun i => f (m + i)) 100 + (if f (m + 100) = true then 1 else 0) := rfl
    have h2 := cnt_add (f := fun i => f (m + i)) (m := 1) 100
    have h3 : cnt (fun i => f (m + i)) 1 = (if f m = true then 1 else 0) := by show 0 + (if f (m + 0) = true then 1 else 0) = _; rw [Nat.add_zero, Int.zero_add]
    have h4 := cnt_shift h m
    have h5 : f (m + 100) = f m := by rw [Nat.add_comm]; exact h m
    have h6 : cnt (fun i => f (m + 1 + i)) 100 = cnt (fun i => f (m + (1 + i))) 100 := cnt_ext (fun i => by rw [Nat.add_assoc]) 100
    rw [h5] at h1
    rw [show 1 + 100 = 101 from rfl] at h2
    omega
theorem cnt_sum {f : Nat → Bool} : ∀ n, (((List.range n).map fun i => Da.bl (f i)).map Da.num).sum = cnt f n
  | 0 => rfl
  | n + 1 => by
    rw [List.range_succ, List.map_append, List.map_append, List.sum_append, cnt_sum n]
    show _ + ((if f n = true then 1 else 0) + 0) = _ + _
    omega
theorem cnt_filter {f : Nat → Bool} : ∀ n, (((List.range n).filter f).length : Int) = cnt f n
  | 0 => rfl
  | n + 1 => by
    rw [List.range_succ, List.filter_append, List.length_append, Int.natCast_add, cnt_filter n]
    show _ + _ = _ + _
    cases h : f n
    · rw [List.filter_cons_of_neg (by rw [h]; decide)]; rfl
    · rw [List.filter_cons_of_pos h]; rfl
theorem cnt_nn {f : Nat → Bool} : ∀ n, 0 ≤ cnt f n ∧ cnt f n ≤ n
  | 0 => ⟨Int.le_refl _, Int.le_refl _⟩
  | n + 1 => by
    have := cnt_nn (f := f) n
    unfold cnt
    split <;> omega
abbrev drN (a b p : Int) : Nat → Bool := fun i => dr a b p i
theorem dr_per {a b p : Int} (i : Nat) : drN a b p (100 + i) = drN a b p i := by
  unfold drN dr
  have e : (a * ((100 + i : Nat) : Int) + b) % 100 = (a * (i : Int) + b) % 100 := by
    rw [Int.natCast_add, Int.mul_add, show a * ((100 : Nat) : Int) = 100 * a from Int.mul_comm .., Int.add_assoc, Int.add_comm (100 * a), Int.add_mul_emod_self_left]
  rw [e]
theorem rng_bls {f : Da → Bool} {n : Nat} : (rngD 0 n).map (fun d => Da.bl (f d)) = (List.range n).map fun i : Nat => Da.bl (f (.int (i : Int))) := by
  unfold rngD; rw [List.map_map]
  exact List.map_congr_left fun i _ => by show Da.bl (f (.int (0 + i))) = _; rw [Int.zero_add]
@[reducible] def q_drawn_below : Fd := fun ds q _ => as2 ds fun d n => ∃ a b p, d = lotD a b p ∧ LotP a b p ∧ asInt n fun x => 0 ≤ x ∧ x ≤ 20000000000000 ∧ q (.int (cnt (drN a b p) x.toNat))
theorem ok_drawn_below (T : Txt K mg) : Cal P w K mg base "drawn_below" "drawn_below" s_drawn_below 2 ["lot", "number"] (SpD K q_drawn_below) := by
  refine calD T.d_drawn_below sc_drawn_below (fun _ _ _ _ _ _ us hl => match us, hl with | [_, _], _ => rfl) (fun ds q er h => as2_len h) fun F0 H0 ds q er h => ?_
  obtain ⟨lot, number, rfl, h⟩ := as2_ h
  obtain ⟨a, b, p, rfl, hl, h2⟩ := h
  obtain ⟨x, rfl, h0, h1, hq⟩ := asInt_ h2
  refine eb_cons (es_asg ?_)
  refine ev_callB c_divmod rfl T.m_divmod bt_divmod ?_
  refine ea_cons ?_
  refine ev_var (i := 1) rfl (.inl rfl) rfl ?_
  refine ea_cons ?_
  refine c_HUNDRED T rfl ?_
  refine ea_nil ?_
  refine ⟨⟨by first | decide | omega, by first | decide | omega⟩, ?_⟩
  refine eg_tup ?_
  refine egs_cons ?_
  refine eg_name (i := 2) rfl (.inl rfl) ?_
  refine egs_cons ?_
  refine eg_name (i := 3) rfl (.inl rfl) ?_
  refine egs_nil ?_
  refine eb_cons (es_lc (i := 4) (own := [("own", 5)]) rfl rfl rfl rfl rfl (blkOk_by (N := ["lot", "number", "hundreds", "rest", "each", "own"]) (sc := defScope s_drawn_below) (by decide +kernel)) (by intro i hi p I; simp only [List.map_cons, List.map_nil, List.mem_cons, List.not_mem_nil, or_false] at hi; subst hi; exact fun z => nomatch z) ?_)
  refine ei_range1 rfl T.m_range ?_
  refine c_HUNDRED T rfl ?_
  refine ⟨⟨by decide, by decide⟩, by rw [rngD_len]; decide, ?_⟩
  refine lcG_map (f := fun d => .bl (dr a b p d.num)) (fun d acc k hd hk => ?_) ?_
  · obtain ⟨i, hi, rfl⟩ := rngD_mem hd
    refine eg_name (i := 5) rfl (.inl rfl) ?_
    refine ets_nil ?_
    refine ev_call (ok_does_draw T) (Nat.le_of_ble_eq_true rfl) rfl (ops0 rfl) ?_
    refine ea_cons ?_
    refine ev_var (i := 0) rfl (.inr (.inl rfl)) rfl ?_
    refine ea_cons ?_
    refine ev_var (i := 5) rfl (.inl rfl) rfl ?_
    refine ea_nil ?_
    refine ⟨_, _, _, rfl, hl, ?_⟩
    exact hk
  rw [List.nil_append]
  refine eb_cons (es_ret (ops0 rfl) ?_)
  refine ev_op g_add ?_
  refine ev_op g_mul ?_
  refine ev_var (i := 2) rfl (.inl rfl) rfl ?_
  refine ev_callB c_sum rfl T.m_sum bt_sum ?_
  refine ea_cons ?_
  refine ev_var (i := 4) rfl (.inl rfl) rfl ?_
  refine ea_nil ?_
  have hn : ∀ {l : List Da}, (∀ d ∈ l, d ∈ List.map (fun d => Da.bl (dr a b p d.num)) (rngD 0 (Int.toNat 100))) → l.all Da.isNum = true := fun h => by
    refine List.all_eq_true.mpr fun d hd => ?_
    obtain ⟨e, _, rfl⟩ := List.mem_map.mp (h d hd)
    rfl
  refine ⟨hn fun d h => h, ?_⟩
  refine ⟨by first | (exact .inr ⟨by decide, by decide⟩) | (exact .inl ⟨by decide, by decide⟩) | (right; constructor <;> omega) | (left; constructor <;> omega), ?_⟩
  refine ev_callB c_sum rfl T.m_sum bt_sum ?_
  refine ea_cons ?_
  refine ev_slL ?_
  refine ev_var (i := 4) rfl (.inl rfl) rfl ?_
  refine eo_none ?_
  refine eo_some ?_
  refine ev_var (i := 3) rfl (.inl rfl) rfl ?_
  refine ea_nil ?_
  refine ⟨hn fun d h => mem_cut h, ?_⟩
  have hr : 0 ≤ x % 100 ∧ x % 100 < 100 := ⟨by omega, by omega⟩
  have e1 : List.map (fun d => Da.bl (dr a b p d.num)) (rngD 0 (Int.toNat 100)) = (List.range 100).map fun i => Da.bl (drN a b p i) := rng_bls
  have e2 : cutD ((List.range 100).map fun i => Da.bl (drN a b p i)) none (some (x % 100)) = (List.range (x % 100).toNat).map fun i => Da.bl (drN a b p i) := by
    rw [cut_take hr.1 (by rw [List.length_map, List.length_range]; omega), ← List.map_take, List.take_range]
    rw [Nat.min_eq_left (by omega)]
  rw [e1, e2, cnt_sum, cnt_sum]
  have e3 := cnt_per (f := drN a b p) dr_per (x / 100).toNat (x % 100).toNat
  rw [show 100 * (x / 100).toNat + (x % 100).toNat = x.toNat by omega, show (((x / 100).toNat : Nat) : Int) = x / 100 by omega] at e3
  rw [e3] at hq
  exact hq
@[reducible] def q_draws : Fd := fun ds q _ => as2 ds fun d n => ∃ a b p, d = lotD a b p ∧ LotP a b p ∧ asInt n fun x => 0 ≤ x ∧ x ≤ 10000000000000 ∧ q (.bl (dr a b p x))
theorem ok_draws (T : Txt K mg) : Cal P w K mg base "draws" "draws" s_draws 5 ["lot", "number"] (SpD K q_draws) := by
  refine calD T.d_draws sc_draws (fun _ _ _ _ _ _ us hl => match us, hl with | [_, _], _ => rfl) (fun ds q er h => as2_len h) fun F0 H0 ds q er h => ?_
  obtain ⟨lot, number, rfl, h⟩ := as2_ h
  obtain ⟨a, b, p, rfl, hl, h2⟩ := h
  obtain ⟨x, rfl, h0, h1, hq⟩ := asInt_ h2
  refine eb_cons (es_expr ?_)
  refine ev_call (ok_check_lot T) (Nat.le_of_ble_eq_true rfl) rfl (ops0 rfl) ?_
  refine ea_cons ?_
  refine ev_var (i := 0) rfl (.inl rfl) rfl ?_
  refine ea_nil ?_
  refine ⟨_, _, _, rfl, hl, ?_⟩
  refine eb_cons (es_expr ?_)
  refine ev_call (ok_check_number T) (Nat.le_of_ble_eq_true rfl) rfl (ops0 rfl) ?_
  refine ea_cons ?_
  refine ev_var (i := 1) rfl (.inl rfl) rfl ?_
  refine ea_cons ?_
  refine ev_int ?_
  refine ea_cons ?_
  refine c_MOST_AMOUNT T rfl ?_
  refine ea_nil ?_
  refine ⟨rfl, rfl, rfl, numOk_of (by omega) (by omega), ?_⟩
  refine eb_cons (es_ret (ops0 rfl) ?_)
  refine ev_call (ok_does_draw T) (Nat.le_of_ble_eq_true rfl) rfl (ops0 rfl) ?_
  refine ea_cons ?_
  refine ev_var (i := 0) rfl (.inl rfl) rfl ?_
  refine ea_cons ?_
  refine ev_var (i := 1) rfl (.inl rfl) rfl ?_
  refine ea_nil ?_
  refine ⟨_, _, _, rfl, hl, ?_⟩
  exact hq
/-- the numbers from x on -/
abbrev dS (a b p x : Int) : Nat → Bool := fun i => dr a b p (x + i)
theorem dS_per {a b p x : Int} (i : Nat) : dS a b p x (100 + i) = dS a b p x i := by
  unfold dS dr
  have e : (a * (x + ((100 + i : Nat) : Int)) + b) % 100 = (a * (x + (i : Int)) + b) % 100 := by
    rw [Int.natCast_add, show x + (((100 : Nat) : Int) + (i : Int)) = (x + i) + 100 by omega, Int.mul_add a (x + i) 100, show a * (x + i) + a * 100 + b = a * (x + i) + b + 100 * a by rw [Int.mul_comm a 100]; omega, Int.add_mul_emod_self_left]
  rw [e]
theorem dS_eq {a b p x : Int} (h : 0 ≤ x) (i : Nat) : drN a b p (x.toNat + i) = dS a b p x i := by
  unfold drN dS
  rw [show ((x.toNat + i : Nat) : Int) = x + i by omega]
theorem cnt_S {a b p x : Int} (h : 0 ≤ x) (n : Nat) : cnt (dS a b p x) n = cnt (drN a b p) (x.toNat + n) - cnt (drN a b p) x.toNat := by
  rw [cnt_add, cnt_ext (dS_eq h)]; omega
theorem cnt_100 {a b p x : Int} (h : 0 ≤ x) : cnt (dS a b p x) 100 = cnt (drN a b p) 100 := by
  rw [← cnt_ext (dS_eq h)]
  exact cnt_shift dr_per _
theorem rng_fil {a b p x : Int} {n : Nat} {P : Da → Bool} (h : ∀ i : Nat, P (.int (0 + i)) = dS a b p x i) : (((([] : List Da) ++ ((rngD 0 n).filter P).map fun d => d).length : Nat) : Int) = cnt (dS a b p x) n := by
  rw [List.nil_append, List.length_map, ← cnt_filter]
  unfold rngD
  rw [List.filter_map, List.length_map]
  congr 2
  exact List.filter_congr fun i _ => h i
theorem cnt_join {a b p x : Int} (m n : Nat) : cnt (dS a b p x) (m + n) = cnt (dS a b p x) m + cnt (dS a b p (x + m)) n := by
  rw [cnt_add]
  congr 1
  exact cnt_ext (fun i => by
    unfold dS
    rw [show x + ((m + i : Nat) : Int) = x + m + i by omega]) n
@[reducible] def q_drawn : Fd := fun ds q _ => as3 ds fun d m n => ∃ a b p, d = lotD a b p ∧ LotP a b p ∧ asInt m fun x => asInt n fun y => 0 ≤ x ∧ x ≤ y ∧ y ≤ 10000000000000 ∧ q (.int (cnt (dS a b p x) (y + 1 - x).toNat))

theorem ok_drawn (T : Txt K mg) : Cal P w K mg base "drawn" "drawn" s_drawn 5 ["lot", "first", "last"] (SpD K q_drawn) := by
  refine calD T.d_drawn sc_drawn (fun _ _ _ _ _ _ us hl => match us, hl with | [_, _, _], _ => rfl) (fun ds q er h => as3_len h) fun F0 H0 ds q er h => ?_
  obtain ⟨lot, first, last, rfl, h⟩ := as3_ h
  obtain ⟨a, b, p, rfl, hl, h2⟩ := h
  obtain ⟨x, rfl, h3⟩ := asInt_ h2
  obtain ⟨y, rfl, h0, h1, h4, hq⟩ := asInt_ h3
  refine eb_cons (es_expr ?_)
  refine ev_call (ok_check_lot T) (Nat.le_of_ble_eq_true rfl) rfl (ops0 rfl) ?_
  refine ea_cons ?_
  refine ev_var (i := 0) rfl (.inl rfl) rfl ?_
  refine ea_nil ?_
  refine ⟨_, _, _, rfl, hl, ?_⟩
  refine eb_cons (es_expr ?_)
  refine ev_call (ok_check_number T) (Nat.le_of_ble_eq_true rfl) rfl (ops0 rfl) ?_
  refine ea_cons ?_
  refine ev_var (i := 1) rfl (.inl rfl) rfl ?_
  refine ea_cons ?_
  refine ev_int ?_
  refine ea_cons ?_
  refine c_MOST_AMOUNT T rfl ?_
  refine ea_nil ?_
  refine ⟨rfl, rfl, rfl, numOk_of (by omega) (by omega), ?_⟩
  refine eb_cons (es_expr ?_)
  refine ev_call (ok_check_number T) (Nat.le_of_ble_eq_true rfl) rfl (ops0 rfl) ?_
  refine ea_cons ?_
  refine ev_var (i := 2) rfl (.inl rfl) rfl ?_
  refine ea_cons ?_
  refine ev_var (i := 1) rfl (.inl rfl) rfl ?_
  refine ea_cons ?_
  refine c_MOST_AMOUNT T rfl ?_
  refine ea_nil ?_
  refine ⟨rfl, rfl, rfl, numOk_of (by omega) (by omega), ?_⟩
  refine eb_cons (es_ret (ops0 rfl) ?_)
  refine ev_op g_sub ?_
  refine ev_call (ok_drawn_below T) (Nat.le_of_ble_eq_true rfl) rfl (ops0 rfl) ?_
  refine ea_cons ?_
  refine ev_var (i := 0) rfl (.inl rfl) rfl ?_
  refine ea_cons ?_
  refine ev_op g_add ?_
  refine ev_var (i := 2) rfl (.inl rfl) rfl ?_
  refine ev_int ?_
  refine ea_nil ?_
  refine ⟨_, _, _, rfl, hl, by omega, by omega, ?_⟩
  refine ev_call (ok_drawn_below T) (Nat.le_of_ble_eq_true rfl) rfl (ops0 rfl) ?_
  refine ea_cons ?_
  refine ev_var (i := 0) rfl (.inl rfl) rfl ?_
  refine ea_cons ?_
  refine ev_var (i := 1) rfl (.inl rfl) rfl ?_
  refine ea_nil ?_
  refine ⟨_, _, _, rfl, hl, by omega, by omega, ?_⟩
  rw [cnt_S h0, show x.toNat + (y + 1 - x).toNat = (y + 1).toNat by omega] at hq
  exact hq
/-! the law's own numbers -/
def PailOk (xs : List Da) : Prop := ∃ a b c : Int, xs = [.int a, .int b, .int c] ∧ 0 ≤ a ∧ 0 ≤ b ∧ b < 2147483489 ∧ 0 ≤ c
@[reducible] def q__law_pail : List Da → (List Da → Prop) → Er → Prop := fun ds q _ => as2 ds fun s t => ∃ ns : List Int, s = .lst (ns.map Da.int) ∧ asInt t fun i => 0 ≤ i ∧ i < 100 ∧ ∀ xs, PailOk xs → q xs
@[reducible] def q__law_deal : Fd := fun ds q _ => as1 ds fun t => asInt t fun top => 0 < top ∧ top < 18446744073709551616 ∧ ∀ r : Int, 0 ≤ r → r < top → q (.int r)
@[reducible] def q__law_any : Fd := fun ds q _ => as1 ds fun s => ∃ xs, (s = .lst xs ∨ s = .tup xs) ∧ 0 < xs.length ∧ xs.length < 1000000 ∧ ∀ d ∈ xs, q d
theorem ok__law_pail (T : Txt K mg) : Cal P w K mg base "_law_pail" "_law_pail" s__law_pail 1 ["script", "turn"] (SpN K q__law_pail) := by
  refine calN T.d__law_pail sc__law_pail (fun _ _ _ _ _ _ us hl => match us, hl with | [_, _], _ => rfl) (fun ds q er h => as2_len h) fun F0 H0 ds q er h => ?_
  obtain ⟨script, turn, rfl, h⟩ := as2_ h
  obtain ⟨ns, rfl, h2⟩ := h
  obtain ⟨i, rfl, hi, hi2, hq⟩ := asInt_ h2
  refine eb_cons (es_set (i := 2) rfl (.inl rfl) ?_)
  refine ev_op g_add ?_
  refine ev_int ?_
  refine ev_op g_mul ?_
  refine ev_int ?_
  refine ev_var (i := 1) rfl (.inl rfl) rfl ?_
  refine ⟨by first | (exact .inr ⟨by decide, by decide⟩) | (exact .inl ⟨by decide, by decide⟩) | (right; constructor <;> omega) | (left; constructor <;> omega), ?_⟩
  refine eb_cons (es_for ?_)
  refine ei_seq ?_
  refine ev_slL ?_
  refine ev_var (i := 0) rfl (.inl rfl) rfl ?_
  refine eo_none ?_
  refine eo_some ?_
  refine ev_int ?_
  refine forG_inv (fun _ Γ => ∃ (m : Int) (s : Slot), Γ = [.dat (.lst (ns.map Da.int)), .dat (.int i), .dat (.int m), s, .no] ∧ 0 ≤ m ∧ m < 2147483489) ⟨_, _, rfl, by omega, by omega⟩ ?_ ?_
  · rintro j d Γ k hd ⟨m, s, rfl, h0, h1⟩ hk
    obtain ⟨n, _, rfl⟩ := mem_ints (mem_cut (List.mem_of_getElem? hd))
    refine eg_name (i := 3) rfl (.inl rfl) ?_
    refine eb_cons (es_set (i := 2) rfl (.inl rfl) ?_)
    refine ev_op g_mod ?_
    refine ev_callTy c_int rfl T.m_int bt_int ?_
    refine ea_cons ?_
    refine ev_op g_add ?_
    refine ev_op g_add ?_
    refine ev_op g_mul ?_
    refine ev_var (i := 2) rfl (.inl rfl) rfl ?_
    refine ev_int ?_
    refine ⟨by first | (exact .inr ⟨by decide, by decide⟩) | (exact .inl ⟨by decide, by decide⟩) | (right; constructor <;> omega) | (left; constructor <;> omega), ?_⟩
    refine ev_op g_mul ?_
    refine ev_op g_mod ?_
    refine ev_callTy c_int rfl T.m_int bt_int ?_
    refine ea_cons ?_
    refine ev_var (i := 3) rfl (.inl rfl) rfl ?_
    refine ea_nil ?_
    refine ev_int ?_
    refine ⟨by first | decide | omega, ?_⟩
    refine ev_int ?_
    refine ⟨by first | (exact .inr ⟨by decide, by decide⟩) | (exact .inl ⟨by decide, by decide⟩) | (right; constructor <;> omega) | (left; constructor <;> omega), ?_⟩
    refine ev_int ?_
    refine ea_nil ?_
    refine ev_int ?_
    refine ⟨by first | decide | omega, ?_⟩
    refine eb_nil ?_
    exact hk _ ⟨_, _, rfl, by omega, by omega⟩
  rintro Γ ⟨m, s, rfl, h0, h1⟩
  refine eb_cons (es_set (i := 4) rfl (.inl rfl) ?_)
  refine ev_ifx ?_
  refine et_cmp g_lt ?_
  refine ev_var (i := 1) rfl (.inl rfl) rfl ?_
  refine ev_callB c_len rfl T.m_len bt_len ?_
  refine ea_cons ?_
  refine ev_var (i := 0) rfl (.inl rfl) rfl ?_
  refine ea_nil ?_
  refine cond_dec (fun c => ?_) (fun c => ?_)
  · refine ev_callTy c_int rfl T.m_int bt_int ?_
    refine ea_cons ?_
    refine ev_ix ?_
    refine ev_var (i := 0) rfl (.inl rfl) rfl ?_
    refine ev_var (i := 1) rfl (.inl rfl) rfl ?_
    obtain ⟨d, hd, hm⟩ := atI_mem hi c
    obtain ⟨own, _, rfl⟩ := mem_ints hm
    refine ⟨_, hd, ?_⟩
    refine ea_nil ?_
    refine eb_cons (es_set (i := 2) rfl (.inl rfl) ?_)
    refine ev_op g_mod ?_
    refine ev_callTy c_int rfl T.m_int bt_int ?_
    refine ea_cons ?_
    refine ev_op g_add ?_
    refine ev_op g_add ?_
    refine ev_op g_mul ?_
    refine ev_var (i := 2) rfl (.inl rfl) rfl ?_
    refine ev_int ?_
    refine ⟨by first | (exact .inr ⟨by decide, by decide⟩) | (exact .inl ⟨by decide, by decide⟩) | (right; constructor <;> omega) | (left; constructor <;> omega), ?_⟩
    refine ev_op g_mul ?_
    refine ev_op g_mod ?_
    refine ev_var (i := 4) rfl (.inl rfl) rfl ?_
    refine ev_int ?_
    refine ⟨by first | decide | omega, ?_⟩
    refine ev_int ?_
    refine ⟨by first | (exact .inr ⟨by decide, by decide⟩) | (exact .inl ⟨by decide, by decide⟩) | (right; constructor <;> omega) | (left; constructor <;> omega), ?_⟩
    refine ev_int ?_
    refine ea_nil ?_
    refine ev_int ?_
    refine ⟨by first | decide | omega, ?_⟩
    refine eb_cons (es_retF (ops0 rfl) ?_)
    refine en_lst ?_
    refine ea_cons ?_
    refine ev_ifx ?_
    refine et_w ?_
    refine ew_or ?_
    refine et_cmp g_lt ?_
    refine ev_var (i := 4) rfl (.inl rfl) rfl ?_
    refine ev_int ?_
    refine cond_dec (fun c1 => ?_) (fun c1 => ?_)
    · refine ev_callB c_abs rfl T.m_abs bt_abs ?_
      refine ea_cons ?_
      refine ev_var (i := 4) rfl (.inl rfl) rfl ?_
      refine ea_nil ?_
      refine ea_cons ?_
      refine ev_var (i := 2) rfl (.inl rfl) rfl ?_
      refine ea_cons ?_
      refine ev_int ?_
      refine ea_nil ⟨Nat.le_of_ble_eq_true rfl, ?_⟩
      exact hq _ ⟨_, _, _, rfl, by split <;> omega, by omega, by omega, by omega⟩
    · refine ew_or1 ?_
      refine et_cmp g_ge ?_
      refine ev_var (i := 4) rfl (.inl rfl) rfl ?_
      refine ev_pow (1000000000000000) ⟨by decide, by decide, by decide⟩ (by decide +kernel) ?_
      refine cond_dec (fun c2 => ?_) (fun c2 => ?_)
      · refine ev_callB c_abs rfl T.m_abs bt_abs ?_
        refine ea_cons ?_
        refine ev_var (i := 4) rfl (.inl rfl) rfl ?_
        refine ea_nil ?_
        refine ea_cons ?_
        refine ev_var (i := 2) rfl (.inl rfl) rfl ?_
        refine ea_cons ?_
        refine ev_int ?_
        refine ea_nil ⟨Nat.le_of_ble_eq_true rfl, ?_⟩
        exact hq _ ⟨_, _, _, rfl, by split <;> omega, by omega, by omega, by omega⟩
      · refine ev_int ?_
        refine ea_cons ?_
        refine ev_var (i := 2) rfl (.inl rfl) rfl ?_
        refine ea_cons ?_
        refine ev_int ?_
        refine ea_nil ⟨Nat.le_of_ble_eq_true rfl, ?_⟩
        exact hq _ ⟨_, _, _, rfl, by omega, by omega, by omega, by omega⟩
  · refine ev_int ?_
    refine eb_cons (es_set (i := 2) rfl (.inl rfl) ?_)
    refine ev_op g_mod ?_
    refine ev_callTy c_int rfl T.m_int bt_int ?_
    refine ea_cons ?_
    refine ev_op g_add ?_
    refine ev_op g_add ?_
    refine ev_op g_mul ?_
    refine ev_var (i := 2) rfl (.inl rfl) rfl ?_
    refine ev_int ?_
    refine ⟨by first | (exact .inr ⟨by decide, by decide⟩) | (exact .inl ⟨by decide, by decide⟩) | (right; constructor <;> omega) | (left; constructor <;> omega), ?_⟩
    refine ev_op g_mul ?_
    refine ev_op g_mod ?_
    refine ev_var (i := 4) rfl (.inl rfl) rfl ?_
    refine ev_int ?_
    refine ⟨by first | decide | omega, ?_⟩
    refine ev_int ?_
    refine ⟨by first | (exact .inr ⟨by decide, by decide⟩) | (exact .inl ⟨by decide, by decide⟩) | (right; constructor <;> omega) | (left; constructor <;> omega), ?_⟩
    refine ev_int ?_
    refine ea_nil ?_
    refine ev_int ?_
    refine ⟨by first | decide | omega, ?_⟩
    refine eb_cons (es_retF (ops0 rfl) ?_)
    refine en_lst ?_
    refine ea_cons ?_
    refine ev_ifx ?_
    refine et_w ?_
    refine ew_or ?_
    refine et_cmp g_lt ?_
    refine ev_var (i := 4) rfl (.inl rfl) rfl ?_
    refine ev_int ?_
    refine ew_or1 ?_
    refine et_cmp g_ge ?_
    refine ev_var (i := 4) rfl (.inl rfl) rfl ?_
    refine ev_pow (1000000000000000) ⟨by decide, by decide, by decide⟩ (by decide +kernel) ?_
    refine ev_int ?_
    refine ea_cons ?_
    refine ev_var (i := 2) rfl (.inl rfl) rfl ?_
    refine ea_cons ?_
    refine ev_int ?_
    refine ea_nil ⟨Nat.le_of_ble_eq_true rfl, ?_⟩
    exact hq _ ⟨_, _, _, rfl, by omega, by omega, by omega, by omega⟩
theorem ok__law_deal (T : Txt K mg) : Cal P w K mg base "_law_deal" "_law_deal" s__law_deal 1 ["pail", "top"] (SpO K PailOk q__law_deal) := by
  refine calO T.d__law_deal sc__law_deal (fun _ _ _ _ _ _ us hl => match us, hl with | [_, _], _ => rfl) (fun ds q er h => congrArg (· + 1) (as1_len h)) fun F0 H0 pa ds q er h => ?_
  obtain ⟨top, rfl, h⟩ := as1_ h
  obtain ⟨top, rfl, ht, ht2, hq⟩ := asInt_ h
  refine eb_cons (es_if ?_)
  refine et_cmp g_gt ?_
  refine ev_ixO (i := 0) rfl (.inl rfl) rfl ?_
  refine ev_int ?_
  rintro ds ⟨a, b, c, rfl, ha, hb, hb2, hc⟩
  refine ⟨_, rfl, ?_⟩
  refine ev_int ?_
  refine cond_dec (fun c1 => ?_) (fun c1 => ?_)
  · refine eb_cons (es_asg ?_)
    refine ev_callB c_divmod rfl T.m_divmod bt_divmod ?_
    refine ea_cons ?_
    refine ev_ixO (i := 0) rfl (.inl rfl) rfl ?_
    refine ev_int ?_
    rintro ds ⟨a, b, c, rfl, ha, hb, hb2, hc⟩
    refine ⟨_, rfl, ?_⟩
    refine ea_cons ?_
    refine ev_var (i := 1) rfl (.inl rfl) rfl ?_
    refine ea_nil ?_
    refine ⟨⟨by first | decide | omega, by first | decide | omega⟩, ?_⟩
    refine eg_tup ?_
    refine egs_cons ?_
    refine eg_sub (i := 0) (I' := PailOk) rfl (.inl rfl) rfl ?_
    refine ev_int ?_
    refine ⟨?_, ?_⟩
    · rintro ds ⟨a', b', c', rfl, ha', hb', hb2', hc'⟩
      exact ⟨0, rfl, a / top, b', c', rfl, Int.ediv_nonneg ha (by omega), hb', hb2', hc'⟩
    refine egs_cons ?_
    refine eg_name (i := 2) rfl (.inl rfl) ?_
    refine egs_nil ?_
    refine eb_cons (es_ret (ops1 0 rfl rfl) ?_)
    refine ev_var (i := 2) rfl (.inl rfl) rfl ?_
    exact hq _ (Int.emod_nonneg _ (by omega)) (Int.emod_lt_of_pos _ ht)
  · refine eb_nil ?_
    refine eb_cons (es_asg ?_)
    refine ev_op g_add ?_
    refine ev_ixO (i := 0) rfl (.inl rfl) rfl ?_
    refine ev_int ?_
    rintro ds ⟨a, b, c, rfl, ha, hb, hb2, hc⟩
    refine ⟨_, rfl, ?_⟩
    refine ev_int ?_
    refine eg_sub (i := 0) (I' := PailOk) rfl (.inl rfl) rfl ?_
    refine ev_int ?_
    refine ⟨?_, ?_⟩
    · rintro ds ⟨a', b', c', rfl, ha', hb', hb2', hc'⟩
      exact ⟨2, rfl, a', b', c + 1, rfl, ha', hb', hb2', by omega⟩
    refine eb_cons (es_set (i := 3) rfl (.inl rfl) ?_)
    refine ev_op g_mod ?_
    refine ev_callTy c_int rfl T.m_int bt_int ?_
    refine ea_cons ?_
    refine ev_op g_add ?_
    refine ev_op g_mul ?_
    refine ev_ixO (i := 0) rfl (.inl rfl) rfl ?_
    refine ev_int ?_
    rintro ds ⟨a1, b1, c1', rfl, ha1, hb1, hb21, hc1⟩
    refine ⟨_, rfl, ?_⟩
    refine ev_int ?_
    refine ⟨by first | (exact .inr ⟨by decide, by decide⟩) | (exact .inl ⟨by decide, by decide⟩) | (right; constructor <;> omega) | (left; constructor <;> omega), ?_⟩
    refine ev_op g_mul ?_
    refine ev_int ?_
    refine ev_ixO (i := 0) rfl (.inl rfl) rfl ?_
    refine ev_int ?_
    rintro ds ⟨a2, b2, c2, rfl, ha2, hb2', hb22, hc2⟩
    refine ⟨_, rfl, ?_⟩
    refine ⟨by first | (exact .inr ⟨by decide, by decide⟩) | (exact .inl ⟨by decide, by decide⟩) | (right; constructor <;> omega) | (left; constructor <;> omega), ?_⟩
    refine ea_nil ?_
    refine ev_int ?_
    refine ⟨by first | decide | omega, ?_⟩
    refine eb_cons (es_asg ?_)
    refine ev_op g_mod ?_
    refine ev_callTy c_int rfl T.m_int bt_int ?_
    refine ea_cons ?_
    refine ev_op g_add ?_
    refine ev_op g_mul ?_
    refine ev_var (i := 3) rfl (.inl rfl) rfl ?_
    refine ev_op g_add ?_
    refine ev_op g_mod ?_
    refine ev_callTy c_int rfl T.m_int bt_int ?_
    refine ea_cons ?_
    refine ev_var (i := 3) rfl (.inl rfl) rfl ?_
    refine ea_nil ?_
    refine ev_int ?_
    refine ⟨by first | decide | omega, ?_⟩
    refine ev_int ?_
    refine ⟨by first | (exact .inr ⟨by decide, by decide⟩) | (exact .inl ⟨by decide, by decide⟩) | (right; constructor <;> omega) | (left; constructor <;> omega), ?_⟩
    refine ev_op g_mul ?_
    refine ev_int ?_
    refine ev_ixO (i := 0) rfl (.inl rfl) rfl ?_
    refine ev_int ?_
    rintro ds ⟨a3, b3, c3, rfl, ha3, hb3, hb23, hc3⟩
    refine ⟨_, rfl, ?_⟩
    refine ⟨by first | (exact .inr ⟨by decide, by decide⟩) | (exact .inl ⟨by decide, by decide⟩) | (right; constructor <;> omega) | (left; constructor <;> omega), ?_⟩
    refine ea_nil ?_
    refine ev_int ?_
    refine ⟨by first | decide | omega, ?_⟩
    refine eg_sub (i := 0) (I' := PailOk) rfl (.inl rfl) rfl ?_
    refine ev_int ?_
    refine ⟨?_, ?_⟩
    · rintro ds ⟨a', b', c', rfl, ha', hb', hb2', hc'⟩
      exact ⟨1, rfl, a', _, c', rfl, ha', Int.emod_nonneg _ (by omega), Int.emod_lt_of_pos _ (by omega), hc'⟩
    refine eb_cons (es_ret (ops1 0 rfl rfl) ?_)
    refine ev_op g_mod ?_
    refine ev_callTy c_int rfl T.m_int bt_int ?_
    refine ea_cons ?_
    refine ev_op g_div ?_
    refine ev_ixO (i := 0) rfl (.inl rfl) rfl ?_
    refine ev_int ?_
    rintro ds ⟨a4, b4, c4, rfl, ha4, hb4, hb24, hc4⟩
    refine ⟨_, rfl, ?_⟩
    refine ev_int ?_
    refine ⟨⟨by first | decide | omega, by first | decide | omega⟩, ?_⟩
    refine ea_nil ?_
    refine ev_var (i := 1) rfl (.inl rfl) rfl ?_
    refine ⟨by first | decide | omega, ?_⟩
    exact hq _ (Int.emod_nonneg _ (by omega)) (Int.emod_lt_of_pos _ ht)
theorem ok__law_any (T : Txt K mg) : Cal P w K mg base "_law_any" "_law_any" s__law_any 2 ["pail", "some"] (SpO K PailOk q__law_any) := by
  refine calO T.d__law_any sc__law_any (fun _ _ _ _ _ _ us hl => match us, hl with | [_, _], _ => rfl) (fun ds q er h => congrArg (· + 1) (as1_len h)) fun F0 H0 pa ds q er h => ?_
  obtain ⟨some, rfl, h⟩ := as1_ h
  obtain ⟨xs, hs, h1, h2, hq⟩ := h
  rcases hs with rfl | rfl
  · refine eb_cons (es_ret (ops1 0 rfl rfl) ?_)
    refine ev_ix ?_
    refine ev_var (i := 1) rfl (.inl rfl) rfl ?_
    refine ev_callO (i := 0) (ok__law_deal T) (Nat.le_of_ble_eq_true rfl) rfl (ops1 0 rfl rfl) rfl (.inl rfl) rfl ?_
    refine ea_cons ?_
    refine ev_callB c_len rfl T.m_len bt_len ?_
    refine ea_cons ?_
    refine ev_var (i := 1) rfl (.inl rfl) rfl ?_
    refine ea_nil ?_
    refine ea_nil ?_
    refine ⟨by omega, by omega, fun r hr0 hr1 => ?_⟩
    obtain ⟨d, hd, hm⟩ := atI_mem hr0 hr1
    refine ⟨d, hd, ?_⟩
    exact hq d hm
  · refine eb_cons (es_ret (ops1 0 rfl rfl) ?_)
    refine ev_ix ?_
    refine ev_var (i := 1) rfl (.inl rfl) rfl ?_
    refine ev_callO (i := 0) (ok__law_deal T) (Nat.le_of_ble_eq_true rfl) rfl (ops1 0 rfl rfl) rfl (.inl rfl) rfl ?_
    refine ea_cons ?_
    refine ev_callB c_len rfl T.m_len bt_len ?_
    refine ea_cons ?_
    refine ev_var (i := 1) rfl (.inl rfl) rfl ?_
    refine ea_nil ?_
    refine ea_nil ?_
    refine ⟨by omega, by omega, fun r hr0 hr1 => ?_⟩
    obtain ⟨d, hd, hm⟩ := atI_mem hr0 hr1
    refine ⟨d, hd, ?_⟩
    exact hq d hm
theorem anyI {xs : List Da} {q : Da → Prop} {er : Er} (lo hi : Int) (h : allI lo hi xs) (k : ∀ x, lo ≤ x → x ≤ hi → q (.int x)) (hl : 0 < xs.length := by exact Nat.le_of_ble_eq_true rfl) (hl2 : xs.length < 1000000 := by exact Nat.le_of_ble_eq_true rfl) : q__law_any [.lst xs] q er :=
  ⟨xs, .inl rfl, hl, hl2, fun d hd => by
    obtain ⟨x, rfl, h0, h1⟩ := allI_mem h hd
    exact k x h0 h1⟩

@[reducible] def q__law_lot : Fd := fun ds q _ => as0 ds (∀ a b p, LotP a b p → q (lotD a b p))
theorem ok__law_lot (T : Txt K mg) : Cal P w K mg base "_law_lot" "_law_lot" s__law_lot 3 ["pail"] (SpO K PailOk q__law_lot) := by
  refine calO T.d__law_lot sc__law_lot (fun _ _ _ _ _ _ us hl => match us, hl with | [_], _ => rfl) (fun ds q er h => congrArg (· + 1) (as0_len h)) fun F0 H0 pa ds q er h => ?_
  obtain ⟨rfl, h⟩ := as0_ h
  refine eb_cons (es_set (i := 1) rfl (.inl rfl) ?_)
  refine ev_callO (i := 0) (ok__law_any T) (Nat.le_of_ble_eq_true rfl) rfl (ops1 0 rfl rfl) rfl (.inl rfl) rfl ?_
  refine ea_cons ?_
  refine ev_lst ?_
  refine ea_cons ?_
  refine ev_int ?_
  refine ea_cons ?_
  refine ev_int ?_
  refine ea_cons ?_
  refine ev_int ?_
  refine ea_cons ?_
  refine ev_int ?_
  refine ea_cons ?_
  refine ev_int ?_
  refine ea_cons ?_
  refine ev_int ?_
  refine ea_cons ?_
  refine ev_int ?_
  refine ea_cons ?_
  refine ev_callO (i := 0) (ok__law_deal T) (Nat.le_of_ble_eq_true rfl) rfl (ops1 0 rfl rfl) rfl (.inl rfl) rfl ?_
  refine ea_cons ?_
  refine ev_int ?_
  refine ea_nil ?_
  refine ⟨by omega, by omega, fun r hr0 hr1 => ?_⟩
  refine ea_nil ⟨Nat.le_of_ble_eq_true rfl, ?_⟩
  refine ea_nil ?_
  refine anyI 0 99 (by simp only [allI, and_true]; omega) (fun x1 h0 h1 => ?_)
  refine eb_cons (es_ret (ops1 0 rfl rfl) ?_)
  refine ev_tup ?_
  refine ea_cons ?_
  refine ev_var (i := 1) rfl (.inl rfl) rfl ?_
  refine ea_cons ?_
  refine ev_callO (i := 0) (ok__law_any T) (Nat.le_of_ble_eq_true rfl) rfl (ops1 0 rfl rfl) rfl (.inl rfl) rfl ?_
  refine ea_cons ?_
  refine ev_lst ?_
  refine ea_cons ?_
  refine ev_int ?_
  refine ea_cons ?_
  refine ev_int ?_
  refine ea_cons ?_
  refine ev_callO (i := 0) (ok__law_deal T) (Nat.le_of_ble_eq_true rfl) rfl (ops1 0 rfl rfl) rfl (.inl rfl) rfl ?_
  refine ea_cons ?_
  refine ev_int ?_
  refine ea_nil ?_
  refine ⟨by omega, by omega, fun r hr0 hr1 => ?_⟩
  refine ea_nil ⟨Nat.le_of_ble_eq_true rfl, ?_⟩
  refine ea_nil ?_
  refine anyI 0 99 (by simp only [allI, and_true]; omega) (fun x2 h2 h3 => ?_)
  refine ea_cons ?_
  refine ev_callO (i := 0) (ok__law_any T) (Nat.le_of_ble_eq_true rfl) rfl (ops1 0 rfl rfl) rfl (.inl rfl) rfl ?_
  refine ea_cons ?_
  refine ev_lst ?_
  refine ea_cons ?_
  refine ev_int ?_
  refine ea_cons ?_
  refine ev_int ?_
  refine ea_cons ?_
  refine ev_int ?_
  refine ea_cons ?_
  refine ev_int ?_
  refine ea_cons ?_
  refine ev_callO (i := 0) (ok__law_deal T) (Nat.le_of_ble_eq_true rfl) rfl (ops1 0 rfl rfl) rfl (.inl rfl) rfl ?_
  refine ea_cons ?_
  refine ev_int ?_
  refine ea_nil ?_
  refine ⟨by omega, by omega, fun r hr0 hr1 => ?_⟩
  refine ea_nil ⟨Nat.le_of_ble_eq_true rfl, ?_⟩
  refine ea_nil ?_
  refine anyI 0 100 (by simp only [allI, and_true]; omega) (fun x3 h4 h5 => ?_)
  refine ea_nil ⟨Nat.le_of_ble_eq_true rfl, ?_⟩
  exact h _ _ _ ⟨h0, h1, h2, h3, h4, h5⟩
@[reducible] def q__law_draws : Fd := fun ds q _ => as2 ds fun d n => ∃ a b p, d = lotD a b p ∧ LotP a b p ∧ asInt n fun x => q (.bl (dr a b p x))
theorem ok__law_draws (T : Txt K mg) : Cal P w K mg base "_law_draws" "_law_draws" s__law_draws 1 ["lot", "number"] (SpD K q__law_draws) := by
  refine calD T.d__law_draws sc__law_draws (fun _ _ _ _ _ _ us hl => match us, hl with | [_, _], _ => rfl) (fun ds q er h => as2_len h) fun F0 H0 ds q er h => ?_
  obtain ⟨lot, number, rfl, h⟩ := as2_ h
  obtain ⟨a, b, p, rfl, hl, h2⟩ := h
  obtain ⟨x, rfl, hq⟩ := asInt_ h2
  have := hl.a0; have := hl.a1
  refine eb_cons (es_ret (ops0 rfl) ?_)
  refine ev_cmp g_lt ?_
  refine ev_op g_mod ?_
  refine ev_callTy c_int rfl T.m_int bt_int ?_
  refine ea_cons ?_
  refine ev_op g_add ?_
  refine ev_op g_mul ?_
  refine ev_ix ?_
  refine ev_var (i := 0) rfl (.inl rfl) rfl ?_
  refine ev_int ?_
  refine ⟨_, rfl, ?_⟩
  refine ev_var (i := 1) rfl (.inl rfl) rfl ?_
  refine ⟨by first | (exact .inr ⟨by decide, by decide⟩) | (exact .inl ⟨by decide, by decide⟩) | (right; constructor <;> omega) | (left; constructor <;> omega), ?_⟩
  refine ev_ix ?_
  refine ev_var (i := 0) rfl (.inl rfl) rfl ?_
  refine ev_int ?_
  refine ⟨_, rfl, ?_⟩
  refine ea_nil ?_
  refine ev_int ?_
  refine ⟨by first | decide | omega, ?_⟩
  refine ev_ix ?_
  refine ev_var (i := 0) rfl (.inl rfl) rfl ?_
  refine ev_int ?_
  refine ⟨_, rfl, ?_⟩
  exact hq
@[reducible] def q__law_many : Fd := fun ds q _ => as3 ds fun d m n => ∃ a b p, d = lotD a b p ∧ LotP a b p ∧ asInt m fun x => asInt n fun y => 0 ≤ x ∧ x ≤ y ∧ y ≤ 1000000000000000 ∧ q (.int (cnt (dS a b p x) (y + 1 - x).toNat))
theorem ok__law_many (T : Txt K mg) : Cal P w K mg base "_law_many" "_law_many" s__law_many 2 ["lot", "first", "last"] (SpD K q__law_many) := by
  refine calD T.d__law_many sc__law_many (fun _ _ _ _ _ _ us hl => match us, hl with | [_, _, _], _ => rfl) (fun ds q er h => as3_len h) fun F0 H0 ds q er h => ?_
  obtain ⟨lot, first, last, rfl, h⟩ := as3_ h
  obtain ⟨a, b, p, rfl, hl, h2⟩ := h
  obtain ⟨x, rfl, h3⟩ := asInt_ h2
  obtain ⟨y, rfl, h0, h1, h4, hq⟩ := asInt_ h3
  refine eb_cons (es_asg ?_)
  refine ev_callB c_divmod rfl T.m_divmod bt_divmod ?_
  refine ea_cons ?_
  refine ev_op g_add ?_
  refine ev_op g_sub ?_
  refine ev_var (i := 2) rfl (.inl rfl) rfl ?_
  refine ev_var (i := 1) rfl (.inr (.inl rfl)) rfl ?_
  refine ev_int ?_
  refine ea_cons ?_
  refine ev_int ?_
  refine ea_nil ?_
  refine ⟨⟨by first | decide | omega, by first | decide | omega⟩, ?_⟩
  refine eg_tup ?_
  refine egs_cons ?_
  refine eg_name (i := 3) rfl (.inl rfl) ?_
  refine egs_cons ?_
  refine eg_name (i := 4) rfl (.inl rfl) ?_
  refine egs_nil ?_
  refine eb_cons (es_set (i := 5) rfl (.inl rfl) ?_)
  refine ev_callB c_len rfl T.m_len bt_len ?_
  refine ea_cons ?_
  refine ev_lc (own := [("number", 6)]) (blkOk_by (N := ["lot", "first", "last", "hundreds", "left", "whole", "number", "k"]) (sc := defScope s__law_many) (by decide +kernel)) (by intro i hi p I; simp only [List.map_cons, List.map_nil, List.mem_cons, List.not_mem_nil, or_false] at hi; subst hi; exact fun z => nomatch z) ?_
  refine ei_range1 rfl T.m_range ?_
  refine ev_int ?_
  refine ⟨⟨by decide, by decide⟩, by rw [rngD_len]; decide, ?_⟩
  refine lcG_fil (p := fun d => dr a b p d.num) (f := fun d => d) (fun d acc k hd hk1 hk2 => ?_) ?_
  · obtain ⟨i, hi, rfl⟩ := rngD_mem hd
    refine eg_name (i := 6) rfl (.inl rfl) ?_
    refine ets_one ?_
    refine et_val ?_
    refine ev_call (ok__law_draws T) (Nat.le_of_ble_eq_true rfl) rfl (ops0 rfl) ?_
    refine ea_cons ?_
    refine ev_var (i := 0) rfl (.inr (.inl rfl)) rfl ?_
    refine ea_cons ?_
    refine ev_var (i := 6) rfl (.inl rfl) rfl ?_
    refine ea_nil ?_
    refine ⟨_, _, _, rfl, hl, ?_⟩
    refine cond_b (fun c => ?_) (fun c => ?_)
    · refine ev_var (i := 6) rfl (.inl rfl) rfl ?_
      exact hk1 c
    · exact hk2 c
  refine ea_nil ?_
  refine eb_cons (es_ret (ops0 rfl) ?_)
  refine ev_op g_add ?_
  refine ev_op g_mul ?_
  refine ev_var (i := 3) rfl (.inl rfl) rfl ?_
  refine ev_var (i := 5) rfl (.inl rfl) rfl ?_
  refine ⟨by first | (exact .inr ⟨by decide, by decide⟩) | (exact .inl ⟨by decide, by decide⟩) | (right; constructor <;> omega) | (left; constructor <;> omega), ?_⟩
  refine ev_callB c_len rfl T.m_len bt_len ?_
  refine ea_cons ?_
  refine ev_lc (own := [("k", 7)]) (blkOk_by (N := ["lot", "first", "last", "hundreds", "left", "whole", "number", "k"]) (sc := defScope s__law_many) (by decide +kernel)) (by intro i hi p I; simp only [List.map_cons, List.map_nil, List.mem_cons, List.not_mem_nil, or_false] at hi; subst hi; exact fun z => nomatch z) ?_
  refine ei_range1 rfl T.m_range ?_
  refine ev_var (i := 4) rfl (.inl rfl) rfl ?_
  have hr : 0 ≤ (y - x + 1) % 100 ∧ (y - x + 1) % 100 < 100 := ⟨by omega, by omega⟩
  refine ⟨⟨by omega, by omega⟩, by rw [rngD_len]; omega, ?_⟩
  refine lcG_fil (p := fun d => dr a b p (x + d.num)) (f := fun d => d) (fun d acc k hd hk1 hk2 => ?_) ?_
  · obtain ⟨i, hi, rfl⟩ := rngD_mem hd
    refine eg_name (i := 7) rfl (.inl rfl) ?_
    refine ets_one ?_
    refine et_val ?_
    refine ev_call (ok__law_draws T) (Nat.le_of_ble_eq_true rfl) rfl (ops0 rfl) ?_
    refine ea_cons ?_
    refine ev_var (i := 0) rfl (.inr (.inl rfl)) rfl ?_
    refine ea_cons ?_
    refine ev_op g_add ?_
    refine ev_var (i := 1) rfl (.inr (.inl rfl)) rfl ?_
    refine ev_var (i := 7) rfl (.inl rfl) rfl ?_
    refine ea_nil ?_
    refine ⟨_, _, _, rfl, hl, ?_⟩
    refine cond_b (fun c => ?_) (fun c => ?_)
    · refine ev_var (i := 7) rfl (.inl rfl) rfl ?_
      exact hk1 c
    · exact hk2 c
  refine ea_nil ?_
  rw [rng_fil (a := a) (b := b) (p := p) (x := 0) (fun i => rfl)]
  have e := cnt_per (f := dS a b p x) dS_per ((y - x + 1) / 100).toNat ((y - x + 1) % 100).toNat
  rw [show 100 * ((y - x + 1) / 100).toNat + ((y - x + 1) % 100).toNat = (y + 1 - x).toNat by omega, show ((((y - x + 1) / 100).toNat : Nat) : Int) = (y - x + 1) / 100 by omega, cnt_100 h0, ← cnt_100 (Int.le_refl 0)] at e
  rw [e, ← rng_fil (x := x) (n := ((y - x + 1) % 100).toNat) (P := fun d => dr a b p (x + d.num)) (fun i => by show dr a b p (x + (0 + i)) = dr a b p (x + i); rw [Int.zero_add])] at hq
  exact hq
@[reducible] def q__law_right : Fd := fun ds q _ => as0 ds (q (.bl true))
theorem ok__law_right (T : Txt K mg) : Cal P w K mg base "_law_right" "_law_right" s__law_right 6 ["pail"] (SpO K PailOk q__law_right) := by
  refine calO T.d__law_right sc__law_right (fun _ _ _ _ _ _ us hl => match us, hl with | [_], _ => rfl) (fun ds q er h => congrArg (· + 1) (as0_len h)) fun F0 H0 pa ds q er h => ?_
  obtain ⟨rfl, h⟩ := as0_ h
  refine eb_cons (es_for ?_)
  refine ei_range1 rfl T.m_range ?_
  refine ev_int ?_
  refine ⟨⟨by decide, by decide⟩, ?_⟩
  refine forG_inv (fun _ Γ => ∃ s1 s2 s3 s4 s5 s6 s7 s9 s10, Γ = [.inv pa PailOk, s1, s2, s3, s4, s5, s6, s7, .no, s9, s10]) ⟨_, _, _, _, _, _, _, _, _, rfl⟩ ?_ ?_
  · rintro j d Γ k hd ⟨s1, s2, s3, s4, s5, s6, s7, s9, s10, rfl⟩ hk
    refine eg_name (i := 1) rfl (.inl rfl) ?_
    refine eb_cons (es_asg ?_ (hw := fun env h => by cases env; cases h; rfl))
    refine ev_tup ?_
    refine ea_cons ?_
    refine ev_callO (i := 0) (ok__law_lot T) (Nat.le_of_ble_eq_true rfl) rfl (ops1 0 rfl rfl) rfl (.inl rfl) rfl ?_
    refine ea_nil ?_
    intro a b p hl
    refine ea_cons ?_
    refine ev_int ?_
    refine ea_nil ⟨Nat.le_of_ble_eq_true rfl, ?_⟩
    refine eg_tup ?_
    refine egs_cons ?_
    refine eg_name (i := 2) rfl (.inr rfl) ?_
    refine egs_cons ?_
    refine eg_name (i := 3) rfl (.inl rfl) ?_
    refine egs_nil ?_
    refine eb_cons (es_for ?_)
    refine ei_seq ?_
    refine ev_lst ?_
    refine ea_cons ?_
    refine ev_int ?_
    refine ea_cons ?_
    refine ev_int ?_
    refine ea_cons ?_
    refine ev_int ?_
    refine ea_cons ?_
    refine ev_int ?_
    refine ea_cons ?_
    refine ev_pow (10000000000000) ⟨by decide, by decide, by decide⟩ (by decide +kernel) ?_
    refine ea_cons ?_
    refine ev_callO (i := 0) (ok__law_deal T) (Nat.le_of_ble_eq_true rfl) rfl (ops1 0 rfl rfl) rfl (.inl rfl) rfl ?_
    refine ea_cons ?_
    refine ev_int ?_
    refine ea_nil ?_
    refine ⟨by omega, by omega, fun r hr0 hr1 => ?_⟩
    refine ea_cons ?_
    refine ev_callO (i := 0) (ok__law_deal T) (Nat.le_of_ble_eq_true rfl) rfl (ops1 0 rfl rfl) rfl (.inl rfl) rfl ?_
    refine ea_cons ?_
    refine ev_pow (1000000000) ⟨by decide, by decide, by decide⟩ (by decide +kernel) ?_
    refine ea_nil ?_
    refine ⟨by omega, by omega, fun r hr0 hr1 => ?_⟩
    refine ea_nil ⟨Nat.le_of_ble_eq_true rfl, ?_⟩
    refine forG_inv (fun _ Γ => ∃ s4 s5, Γ = [.inv pa PailOk, .dat d, .dat (lotD a b p), .dat (.int 0), s4, s5, s6, s7, .no, s9, s10]) ⟨_, _, rfl⟩ ?_ ?_
    · rintro j d2 Γ k hd2 ⟨s4, s5, rfl⟩ hk2
      obtain ⟨n, rfl, hn0, hn1⟩ := allI_mem (lo := 0) (hi := 10000000000000) (by simp only [allI, and_true]; omega) (List.mem_of_getElem? hd2)
      refine eg_name (i := 4) rfl (.inl rfl) ?_
      refine eb_cons (es_set (i := 5) rfl (.inl rfl) ?_)
      refine ev_call (ok__law_draws T) (Nat.le_of_ble_eq_true rfl) rfl (ops1 0 rfl rfl) ?_
      refine ea_cons ?_
      refine ev_var (i := 2) rfl (.inr (.inl rfl)) rfl ?_
      refine ea_cons ?_
      refine ev_var (i := 4) rfl (.inl rfl) rfl ?_
      refine ea_nil ?_
      refine ⟨_, _, _, rfl, hl, ?_⟩
      refine eb_cons (es_if ?_)
      refine et_cmp g_ne ?_
      refine ev_callB c_repr rfl T.m_repr bt_repr ?_
      refine ea_cons ?_
      refine ev_lst ?_
      refine ea_cons ?_
      refine ev_call (ok_draws T) (Nat.le_of_ble_eq_true rfl) rfl (ops1 0 rfl rfl) ?_
      refine ea_cons ?_
      refine ev_var (i := 2) rfl (.inr (.inl rfl)) rfl ?_
      refine ea_cons ?_
      refine ev_var (i := 4) rfl (.inl rfl) rfl ?_
      refine ea_nil ?_
      refine ⟨_, _, _, rfl, hl, hn0, hn1, ?_⟩
      refine ea_cons ?_
      refine ev_callK0 (pm := [1, 0]) (ks := ["number", "lot"]) (ok_draws T) (fun _ _ _ _ _ _ us ws h1 h2 => match us, ws, h1, h2 with | [], [_, _], _, _ => rfl) (Nat.le_of_ble_eq_true rfl) rfl (ops1 0 rfl rfl) ?_
      refine ek_cons ?_
      refine ev_var (i := 4) rfl (.inl rfl) rfl ?_
      refine ek_cons ?_
      refine ev_var (i := 2) rfl (.inr (.inl rfl)) rfl ?_
      refine ek_nil ?_
      refine ⟨rfl, ?_⟩
      refine ⟨_, _, _, rfl, hl, hn0, hn1, ?_⟩
      refine ea_nil ⟨Nat.le_of_ble_eq_true rfl, ?_⟩
      refine ea_nil ?_
      refine ⟨shw_of (by simp only [Da.okS, Da.okSs, and_true, true_and]; try omega) (Nat.le_of_ble_eq_true rfl) (Nat.le_of_ble_eq_true rfl), ?_⟩
      refine ev_callB c_repr rfl T.m_repr bt_repr ?_
      refine ea_cons ?_
      refine ev_lst ?_
      refine ea_cons ?_
      refine ev_var (i := 5) rfl (.inl rfl) rfl ?_
      refine ea_cons ?_
      refine ev_var (i := 5) rfl (.inl rfl) rfl ?_
      refine ea_nil ⟨Nat.le_of_ble_eq_true rfl, ?_⟩
      refine ea_nil ?_
      refine ⟨shw_of (by simp only [Da.okS, Da.okSs, and_true, true_and]; try omega) (Nat.le_of_ble_eq_true rfl) (Nat.le_of_ble_eq_true rfl), ?_⟩
      refine cond_ndec (fun c => absurd rfl c) (fun _ => ?_)
      refine eb_nil ?_
      refine eb_nil ?_
      exact hk2 _ ⟨_, _, rfl⟩
    rintro Γ ⟨s4, s5, rfl⟩
    refine eb_cons (es_set (i := 6) rfl (.inr rfl) ?_)
    refine ev_callO (i := 0) (ok__law_any T) (Nat.le_of_ble_eq_true rfl) rfl (ops1 0 rfl rfl) rfl (.inl rfl) rfl ?_
    refine ea_cons ?_
    refine ev_lst ?_
    refine ea_cons ?_
    refine ev_int ?_
    refine ea_cons ?_
    refine ev_callO (i := 0) (ok__law_deal T) (Nat.le_of_ble_eq_true rfl) rfl (ops1 0 rfl rfl) rfl (.inl rfl) rfl ?_
    refine ea_cons ?_
    refine ev_int ?_
    refine ea_nil ?_
    refine ⟨by omega, by omega, fun r hr0 hr1 => ?_⟩
    refine ea_cons ?_
    refine ev_callO (i := 0) (ok__law_deal T) (Nat.le_of_ble_eq_true rfl) rfl (ops1 0 rfl rfl) rfl (.inl rfl) rfl ?_
    refine ea_cons ?_
    refine ev_pow (1000000000) ⟨by decide, by decide, by decide⟩ (by decide +kernel) ?_
    refine ea_nil ?_
    refine ⟨by omega, by omega, fun r hr0 hr1 => ?_⟩
    refine ea_nil ⟨Nat.le_of_ble_eq_true rfl, ?_⟩
    refine ea_nil ?_
    refine anyI 0 1000000000 (by simp only [allI, and_true]; omega) (fun x hx0 hx1 => ?_)
    refine eb_cons (es_set (i := 7) rfl (.inl rfl) ?_)
    refine ev_op g_add ?_
    refine ev_var (i := 6) rfl (.inr (.inl rfl)) rfl ?_
    refine ev_callO (i := 0) (ok__law_any T) (Nat.le_of_ble_eq_true rfl) rfl (ops1 0 rfl rfl) rfl (.inl rfl) rfl ?_
    refine ea_cons ?_
    refine ev_lst ?_
    refine ea_cons ?_
    refine ev_int ?_
    refine ea_cons ?_
    refine ev_int ?_
    refine ea_cons ?_
    refine ev_int ?_
    refine ea_cons ?_
    refine ev_callO (i := 0) (ok__law_deal T) (Nat.le_of_ble_eq_true rfl) rfl (ops1 0 rfl rfl) rfl (.inl rfl) rfl ?_
    refine ea_cons ?_
    refine ev_int ?_
    refine ea_nil ?_
    refine ⟨by omega, by omega, fun r hr0 hr1 => ?_⟩
    refine ea_nil ⟨Nat.le_of_ble_eq_true rfl, ?_⟩
    refine ea_nil ?_
    refine anyI 0 400 (by simp only [allI, and_true]; omega) (fun y hy0 hy1 => ?_)
    refine eb_cons (es_set (i := 5) rfl (.inl rfl) ?_)
    refine ev_callB c_len rfl T.m_len bt_len ?_
    refine ea_cons ?_
    refine ev_lc (own := [("k", 8)]) (blkOk_by (N := ["pail", "lap", "lot", "many", "number", "due", "first", "last", "k", "end", "told"]) (sc := defScope s__law_right) (by decide +kernel)) (by intro i hi p I; simp only [List.map_cons, List.map_nil, List.mem_cons, List.not_mem_nil, or_false] at hi; subst hi; exact fun z => nomatch z) ?_
    refine ei_range1 rfl T.m_range ?_
    refine ev_op g_add ?_
    refine ev_op g_sub ?_
    refine ev_var (i := 7) rfl (.inl rfl) rfl ?_
    refine ev_var (i := 6) rfl (.inr (.inl rfl)) rfl ?_
    refine ev_int ?_
    refine ⟨⟨by omega, by omega⟩, by rw [rngD_len]; omega, ?_⟩
    refine lcG_fil (p := fun d => dr a b p (x + d.num)) (f := fun d => d) (fun d acc k hd hk1 hk2 => ?_) ?_
    · obtain ⟨i, hi, rfl⟩ := rngD_mem hd
      refine eg_name (i := 8) rfl (.inl rfl) ?_
      refine ets_one ?_
      refine et_val ?_
      refine ev_call (ok__law_draws T) (Nat.le_of_ble_eq_true rfl) rfl (ops1 0 rfl rfl) ?_
      refine ea_cons ?_
      refine ev_var (i := 2) rfl (.inr (.inl rfl)) rfl ?_
      refine ea_cons ?_
      refine ev_op g_add ?_
      refine ev_var (i := 6) rfl (.inr (.inl rfl)) rfl ?_
      refine ev_var (i := 8) rfl (.inl rfl) rfl ?_
      refine ea_nil ?_
      refine ⟨_, _, _, rfl, hl, ?_⟩
      refine cond_b (fun c => ?_) (fun c => ?_)
      · refine ev_var (i := 8) rfl (.inl rfl) rfl ?_
        exact hk1 c
      · exact hk2 c
    refine ea_nil ?_
    refine eb_cons (es_if ?_)
    refine et_cmp g_ne ?_
    refine ev_callB c_repr rfl T.m_repr bt_repr ?_
    refine ea_cons ?_
    refine ev_lst ?_
    refine ea_cons ?_
    refine ev_call (ok_drawn T) (Nat.le_of_ble_eq_true rfl) rfl (ops1 0 rfl rfl) ?_
    refine ea_cons ?_
    refine ev_var (i := 2) rfl (.inr (.inl rfl)) rfl ?_
    refine ea_cons ?_
    refine ev_var (i := 6) rfl (.inr (.inl rfl)) rfl ?_
    refine ea_cons ?_
    refine ev_var (i := 7) rfl (.inl rfl) rfl ?_
    refine ea_nil ?_
    rw [rng_fil (a := a) (b := b) (p := p) (x := x) (P := fun d => dr a b p (x + d.num)) (fun i => by show dr a b p (x + (0 + i)) = dr a b p (x + i); rw [Int.zero_add]), show (x + y - x + 1).toNat = (x + y + 1 - x).toNat by omega]
    have hc1 := cnt_nn (f := dS a b p x) (x + y + 1 - x).toNat
    refine ⟨_, _, _, rfl, hl, by omega, by omega, by omega, ?_⟩
    refine ea_cons ?_
    refine ev_callK0 (pm := [2, 1, 0]) (ks := ["last", "first", "lot"]) (ok_drawn T) (fun _ _ _ _ _ _ us ws h1 h2 => match us, ws, h1, h2 with | [], [_, _, _], _, _ => rfl) (Nat.le_of_ble_eq_true rfl) rfl (ops1 0 rfl rfl) ?_
    refine ek_cons ?_
    refine ev_var (i := 7) rfl (.inl rfl) rfl ?_
    refine ek_cons ?_
    refine ev_var (i := 6) rfl (.inr (.inl rfl)) rfl ?_
    refine ek_cons ?_
    refine ev_var (i := 2) rfl (.inr (.inl rfl)) rfl ?_
    refine ek_nil ?_
    refine ⟨rfl, ?_⟩
    refine ⟨_, _, _, rfl, hl, by omega, by omega, by omega, ?_⟩
    refine ea_nil ⟨Nat.le_of_ble_eq_true rfl, ?_⟩
    refine ea_nil ?_
    refine ⟨shw_of (by simp only [Da.okS, Da.okSs, and_true, true_and]; try omega) (Nat.le_of_ble_eq_true rfl) (Nat.le_of_ble_eq_true rfl), ?_⟩
    refine ev_callB c_repr rfl T.m_repr bt_repr ?_
    refine ea_cons ?_
    refine ev_lst ?_
    refine ea_cons ?_
    refine ev_var (i := 5) rfl (.inl rfl) rfl ?_
    refine ea_cons ?_
    refine ev_var (i := 5) rfl (.inl rfl) rfl ?_
    refine ea_nil ⟨Nat.le_of_ble_eq_true rfl, ?_⟩
    refine ea_nil ?_
    refine ⟨shw_of (by simp only [Da.okS, Da.okSs, and_true, true_and]; try omega) (Nat.le_of_ble_eq_true rfl) (Nat.le_of_ble_eq_true rfl), ?_⟩
    refine cond_ndec (fun c => absurd rfl c) (fun _ => ?_)
    refine eb_nil ?_
    refine eb_cons (es_set (i := 9) rfl (.inl rfl) ?_)
    refine ev_op g_add ?_
    refine ev_op g_add ?_
    refine ev_var (i := 7) rfl (.inl rfl) rfl ?_
    refine ev_int ?_
    refine ev_callO (i := 0) (ok__law_any T) (Nat.le_of_ble_eq_true rfl) rfl (ops1 0 rfl rfl) rfl (.inl rfl) rfl ?_
    refine ea_cons ?_
    refine ev_lst ?_
    refine ea_cons ?_
    refine ev_int ?_
    refine ea_cons ?_
    refine ev_callO (i := 0) (ok__law_deal T) (Nat.le_of_ble_eq_true rfl) rfl (ops1 0 rfl rfl) rfl (.inl rfl) rfl ?_
    refine ea_cons ?_
    refine ev_int ?_
    refine ea_nil ?_
    refine ⟨by omega, by omega, fun r hr0 hr1 => ?_⟩
    refine ea_cons ?_
    refine ev_callO (i := 0) (ok__law_deal T) (Nat.le_of_ble_eq_true rfl) rfl (ops1 0 rfl rfl) rfl (.inl rfl) rfl ?_
    refine ea_cons ?_
    refine ev_pow (1000000000) ⟨by decide, by decide, by decide⟩ (by decide +kernel) ?_
    refine ea_nil ?_
    refine ⟨by omega, by omega, fun r hr0 hr1 => ?_⟩
    refine ea_cons ?_
    refine ev_pow (1000000000000) ⟨by decide, by decide, by decide⟩ (by decide +kernel) ?_
    refine ea_nil ⟨Nat.le_of_ble_eq_true rfl, ?_⟩
    refine ea_nil ?_
    refine anyI 0 1000000000000 (by simp only [allI, and_true]; omega) (fun z hz0 hz1 => ?_)
    refine eb_cons (es_set (i := 10) rfl (.inl rfl) ?_)
    refine ev_lst ?_
    refine ea_cons ?_
    refine ev_call (ok_drawn T) (Nat.le_of_ble_eq_true rfl) rfl (ops1 0 rfl rfl) ?_
    refine ea_cons ?_
    refine ev_var (i := 2) rfl (.inr (.inl rfl)) rfl ?_
    refine ea_cons ?_
    refine ev_op g_add ?_
    refine ev_var (i := 7) rfl (.inl rfl) rfl ?_
    refine ev_int ?_
    refine ea_cons ?_
    refine ev_var (i := 9) rfl (.inl rfl) rfl ?_
    refine ea_nil ?_
    have hc2 := cnt_nn (f := dS a b p (x + y + 1)) (x + y + 1 + z + 1 - (x + y + 1)).toNat
    have hc3 := cnt_nn (f := dS a b p x) (x + y + 1 + z + 1 - x).toNat
    refine ⟨_, _, _, rfl, hl, by omega, by omega, by omega, ?_⟩
    refine ea_cons ?_
    refine ev_call (ok_drawn T) (Nat.le_of_ble_eq_true rfl) rfl (ops1 0 rfl rfl) ?_
    refine ea_cons ?_
    refine ev_var (i := 2) rfl (.inr (.inl rfl)) rfl ?_
    refine ea_cons ?_
    refine ev_var (i := 6) rfl (.inr (.inl rfl)) rfl ?_
    refine ea_cons ?_
    refine ev_var (i := 9) rfl (.inl rfl) rfl ?_
    refine ea_nil ?_
    refine ⟨_, _, _, rfl, hl, by omega, by omega, by omega, ?_⟩
    refine ea_nil ⟨Nat.le_of_ble_eq_true rfl, ?_⟩
    refine eb_cons (es_if ?_)
    refine et_cmp g_ne ?_
    refine ev_callB c_repr rfl T.m_repr bt_repr ?_
    refine ea_cons ?_
    refine ev_var (i := 10) rfl (.inl rfl) rfl ?_
    refine ea_nil ?_
    refine ⟨shw_of (by simp only [Da.okS, Da.okSs, and_true, true_and]; try omega) (Nat.le_of_ble_eq_true rfl) (Nat.le_of_ble_eq_true rfl), ?_⟩
    refine ev_callB c_repr rfl T.m_repr bt_repr ?_
    refine ea_cons ?_
    refine ev_lst ?_
    refine ea_cons ?_
    refine ev_call (ok__law_many T) (Nat.le_of_ble_eq_true rfl) rfl (ops1 0 rfl rfl) ?_
    refine ea_cons ?_
    refine ev_var (i := 2) rfl (.inr (.inl rfl)) rfl ?_
    refine ea_cons ?_
    refine ev_op g_add ?_
    refine ev_var (i := 7) rfl (.inl rfl) rfl ?_
    refine ev_int ?_
    refine ea_cons ?_
    refine ev_var (i := 9) rfl (.inl rfl) rfl ?_
    refine ea_nil ?_
    refine ⟨_, _, _, rfl, hl, by omega, by omega, by omega, ?_⟩
    refine ea_cons ?_
    refine ev_op g_add ?_
    refine ev_var (i := 5) rfl (.inl rfl) rfl ?_
    refine ev_call (ok__law_many T) (Nat.le_of_ble_eq_true rfl) rfl (ops1 0 rfl rfl) ?_
    refine ea_cons ?_
    refine ev_var (i := 2) rfl (.inr (.inl rfl)) rfl ?_
    refine ea_cons ?_
    refine ev_op g_add ?_
    refine ev_var (i := 7) rfl (.inl rfl) rfl ?_
    refine ev_int ?_
    refine ea_cons ?_
    refine ev_var (i := 9) rfl (.inl rfl) rfl ?_
    refine ea_nil ?_
    refine ⟨_, _, _, rfl, hl, by omega, by omega, by omega, ?_⟩
    refine ea_nil ⟨Nat.le_of_ble_eq_true rfl, ?_⟩
    refine ea_nil ?_
    refine ⟨shw_of (by simp only [Da.okS, Da.okSs, and_true, true_and]; try omega) (Nat.le_of_ble_eq_true rfl) (Nat.le_of_ble_eq_true rfl), ?_⟩
    have e := cnt_join (a := a) (b := b) (p := p) (x := x) (x + y + 1 - x).toNat (x + y + 1 + z + 1 - (x + y + 1)).toNat
    rw [show (x + y + 1 - x).toNat + (x + y + 1 + z + 1 - (x + y + 1)).toNat = (x + y + 1 + z + 1 - x).toNat by omega, show x + ((x + y + 1 - x).toNat : Int) = x + y + 1 by omega] at e
    rw [e]
    refine cond_ndec (fun c => absurd rfl c) (fun _ => ?_)
    refine eb_nil ?_
    refine eb_nil ?_
    exact hk _ ⟨_, _, _, _, _, _, _, _, _, rfl⟩
  rintro Γ ⟨s1, s2, s3, s4, s5, s6, s7, s9, s10, rfl⟩
  refine eb_cons (es_ret (ops1 0 rfl rfl) ?_)
  refine ev_bl ?_
  exact h
@[reducible] def q_law : Fd := fun ds q _ => as1 ds fun s => ∃ ns : List Int, s = .lst (ns.map Da.int) ∧ ns.length ≤ 63 ∧ q (.bl true)
theorem all_t (ds : List Da) : ([] : List Da) ++ ds.map (fun _ => Da.bl true) = (ds.map fun _ => true).map Da.bl ∧ (ds.map fun _ => true).all id = true := by
  refine ⟨by rw [List.nil_append, List.map_map]; rfl, List.all_eq_true.mpr fun b hb => ?_⟩
  obtain ⟨_, _, rfl⟩ := List.mem_map.mp hb
  rfl
theorem ok_law (T : Txt K mg) : Cal P w K mg base "law" "law" s_law 7 ["script"] (SpD K q_law) := by
  refine calD T.d_law sc_law (fun _ _ _ _ _ _ us hl => match us, hl with | [_], _ => rfl) (fun ds q er h => as1_len h) fun F0 H0 ds q er h => ?_
  obtain ⟨script, rfl, h⟩ := as1_ h
  obtain ⟨ns, rfl, hn, hq⟩ := h
  refine eb_cons (es_ret (ops0 rfl) ?_)
  refine ev_callB c_all rfl T.m_all bt_all ?_
  refine ea_cons ?_
  refine ev_lc (own := [("turn", 1)]) (blkOk_by (N := ["script", "turn"]) (sc := defScope s_law) (by decide +kernel)) (by intro i hi p I; simp only [List.map_cons, List.map_nil, List.mem_cons, List.not_mem_nil, or_false] at hi; subst hi; exact fun z => nomatch z) ?_
  refine ei_range1 rfl T.m_range ?_
  refine ev_callB c_max2 rfl T.m_max bt_max ?_
  refine ea_cons ?_
  refine ev_int ?_
  refine ea_cons ?_
  refine ev_callB c_min2 rfl T.m_min bt_min ?_
  refine ea_cons ?_
  refine ev_callB c_len rfl T.m_len bt_len ?_
  refine ea_cons ?_
  refine ev_var (i := 0) rfl (.inr (.inl rfl)) rfl ?_
  refine ea_nil ?_
  refine ea_cons ?_
  refine ev_int ?_
  refine ea_nil ?_
  refine ea_nil ?_
  rw [List.length_map]
  generalize hM : (if (if (3 : Int) < (ns.length : Int) then (3 : Int) else (ns.length : Int)) > 2 then (if (3 : Int) < (ns.length : Int) then (3 : Int) else (ns.length : Int)) else 2) = M
  have hM2 : 2 ≤ M ∧ M ≤ 3 := by subst hM; (repeat' split) <;> omega
  refine ⟨⟨by omega, by omega⟩, by rw [rngD_len]; omega, ?_⟩
  refine lcG_map (f := fun _ => .bl true) (fun d acc k hd hk => ?_) ?_
  · obtain ⟨i, hi, rfl⟩ := rngD_mem hd
    refine eg_name (i := 1) rfl (.inl rfl) ?_
    refine ets_nil ?_
    refine ev_callF (ok__law_right T) (Nat.le_of_ble_eq_true rfl) rfl (ops0 rfl) ?_
    refine en_call (ok__law_pail T) (Nat.le_of_ble_eq_true rfl) rfl (ops0 rfl) ?_
    refine ea_cons ?_
    refine ev_var (i := 0) rfl (.inr (.inl rfl)) rfl ?_
    refine ea_cons ?_
    refine ev_var (i := 1) rfl (.inl rfl) rfl ?_
    refine ea_nil ?_
    refine ⟨ns, rfl, by omega, by omega, fun xs hx => ?_⟩
    refine ⟨hx, ?_⟩
    exact hk
  refine ea_nil ?_
  refine ⟨_, (all_t _).1, ?_⟩
  rw [(all_t _).2]; exact hq
theorem law_start : ∀ ns : List Int, ns.length ≤ 63 → (∀ k ∈ ns, Builtin.Int.intBits k ≤ 1048576) → q_law [.lst (ns.map Da.int)] (fun d => d = .bl true) fun _ _ => False := fun ns h _ => ⟨ns, rfl, h, rfl⟩
theorem txt_of {K : PySem.W.Frag} {h : Heap} {mg : Str → Option Value} (X : K.In h) (G : h.Ns mainGlobals mg)
    (k_MOST_AMOUNT : ∃ t, mg "MOST_AMOUNT" = some (.int 10000000000000 t))
    {tk_HUNDRED : Tok} (k_HUNDRED : PySem.W.nsIn K mainGlobals "HUNDRED" = some (some (.int 100 tk_HUNDRED)))
    (m_abs : PySem.W.nsIn K mainGlobals "abs" = some none)
    (m_all : PySem.W.nsIn K mainGlobals "all" = some none)
    (m_bool : PySem.W.nsIn K mainGlobals "bool" = some none)
    (m_divmod : PySem.W.nsIn K mainGlobals "divmod" = some none)
    (m_int : PySem.W.nsIn K mainGlobals "int" = some none)
    (m_isinstance : PySem.W.nsIn K mainGlobals "isinstance" = some none)
    (m_len : PySem.W.nsIn K mainGlobals "len" = some none)
    (m_max : PySem.W.nsIn K mainGlobals "max" = some none)
    (m_min : PySem.W.nsIn K mainGlobals "min" = some none)
    (m_range : PySem.W.nsIn K mainGlobals "range" = some none)
    (m_repr : PySem.W.nsIn K mainGlobals "repr" = some none)
    (m_sum : PySem.W.nsIn K mainGlobals "sum" = some none)
    (m_tuple : PySem.W.nsIn K mainGlobals "tuple" = some none)
    {a_is_whole : Addr} {oc_is_whole kv_is_whole dc_is_whole pm_is_whole cd_is_whole ct_is_whole : Value} {od_is_whole an_is_whole : Option Addr} {sl_is_whole : Array (Option Value)}
    (a1_is_whole : PySem.W.nsIn K mainGlobals "is_whole" = some (some (.ref a_is_whole))) (l_is_whole : K.lookup a_is_whole = some ⟨oc_is_whole, od_is_whole, .func (PySem.W.fnOf "is_whole" "is_whole" (defArgs s_is_whole) (defBody s_is_whole) (defScope s_is_whole) .none kv_is_whole dc_is_whole pm_is_whole an_is_whole cd_is_whole ct_is_whole), sl_is_whole⟩) (c_is_whole : PySem.W.codeIn K cd_is_whole "is_whole" = true) (kp_is_whole : PySem.W.keepIn K (.ref a_is_whole) = true)
    {a_is_number : Addr} {oc_is_number kv_is_number dc_is_number pm_is_number cd_is_number ct_is_number : Value} {od_is_number an_is_number : Option Addr} {sl_is_number : Array (Option Value)}
    (a1_is_number : PySem.W.nsIn K mainGlobals "is_number" = some (some (.ref a_is_number))) (l_is_number : K.lookup a_is_number = some ⟨oc_is_number, od_is_number, .func (PySem.W.fnOf "is_number" "is_number" (defArgs s_is_number) (defBody s_is_number) (defScope s_is_number) .none kv_is_number dc_is_number pm_is_number an_is_number cd_is_number ct_is_number), sl_is_number⟩) (c_is_number : PySem.W.codeIn K cd_is_number "is_number" = true) (kp_is_number : PySem.W.keepIn K (.ref a_is_number) = true)
    {a_is_tuple_of : Addr} {oc_is_tuple_of kv_is_tuple_of dc_is_tuple_of pm_is_tuple_of cd_is_tuple_of ct_is_tuple_of : Value} {od_is_tuple_of an_is_tuple_of : Option Addr} {sl_is_tuple_of : Array (Option Value)}
    (a1_is_tuple_of : PySem.W.nsIn K mainGlobals "is_tuple_of" = some (some (.ref a_is_tuple_of))) (l_is_tuple_of : K.lookup a_is_tuple_of = some ⟨oc_is_tuple_of, od_is_tuple_of, .func (PySem.W.fnOf "is_tuple_of" "is_tuple_of" (defArgs s_is_tuple_of) (defBody s_is_tuple_of) (defScope s_is_tuple_of) .none kv_is_tuple_of dc_is_tuple_of pm_is_tuple_of an_is_tuple_of cd_is_tuple_of ct_is_tuple_of), sl_is_tuple_of⟩) (c_is_tuple_of : PySem.W.codeIn K cd_is_tuple_of "is_tuple_of" = true) (kp_is_tuple_of : PySem.W.keepIn K (.ref a_is_tuple_of) = true)
    {a_check_number : Addr} {oc_check_number kv_check_number dc_check_number pm_check_number cd_check_number ct_check_number : Value} {od_check_number an_check_number : Option Addr} {sl_check_number : Array (Option Value)}
    (a1_check_number : PySem.W.nsIn K mainGlobals "check_number" = some (some (.ref a_check_number))) (l_check_number : K.lookup a_check_number = some ⟨oc_check_number, od_check_number, .func (PySem.W.fnOf "check_number" "check_number" (defArgs s_check_number) (defBody s_check_number) (defScope s_check_number) .none kv_check_number dc_check_number pm_check_number an_check_number cd_check_number ct_check_number), sl_check_number⟩) (c_check_number : PySem.W.codeIn K cd_check_number "check_number" = true) (kp_check_number : PySem.W.keepIn K (.ref a_check_number) = true)
    {a_is_lot : Addr} {oc_is_lot kv_is_lot dc_is_lot pm_is_lot cd_is_lot ct_is_lot : Value} {od_is_lot an_is_lot : Option Addr} {sl_is_lot : Array (Option Value)}
    (a1_is_lot : PySem.W.nsIn K mainGlobals "is_lot" = some (some (.ref a_is_lot))) (l_is_lot : K.lookup a_is_lot = some ⟨oc_is_lot, od_is_lot, .func (PySem.W.fnOf "is_lot" "is_lot" (defArgs s_is_lot) (defBody s_is_lot) (defScope s_is_lot) .none kv_is_lot dc_is_lot pm_is_lot an_is_lot cd_is_lot ct_is_lot), sl_is_lot⟩) (c_is_lot : PySem.W.codeIn K cd_is_lot "is_lot" = true) (kp_is_lot : PySem.W.keepIn K (.ref a_is_lot) = true)
    {a_check_lot : Addr} {oc_check_lot kv_check_lot dc_check_lot pm_check_lot cd_check_lot ct_check_lot : Value} {od_check_lot an_check_lot : Option Addr} {sl_check_lot : Array (Option Value)}
    (a1_check_lot : PySem.W.nsIn K mainGlobals "check_lot" = some (some (.ref a_check_lot))) (l_check_lot : K.lookup a_check_lot = some ⟨oc_check_lot, od_check_lot, .func (PySem.W.fnOf "check_lot" "check_lot" (defArgs s_check_lot) (defBody s_check_lot) (defScope s_check_lot) .none kv_check_lot dc_check_lot pm_check_lot an_check_lot cd_check_lot ct_check_lot), sl_check_lot⟩) (c_check_lot : PySem.W.codeIn K cd_check_lot "check_lot" = true) (kp_check_lot : PySem.W.keepIn K (.ref a_check_lot) = true)
    {a_does_draw : Addr} {oc_does_draw kv_does_draw dc_does_draw pm_does_draw cd_does_draw ct_does_draw : Value} {od_does_draw an_does_draw : Option Addr} {sl_does_draw : Array (Option Value)}
    (a1_does_draw : PySem.W.nsIn K mainGlobals "does_draw" = some (some (.ref a_does_draw))) (l_does_draw : K.lookup a_does_draw = some ⟨oc_does_draw, od_does_draw, .func (PySem.W.fnOf "does_draw" "does_draw" (defArgs s_does_draw) (defBody s_does_draw) (defScope s_does_draw) .none kv_does_draw dc_does_draw pm_does_draw an_does_draw cd_does_draw ct_does_draw), sl_does_draw⟩) (c_does_draw : PySem.W.codeIn K cd_does_draw "does_draw" = true) (kp_does_draw : PySem.W.keepIn K (.ref a_does_draw) = true)
    {a_drawn_below : Addr} {oc_drawn_below kv_drawn_below dc_drawn_below pm_drawn_below cd_drawn_below ct_drawn_below : Value} {od_drawn_below an_drawn_below : Option Addr} {sl_drawn_below : Array (Option Value)}
    (a1_drawn_below : PySem.W.nsIn K mainGlobals "drawn_below" = some (some (.ref a_drawn_below))) (l_drawn_below : K.lookup a_drawn_below = some ⟨oc_drawn_below, od_drawn_below, .func (PySem.W.fnOf "drawn_below" "drawn_below" (defArgs s_drawn_below) (defBody s_drawn_below) (defScope s_drawn_below) .none kv_drawn_below dc_drawn_below pm_drawn_below an_drawn_below cd_drawn_below ct_drawn_below), sl_drawn_below⟩) (c_drawn_below : PySem.W.codeIn K cd_drawn_below "drawn_below" = true) (kp_drawn_below : PySem.W.keepIn K (.ref a_drawn_below) = true)
    {a_draws : Addr} {oc_draws kv_draws dc_draws pm_draws cd_draws ct_draws : Value} {od_draws an_draws : Option Addr} {sl_draws : Array (Option Value)}
    (a1_draws : PySem.W.nsIn K mainGlobals "draws" = some (some (.ref a_draws))) (l_draws : K.lookup a_draws = some ⟨oc_draws, od_draws, .func (PySem.W.fnOf "draws" "draws" (defArgs s_draws) (defBody s_draws) (defScope s_draws) .none kv_draws dc_draws pm_draws an_draws cd_draws ct_draws), sl_draws⟩) (c_draws : PySem.W.codeIn K cd_draws "draws" = true) (kp_draws : PySem.W.keepIn K (.ref a_draws) = true)
    {a_drawn : Addr} {oc_drawn kv_drawn dc_drawn pm_drawn cd_drawn ct_drawn : Value} {od_drawn an_drawn : Option Addr} {sl_drawn : Array (Option Value)}
    (a1_drawn : PySem.W.nsIn K mainGlobals "drawn" = some (some (.ref a_drawn))) (l_drawn : K.lookup a_drawn = some ⟨oc_drawn, od_drawn, .func (PySem.W.fnOf "drawn" "drawn" (defArgs s_drawn) (defBody s_drawn) (defScope s_drawn) .none kv_drawn dc_drawn pm_drawn an_drawn cd_drawn ct_drawn), sl_drawn⟩) (c_drawn : PySem.W.codeIn K cd_drawn "drawn" = true) (kp_drawn : PySem.W.keepIn K (.ref a_drawn) = true)
    {a__law_pail : Addr} {oc__law_pail kv__law_pail dc__law_pail pm__law_pail cd__law_pail ct__law_pail : Value} {od__law_pail an__law_pail : Option Addr} {sl__law_pail : Array (Option Value)}
    (a1__law_pail : PySem.W.nsIn K mainGlobals "_law_pail" = some (some (.ref a__law_pail))) (l__law_pail : K.lookup a__law_pail = some ⟨oc__law_pail, od__law_pail, .func (PySem.W.fnOf "_law_pail" "_law_pail" (defArgs s__law_pail) (defBody s__law_pail) (defScope s__law_pail) .none kv__law_pail dc__law_pail pm__law_pail an__law_pail cd__law_pail ct__law_pail), sl__law_pail⟩) (c__law_pail : PySem.W.codeIn K cd__law_pail "_law_pail" = true) (kp__law_pail : PySem.W.keepIn K (.ref a__law_pail) = true)
    {a__law_deal : Addr} {oc__law_deal kv__law_deal dc__law_deal pm__law_deal cd__law_deal ct__law_deal : Value} {od__law_deal an__law_deal : Option Addr} {sl__law_deal : Array (Option Value)}
    (a1__law_deal : PySem.W.nsIn K mainGlobals "_law_deal" = some (some (.ref a__law_deal))) (l__law_deal : K.lookup a__law_deal = some ⟨oc__law_deal, od__law_deal, .func (PySem.W.fnOf "_law_deal" "_law_deal" (defArgs s__law_deal) (defBody s__law_deal) (defScope s__law_deal) .none kv__law_deal dc__law_deal pm__law_deal an__law_deal cd__law_deal ct__law_deal), sl__law_deal⟩) (c__law_deal : PySem.W.codeIn K cd__law_deal "_law_deal" = true) (kp__law_deal : PySem.W.keepIn K (.ref a__law_deal) = true)
    {a__law_any : Addr} {oc__law_any kv__law_any dc__law_any pm__law_any cd__law_any ct__law_any : Value} {od__law_any an__law_any : Option Addr} {sl__law_any : Array (Option Value)}
    (a1__law_any : PySem.W.nsIn K mainGlobals "_law_any" = some (some (.ref a__law_any))) (l__law_any : K.lookup a__law_any = some ⟨oc__law_any, od__law_any, .func (PySem.W.fnOf "_law_any" "_law_any" (defArgs s__law_any) (defBody s__law_any) (defScope s__law_any) .none kv__law_any dc__law_any pm__law_any an__law_any cd__law_any ct__law_any), sl__law_any⟩) (c__law_any : PySem.W.codeIn K cd__law_any "_law_any" = true) (kp__law_any : PySem.W.keepIn K (.ref a__law_any) = true)
    {a__law_lot : Addr} {oc__law_lot kv__law_lot dc__law_lot pm__law_lot cd__law_lot ct__law_lot : Value} {od__law_lot an__law_lot : Option Addr} {sl__law_lot : Array (Option Value)}
    (a1__law_lot : PySem.W.nsIn K mainGlobals "_law_lot" = some (some (.ref a__law_lot))) (l__law_lot : K.lookup a__law_lot = some ⟨oc__law_lot, od__law_lot, .func (PySem.W.fnOf "_law_lot" "_law_lot" (defArgs s__law_lot) (defBody s__law_lot) (defScope s__law_lot) .none kv__law_lot dc__law_lot pm__law_lot an__law_lot cd__law_lot ct__law_lot), sl__law_lot⟩) (c__law_lot : PySem.W.codeIn K cd__law_lot "_law_lot" = true) (kp__law_lot : PySem.W.keepIn K (.ref a__law_lot) = true)
    {a__law_draws : Addr} {oc__law_draws kv__law_draws dc__law_draws pm__law_draws cd__law_draws ct__law_draws : Value} {od__law_draws an__law_draws : Option Addr} {sl__law_draws : Array (Option Value)}
    (a1__law_draws : PySem.W.nsIn K mainGlobals "_law_draws" = some (some (.ref a__law_draws))) (l__law_draws : K.lookup a__law_draws = some ⟨oc__law_draws, od__law_draws, .func (PySem.W.fnOf "_law_draws" "_law_draws" (defArgs s__law_draws) (defBody s__law_draws) (defScope s__law_draws) .none kv__law_draws dc__law_draws pm__law_draws an__law_draws cd__law_draws ct__law_draws), sl__law_draws⟩) (c__law_draws : PySem.W.codeIn K cd__law_draws "_law_draws" = true) (kp__law_draws : PySem.W.keepIn K (.ref a__law_draws) = true)
    {a__law_many : Addr} {oc__law_many kv__law_many dc__law_many pm__law_many cd__law_many ct__law_many : Value} {od__law_many an__law_many : Option Addr} {sl__law_many : Array (Option Value)}
    (a1__law_many : PySem.W.nsIn K mainGlobals "_law_many" = some (some (.ref a__law_many))) (l__law_many : K.lookup a__law_many = some ⟨oc__law_many, od__law_many, .func (PySem.W.fnOf "_law_many" "_law_many" (defArgs s__law_many) (defBody s__law_many) (defScope s__law_many) .none kv__law_many dc__law_many pm__law_many an__law_many cd__law_many ct__law_many), sl__law_many⟩) (c__law_many : PySem.W.codeIn K cd__law_many "_law_many" = true) (kp__law_many : PySem.W.keepIn K (.ref a__law_many) = true)
    {a__law_right : Addr} {oc__law_right kv__law_right dc__law_right pm__law_right cd__law_right ct__law_right : Value} {od__law_right an__law_right : Option Addr} {sl__law_right : Array (Option Value)}
    (a1__law_right : PySem.W.nsIn K mainGlobals "_law_right" = some (some (.ref a__law_right))) (l__law_right : K.lookup a__law_right = some ⟨oc__law_right, od__law_right, .func (PySem.W.fnOf "_law_right" "_law_right" (defArgs s__law_right) (defBody s__law_right) (defScope s__law_right) .none kv__law_right dc__law_right pm__law_right an__law_right cd__law_right ct__law_right), sl__law_right⟩) (c__law_right : PySem.W.codeIn K cd__law_right "_law_right" = true) (kp__law_right : PySem.W.keepIn K (.ref a__law_right) = true)
    {a_law : Addr} {oc_law kv_law dc_law pm_law cd_law ct_law : Value} {od_law an_law : Option Addr} {sl_law : Array (Option Value)}
    (a1_law : PySem.W.nsIn K mainGlobals "law" = some (some (.ref a_law))) (l_law : K.lookup a_law = some ⟨oc_law, od_law, .func (PySem.W.fnOf "law" "law" (defArgs s_law) (defBody s_law) (defScope s_law) .none kv_law dc_law pm_law an_law cd_law ct_law), sl_law⟩) (c_law : PySem.W.codeIn K cd_law "law" = true) (kp_law : PySem.W.keepIn K (.ref a_law) = true)
    : Txt K mg :=
  { m_abs := PySem.W.mg_none_of X G m_abs,
    m_all := PySem.W.mg_none_of X G m_all,
    m_bool := PySem.W.mg_none_of X G m_bool,
    m_divmod := PySem.W.mg_none_of X G m_divmod,
    m_int := PySem.W.mg_none_of X G m_int,
    m_isinstance := PySem.W.mg_none_of X G m_isinstance,
    m_len := PySem.W.mg_none_of X G m_len,
    m_max := PySem.W.mg_none_of X G m_max,
    m_min := PySem.W.mg_none_of X G m_min,
    m_range := PySem.W.mg_none_of X G m_range,
    m_repr := PySem.W.mg_none_of X G m_repr,
    m_sum := PySem.W.mg_none_of X G m_sum,
    m_tuple := PySem.W.mg_none_of X G m_tuple,
    k_MOST_AMOUNT := k_MOST_AMOUNT,
    k_HUNDRED := ⟨_, PySem.W.mg_of X G k_HUNDRED⟩,
    d_is_whole := ⟨_, _, fun_mk l_is_whole c_is_whole kp_is_whole, PySem.W.mg_of X G a1_is_whole⟩,
    d_is_number := ⟨_, _, fun_mk l_is_number c_is_number kp_is_number, PySem.W.mg_of X G a1_is_number⟩,
    d_is_tuple_of := ⟨_, _, fun_mk l_is_tuple_of c_is_tuple_of kp_is_tuple_of, PySem.W.mg_of X G a1_is_tuple_of⟩,
    d_check_number := ⟨_, _, fun_mk l_check_number c_check_number kp_check_number, PySem.W.mg_of X G a1_check_number⟩,
    d_is_lot := ⟨_, _, fun_mk l_is_lot c_is_lot kp_is_lot, PySem.W.mg_of X G a1_is_lot⟩,
    d_check_lot := ⟨_, _, fun_mk l_check_lot c_check_lot kp_check_lot, PySem.W.mg_of X G a1_check_lot⟩,
    d_does_draw := ⟨_, _, fun_mk l_does_draw c_does_draw kp_does_draw, PySem.W.mg_of X G a1_does_draw⟩,
    d_drawn_below := ⟨_, _, fun_mk l_drawn_below c_drawn_below kp_drawn_below, PySem.W.mg_of X G a1_drawn_below⟩,
    d_draws := ⟨_, _, fun_mk l_draws c_draws kp_draws, PySem.W.mg_of X G a1_draws⟩,
    d_drawn := ⟨_, _, fun_mk l_drawn c_drawn kp_drawn, PySem.W.mg_of X G a1_drawn⟩,
    d__law_pail := ⟨_, _, fun_mk l__law_pail c__law_pail kp__law_pail, PySem.W.mg_of X G a1__law_pail⟩,
    d__law_deal := ⟨_, _, fun_mk l__law_deal c__law_deal kp__law_deal, PySem.W.mg_of X G a1__law_deal⟩,
    d__law_any := ⟨_, _, fun_mk l__law_any c__law_any kp__law_any, PySem.W.mg_of X G a1__law_any⟩,
    d__law_lot := ⟨_, _, fun_mk l__law_lot c__law_lot kp__law_lot, PySem.W.mg_of X G a1__law_lot⟩,
    d__law_draws := ⟨_, _, fun_mk l__law_draws c__law_draws kp__law_draws, PySem.W.mg_of X G a1__law_draws⟩,
    d__law_many := ⟨_, _, fun_mk l__law_many c__law_many kp__law_many, PySem.W.mg_of X G a1__law_many⟩,
    d__law_right := ⟨_, _, fun_mk l__law_right c__law_right kp__law_right, PySem.W.mg_of X G a1__law_right⟩,
    d_law := ⟨_, _, fun_mk l_law c_law kp_law, PySem.W.mg_of X G a1_law⟩ }
end
end LW
open PySem PySem.W PyProof.Rows
set_option maxHeartbeats 0 in
theorem PySem.Challenge.cw_claimback_k57_whole_what_lots_draw_holds : PySem.Challenge.rw_claimback_k57_whole_what_lots_draw.Holds := by
  w_on; o_law; k_head; (case hw => w_witness2)
  k_fill
  refine GX.walkG (l := PySem.Challenge.rw_claimback_k57_whole_what_lots_draw) (n := 63) (k := 7) (x := "script") (spec := LW.q_law) rfl (by decide) rfl ⟨rfl, by decide, by decide⟩ (fun w h Y => PySem.W.kIn_of Y) ?F LW.law_start
  case F =>
    intro w mg fa h KX G xp hmg
    apply GX.law_end (LW.txt_of KX G ?k_MOST_AMOUNT ?k_HUNDRED ?m_abs ?m_all ?m_bool ?m_divmod ?m_int ?m_isinstance ?m_len ?m_max ?m_min ?m_range ?m_repr ?m_sum ?m_tuple ?a1_is_whole ?l_is_whole ?c_is_whole ?kp_is_whole ?a1_is_number ?l_is_number ?c_is_number ?kp_is_number ?a1_is_tuple_of ?l_is_tuple_of ?c_is_tuple_of ?kp_is_tuple_of ?a1_check_number ?l_check_number ?c_check_number ?kp_check_number ?a1_is_lot ?l_is_lot ?c_is_lot ?kp_is_lot ?a1_check_lot ?l_check_lot ?c_check_lot ?kp_check_lot ?a1_does_draw ?l_does_draw ?c_does_draw ?kp_does_draw ?a1_drawn_below ?l_drawn_below ?c_drawn_below ?kp_drawn_below ?a1_draws ?l_draws ?c_draws ?kp_draws ?a1_drawn ?l_drawn ?c_drawn ?kp_drawn ?a1__law_pail ?l__law_pail ?c__law_pail ?kp__law_pail ?a1__law_deal ?l__law_deal ?c__law_deal ?kp__law_deal ?a1__law_any ?l__law_any ?c__law_any ?kp__law_any ?a1__law_lot ?l__law_lot ?c__law_lot ?kp__law_lot ?a1__law_draws ?l__law_draws ?c__law_draws ?kp__law_draws ?a1__law_many ?l__law_many ?c__law_many ?kp__law_many ?a1__law_right ?l__law_right ?c__law_right ?kp__law_right ?a1_law ?l_law ?c_law ?kp_law) (fun _ T => LW.ok_law T) hmg
    (case k_MOST_AMOUNT => exact GX.loose_int xp.2 (by first | exact List.mem_cons_self | decide))
    (case k_HUNDRED => k_is)
    (case m_abs => k_is)
    (case m_all => k_is)
    (case m_bool => k_is)
    (case m_divmod => k_is)
    (case m_int => k_is)
    (case m_isinstance => k_is)
    (case m_len => k_is)
    (case m_max => k_is)
    (case m_min => k_is)
    (case m_range => k_is)
    (case m_repr => k_is)
    (case m_sum => k_is)
    (case m_tuple => k_is)
    (case a1_is_whole => k_is)
    (case l_is_whole => k_is)
    (case c_is_whole => k_is)
    (case kp_is_whole => k_is)
    (case a1_is_number => k_is)
    (case l_is_number => k_is)
    (case c_is_number => k_is)
    (case kp_is_number => k_is)
    (case a1_is_tuple_of => k_is)
    (case l_is_tuple_of => k_is)
    (case c_is_tuple_of => k_is)
    (case kp_is_tuple_of => k_is)
    (case a1_check_number => k_is)
    (case l_check_number => k_is)
    (case c_check_number => k_is)
    (case kp_check_number => k_is)
    (case a1_is_lot => k_is)
    (case l_is_lot => k_is)
    (case c_is_lot => k_is)
    (case kp_is_lot => k_is)
    (case a1_check_lot => k_is)
    (case l_check_lot => k_is)
    (case c_check_lot => k_is)
    (case kp_check_lot => k_is)
    (case a1_does_draw => k_is)
    (case l_does_draw => k_is)
    (case c_does_draw => k_is)
    (case kp_does_draw => k_is)
    (case a1_drawn_below => k_is)
    (case l_drawn_below => k_is)
    (case c_drawn_below => k_is)
    (case kp_drawn_below => k_is)
    (case a1_draws => k_is)
    (case l_draws => k_is)
    (case c_draws => k_is)
    (case kp_draws => k_is)
    (case a1_drawn => k_is)
    (case l_drawn => k_is)
    (case c_drawn => k_is)
    (case kp_drawn => k_is)
    (case a1__law_pail => k_is)
    (case l__law_pail => k_is)
    (case c__law_pail => k_is)
    (case kp__law_pail => k_is)
    (case a1__law_deal => k_is)
    (case l__law_deal => k_is)
    (case c__law_deal => k_is)
    (case kp__law_deal => k_is)
    (case a1__law_any => k_is)
    (case l__law_any => k_is)
    (case c__law_any => k_is)
    (case kp__law_any => k_is)
    (case a1__law_lot => k_is)
    (case l__law_lot => k_is)
    (case c__law_lot => k_is)
    (case kp__law_lot => k_is)
    (case a1__law_draws => k_is)
    (case l__law_draws => k_is)
    (case c__law_draws => k_is)
    (case kp__law_draws => k_is)
    (case a1__law_many => k_is)
    (case l__law_many => k_is)
    (case c__law_many => k_is)
    (case kp__law_many => k_is)
    (case a1__law_right => k_is)
    (case l__law_right => k_is)
    (case c__law_right => k_is)
    (case kp__law_right => k_is)
    (case a1_law => k_is)
    (case l_law => k_is)
    (case c_law => k_is)
    (case kp_law => k_is)



