import PyProof.Rows.All
import Wide.All
import OpenK.AllK
import Wide.FinOn
import HandS.ForMost
import HandS.Exc
import HandS.IsInst
import HandS.TupAny
import HandS.EndBits
import PyProof.SumAnyB
import PyProof.ReprRoads
import PyProof.WalksMore
import HandS.Wide
import HandS.WideBits
import PyProof.NoPylong
import PyProof.ReprBulk
import HandS.Conv
import HandS.Zip
import PySem.Challenge.RW_claimback_k05_whole_worth_by_own_rates
set_option Elab.async false
set_option linter.all false
set_option maxRecDepth 100000
set_option maxHeartbeats 4000000
namespace GX
open PySem PySem.Spec PyProof.Rows L2

/-! ## data -/
inductive Da where
  | non | bl (b : Bool) | int (i : Int) | str (x : Str)
  | lst (xs : List Da) | tup (xs : List Da) | dct (ks : List (Key × Da))
  | ins (C : Addr) (fs : List (Str × Da)) | rf (a : Addr) | ty (n : String)

abbrev Sub (H H' : Hp) : Prop := ∀ a o, H a = some o → H' a = some o
theorem Sub.refl (H : Hp) : Sub H H := fun _ _ h => h
theorem Sub.trans {H H1 H2 : Hp} (a : Sub H H1) (b : Sub H1 H2) : Sub H H2 := fun x o h => b x o (a x o h)
theorem Sub.free {H H' : Hp} {p : Addr} (e : Sub H H') (h : H' p = none) : H p = none := by
  cases q : H p with
  | none => rfl
  | some o => rw [e p o q] at h; cases h
theorem Sub.upd0 {H H' : Hp} {p : Addr} {o : HO} (e : Sub H H') (h : H p = none) : Sub H (L2.upd H' p o) := fun a u ha => by
  rw [upd_ne (ne_of_none ha h)]; exact e a u ha
theorem Sub.upd {H H' : Hp} {p : Addr} {o : HO} (e : Sub H H') (h : H' p = none) : Sub H (L2.upd H' p o) := e.upd0 (e.free h)
theorem Sub.updB {H H' : Hp} {p : Addr} {o : HO} (e : Sub H H') : Sub (L2.upd H p o) (L2.upd H' p o) := fun a u ha => by
  by_cases c : a = p
  · subst c; rw [upd_same] at ha ⊢; exact ha
  · rw [upd_ne c] at ha ⊢; exact e a u ha
theorem Sub.rd {H H' : Hp} {a : Addr} {u : HO} (e : Sub H H') (h : Rd H a u) : Rd H' a u := by
  rcases h with h | ⟨o, h⟩
  · exact .inl (e a _ h)
  · exact .inr ⟨o, e a _ h⟩
theorem Sub.sl {K : PySem.W.Frag} {H H' : Hp} {a : Addr} {xs : List V} (e : Sub H H') (h : SqL K H a xs) : SqL K H' a xs := h.imp (e.rd ·) id
theorem Sub.st {K : PySem.W.Frag} {H H' : Hp} {a : Addr} {xs : List V} (e : Sub H H') (h : SqT K H a xs) : SqT K H' a xs := h.imp (e.rd ·) id

mutual
def Rep (K : PySem.W.Frag) (H : Hp) : Da → V → Prop
  | .non, v => v = .non
  | .bl b, v => v = .bl b
  | .int i, v => v = .int i
  | .str x, v => v = .str x
  | .ty n, v => v = .ty n
  | .rf a, v => v = .ref a
  | .lst ds, v => ∃ a xs, v = .ref a ∧ SqL K H a xs ∧ Reps K H ds xs
  | .tup ds, v => ∃ a xs, v = .ref a ∧ SqT K H a xs ∧ Reps K H ds xs
  | .dct ks, v => ∃ a kvs, v = .ref a ∧ Rd H a (.dK kvs) ∧ RepK K H ks kvs
  | .ins C fs, v => ∃ a dx gs, v = .ref a ∧ H a = some (.ins C dx gs) ∧ RepF K H fs gs
def Reps (K : PySem.W.Frag) (H : Hp) : List Da → List V → Prop
  | [], xs => xs = []
  | d :: ds, xs => ∃ x r, xs = x :: r ∧ Rep K H d x ∧ Reps K H ds r
def RepK (K : PySem.W.Frag) (H : Hp) : List (Key × Da) → List (Key × V) → Prop
  | [], xs => xs = []
  | (k, d) :: ds, xs => ∃ x r, xs = (k, x) :: r ∧ Rep K H d x ∧ RepK K H ds r
def RepF (K : PySem.W.Frag) (H : Hp) : List (Str × Da) → List (Str × V) → Prop
  | [], xs => xs = []
  | (k, d) :: ds, xs => ∃ x r, xs = (k, x) :: r ∧ Rep K H d x ∧ RepF K H ds r
end
section
variable {K : PySem.W.Frag} {H H' : Hp}
mutual
theorem Rep.mono (e : Sub H H') : ∀ (d : Da) (v : V), Rep K H d v → Rep K H' d v
  | .non, _, h => h
  | .bl _, _, h => h
  | .int _, _, h => h
  | .str _, _, h => h
  | .ty _, _, h => h
  | .rf _, _, h => h
  | .lst ds, _, h => by
    unfold Rep at h ⊢
    obtain ⟨a, xs, h1, h2, h3⟩ := h
    exact ⟨a, xs, h1, e.sl h2, Reps.mono e ds xs h3⟩
  | .tup ds, _, h => by
    unfold Rep at h ⊢
    obtain ⟨a, xs, h1, h2, h3⟩ := h
    exact ⟨a, xs, h1, e.st h2, Reps.mono e ds xs h3⟩
  | .dct ks, _, h => by
    unfold Rep at h ⊢
    obtain ⟨a, xs, h1, h2, h3⟩ := h
    exact ⟨a, xs, h1, e.rd h2, RepK.mono e ks xs h3⟩
  | .ins C fs, _, h => by
    unfold Rep at h ⊢
    obtain ⟨a, dx, xs, h1, h2, h3⟩ := h
    exact ⟨a, dx, xs, h1, e _ _ h2, RepF.mono e fs xs h3⟩
theorem Reps.mono (e : Sub H H') : ∀ (ds : List Da) (vs : List V), Reps K H ds vs → Reps K H' ds vs
  | [], _, h => h
  | d :: ds, _, h => by
    unfold Reps at h ⊢
    obtain ⟨x, r, h1, h2, h3⟩ := h
    exact ⟨x, r, h1, Rep.mono e d x h2, Reps.mono e ds r h3⟩
theorem RepK.mono (e : Sub H H') : ∀ (ds : List (Key × Da)) (vs : List (Key × V)), RepK K H ds vs → RepK K H' ds vs
  | [], _, h => h
  | (k, d) :: ds, _, h => by
    unfold RepK at h ⊢
    obtain ⟨x, r, h1, h2, h3⟩ := h
    exact ⟨x, r, h1, Rep.mono e d x h2, RepK.mono e ds r h3⟩
theorem RepF.mono (e : Sub H H') : ∀ (ds : List (Str × Da)) (vs : List (Str × V)), RepF K H ds vs → RepF K H' ds vs
  | [], _, h => h
  | (k, d) :: ds, _, h => by
    unfold RepF at h ⊢
    obtain ⟨x, r, h1, h2, h3⟩ := h
    exact ⟨x, r, h1, Rep.mono e d x h2, RepF.mono e ds r h3⟩
end
end

/-! ## slots, states -/
inductive Slot where
  | no | dat (d : Da) | inv (p : Addr) (I : List Da → Prop)
def Own (K : PySem.W.Frag) (Hf H : Hp) (p : Addr) (I : List Da → Prop) : Prop := Hf p = none ∧ ∃ vs xs, H p = some (.lst vs) ∧ Reps K Hf xs vs ∧ I xs
def SlotOk (K : PySem.W.Frag) (Hf H : Hp) (x : Option V) : Slot → Prop
  | .no => True
  | .dat d => ∃ v, x = some v ∧ Rep K Hf d v
  | .inv p I => x = some (.ref p) ∧ Own K Hf H p I
/-- what is wanted of an exception: its class, the fields of its own dict -/
abbrev Er := Value → Option (List (Str × Da)) → Prop
structure Sx where
  P : Program
  w : World
  K : PySem.W.Frag
  mg : Str → Option Value
  base : Heap
  N : List Str
  sc : Scope
  k : Nat
  F0 : Hp
  H0 : Hp
  op : List (Addr × (List Da → Prop))
  E : Er
  stor : Str → Bool := fun _ => true
def Keep (H0 : Hp) (op : List (Addr × (List Da → Prop))) (H : Hp) : Prop := ∀ q o, H0 q = some o → q ∉ op.map (·.1) → H q = some o
def XRep (K : PySem.W.Frag) (Hf : Hp) : Option Addr → Option (List (Str × Da)) → Prop
  | none, none => True
  | some d, some fs => ∃ gs, Hf d = some (.xd gs) ∧ RepF K Hf fs gs
  | _, _ => False
def Sx.WX (S : Sx) : WX := fun cls d _ H => ∃ Hf fs, Sub S.F0 Hf ∧ Sub Hf H ∧ (∀ p, Hf p ≠ none → S.F0 p = none → S.H0 p = none) ∧ Keep S.H0 S.op H ∧ (∀ q ∈ S.op, Own S.K Hf H q.1 q.2) ∧ XRep S.K Hf d fs ∧ S.E cls fs
structure Sx.Ok (S : Sx) (X : Cx) : Prop where
  P : X.prog = S.P
  w : X.w = S.w
  K : X.K = S.K
  mg : X.mg = S.mg
  base : X.base = S.base
  N : X.N = S.N
  sc : X.env.scope = S.sc
  calm : X.calm = true
  room : Room S.k X.A
  gd : X.A.guards = some []
  nd : S.N.Nodup
  tk : Takes X S.WX
  po : PassesOwn (model X.prog X.w) X.A X.env X.xe
  fn : ∀ x, S.stor x = true → X.fn x = true ∨ X.env.scope.names.lookup x = some .local
/-- a name of the module, or a built-in one -/
def GlS (S : Sx) (x : Str) : Prop := S.sc.names.lookup x = some .globalImplicit
theorem GlS.gl {S : Sx} {X : Cx} {x : Str} (h : GlS S x) (ok : S.Ok X) : Gl X x := by
  show X.env.scope.names.lookup x = _
  rw [ok.sc]; exact h
structure Stt (S : Sx) (PX : Hp) (Γ : List Slot) (Hf H : Hp) (σ : L2.St) : Prop where
  len : σ.length = Γ.length
  ex0 : Sub S.F0 Hf
  ex : Sub Hf H
  keep : Keep S.H0 S.op H
  ops : ∀ q ∈ S.op, H q.1 ≠ none
  at_ : ∀ (i : Nat) s, Γ[i]? = some s → SlotOk S.K Hf H (σ[i]?).join s
  new : ∀ (i : Nat) p I, Γ[i]? = some (.inv p I) → p ∈ S.op.map (·.1) ∨ S.H0 p = none
  fr : ∀ p, Hf p ≠ none → S.F0 p = none → S.H0 p = none
  px : Sub PX H
  pf : ∀ p, PX p ≠ none → Hf p = none
  pi : ∀ (i : Nat) p I, Γ[i]? = some (.inv p I) → PX p = none
  sep : ∀ (i j : Nat) p I J, Γ[i]? = some (.inv p I) → Γ[j]? = some (.inv p J) → i = j
section
variable {K : PySem.W.Frag} {Hf Hf' H H' : Hp} {p q : Addr} {I : List Da → Prop} {o : HO} {S : Sx} {PX : Hp} {Γ : List Slot} {σ : L2.St} {x : Option V} {s : Slot}
theorem Stt.fresh0 (st : Stt S PX Γ Hf H σ) (hp : H p = none) : S.H0 p = none := by
  cases e : S.H0 p with
  | none => rfl
  | some u =>
    by_cases c : p ∈ S.op.map (·.1)
    · obtain ⟨q, h1, h2⟩ := List.mem_map.mp c
      exact absurd (h2 ▸ hp) (st.ops q h1)
    · rw [st.keep p u e c] at hp; cases hp
theorem Own.more (e : Sub Hf Hf') (hp : Hf' p = none) (eH : H' p = H p) (h : Own K Hf H p I) : Own K Hf' H' p I := by
  obtain ⟨_, vs, xs, h1, h2, h3⟩ := h
  exact ⟨hp, vs, xs, eH.trans h1, Reps.mono e _ _ h2, h3⟩
theorem SlotOk.more (e : Sub Hf Hf') (h1 : ∀ p I, s = .inv p I → Hf' p = none ∧ H' p = H p) (h : SlotOk K Hf H x s) : SlotOk K Hf' H' x s := by
  cases s with
  | no => trivial
  | dat d =>
    obtain ⟨v, a, b⟩ := h
    exact ⟨v, a, Rep.mono e _ _ b⟩
  | inv p I =>
    obtain ⟨a, b⟩ := h
    obtain ⟨c, d⟩ := h1 p I rfl
    exact ⟨a, b.more e c d⟩
theorem Stt.own (st : Stt S PX Γ Hf H σ) {i : Nat} (h : Γ[i]? = some (.inv p I)) : (σ[i]?).join = some (V.ref p) ∧ Own S.K Hf H p I := st.at_ i _ h
theorem Stt.ownH (st : Stt S PX Γ Hf H σ) {i : Nat} (h : Γ[i]? = some (.inv p I)) : H p ≠ none := by
  obtain ⟨_, _, vs, xs, e, _⟩ := st.own h
  rw [e]; exact fun z => nomatch z
/-- a new object, frozen at once -/
theorem Stt.alloc (st : Stt S PX Γ Hf H σ) (hp : H p = none) : Stt S PX Γ (upd Hf p o) (upd H p o) σ ∧ Sub Hf (upd Hf p o) := by
  have e : Sub Hf (upd Hf p o) := Sub.upd0 (Sub.refl _) (st.ex.free hp)
  refine ⟨⟨st.len, st.ex0.trans e, st.ex.updB, fun q u h1 h2 => ?_, fun q h => ?_, fun i s h => ?_, st.new, fun q h h2 => ?_, st.px.upd hp, fun q h => ?_, st.pi, st.sep⟩, e⟩
  rotate_right
  · have n : q ≠ p := fun c => h (by rw [c]; exact st.px.free hp)
    rw [upd_ne n]; exact st.pf q h
  · have z := st.keep q u h1 h2
    rw [upd_ne (ne_of_none z hp)]; exact z
  · have z := st.ops q h
    rw [upd_ne (fun c : q.1 = p => z (by rw [c]; exact hp))]; exact z
  · refine (st.at_ i s h).more e fun p' I' es => ?_
    subst es
    have n : p' ≠ p := fun c => st.ownH h (c ▸ hp)
    rw [upd_ne n, upd_ne n]
    exact ⟨(st.own h).2.1, rfl⟩
  · by_cases c : q = p
    · subst c; exact st.fresh0 hp
    · rw [upd_ne c] at h; exact st.fr q h h2
/-- what is tracked beside the owned lists is as it was -/
theorem Stt.grow (st : Stt S PX Γ Hf H σ) (e : Sub Hf Hf') (eH : Sub Hf' H') (k : Sub H H') (hn : ∀ p, Hf' p ≠ none → Hf p = none → H p = none) : Stt S PX Γ Hf' H' σ := by
  refine ⟨st.len, st.ex0.trans e, eH, fun q u h1 h2 => k _ _ (st.keep q u h1 h2), fun q h z => st.ops q h (Sub.free k z), fun i s h => ?_, st.new, fun q h h2 => ?_, st.px.trans k, fun q h => ?_, st.pi, st.sep⟩
  rotate_right
  · cases c : Hf' q with
    | none => rfl
    | some u => exact absurd (st.px.free (hn q (by rw [c]; exact fun z => nomatch z) (st.pf q h))) h
  rotate_left
  · by_cases c : Hf q = none
    · exact st.fresh0 (hn q h c)
    · exact st.fr q c h2
  refine (st.at_ i s h).more e fun p' I' es => ?_
  subst es
  have z := st.ownH h
  have f := (st.own h).2.1
  refine ⟨?_, ?_⟩
  · cases c : Hf' p' with
    | none => rfl
    | some u => exact absurd (hn p' (by rw [c]; exact fun z => nomatch z) f) z
  · cases c : H p' with
    | none => exact absurd c z
    | some u => exact k _ _ c
end

/-! ## judgements -/
def tU (S : Sx) (e : Expr) : TE := fun σ H Q => ∃ t : TE, (∀ X, S.Ok X → PE X e t) ∧ t σ H Q
def tUT (S : Sx) (e : Expr) : TT := fun σ H Q => ∃ t : TT, (∀ X, S.Ok X → PT X e t) ∧ t σ H Q
def tUA (S : Sx) (es : List Expr) : TA := fun σ H Q => ∃ t : TA, (∀ X, S.Ok X → PA X es t) ∧ t σ H Q
def tUK (S : Sx) (es : List Keyword) : TA := fun σ H Q => ∃ t : TA, (∀ X, S.Ok X → PK X es t) ∧ t σ H Q
def tUS (S : Sx) (st : Stmt) : TS := fun D σ H => ∃ t : TS, (∀ X, S.Ok X → PS X st t) ∧ t D σ H
def tUB (S : Sx) (st : List Stmt) : TS := fun D σ H => ∃ t : TS, (∀ X, S.Ok X → PSs X st t) ∧ t D σ H
def tUG (S : Sx) (e : Expr) : TG := fun v σ H Q => ∃ t : TG, (∀ X, S.Ok X → PG X e t) ∧ t v σ H Q
section
variable {S : Sx} {X : Cx} {e : Expr} {es : List Expr} {ks : List Keyword} {st : Stmt} {sts : List Stmt}
theorem pu (ok : S.Ok X) : PE X e (tU S e) := ⟨fun pins s σ H Q I ⟨_, h, q⟩ => (h X ok).run pins s σ H Q I q⟩
theorem puT (ok : S.Ok X) : PT X e (tUT S e) := ⟨fun pins s σ H Q I ⟨_, h, q⟩ => (h X ok).run pins s σ H Q I q⟩
theorem puA (ok : S.Ok X) : PA X es (tUA S es) := ⟨fun pos pins s σ H Q I ⟨_, h, q⟩ => (h X ok).run pos pins s σ H Q I q⟩
theorem puK (ok : S.Ok X) : PK X ks (tUK S ks) := ⟨fun pos pins s σ H Q I ⟨_, h, q⟩ => (h X ok).run pos pins s σ H Q I q⟩
theorem puS (ok : S.Ok X) : PS X st (tUS S st) := ⟨fun pins s σ H D I ⟨_, h, q⟩ => (h X ok).run pins s σ H D I q⟩
theorem puB (ok : S.Ok X) : PSs X sts (tUB S sts) := ⟨fun pins s σ H D I ⟨_, h, q⟩ => (h X ok).run pins s σ H D I q⟩
theorem puG (ok : S.Ok X) : PG X e (tUG S e) := ⟨fun pins s σ H v u Q I r ⟨_, h, q⟩ => (h X ok).run pins s σ H v u Q I r q⟩
end

def EvE (S : Sx) (Γ : List Slot) (e : Expr) (Q : Da → Prop) : Prop := ∀ PX σ H Hf k, Stt S PX Γ Hf H σ →
  (∀ d v Hf' H', Sub Hf Hf' → Stt S PX Γ Hf' H' σ → Rep S.K Hf' d v → Q d → k v H') → tU S e σ H k
def EvT (S : Sx) (Γ : List Slot) (e : Expr) (Q : Bool → Prop) : Prop := ∀ PX σ H Hf k, Stt S PX Γ Hf H σ →
  (∀ b Hf' H', Sub Hf Hf' → Stt S PX Γ Hf' H' σ → Q b → k b H') → tUT S e σ H k
def EvA (S : Sx) (Γ : List Slot) (es : List Expr) (Q : List Da → Prop) : Prop := ∀ PX σ H Hf k, Stt S PX Γ Hf H σ →
  (∀ ds vs Hf' H', Sub Hf Hf' → Stt S PX Γ Hf' H' σ → Reps S.K Hf' ds vs → Q ds → k vs H') → tUA S es σ H k
def EvK (S : Sx) (Γ : List Slot) (es : List Keyword) (Q : List Da → Prop) : Prop := ∀ PX σ H Hf k, Stt S PX Γ Hf H σ →
  (∀ ds vs Hf' H', Sub Hf Hf' → Stt S PX Γ Hf' H' σ → Reps S.K Hf' ds vs → Q ds → k vs H') → tUK S es σ H k
structure EnG where
  nx : List Slot → Prop
  rt : Da → Prop
  bk : List Slot → Prop := fun _ => False
  ct : List Slot → Prop := fun _ => False
  rr : List Da → Prop := fun _ => False
def OpsIn (S : Sx) (Γ : List Slot) : Prop := ∀ q ∈ S.op, Slot.inv q.1 q.2 ∈ Γ
structure EnOk (S : Sx) (PX Hf : Hp) (D : EnG) (D' : Ends) : Prop where
  nx : ∀ Γ σ Hf' H', Sub Hf Hf' → Stt S PX Γ Hf' H' σ → D.nx Γ → D'.nx σ H'
  rt : ∀ d v Γ σ Hf' H', Sub Hf Hf' → Stt S PX Γ Hf' H' σ → OpsIn S Γ → Rep S.K Hf' d v → D.rt d → D'.rt v H'
  bk : ∀ Γ σ Hf' H', Sub Hf Hf' → Stt S PX Γ Hf' H' σ → D.bk Γ → D'.bk σ H'
  ct : ∀ Γ σ Hf' H', Sub Hf Hf' → Stt S PX Γ Hf' H' σ → D.ct Γ → D'.ct σ H'
  rr : ∀ p ds vs Γ σ Hf' H', Sub Hf Hf' → Stt S (upd PX p (.lst vs)) Γ Hf' H' σ → PX p = none → S.H0 p = none → OpsIn S Γ → Reps S.K Hf' ds vs → D.rr ds → D'.rt (.ref p) H'
theorem EnOk.mono {S : Sx} {PX Hf Hf' : Hp} {D : EnG} {D' : Ends} (e : Sub Hf Hf') (h : EnOk S PX Hf D D') : EnOk S PX Hf' D D' :=
  ⟨fun Γ σ a b c => h.nx Γ σ a b (e.trans c), fun d v Γ σ a b c => h.rt d v Γ σ a b (e.trans c), fun Γ σ a b c => h.bk Γ σ a b (e.trans c), fun Γ σ a b c => h.ct Γ σ a b (e.trans c), fun p ds vs Γ σ a b c => h.rr p ds vs Γ σ a b (e.trans c)⟩
def EvS (S : Sx) (Γ : List Slot) (st : Stmt) (D : EnG) : Prop := ∀ PX σ H Hf D', Stt S PX Γ Hf H σ → EnOk S PX Hf D D' → tUS S st D' σ H
def EvB (S : Sx) (Γ : List Slot) (st : List Stmt) (D : EnG) : Prop := ∀ PX σ H Hf D', Stt S PX Γ Hf H σ → EnOk S PX Hf D D' → tUB S st D' σ H
/-- a target takes a value -/
structure Alt (W : Nat → Bool) (Γ : List Slot) (σ : L2.St) (Γ' : List Slot) (σ' : L2.St) : Prop where
  len : σ'.length = σ.length
  s : ∀ j : Nat, W j = false → σ'[j]? = σ[j]?
  g : ∀ j : Nat, W j = false → Γ'[j]? = Γ[j]?
theorem Alt.refl {W : Nat → Bool} {Γ : List Slot} {σ : L2.St} : Alt W Γ σ Γ σ := ⟨rfl, fun _ _ => rfl, fun _ _ => rfl⟩
theorem Alt.trans {W : Nat → Bool} {Γ Γ1 Γ2 : List Slot} {σ σ1 σ2 : L2.St} (a : Alt W Γ σ Γ1 σ1) (b : Alt W Γ1 σ1 Γ2 σ2) : Alt W Γ σ Γ2 σ2 := ⟨b.len.trans a.len, fun j h => (b.s j h).trans (a.s j h), fun j h => (b.g j h).trans (a.g j h)⟩
theorem Alt.set {W : Nat → Bool} {Γ : List Slot} {σ : L2.St} {i : Nat} {x : Option V} {y : Slot} (h : W i = true) : Alt W Γ σ (Γ.set i y) (σ.set i x) :=
  ⟨List.length_set .., fun j hj => List.getElem?_set_ne (fun e => by rw [e, hj] at h; cases h), fun j hj => List.getElem?_set_ne (fun e => by rw [e, hj] at h; cases h)⟩
abbrev anyW : Nat → Bool := fun _ => true
def EvG (S : Sx) (W : Nat → Bool) (Γ : List Slot) (e : Expr) (d : Da) (Q : List Slot → Prop) : Prop := ∀ PX v σ H Hf k, Stt S PX Γ Hf H σ → Rep S.K Hf d v →
  (∀ Γ' σ' Hf' H', Sub Hf Hf' → Stt S PX Γ' Hf' H' σ' → Alt W Γ σ Γ' σ' → Q Γ' → k σ' H') → tUG S e v σ H k

/-! ### kinds of data -/
@[reducible] def asInt (d : Da) (k : Int → Prop) : Prop := match d with | .int i => k i | _ => False
@[reducible] def asBl (d : Da) (k : Bool → Prop) : Prop := match d with | .bl i => k i | _ => False
@[reducible] def asStr (d : Da) (k : Str → Prop) : Prop := match d with | .str i => k i | _ => False
@[reducible] def asTup (d : Da) (k : List Da → Prop) : Prop := match d with | .tup i => k i | _ => False
@[reducible] def asLst (d : Da) (k : List Da → Prop) : Prop := match d with | .lst i => k i | _ => False
@[reducible] def asSeq (d : Da) (k : List Da → Prop) : Prop := match d with | .lst i => k i | .tup i => k i | _ => False
theorem asInt_ {d : Da} {k : Int → Prop} (h : asInt d k) : ∃ i, d = .int i ∧ k i := by cases d <;> first | exact ⟨_, rfl, h⟩ | exact h.elim
theorem asBl_ {d : Da} {k : Bool → Prop} (h : asBl d k) : ∃ i, d = .bl i ∧ k i := by cases d <;> first | exact ⟨_, rfl, h⟩ | exact h.elim
theorem asStr_ {d : Da} {k : Str → Prop} (h : asStr d k) : ∃ i, d = .str i ∧ k i := by cases d <;> first | exact ⟨_, rfl, h⟩ | exact h.elim
theorem asTup_ {d : Da} {k : List Da → Prop} (h : asTup d k) : ∃ i, d = .tup i ∧ k i := by cases d <;> first | exact ⟨_, rfl, h⟩ | exact h.elim
theorem asLst_ {d : Da} {k : List Da → Prop} (h : asLst d k) : ∃ i, d = .lst i ∧ k i := by cases d <;> first | exact ⟨_, rfl, h⟩ | exact h.elim
theorem asSeq_ {d : Da} {k : List Da → Prop} (h : asSeq d k) : ∃ i, (d = .lst i ∨ d = .tup i) ∧ k i := by cases d <;> first | exact ⟨_, .inl rfl, h⟩ | exact ⟨_, .inr rfl, h⟩ | exact h.elim

section
variable {S : Sx} {Γ : List Slot} {e a b c : Expr} {es : List Expr} {Q : Da → Prop} {pos : Pos}
theorem EvE.imp {Q' : Da → Prop} (h : EvE S Γ e Q) (q : ∀ d, Q d → Q' d) : EvE S Γ e Q' := fun PX σ H Hf k st hk => h PX σ H Hf k st fun d v Hf' H' a b c z => hk d v Hf' H' a b c (q d z)
theorem EvT.imp {Q Q' : Bool → Prop} (h : EvT S Γ e Q) (q : ∀ d, Q d → Q' d) : EvT S Γ e Q' := fun PX σ H Hf k st hk => h PX σ H Hf k st fun d Hf' H' a b z => hk d Hf' H' a b (q d z)
theorem ev_of {t : TE} (h : ∀ X, S.Ok X → PE X e t) (q : ∀ PX σ H Hf k, Stt S PX Γ Hf H σ → (∀ d v Hf' H', Sub Hf Hf' → Stt S PX Γ Hf' H' σ → Rep S.K Hf' d v → Q d → k v H') → t σ H k) : EvE S Γ e Q :=
  fun PX σ H Hf k st hk => ⟨t, h, q PX σ H Hf k st hk⟩
/-! ### names, constants -/
theorem ev_var {i : Nat} {x : Str} {d : Da} (hN : S.N[i]? = some x) (hv : Vis S.sc x) (hΓ : Γ[i]? = some (.dat d)) (q : Q d)
    (hd : (x == ("__debug__" : Str)) = false := by decide) (hcd : (x == ("__classdict__" : Str)) = false := by decide) : EvE S Γ (.Name x pos) Q :=
  ev_of (fun X ok => pe_var (i := i) (by rw [ok.N]; exact hN) (by rw [ok.sc]; exact hv) hd hcd) fun PX σ H Hf k st hk => by
    obtain ⟨v, e, r⟩ := st.at_ i _ hΓ
    refine ⟨v, ?_, hk d v Hf H (Sub.refl _) st r q⟩
    cases z : σ[i]? with
    | none => rw [z] at e; cases e
    | some o => rw [z] at e; exact congrArg some e
theorem ev_const {d : Da} {v : V} (h : ∀ X, S.Ok X → PE X e (tC v)) (r : ∀ H, Rep S.K H d v) (q : Q d) : EvE S Γ e Q := ev_of h fun PX σ H Hf k st hk => hk d v Hf H (Sub.refl _) st (r _) q
theorem ev_int {i : Int} {j} (q : Q (.int i)) : EvE S Γ (.Constant (.int i) j pos) Q := ev_const (d := .int i) (v := .int i) (fun _ _ => pe_int) (fun _ => rfl) q
theorem ev_bl {i : Bool} {j} (q : Q (.bl i)) : EvE S Γ (.Constant (.bool i) j pos) Q := ev_const (d := .bl i) (v := .bl i) (fun _ _ => pe_bl) (fun _ => rfl) q
theorem ev_non {j} (q : Q .non) : EvE S Γ (.Constant .none j pos) Q := ev_const (d := .non) (v := .non) (fun _ _ => pe_non) (fun _ => rfl) q
theorem ev_str {i : Str} {j} (q : Q (.str i)) : EvE S Γ (.Constant (.str i) j pos) Q := ev_const (d := .str i) (v := .str i) (fun _ _ => pe_str) (fun _ => rfl) q
/-- a constant of the module -/
theorem ev_glob {x : Str} {d : Da} {v : V} {u : Value} (hg : GlS S x) (hm : S.mg x = some u) (rv : RelV v u) (r : ∀ H, Rep S.K H d v) (q : Q d) (hd : (x == ("__debug__" : Str)) = false := by decide) : EvE S Γ (.Name x pos) Q :=
  ev_const (v := v) (fun X ok => pe_glob (hg.gl ok) (by rw [ok.mg]; exact hm) rv hd) r q

/-! ### operators -/
structure OpG (S : Sx) (f : Value → Value → Sem Value) (r : Da → Da → (Da → Prop) → Prop) : Prop where
  ex : ∃ rr : R2, (∀ X, S.Ok X → OpR X f rr) ∧ ∀ PX Γ σ Hf H x y v u (Q : Da → Prop) k, Stt S PX Γ Hf H σ → Rep S.K Hf x v → Rep S.K Hf y u → r x y Q →
    (∀ d v Hf' H', Sub Hf Hf' → Stt S PX Γ Hf' H' σ → Rep S.K Hf' d v → Q d → k v H') → rr v u H k
theorem OpG.pure {f : Value → Value → Sem Value} {r : Da → Da → (Da → Prop) → Prop} (rr : R2) (h : ∀ X, S.Ok X → OpR X f rr)
    (q : ∀ Hf H x y v u Q k, Sub Hf H → Rep S.K Hf x v → Rep S.K Hf y u → r x y Q → (∀ d v, Rep S.K Hf d v → Q d → k v H) → rr v u H k) : OpG S f r :=
  ⟨rr, h, fun PX Γ σ Hf H x y v u Q k st rx ry hr hk => q Hf H x y v u Q k st.ex rx ry hr fun d v a b => hk d v Hf H (Sub.refl _) st a b⟩
theorem two {r : Da → Da → (Da → Prop) → Prop} {f : Value → Value → Sem Value} (ho : OpG S f r) {t : TE} {rr : R2} (hrr : ho.ex.choose = rr) (h : EvE S Γ a fun x => EvE S Γ b fun y => r x y Q) :
    ∀ PX σ H Hf k, Stt S PX Γ Hf H σ → (∀ d v Hf' H', Sub Hf Hf' → Stt S PX Γ Hf' H' σ → Rep S.K Hf' d v → Q d → k v H') → tOp rr (tU S a) (tU S b) σ H k := by
  subst hrr
  intro PX σ H Hf k st hk
  refine h PX σ H Hf _ st fun x v Hf1 H1 e1 st1 r1 q1 => ?_
  refine q1 PX σ H1 Hf1 _ st1 fun y u Hf2 H2 e2 st2 r2 q2 => ?_
  exact ho.ex.choose_spec.2 PX Γ σ Hf2 H2 x y v u Q k st2 (Rep.mono e2 _ _ r1) r2 q2 fun d v Hf' H' e => hk d v Hf' H' ((e1.trans e2).trans e)
theorem ev_op {op : Operator} {r : Da → Da → (Da → Prop) → Prop} (ho : OpG S (binaryOp op) r) (h : EvE S Γ a fun x => EvE S Γ b fun y => r x y Q) : EvE S Γ (.BinOp a op b pos) Q :=
  ev_of (fun X ok => pe_op (ho.ex.choose_spec.1 X ok) (pu ok) (pu ok)) (two (t := tU S a) ho rfl h)
theorem ev_cmp {op : CmpOp} {r : Da → Da → (Da → Prop) → Prop} (ho : OpG S (compareOp op) r) (h : EvE S Γ a fun x => EvE S Γ b fun y => r x y Q) (hm : behindInMarks op b = false := by first | exact nomark _ | rfl) : EvE S Γ (.Compare a [op] [b] pos) Q :=
  ev_of (fun X ok => pe_cmpR (ho.ex.choose_spec.1 X ok) (pu ok) (pu ok) hm) (two (t := tU S a) ho rfl h)
theorem et_cmp {op : CmpOp} {r : Da → Da → (Da → Prop) → Prop} {Q : Bool → Prop} (ho : OpG S (compareOp op) r) (h : EvE S Γ a fun x => EvE S Γ b fun y => r x y fun d => asBl d Q) (hm : behindInMarks op b = false := by first | exact nomark _ | rfl) : EvT S Γ (.Compare a [op] [b] pos) Q :=
  fun PX σ H Hf k st hk => ⟨_, fun X ok => pt_cmpR (ho.ex.choose_spec.1 X ok) (pu ok) (pu ok) hm, two (t := tU S a) ho rfl h PX σ H Hf _ st fun d v Hf' H' e st' r q => by
    obtain ⟨i, rfl, q⟩ := asBl_ q
    exact ⟨i, r, hk i Hf' H' e st' q⟩⟩

variable {f : Value → Value → Sem Value}
theorem og_I {g : Int → Int → Da} {g' : Int → Int → V} (ho : ∀ X, S.Ok X → OpR X f (rI0 g')) (hg : ∀ i j H, Rep S.K H (g i j) (g' i j)) : OpG S f fun x y Q => asInt x fun i => asInt y fun j => Q (g i j) :=
  .pure _ ho fun Hf H x y v u Q k _ rx ry hr hk => by
    obtain ⟨i, rfl, h1⟩ := asInt_ hr
    obtain ⟨j, rfl, h2⟩ := asInt_ h1
    exact ⟨i, j, rx, ry, hk _ _ (hg i j _) h2⟩
theorem og_IC {C : Int → Int → Prop} {g : Int → Int → Da} {g' : Int → Int → V} (ho : ∀ X, S.Ok X → OpR X f (rI C g')) (hg : ∀ i j H, Rep S.K H (g i j) (g' i j)) : OpG S f fun x y Q => asInt x fun i => asInt y fun j => C i j ∧ Q (g i j) :=
  .pure _ ho fun Hf H x y v u Q k _ rx ry hr hk => by
    obtain ⟨i, rfl, h1⟩ := asInt_ hr
    obtain ⟨j, rfl, h2⟩ := asInt_ h1
    exact ⟨i, j, rx, ry, h2.1, hk _ _ (hg i j _) h2.2⟩
theorem g_add : OpG S (binaryOp .Add) fun x y Q => asInt x fun i => asInt y fun j => Q (.int (i + j)) := og_I (fun _ _ => op_add) fun _ _ _ => rfl
theorem g_sub : OpG S (binaryOp .Sub) fun x y Q => asInt x fun i => asInt y fun j => Q (.int (i - j)) := og_I (fun _ _ => op_sub) fun _ _ _ => rfl
theorem g_mul : OpG S (binaryOp .Mult) fun x y Q => asInt x fun i => asInt y fun j => CMul i j ∧ Q (.int (i * j)) := og_IC (fun _ _ => op_mul) fun _ _ _ => rfl
theorem g_mod : OpG S (binaryOp .Mod) fun x y Q => asInt x fun i => asInt y fun j => 0 < j ∧ Q (.int (i % j)) := og_IC (fun _ _ => op_mod) fun _ _ _ => rfl
/-- what a divisor must be -/
abbrev Dv (j : Int) : Prop := 0 < j ∧ j < 18446744073709551616
theorem Dv.lg {j : Int} (h : Dv j) : j.natAbs.log2 < 9000 := Nat.lt_of_lt_of_le (PySem.Flt.log2_lt_of (k := 64) (by decide) (by have := h.1; have := h.2; omega)) (by decide)
theorem Dv.w {i j : Int} (h : Dv j) : CDivW i j := ⟨h.1, h.lg⟩
theorem Dv.p {i j : Int} (h : Dv j) : CDivP i j := ⟨h.1, PyProof.noPylong_of_log2 h.lg⟩
theorem g_div : OpG S (binaryOp .FloorDiv) fun x y Q => asInt x fun i => asInt y fun j => Dv j ∧ Q (.int (i / j)) :=
  .pure _ (fun _ _ => op_fdivW) fun Hf H x y v u Q k _ rx ry hr hk => by
    obtain ⟨i, rfl, h1⟩ := asInt_ hr
    obtain ⟨j, rfl, h2⟩ := asInt_ h1
    exact ⟨i, j, rx, ry, h2.1.w, hk (.int (i / j)) _ rfl h2.2⟩
theorem g_Pow : OpG S (binaryOp .Pow) fun x y Q => asInt x fun i => asInt y fun j => CPow i j ∧ Q (.int (i ^ j.toNat)) := og_IC (fun _ _ => op_pow) fun _ _ _ => rfl
theorem g_lt : OpG S (compareOp .Lt) fun x y Q => asInt x fun i => asInt y fun j => Q (.bl (decide (i < j))) := og_I (fun _ _ => op_lt) fun _ _ _ => rfl
theorem g_le : OpG S (compareOp .LtE) fun x y Q => asInt x fun i => asInt y fun j => Q (.bl (decide (i ≤ j))) := og_I (fun _ _ => op_le) fun _ _ _ => rfl
theorem g_gt : OpG S (compareOp .Gt) fun x y Q => asInt x fun i => asInt y fun j => Q (.bl (decide (j < i))) := og_I (fun _ _ => op_gt) fun _ _ _ => rfl
theorem g_ge : OpG S (compareOp .GtE) fun x y Q => asInt x fun i => asInt y fun j => Q (.bl (decide (j ≤ i))) := og_I (fun _ _ => op_ge) fun _ _ _ => rfl
end

section
variable {S : Sx} {Γ : List Slot} {e a b c : Expr} {es : List Expr} {Q : Da → Prop} {B : Bool → Prop} {pos : Pos}
/-! ### tests -/
@[reducible] def cond (b : Bool) (p q : Prop) : Prop := match b with | true => p | false => q
theorem cond_ite {b : Bool} {p q : Prop} (h : cond b p q) : if b = true then p else q := by cases b <;> first | exact iteT h | exact iteF h
theorem et_val (h : EvE S Γ e fun d => asBl d B) (he : ∀ env whole, isTrue e env whole = (do let v ← whole; standAt e.pos; holding [v] (truthy v)) := by intro _ _; rfl) : EvT S Γ e B :=
  fun PX σ H Hf k st hk => ⟨_, fun X ok => pt_val (pu ok) (he X.env), h PX σ H Hf _ st fun d v Hf' H' e' st' r q => by
    obtain ⟨i, rfl, q⟩ := asBl_ q
    exact ⟨i, r, hk i Hf' H' e' st' q⟩⟩
theorem et_not (h : EvT S Γ a fun c => B (!c)) : EvT S Γ (.UnaryOp .Not a pos) B :=
  fun PX σ H Hf k st hk => ⟨_, fun X ok => pt_not (puT ok), h PX σ H Hf _ st fun c Hf' H' e' st' q => hk (!c) Hf' H' e' st' q⟩
def EvW (S : Sx) (Γ : List Slot) (e : Expr) (Q : Bool → Prop) : Prop := ∀ PX σ H Hf k, Stt S PX Γ Hf H σ →
  (∀ b Hf' H', Sub Hf Hf' → Stt S PX Γ Hf' H' σ → Q b → k b H') → ∃ t : TT, (∀ X, S.Ok X → PW X e t) ∧ t σ H k
def tUW (S : Sx) (e : Expr) : TT := fun σ H Q => ∃ t : TT, (∀ X, S.Ok X → PW X e t) ∧ t σ H Q
theorem puW {X : Cx} (ok : S.Ok X) : PW X e (tUW S e) := ⟨fun wh pins s σ H Q I ⟨_, h, q⟩ => (h X ok).run wh pins s σ H Q I q⟩
theorem et_w (h : EvW S Γ e B) : EvT S Γ e B := fun PX σ H Hf k st hk => by
  obtain ⟨t, h1, h2⟩ := h PX σ H Hf k st hk
  exact ⟨t, fun X ok => (h1 X ok).pt, h2⟩
theorem ew_and1 (h : EvT S Γ a B) : EvW S Γ (.BoolOp .And [a] pos) B := fun PX σ H Hf k st hk => ⟨_, fun X ok => pw_and1 (puT ok), h PX σ H Hf k st hk⟩
theorem ew_or1 (h : EvT S Γ a B) : EvW S Γ (.BoolOp .Or [a] pos) B := fun PX σ H Hf k st hk => ⟨_, fun X ok => pw_or1 (puT ok), h PX σ H Hf k st hk⟩
theorem ew_and (h : EvT S Γ a fun c => cond c (EvW S Γ (.BoolOp .And (b :: es) pos) B) (B false)) : EvW S Γ (.BoolOp .And (a :: b :: es) pos) B :=
  fun PX σ H Hf k st hk => ⟨_, fun X ok => pw_and (puT ok) (puW ok), h PX σ H Hf _ st fun c Hf1 H1 e1 st1 q => cond_ite (by
    cases c with
    | true => exact q PX σ H1 Hf1 k st1 fun b Hf' H' e => hk b Hf' H' (e1.trans e)
    | false => exact hk false Hf1 H1 e1 st1 q)⟩
theorem ew_or (h : EvT S Γ a fun c => cond c (B true) (EvW S Γ (.BoolOp .Or (b :: es) pos) B)) : EvW S Γ (.BoolOp .Or (a :: b :: es) pos) B :=
  fun PX σ H Hf k st hk => ⟨_, fun X ok => pw_or (puT ok) (puW ok), h PX σ H Hf _ st fun c Hf1 H1 e1 st1 q => cond_ite (by
    cases c with
    | false => exact q PX σ H1 Hf1 k st1 fun b Hf' H' e => hk b Hf' H' (e1.trans e)
    | true => exact hk true Hf1 H1 e1 st1 q)⟩
/-! ### and, or, not, if as values -/
theorem ev_one {op} (h : EvE S Γ a Q) : EvE S Γ (.BoolOp op [a] pos) Q := ev_of (fun X ok => pe_one (pu ok)) h
theorem ev_and (h : EvE S Γ a fun d => asBl d fun c => cond c (EvE S Γ (.BoolOp .And (b :: es) pos) Q) (Q (.bl false))) : EvE S Γ (.BoolOp .And (a :: b :: es) pos) Q :=
  ev_of (fun X ok => pe_and (pu ok) (pu ok)) fun PX σ H Hf k st hk => h PX σ H Hf _ st fun d v Hf1 H1 e1 st1 r q => by
    obtain ⟨c, rfl, q⟩ := asBl_ q
    refine ⟨c, r, cond_ite ?_⟩
    cases c with
    | true => exact q PX σ H1 Hf1 k st1 fun d v Hf' H' e => hk d v Hf' H' (e1.trans e)
    | false => exact hk (.bl false) _ Hf1 H1 e1 st1 rfl q
theorem ev_or (h : EvE S Γ a fun d => asBl d fun c => cond c (Q (.bl true)) (EvE S Γ (.BoolOp .Or (b :: es) pos) Q)) : EvE S Γ (.BoolOp .Or (a :: b :: es) pos) Q :=
  ev_of (fun X ok => pe_or (pu ok) (pu ok)) fun PX σ H Hf k st hk => h PX σ H Hf _ st fun d v Hf1 H1 e1 st1 r q => by
    obtain ⟨c, rfl, q⟩ := asBl_ q
    refine ⟨c, r, cond_ite ?_⟩
    cases c with
    | false => exact q PX σ H1 Hf1 k st1 fun d v Hf' H' e => hk d v Hf' H' (e1.trans e)
    | true => exact hk (.bl true) _ Hf1 H1 e1 st1 rfl q
theorem ev_not (h : EvE S Γ a fun d => asBl d fun c => Q (.bl (!c))) : EvE S Γ (.UnaryOp .Not a pos) Q :=
  ev_of (fun X ok => pe_not (pu ok)) fun PX σ H Hf k st hk => h PX σ H Hf _ st fun d v Hf1 H1 e1 st1 r q => by
    obtain ⟨c, rfl, q⟩ := asBl_ q
    exact ⟨c, r, hk (.bl (!c)) _ Hf1 H1 e1 st1 rfl q⟩
theorem ev_ifx (h : EvT S Γ c fun t => cond t (EvE S Γ a Q) (EvE S Γ b Q)) : EvE S Γ (.IfExp c a b pos) Q :=
  ev_of (fun X ok => pe_ifExp (puT ok) (pu ok) (pu ok)) fun PX σ H Hf k st hk => h PX σ H Hf _ st fun t Hf1 H1 e1 st1 q => cond_ite (by
    cases t with
    | true => exact q PX σ H1 Hf1 k st1 fun d v Hf' H' e => hk d v Hf' H' (e1.trans e)
    | false => exact q PX σ H1 Hf1 k st1 fun d v Hf' H' e => hk d v Hf' H' (e1.trans e))
theorem ev_neg (h : EvE S Γ a fun d => asInt d fun i => Q (.int (-i))) : EvE S Γ (.UnaryOp .USub a pos) Q :=
  ev_of (fun X ok => pe_un un_neg (pu ok)) fun PX σ H Hf k st hk => h PX σ H Hf _ st fun d v Hf1 H1 e1 st1 r q => by
    obtain ⟨c, rfl, q⟩ := asInt_ q
    exact ⟨c, r, hk (.int (-c)) _ Hf1 H1 e1 st1 rfl q⟩
/-- is None -/
@[reducible] def isNon (d : Da) : Bool := match d with | .non => true | _ => false
theorem Rep.non_iff {K : PySem.W.Frag} {H : Hp} {d : Da} {v : V} (r : Rep K H d v) : decide (v = V.non) = isNon d := by
  cases d <;> unfold Rep at r
  case non => subst r; rfl
  case bl => subst r; rfl
  case int => subst r; rfl
  case str => subst r; rfl
  case ty => subst r; rfl
  case rf => subst r; rfl
  case lst => obtain ⟨_, _, rfl, _⟩ := r; rfl
  case tup => obtain ⟨_, _, rfl, _⟩ := r; rfl
  case dct => obtain ⟨_, _, rfl, _⟩ := r; rfl
  case ins => obtain ⟨_, _, _, rfl, _⟩ := r; rfl
theorem g_is : OpG S (compareOp .Is) fun x y Q => y = .non ∧ Q (.bl (isNon x)) :=
  .pure _ (fun _ _ => op_isN) fun Hf H x y v u Q k _ rx ry hr hk => by
    obtain ⟨rfl, q⟩ := hr
    exact ⟨ry, hk (.bl (isNon x)) _ (by rw [Rep.non_iff rx]; rfl) q⟩
theorem g_isnot : OpG S (compareOp .IsNot) fun x y Q => y = .non ∧ Q (.bl (!isNon x)) :=
  .pure _ (fun _ _ => op_notN) fun Hf H x y v u Q k _ rx ry hr hk => by
    obtain ⟨rfl, q⟩ := hr
    exact ⟨ry, hk (.bl (!isNon x)) _ (by rw [Rep.non_iff rx]; rfl) q⟩

/-! ### argument lists, displays -/
theorem ea_nil {Q : List Da → Prop} (q : Q []) : EvA S Γ [] Q := fun PX σ H Hf k st hk => ⟨_, fun X _ => pa_nil, hk [] [] Hf H (Sub.refl _) st rfl q⟩
theorem ea_cons {Q : List Da → Prop} (h : EvE S Γ e fun d => EvA S Γ es fun ds => Q (d :: ds)) (hs : ∀ env, starEach (e :: es) env = (false, eval e env) :: starEach es env := by intro _; rfl) : EvA S Γ (e :: es) Q :=
  fun PX σ H Hf k st hk => ⟨_, fun X ok => pa_cons (pu ok) (puA ok) (hs _), h PX σ H Hf _ st fun d v Hf1 H1 e1 st1 r1 q1 => q1 PX σ H1 Hf1 _ st1 fun ds vs Hf2 H2 e2 st2 r2 q2 =>
    hk (d :: ds) (v :: vs) Hf2 H2 (e1.trans e2) st2 ⟨v, vs, rfl, Rep.mono e2 _ _ r1, r2⟩ q2⟩
theorem ek_nil {Q : List Da → Prop} (q : Q []) : EvK S Γ [] Q := fun PX σ H Hf k st hk => ⟨_, fun X _ => pk_nil, hk [] [] Hf H (Sub.refl _) st rfl q⟩
theorem ek_cons {Q : List Da → Prop} {nm : Option Str} {kpos : Pos} {ks : List Keyword} (h : EvE S Γ e fun d => EvK S Γ ks fun ds => Q (d :: ds)) : EvK S Γ (⟨nm, e, kpos⟩ :: ks) Q :=
  fun PX σ H Hf k st hk => ⟨_, fun X ok => pk_cons (pu ok) (puK ok), h PX σ H Hf _ st fun d v Hf1 H1 e1 st1 r1 q1 => q1 PX σ H1 Hf1 _ st1 fun ds vs Hf2 H2 e2 st2 r2 q2 =>
    hk (d :: ds) (v :: vs) Hf2 H2 (e1.trans e2) st2 ⟨v, vs, rfl, Rep.mono e2 _ _ r1, r2⟩ q2⟩
theorem Reps.len {K : PySem.W.Frag} {H : Hp} : ∀ {ds : List Da} {vs : List V}, Reps K H ds vs → vs.length = ds.length
  | [], _, h => by unfold Reps at h; subst h; rfl
  | d :: ds, _, h => by
    unfold Reps at h
    obtain ⟨x, r, rfl, _, h⟩ := h
    rw [List.length_cons, List.length_cons, Reps.len h]
abbrev Sz (n : Nat) : Prop := n ≤ 100000
theorem Sz.ok {n : Nat} (h : Sz n) : n ≤ sizeLine := Nat.le_trans h (by decide)
theorem ev_tup {x1} (h : EvA S Γ es fun ds => Sz ds.length ∧ Q (.tup ds)) : EvE S Γ (.Tuple es x1 pos) Q :=
  ev_of (fun X ok => pe_tup (puA ok)) fun PX σ H Hf k st hk => h PX σ H Hf _ st fun ds vs Hf1 H1 e1 st1 r1 q1 => ⟨by rw [r1.len]; exact q1.1.ok, fun p hp => by
    obtain ⟨st2, e2⟩ := st1.alloc (o := .tup vs) hp
    exact hk (.tup ds) _ _ _ (e1.trans e2) st2 ⟨p, vs, rfl, SqT.of upd_same, Reps.mono e2 _ _ r1⟩ q1.2⟩
theorem ev_lst (h : EvA S Γ es fun ds => Sz ds.length ∧ Q (.lst ds)) : EvE S Γ (.List es pos) Q :=
  ev_of (fun X ok => pe_lst (puA ok)) fun PX σ H Hf k st hk => h PX σ H Hf _ st fun ds vs Hf1 H1 e1 st1 r1 q1 => ⟨by rw [r1.len]; exact q1.1.ok, fun p hp => by
    obtain ⟨st2, e2⟩ := st1.alloc (o := .lst vs) hp
    exact hk (.lst ds) _ _ _ (e1.trans e2) st2 ⟨p, vs, rfl, SqL.of upd_same, Reps.mono e2 _ _ r1⟩ q1.2⟩
end

/-! ## defs -/
/-- what becomes of the frozen part and of the heap -/
structure Gr (Hf H Hf' H' : Hp) : Prop where
  f : Sub Hf Hf'
  e : Sub Hf' H'
  n : ∀ p, Hf' p ≠ none → Hf p = none → H p = none
abbrev Fd := List Da → (Da → Prop) → Er → Prop
def SpD (K : PySem.W.Frag) (f : Fd) : Sp := fun vs H Q E => ∃ ds Hf q er, Sub Hf H ∧ Reps K Hf ds vs ∧ f ds q er ∧
  (∀ d v Hf' H', Gr Hf H Hf' H' → Sub H H' → Rep K Hf' d v → q d → Q v H') ∧
  (∀ cls x fs Hf' H', Gr Hf H Hf' H' → Sub H H' → XRep K Hf' x fs → er cls fs → E cls x H')
/-- the first argument is a list of the caller's that may change within I -/
def SpO (K : PySem.W.Frag) (I : List Da → Prop) (f : Fd) : Sp := fun vs H Q E => ∃ p us ds Hf q er, vs = .ref p :: us ∧ Sub Hf H ∧ Own K Hf H p I ∧ Reps K Hf ds us ∧ f ds q er ∧
  (∀ d v Hf' H', Gr Hf H Hf' H' → (∀ a o, a ≠ p → H a = some o → H' a = some o) → Own K Hf' H' p I → Rep K Hf' d v → q d → Q v H') ∧
  (∀ cls x fs Hf' H', Gr Hf H Hf' H' → (∀ a o, a ≠ p → H a = some o → H' a = some o) → Own K Hf' H' p I → XRep K Hf' x fs → er cls fs → E cls x H')
/-- a def keeps its promise, where no repr is under way -/
structure FnG (P : Program) (w : World) (K : PySem.W.Frag) (mg : Str → Option Value) (base : Heap) (k : Nat) (f : Addr) (fd : FuncData) (ps : List Str) (sp : Sp) : Prop where
  len : ∀ vs H Q E, sp vs H Q E → vs.length = ps.length
  run : ∀ (A : Around) (outer : List Env) (s : Shared) (H : Hp) (args : Args) (us : List Value) (vs : List V) (Q : VK) (E : XK), Room k A → A.guards = some [] →
    Env0 P w K mg base A outer s H → BindsTo s fd args (ps.zip us) → Vals vs us → sp vs H Q E → codeAny (model P w) A (.call (.ref f) args) (CR (L2.CX P w) outer P w H s Q E) s
theorem FnG.mono {P : Program} {w : World} {K : PySem.W.Frag} {mg : Str → Option Value} {base : Heap} {j k : Nat} {f : Addr} {fd : FuncData} {ps : List Str} {sp : Sp} (F : FnG P w K mg base j f fd ps sp) (h : j ≤ k) :
    FnG P w K mg base k f fd ps sp := { len := F.len, run := fun A outer s H args us vs Q E hr => F.run A outer s H args us vs Q E (hr.mono h) }

section
variable {S : Sx} {X : Cx} {k : Nat} {f : Addr} {fd : FuncData} {ps : List Str} {sp : Sp} {E : XK} {x : Str} {p pos : Pos} {e : Expr} {es : List Expr} {kws : List Keyword} {t tk : TA}
/-- the callee runs: its arguments in whatever way they bind -/
theorem runG {pins : List (Addr × Obj)} {σ : L2.St} {H : Hp} {s : Shared} {Q : VK} {args : Args} {us : List Value} {vs : List V} (F : FnG X.prog X.w X.K X.mg X.base k f fd ps sp) (hr : Room k X.A) (hgd : X.A.guards = some []) (hx : Passes (L2.CX X.prog X.w) X E)
    (I : Inv X pins σ H s) (hb : BindsTo s fd args (ps.zip us)) (r : Vals vs us) (h : sp vs H Q E) : wpAny (model X.prog X.w) X.A (call (.ref f) args.pos args.kw) (EP X pins σ Q) X.xe s := by
  refine wpAny_call (codeAny_mono (F.run X.A X.stack s H args us vs Q E hr hgd I.env0 hb r h) fun res s' hq => ?_)
  match res, hq with
  | .error e, hq => exact hx pins σ H s e s' I hq
  | .ok (.ret u), hq => exact I.after hq
  | .ok .next, hq => exact False.elim hq
  | .ok .brk, hq => exact False.elim hq
  | .ok .cont, hq => exact False.elim hq
def BindP (fd : FuncData) (ps : List Str) : Prop := ∀ us : List Value, us.length = ps.length → bindArgs fd ⟨us, []⟩ = pure (ps.zip us)
/-- positional values, keywords' values: how they come in the parameters' order, by places -/
def perm {α : Type} (pm : List Nat) (us ws : List α) : List α := pm.filterMap fun i => (us ++ ws)[i]?
def BindK (fd : FuncData) (ps : List Str) (n : Nat) (ks : List Str) (pm : List Nat) : Prop :=
  ∀ us ws : List Value, us.length = n → ws.length = ks.length → bindArgs fd ⟨us, ks.zip ws⟩ = pure (ps.zip (perm pm us ws))
theorem peG (F : FnG X.prog X.w X.K X.mg X.base k f fd ps sp) (hr : Room k X.A) (hgd : X.A.guards = some []) (hg : Gl X x) (hm : X.mg x = some (.ref f)) (hk : PySem.W.keepIn X.K (.ref f) = true) (hb : BindP fd ps) (hx : Passes (L2.CX X.prog X.w) X E)
    (ha : PA X (e :: es) t) (hd : (x == ("__debug__" : Str)) = false) (he : starEach (e :: es) X.env = (false, eval e X.env) :: starEach es X.env) (hpl : (backTo pos (starEach es X.env)).any (·.1) = false) :
    PE X (.Call (.Name x p) (e :: es) [] pos) (tCall sp [] E t) := by
  refine ⟨fun pins s σ H Q I h => wpAny_Call_Name_kw (ld_glob I hg hm ?_ hd)⟩
  refine PySem.W.callWith_K (h₀ := X.base) I.ok.mod.kin hk (thn (ha.run pos pins s σ H _ I h) fun us s1 hh => ?_) he hpl
  obtain ⟨vs, H1, I1, r, q⟩ := hh
  rw [List.append_nil] at q
  exact ⟨I1.kIn, runG (args := ⟨us, []⟩) F hr hgd hx I1 (.of_eq (hb us (by rw [← r.length]; exact F.len _ _ _ _ q))) r q⟩
theorem peG0 (F : FnG X.prog X.w X.K X.mg X.base k f fd ps sp) (hr : Room k X.A) (hgd : X.A.guards = some []) (hg : Gl X x) (hm : X.mg x = some (.ref f)) (hk : PySem.W.keepIn X.K (.ref f) = true) (hb : BindP fd ps) (hx : Passes (L2.CX X.prog X.w) X E)
    (hd : (x == ("__debug__" : Str)) = false) : PE X (.Call (.Name x p) [] [] pos) (tCall sp [] E tNil) := by
  refine ⟨fun pins s σ H Q I h => wpAny_Call_Name_kw (ld_glob I hg hm ?_ hd)⟩
  have h : sp [] H Q E := h
  exact PySem.W.callWith_K0 I.kIn hk (runG (args := ⟨[], []⟩) (us := []) F hr hgd hx I (.of_eq (hb [] (F.len _ _ _ _ h))) .nil h)
def tCallP (sp : Sp) (pm : List Nat) (n m : Nat) (E : XK) (t tk : TA) : TE := fun σ H Q => t σ H fun vs H1 => tk σ H1 fun zs H2 => vs.length = n ∧ zs.length = m ∧ sp (perm pm vs zs) H2 Q E
theorem Vals.perm {pm : List Nat} {vs zs : List V} {us ws : List Value} (r : Vals vs us) (rz : Vals zs ws) : Vals (perm pm vs zs) (perm pm us ws) := by
  have ra := r.append rz
  induction pm with
  | nil => exact .nil
  | cons i pm ih =>
    unfold GX.perm at ih ⊢
    rw [List.filterMap_cons, List.filterMap_cons]
    cases q : (vs ++ zs)[i]? with
    | none => rw [ra.none_of q]; exact ih
    | some v =>
      obtain ⟨u, h1, h2⟩ := ra.get q
      rw [h1]
      exact .cons h2 ih
theorem peGK0 {ks : List Str} {pm : List Nat} (F : FnG X.prog X.w X.K X.mg X.base k f fd ps sp) (hr : Room k X.A) (hgd : X.A.guards = some []) (hg : Gl X x) (hm : X.mg x = some (.ref f)) (hk : PySem.W.keepIn X.K (.ref f) = true)
    (hb : BindK fd ps 0 ks pm) (hx : Passes (L2.CX X.prog X.w) X E) (hkw : PK X kws tk)
    (hall : (backToKw pos (keywordEach kws X.env)).all (·.1.isSome) = true) (hks : (backToKw pos (keywordEach kws X.env)).filterMap (·.1) = ks)
    (hd : (x == ("__debug__" : Str)) = false) (hpl : (backToKw pos (keywordEach kws X.env)).any (·.1.isNone) = false) : PE X (.Call (.Name x p) [] kws pos) (tCallP sp pm 0 ks.length E tNil tk) := by
  refine ⟨fun pins s σ H Q I h => wpAny_Call_Name_kw (ld_glob I hg hm ?_ hd)⟩
  refine PySem.W.callWith_KW0 (h₀ := X.base) I.ok.mod.kin hk hall (thn (hkw.run pos pins s σ H _ I h) fun ws s2 hh => ?_) hpl
  obtain ⟨zs, H2, I2, rz, _, hl, q2⟩ := hh
  rw [hks]
  exact ⟨I2.kIn, runG (args := ⟨[], ks.zip ws⟩) F hr hgd hx I2 (.of_eq (hb [] ws rfl (by rw [← rz.length]; exact hl))) (Vals.perm .nil rz) q2⟩
theorem peGK {n : Nat} {ks : List Str} {pm : List Nat} (F : FnG X.prog X.w X.K X.mg X.base k f fd ps sp) (hr : Room k X.A) (hgd : X.A.guards = some []) (hg : Gl X x) (hm : X.mg x = some (.ref f)) (hk : PySem.W.keepIn X.K (.ref f) = true)
    (hb : BindK fd ps n ks pm) (hx : Passes (L2.CX X.prog X.w) X E) (ha : PA X (e :: es) t) (hkw : PK X kws tk)
    (hall : (backToKw pos (keywordEach kws X.env)).all (·.1.isSome) = true) (hks : (backToKw pos (keywordEach kws X.env)).filterMap (·.1) = ks)
    (hd : (x == ("__debug__" : Str)) = false) (he : starEach (e :: es) X.env = (false, eval e X.env) :: starEach es X.env)
    (hpl : ((backTo pos (starEach (e :: es) X.env)).any (·.1) || (backToKw pos (keywordEach kws X.env)).any (·.1.isNone)) = false) : PE X (.Call (.Name x p) (e :: es) kws pos) (tCallP sp pm n ks.length E t tk) := by
  refine ⟨fun pins s σ H Q I h => wpAny_Call_Name_kw (ld_glob I hg hm ?_ hd)⟩
  refine PySem.W.callWith_KW (h₀ := X.base) I.ok.mod.kin hk hall (thn (ha.run pos pins s σ H _ I h) fun us s1 hh => ?_) hpl he
  obtain ⟨vs, H1, I1, r, q⟩ := hh
  refine thn (hkw.run pos pins s1 σ H1 _ I1 q) fun ws s2 hh => ?_
  obtain ⟨zs, H2, I2, rz, hl1, hl, q2⟩ := hh
  rw [hks]
  exact ⟨I2.kIn, runG (args := ⟨us, ks.zip ws⟩) F hr hgd hx I2 (.of_eq (hb us ws (by rw [← r.length]; exact hl1) (by rw [← rz.length]; exact hl))) (Vals.perm r rz) q2⟩
end
/-! ## a def by its body -/
section
variable {P : Program} {w : World} {K : PySem.W.Frag} {mg : Str → Option Value} {base : Heap} {k : Nat} {f : Addr} {fd : FuncData} {x qual : Str} {st : Stmt} {N ps : List Str} {sp : Sp}
theorem Fun.okG (F : Fun K x qual st f fd) (C : FnScope N ps (defScope st)) (len : ∀ vs H Q E, sp vs H Q E → vs.length = ps.length)
    (hbody : ∀ (cdv : Value) (A : Around) (outer : List Env) (s : Shared) (H : Hp) (vs : List V) (Q : VK) (E : XK), Room k (A.deeper (envOfC qual (defScope st) s.heap.objs.size f cdv)) → A.guards = some [] → sp vs H Q E →
      ∃ t, PSs (cxOf (L2.CX P w) P w K mg base N qual (defScope st) f cdv A outer s H E) (defBody st) t ∧ t { nx := fun _ H' => Q .non H', rt := Q } (L2.start N vs) H) :
    FnG P w K mg base (k + 1) f fd ps sp := by
  obtain ⟨oc, od, kV, doc, pm, an, cdv, ct, osl, rfl, lk, hcd⟩ := F.ex
  refine ⟨len, fun A outer s H args us vs Q E hr hgd e0 hb r hsp => ?_⟩
  have hl := len _ _ _ _ hsp
  have KX : K.In s.heap := e0.mod.kin.keeps fun b o e => (e0.bs b o e).1
  have lim : s.heap.NoLimit := e0.mod.nolimit.keeps fun b o e => (e0.bs b o e).1
  refine codeAny_call_function hr.depth (KX _ _ lk) rfl C.co C.gen rfl (PySem.W.codeRec_of KX hcd) (hb _ _ _ _ ?_)
  refine wpAny_newFunctionEnv_cells C.kind (fun y hy => ?_) fun env he s1 z => ?_
  · rcases C.par y.1 (List.of_mem_zip (a := y.1) (b := y.2) hy).1 with q | q
    · exact .inl q
    · exact .inr ⟨q, PySem.W.cellsFrom_some _ _ _ (.inl q)⟩
  subst he
  refine ⟨lim.keeps z.toInCall.keep, codeAny_func ?_⟩
  obtain ⟨t, ht, hq⟩ := hbody cdv A outer s H vs Q E (hr.deeper _) hgd hsp
  refine wpAny_mono (ht.run [] s1 (L2.start N vs) H _ (inv_start C hr.hd e0 hl r z) hq) (fun fl s' hs => ?_) fun e s' hs => hs
  match fl, hs with
  | .ret u, ⟨v, _, H', J, rv, q⟩ => exact ⟨v, H', J.os, J.bare, J.base, J.hok, rv, q⟩
  | .next, ⟨_, H', J, q⟩ => exact ⟨V.non, H', J.os, J.bare, J.base, J.hok, rfl, q⟩
  | .brk, ⟨_, _, _, q⟩ => exact False.elim q
  | .cont, ⟨_, _, _, q⟩ => exact False.elim q

def mkS (P : Program) (w : World) (K : PySem.W.Frag) (mg : Str → Option Value) (base : Heap) (N : List Str) (sc : Scope) (k : Nat) (F0 H0 : Hp) (op : List (Addr × (List Da → Prop))) (E : Er) : Sx := ⟨P, w, K, mg, base, N, sc, k, F0, H0, op, E, fun _ => true⟩
theorem ok_body {cdv : Value} {A : Around} {outer : List Env} {s : Shared} {H F0 : Hp} {op : List (Addr × (List Da → Prop))} {E : XK} {er : Er} (hr : Room k (A.deeper (envOfC qual (defScope st) s.heap.objs.size f cdv))) (hgd : A.guards = some []) (nd : N.Nodup)
    (hE : ∀ cls d σ H', (mkS P w K mg base N (defScope st) k F0 H op er).WX cls d σ H' → E cls d H') :
    (mkS P w K mg base N (defScope st) k F0 H op er).Ok (cxOf (L2.CX P w) P w K mg base N qual (defScope st) f cdv A outer s H E) where
  P := rfl
  w := rfl
  K := rfl
  mg := rfl
  base := rfl
  N := rfl
  sc := rfl
  calm := rfl
  room := hr
  gd := hgd
  nd := nd
  tk := (takes_of (E := E) rfl rfl rfl rfl).imp fun c d σ H' h => hE c d σ H' h
  po := passes_of rfl
  fn := fun _ _ => .inl rfl
theorem start_get {N : List Str} {vs : List V} {i : Nat} {v : V} (h : vs[i]? = some v) : (L2.start N vs)[i]? = some (some v) := by
  unfold L2.start
  have hi : i < vs.length := (List.getElem?_eq_some_iff.mp h).1
  rw [List.getElem?_append_left (by simpa using hi), List.getElem?_map, h]; rfl
theorem Reps.get {H : Hp} : ∀ {ds : List Da} {vs : List V} {i : Nat} {d : Da}, Reps K H ds vs → ds[i]? = some d → ∃ v, vs[i]? = some v ∧ Rep K H d v
  | [], _, _, _, _, h => by simp at h
  | c :: ds, _, 0, d, r, h => by
    unfold Reps at r
    obtain ⟨x, l, rfl, r1, _⟩ := r
    simp at h; subst h
    exact ⟨x, rfl, r1⟩
  | c :: ds, _, i + 1, d, r, h => by
    unfold Reps at r
    obtain ⟨x, l, rfl, _, r2⟩ := r
    obtain ⟨v, h1, h2⟩ := Reps.get (i := i) r2 (by simpa using h)
    exact ⟨v, by simpa using h1, h2⟩
/-- the slots at a def's entry -/
def st0 (ds : List Da) (n : Nat) : List Slot := ds.map .dat ++ List.replicate (n - ds.length) .no
theorem st0_get {ds : List Da} {n i : Nat} {s : Slot} (h : (st0 ds n)[i]? = some s) : (∃ d, ds[i]? = some d ∧ s = .dat d) ∨ s = .no := by
  unfold st0 at h
  by_cases hi : i < ds.length
  · rw [List.getElem?_append_left (by simpa using hi), List.getElem?_map] at h
    cases e : ds[i]? with
    | none => rw [e] at h; cases h
    | some d => rw [e] at h; cases h; exact .inl ⟨d, rfl, rfl⟩
  · rw [List.getElem?_append_right (by simpa using hi), List.getElem?_replicate] at h
    split at h <;> cases h
    exact .inr rfl
theorem fnD {F : Fun K x qual st f fd} {spec : Fd} (C : FnScope N ps (defScope st)) (len : ∀ ds q er, spec ds q er → ds.length = ps.length)
    (body : ∀ (F0 H0 : Hp) ds q er, spec ds q er → EvB (mkS P w K mg base N (defScope st) k F0 H0 [] er) (st0 ds N.length) (defBody st) { nx := fun _ => q .non, rt := q }) :
    FnG P w K mg base (k + 1) f fd ps (SpD K spec) := by
  refine Fun.okG F C (fun vs H Q E h => ?_) fun cdv A outer s H vs Q E hr hgd h => ?_
  · obtain ⟨ds, Hf, q, er, _, r, h, _⟩ := h
    rw [r.len]; exact len ds q er h
  · obtain ⟨ds, Hf, q, er, e, r, h, hQ, hE⟩ := h
    have hl := len ds q er h
    have hb := body Hf H ds q er h
    have hps : ps.length ≤ N.length := by
      have z := congrArg List.length C.pre
      rw [List.length_take] at z; omega
    have st0' : Stt (mkS P w K mg base N (defScope st) k Hf H [] er) (fun _ => none) (st0 ds N.length) Hf H (L2.start N vs) := by
      refine ⟨?_, Sub.refl _, e, fun q o h _ => h, fun q h => (nomatch h), fun i s h => ?_, fun i p I h => ?_, fun p h1 h2 => absurd h2 h1, fun _ _ z => (nomatch z), fun p h => absurd rfl h, fun _ _ _ _ => rfl, fun i j p I J h => ?_⟩
      · unfold L2.start st0
        rw [List.length_append, List.length_map, List.length_replicate, List.length_append, List.length_map, List.length_replicate, r.len]
      · rcases st0_get h with ⟨d, h1, rfl⟩ | rfl
        · obtain ⟨v, h2, h3⟩ := r.get h1
          exact ⟨v, by rw [start_get h2]; rfl, h3⟩
        · trivial
      · rcases st0_get h with ⟨d, h1, z⟩ | z <;> cases z
      · rcases st0_get h with ⟨d, h1, z⟩ | z <;> cases z
    have gr : ∀ {Γ σ Hf' H'}, Stt (mkS P w K mg base N (defScope st) k Hf H [] er) (fun _ => none) Γ Hf' H' σ → Gr Hf H Hf' H' ∧ Sub H H' := fun z => ⟨⟨z.ex0, z.ex, z.fr⟩, fun a o h => z.keep a o h (by exact List.not_mem_nil)⟩
    obtain ⟨t, h1, h2⟩ := hb (fun _ => none) (L2.start N vs) H Hf { nx := fun _ H' => Q .non H', rt := Q } st0' ⟨fun Γ σ Hf' H' _ z q => hQ .non .non Hf' H' (gr z).1 (gr z).2 rfl q, fun d v Γ σ Hf' H' _ z _ rr q => hQ d v Hf' H' (gr z).1 (gr z).2 rr q, fun _ _ _ _ _ _ z => z, fun _ _ _ _ _ _ z => z, fun _ _ _ _ _ _ _ _ _ _ _ _ _ z => z.elim⟩
    refine ⟨t, h1 _ (ok_body hr hgd C.nd fun cls d σ H' hw => ?_), h2⟩
    obtain ⟨Hf', fs, a1, a2, a4, a3, _, a5, a6⟩ := hw
    exact hE cls d fs Hf' H' ⟨a1, a2, a4⟩ (fun a o h => a3 a o h (by exact List.not_mem_nil)) a5 a6
theorem fnO {I : List Da → Prop} {F : Fun K x qual st f fd} {spec : Fd} (C : FnScope N ps (defScope st)) (len : ∀ ds q er, spec ds q er → ds.length + 1 = ps.length)
    (body : ∀ (F0 H0 : Hp) (p : Addr) ds q er, spec ds q er → EvB (mkS P w K mg base N (defScope st) k F0 H0 [(p, I)] er) (.inv p I :: st0 ds (N.length - 1)) (defBody st) { nx := fun Γ => Slot.inv p I ∈ Γ ∧ q .non, rt := q }) :
    FnG P w K mg base (k + 1) f fd ps (SpO K I spec) := by
  refine Fun.okG F C (fun vs H Q E h => ?_) fun cdv A outer s H vs Q E hr hgd h => ?_
  · obtain ⟨p, us, ds, Hf, q, er, rfl, _, _, r, h, _⟩ := h
    rw [List.length_cons, r.len]; exact len ds q er h
  · obtain ⟨p, us, ds, Hf, q, er, rfl, e, ow, r, h, hQ, hE⟩ := h
    have hl := len ds q er h
    have hb := body Hf H p ds q er h
    have hps : ps.length ≤ N.length := by
      have z := congrArg List.length C.pre
      rw [List.length_take] at z; omega
    have hN : N.length - us.length - 1 = N.length - 1 - us.length := by omega
    have es : L2.start N (V.ref p :: us) = some (V.ref p) :: (us.map some ++ List.replicate (N.length - 1 - us.length) none) := by
      unfold L2.start
      rw [List.map_cons, List.cons_append, List.length_cons, show N.length - (us.length + 1) = N.length - 1 - us.length by omega]
    have hsp : H p ≠ none := by
      obtain ⟨_, _, _, z, _⟩ := ow
      rw [z]; exact fun z => nomatch z
    have st0' : Stt (mkS P w K mg base N (defScope st) k Hf H [(p, I)] er) (fun _ => none) (.inv p I :: st0 ds (N.length - 1)) Hf H (L2.start N (V.ref p :: us)) := by
      refine ⟨?_, Sub.refl _, e, fun q o h _ => h, fun q h => ?_, fun i s h => ?_, fun i p' I' h => ?_, fun p h1 h2 => absurd h2 h1, fun _ _ z => (nomatch z), fun p h => absurd rfl h, fun _ _ _ _ => rfl, fun i j p' I' J h1 h2 => ?_⟩
      · rw [es, List.length_cons, List.length_cons]
        unfold st0
        rw [List.length_append, List.length_map, List.length_replicate, List.length_append, List.length_map, List.length_replicate, r.len]
      · rw [List.mem_singleton.mp h]; exact hsp
      · cases i with
        | zero =>
          cases h
          exact ⟨by rw [es]; rfl, ow⟩
        | succ i =>
          rcases st0_get (show (st0 ds (N.length - 1))[i]? = some s from h) with ⟨d, h1, rfl⟩ | rfl
          · obtain ⟨v, h2, h3⟩ := r.get h1
            refine ⟨v, ?_, h3⟩
            have hi : i < us.length := (List.getElem?_eq_some_iff.mp h2).1
            rw [es, List.getElem?_cons_succ, List.getElem?_append_left (by simpa using hi), List.getElem?_map, h2]; rfl
          · trivial
      · cases i with
        | zero => cases h; exact .inl (by exact List.mem_singleton.mpr rfl)
        | succ i => rcases st0_get (show (st0 ds (N.length - 1))[i]? = _ from h) with ⟨d, h1, z⟩ | z <;> cases z
      · cases i with
        | succ i => rcases st0_get (show (st0 ds (N.length - 1))[i]? = _ from h1) with ⟨d, h1, z⟩ | z <;> cases z
        | zero =>
          cases j with
          | zero => rfl
          | succ j => rcases st0_get (show (st0 ds (N.length - 1))[j]? = _ from h2) with ⟨d, h1, z⟩ | z <;> cases z
    have gr : ∀ {Γ σ Hf' H'}, Stt (mkS P w K mg base N (defScope st) k Hf H [(p, I)] er) (fun _ => none) Γ Hf' H' σ → Gr Hf H Hf' H' ∧ (∀ a o, a ≠ p → H a = some o → H' a = some o) :=
      fun z => ⟨⟨z.ex0, z.ex, z.fr⟩, fun a o n h => z.keep a o h (fun m => n (List.mem_singleton.mp m))⟩
    have own : ∀ {Γ σ Hf' H'}, Stt (mkS P w K mg base N (defScope st) k Hf H [(p, I)] er) (fun _ => none) Γ Hf' H' σ → Slot.inv p I ∈ Γ → Own K Hf' H' p I := fun z m => by
      obtain ⟨i, hi⟩ := List.mem_iff_getElem?.mp m
      exact (z.own hi).2
    obtain ⟨t, h1, h2⟩ := hb (fun _ => none) (L2.start N (V.ref p :: us)) H Hf { nx := fun _ H' => Q .non H', rt := Q } st0' ⟨fun Γ σ Hf' H' _ z q => hQ .non .non Hf' H' (gr z).1 (gr z).2 (own z q.1) rfl q.2,
      fun d v Γ σ Hf' H' _ z oi rr q => hQ d v Hf' H' (gr z).1 (gr z).2 (own z (oi (p, I) (List.mem_singleton.mpr rfl))) rr q, fun _ _ _ _ _ _ z => z, fun _ _ _ _ _ _ z => z, fun _ _ _ _ _ _ _ _ _ _ _ _ _ z => z.elim⟩
    refine ⟨t, h1 _ (ok_body hr hgd C.nd fun cls d σ H' hw => ?_), h2⟩
    obtain ⟨Hf', fs, a1, a2, a4, a3, ao, a5, a6⟩ := hw
    exact hE cls d fs Hf' H' ⟨a1, a2, a4⟩ (fun a o n h => a3 a o h (fun m => n (List.mem_singleton.mp m))) (ao (p, I) (List.mem_singleton.mpr rfl)) a5 a6
end

/-! ## calls of defs -/
/-- a def of the module that keeps a promise -/
structure Cal (P : Program) (w : World) (K : PySem.W.Frag) (mg : Str → Option Value) (base : Heap) (x qual : Str) (st : Stmt) (k : Nat) (ps : List Str) (sp : Sp) : Prop where
  ex : ∃ f fd, Fun K x qual st f fd ∧ mg x = some (.ref f) ∧ FnG P w K mg base k f fd ps sp
  bp : ∀ (kV doc pm : Value) (an : Option Addr) (cdv ct : Value) (us : List Value), us.length = ps.length → bindArgs (PySem.W.fnOf x qual (defArgs st) (defBody st) (defScope st) .none kV doc pm an cdv ct) ⟨us, []⟩ = pure (ps.zip us)
def BK (x qual : Str) (st : Stmt) (ps : List Str) (n : Nat) (ks : List Str) (pm : List Nat) : Prop :=
  ∀ (kV doc pm' : Value) (an : Option Addr) (cdv ct : Value) (us ws : List Value), us.length = n → ws.length = ks.length → bindArgs (PySem.W.fnOf x qual (defArgs st) (defBody st) (defScope st) .none kV doc pm' an cdv ct) ⟨us, ks.zip ws⟩ = pure (ps.zip (perm pm us ws))
theorem Cal.bind {P : Program} {w : World} {K : PySem.W.Frag} {mg : Str → Option Value} {base : Heap} {x qual : Str} {st : Stmt} {k : Nat} {ps : List Str} {sp : Sp} (c : Cal P w K mg base x qual st k ps sp) {f : Addr} {fd : FuncData} (F : Fun K x qual st f fd) : BindP fd ps := by
  obtain ⟨oc, od, kV, doc, pm, an, cdv, ct, osl, rfl, lk, hcd⟩ := F.ex
  exact fun us h => c.bp kV doc pm an cdv ct us h
theorem BK.bind {K : PySem.W.Frag} {x qual : Str} {st : Stmt} {ps : List Str} {n : Nat} {ks : List Str} {pm : List Nat} (c : BK x qual st ps n ks pm) {f : Addr} {fd : FuncData} (F : Fun K x qual st f fd) : BindK fd ps n ks pm := by
  obtain ⟨oc, od, kV, doc, pm, an, cdv, ct, osl, rfl, lk, hcd⟩ := F.ex
  exact fun us ws h1 h2 => c kV doc pm an cdv ct us ws h1 h2
section
variable {S : Sx} {Γ : List Slot} {e : Expr} {es : List Expr} {kws : List Keyword} {Q : Da → Prop} {p pos : Pos} {x qual : Str} {st : Stmt} {k : Nat} {ps : List Str} {spec : Fd} {I : List Da → Prop}
theorem Sx.Ok.passes {X : Cx} (ok : S.Ok X) : Passes (L2.CX X.prog X.w) X (fun cls d H => S.WX cls d [] H) := passes_call ok.tk fun _ _ _ _ h => h
theorem Stt.wx {PX Hf H : Hp} {σ : L2.St} (st : Stt S PX Γ Hf H σ) (hO : OpsIn S Γ) {cls : Value} {d : Option Addr} {fs : Option (List (Str × Da))} (xr : XRep S.K Hf d fs) (er : S.E cls fs) (σ' : L2.St) : S.WX cls d σ' H :=
  ⟨Hf, fs, st.ex0, st.ex, st.fr, st.keep, fun q hq => by
    obtain ⟨i, hi⟩ := List.mem_iff_getElem?.mp (hO q hq)
    exact (st.own hi).2, xr, er⟩
theorem Stt.growO {PX Hf H Hf' H' : Hp} {σ : L2.St} {i : Nat} {p : Addr} (st : Stt S PX Γ Hf H σ) (hi : Γ[i]? = some (.inv p I)) (g : Gr Hf H Hf' H') (k : ∀ a o, a ≠ p → H a = some o → H' a = some o) (ow : Own S.K Hf' H' p I) : Stt S PX Γ Hf' H' σ := by
  have np : ∀ q o, S.H0 q = some o → q ∉ S.op.map (·.1) → q ≠ p := fun q o h1 h2 z => by
    subst z
    rcases st.new i _ _ hi with c | c
    · exact h2 c
    · rw [h1] at c; cases c
  have npx : ∀ q, PX q ≠ none → q ≠ p := fun q h z => h (by rw [z]; exact st.pi i p I hi)
  refine ⟨st.len, st.ex0.trans g.f, g.e, fun q u h1 h2 => k _ _ (np q u h1 h2) (st.keep q u h1 h2), fun q h z => ?_, fun j s h => ?_, st.new, fun q h h2 => ?_, fun a o h => k a o (npx a (by rw [h]; exact fun z => nomatch z)) (st.px a o h), fun q h => ?_, st.pi, st.sep⟩
  rotate_right
  · cases c : Hf' q with
    | none => rfl
    | some u => exact absurd (st.px.free (g.n q (by rw [c]; exact fun z => nomatch z) (st.pf q h))) h
  · by_cases c : q.1 = p
    · obtain ⟨_, _, _, y, _⟩ := ow
      rw [c, y] at z; cases z
    · cases y : H q.1 with
      | none => exact st.ops q h y
      | some o => rw [k _ _ c y] at z; cases z
  · cases s with
    | no => trivial
    | dat d => exact (st.at_ j _ h).more g.f fun _ _ z => nomatch z
    | inv p' I' =>
      by_cases c : p' = p
      · subst c
        have z := st.sep j i _ _ _ h hi
        subst z
        rw [hi] at h; cases h
        exact ⟨(st.own hi).1, ow⟩
      · refine (st.at_ j _ h).more g.f fun p'' I'' z => ?_
        cases z
        have z := st.ownH h
        refine ⟨?_, ?_⟩
        · cases y : Hf' p' with
          | none => rfl
          | some u => exact absurd (g.n p' (by rw [y]; exact fun z => nomatch z) (st.own h).2.1) z
        · cases y : H p' with
          | none => exact absurd y z
          | some u => exact k _ _ c y
  · by_cases c : Hf q = none
    · exact st.fresh0 (g.n q h c)
    · exact st.fr q c h2
theorem sp_call {σ : L2.St} {PX Hf H : Hp} {ds : List Da} {vs : List V} {k : VK} (st1 : Stt S PX Γ Hf H σ) (hO : OpsIn S Γ) (r : Reps S.K Hf ds vs) (q : spec ds Q S.E)
    (hk : ∀ d v Hf' H', Sub Hf Hf' → Stt S PX Γ Hf' H' σ → Rep S.K Hf' d v → Q d → k v H') : SpD S.K spec vs H k (fun cls d H => S.WX cls d [] H) :=
  ⟨ds, Hf, Q, S.E, st1.ex, r, q, fun d v Hf' H' g kp rr qq => hk d v Hf' H' g.f (st1.grow g.f g.e kp g.n) rr qq, fun cls x fs Hf' H' g kp xr er => (st1.grow g.f g.e kp g.n).wx hO xr er []⟩
theorem ev_call (c : Cal S.P S.w S.K S.mg S.base x qual st k ps (SpD S.K spec)) (hk : k ≤ S.k) (hg : GlS S x) (hO : OpsIn S Γ) (h : EvA S Γ (e :: es) fun ds => spec ds Q S.E)
    (hd : (x == ("__debug__" : Str)) = false := by decide) (he : ∀ env, starEach (e :: es) env = (false, eval e env) :: starEach es env := by intro _; rfl) (hpl : ∀ env, (backTo pos (starEach es env)).any (·.1) = false := by intro _; rfl) :
    EvE S Γ (.Call (.Name x p) (e :: es) [] pos) Q := by
  obtain ⟨f, fd, F, hm, G⟩ := c.ex
  refine ev_of (fun X ok => peG (sp := SpD S.K spec) (E := fun cls d H => S.WX cls d [] H) (by rw [ok.P, ok.w, ok.K, ok.mg, ok.base]; exact G) (ok.room.mono hk) ok.gd (hg.gl ok) (by rw [ok.mg]; exact hm) (by rw [ok.K]; exact F.kp) (c.bind F) ok.passes (puA ok) hd (he _) (hpl _)) ?_
  intro PX σ H Hf k st hk
  refine h PX σ H Hf _ st fun ds vs Hf1 H1 e1 st1 r1 q1 => ?_
  show SpD S.K spec (vs ++ []) H1 k _
  rw [List.append_nil]
  exact sp_call st1 hO r1 q1 fun d v Hf' H' e2 => hk d v Hf' H' (e1.trans e2)
theorem ev_call0 (c : Cal S.P S.w S.K S.mg S.base x qual st k ps (SpD S.K spec)) (hk : k ≤ S.k) (hg : GlS S x) (hO : OpsIn S Γ) (h : spec [] Q S.E)
    (hd : (x == ("__debug__" : Str)) = false := by decide) : EvE S Γ (.Call (.Name x p) [] [] pos) Q := by
  obtain ⟨f, fd, F, hm, G⟩ := c.ex
  refine ev_of (fun X ok => peG0 (sp := SpD S.K spec) (E := fun cls d H => S.WX cls d [] H) (by rw [ok.P, ok.w, ok.K, ok.mg, ok.base]; exact G) (ok.room.mono hk) ok.gd (hg.gl ok) (by rw [ok.mg]; exact hm) (by rw [ok.K]; exact F.kp) (c.bind F) ok.passes hd) ?_
  intro PX σ H Hf k st hk
  exact sp_call (ds := []) (vs := []) st hO rfl h fun d v Hf' H' e2 => hk d v Hf' H' e2
theorem Reps.app {K : PySem.W.Frag} {H : Hp} {zs : List Da} {ws : List V} (r2 : Reps K H zs ws) : ∀ {ds : List Da} {vs : List V}, Reps K H ds vs → Reps K H (ds ++ zs) (vs ++ ws)
  | [], _, r => by unfold Reps at r; subst r; exact r2
  | d :: ds, _, r => by
    unfold Reps at r
    obtain ⟨v, l, rfl, a, b⟩ := r
    exact ⟨v, l ++ ws, rfl, a, Reps.app r2 b⟩
theorem Reps.perm {K : PySem.W.Frag} {H : Hp} {pm : List Nat} {ds zs : List Da} {vs ws : List V} (r : Reps K H ds vs) (r2 : Reps K H zs ws) : Reps K H (perm pm ds zs) (perm pm vs ws) := by
  have ra : Reps K H (ds ++ zs) (vs ++ ws) := r2.app r
  induction pm with
  | nil => rfl
  | cons i pm ih =>
    unfold GX.perm at ih ⊢
    rw [List.filterMap_cons, List.filterMap_cons]
    cases q : (ds ++ zs)[i]? with
    | none =>
      have z := ra.len
      have y := List.getElem?_eq_none_iff.mp q
      rw [List.getElem?_eq_none_iff.mpr (by omega)]; exact ih
    | some d =>
      obtain ⟨v, h1, h2⟩ := ra.get q
      rw [h1]
      exact ⟨v, _, rfl, h2, ih⟩
/-- keywords alone, and behind positional arguments -/
theorem ev_callK0 {ks : List Str} {pm : List Nat} (c : Cal S.P S.w S.K S.mg S.base x qual st k ps (SpD S.K spec)) (hb : BK x qual st ps 0 ks pm) (hk : k ≤ S.k) (hg : GlS S x) (hO : OpsIn S Γ)
    (h : EvK S Γ kws fun zs => zs.length = ks.length ∧ spec (perm pm [] zs) Q S.E)
    (hall : ∀ env, (backToKw pos (keywordEach kws env)).all (·.1.isSome) = true := by intro _; rfl) (hks : ∀ env, (backToKw pos (keywordEach kws env)).filterMap (·.1) = ks := by intro _; rfl)
    (hd : (x == ("__debug__" : Str)) = false := by decide) (hpl : ∀ env, (backToKw pos (keywordEach kws env)).any (·.1.isNone) = false := by intro _; rfl) : EvE S Γ (.Call (.Name x p) [] kws pos) Q := by
  obtain ⟨f, fd, F, hm, G⟩ := c.ex
  refine ev_of (fun X ok => peGK0 (sp := SpD S.K spec) (E := fun cls d H => S.WX cls d [] H) (by rw [ok.P, ok.w, ok.K, ok.mg, ok.base]; exact G) (ok.room.mono hk) ok.gd (hg.gl ok) (by rw [ok.mg]; exact hm) (by rw [ok.K]; exact F.kp) (hb.bind F) ok.passes (puK ok) (hall _) (hks _) hd (hpl _)) ?_
  intro PX σ H Hf k st hk
  show tUK S kws σ H fun zs H2 => _
  refine h PX σ H Hf _ st fun ds vs Hf1 H1 e1 st1 r1 q1 => ⟨rfl, by rw [r1.len]; exact q1.1, ?_⟩
  exact sp_call st1 hO (Reps.perm (ds := []) (vs := []) rfl r1) q1.2 fun d v Hf' H' e2 => hk d v Hf' H' (e1.trans e2)
theorem ev_callK {n : Nat} {ks : List Str} {pm : List Nat} (c : Cal S.P S.w S.K S.mg S.base x qual st k ps (SpD S.K spec)) (hb : BK x qual st ps n ks pm) (hk : k ≤ S.k) (hg : GlS S x) (hO : OpsIn S Γ)
    (h : EvA S Γ (e :: es) fun ds => EvK S Γ kws fun zs => ds.length = n ∧ zs.length = ks.length ∧ spec (perm pm ds zs) Q S.E)
    (hall : ∀ env, (backToKw pos (keywordEach kws env)).all (·.1.isSome) = true := by intro _; rfl) (hks : ∀ env, (backToKw pos (keywordEach kws env)).filterMap (·.1) = ks := by intro _; rfl)
    (hd : (x == ("__debug__" : Str)) = false := by decide) (he : ∀ env, starEach (e :: es) env = (false, eval e env) :: starEach es env := by intro _; rfl)
    (hpl : ∀ env, ((backTo pos (starEach (e :: es) env)).any (·.1) || (backToKw pos (keywordEach kws env)).any (·.1.isNone)) = false := by intro _; rfl) : EvE S Γ (.Call (.Name x p) (e :: es) kws pos) Q := by
  obtain ⟨f, fd, F, hm, G⟩ := c.ex
  refine ev_of (fun X ok => peGK (sp := SpD S.K spec) (E := fun cls d H => S.WX cls d [] H) (by rw [ok.P, ok.w, ok.K, ok.mg, ok.base]; exact G) (ok.room.mono hk) ok.gd (hg.gl ok) (by rw [ok.mg]; exact hm) (by rw [ok.K]; exact F.kp) (hb.bind F) ok.passes (puA ok) (puK ok) (hall _) (hks _) hd (he _) (hpl _)) ?_
  intro PX σ H Hf k st hk
  refine h PX σ H Hf _ st fun ds vs Hf1 H1 e1 st1 r1 q1 => q1 PX σ H1 Hf1 _ st1 fun zs ws Hf2 H2 e2 st2 r2 q2 => ⟨by rw [r1.len]; exact q2.1, by rw [r2.len]; exact q2.2.1, ?_⟩
  exact sp_call st2 hO (Reps.perm (Reps.mono e2 _ _ r1) r2) q2.2.2 fun d v Hf' H' e3 => hk d v Hf' H' ((e1.trans e2).trans e3)
/-- f(own, ..): a list of the def's own is handed on, it may change within I -/
theorem ev_callO {i : Nat} {y : Str} {py : Pos} {a : Addr} (c : Cal S.P S.w S.K S.mg S.base x qual st k ps (SpO S.K I spec)) (hk : k ≤ S.k) (hg : GlS S x) (hO : OpsIn S Γ)
    (hN : S.N[i]? = some y) (hv : Vis S.sc y) (hΓ : Γ[i]? = some (.inv a I)) (h : EvA S Γ es fun ds => spec ds Q S.E)
    (hd : (x == ("__debug__" : Str)) = false := by decide) (hd' : (y == ("__debug__" : Str)) = false := by decide) (hcd : (y == ("__classdict__" : Str)) = false := by decide) (hpl : ∀ env, (backTo pos (starEach es env)).any (·.1) = false := by intro _; rfl) :
    EvE S Γ (.Call (.Name x p) (.Name y py :: es) [] pos) Q := by
  obtain ⟨f, fd, F, hm, G⟩ := c.ex
  refine ev_of (fun X ok => peG (sp := SpO S.K I spec) (E := fun cls d H => S.WX cls d [] H) (by rw [ok.P, ok.w, ok.K, ok.mg, ok.base]; exact G) (ok.room.mono hk) ok.gd (hg.gl ok) (by rw [ok.mg]; exact hm) (by rw [ok.K]; exact F.kp) (c.bind F) ok.passes
    (pa_cons (pe_var (i := i) (by rw [ok.N]; exact hN) (by rw [ok.sc]; exact hv) hd' hcd) (puA ok)) hd rfl (hpl _)) ?_
  intro PX σ H Hf k st hk
  have o1 := (st.own hΓ).1
  refine ⟨.ref a, ?_, ?_⟩
  · cases z : σ[i]? with
    | none => rw [z] at o1; cases o1
    | some o => rw [z] at o1; exact congrArg some o1
  refine h PX σ H Hf _ st fun ds vs Hf1 H1 e1 st1 r1 q1 => ?_
  show SpO S.K I spec ((.ref a :: vs) ++ []) H1 k _
  rw [List.append_nil]
  refine ⟨a, vs, ds, Hf1, Q, S.E, rfl, st1.ex, (st1.own hΓ).2, r1, q1, fun d v Hf' H' g kp ow rr qq => ?_, fun cls x fs Hf' H' g kp ow xr er => ?_⟩
  · exact hk d v Hf' H' (e1.trans g.f) (st1.growO hΓ g kp ow) rr qq
  · exact (st1.growO hΓ g kp ow).wx hO xr er []
end

/-! ## targets, statements -/
section
variable {S : Sx} {Γ : List Slot} {e a b c : Expr} {es : List Expr} {sts body orelse : List Stmt} {st : Stmt} {D : EnG} {Q : List Slot → Prop} {p pos spos : Pos} {x : Str} {i : Nat} {d : Da} {W : Nat → Bool}
/-- a slot is stored -/
theorem Stt.set {PX Hf H : Hp} {σ : L2.St} {v : V} (st : Stt S PX Γ Hf H σ) (r : Rep S.K Hf d v) (i : Nat) : Stt S PX (Γ.set i (.dat d)) Hf H (σ.set i (some v)) := by
  refine ⟨by rw [List.length_set, List.length_set]; exact st.len, st.ex0, st.ex, st.keep, st.ops, fun j s h => ?_, fun j q I h => ?_, st.fr, st.px, st.pf, fun j q I h => ?_, fun j l q I J h1 h2 => ?_⟩
  · by_cases hj : i = j
    · subst hj
      have hi : i < Γ.length := by
        have z := (List.getElem?_eq_some_iff.mp h).1
        rwa [List.length_set] at z
      rw [List.getElem?_set_self hi] at h
      cases h
      exact ⟨v, by rw [List.getElem?_set_self (by rw [st.len]; exact hi)]; rfl, r⟩
    · rw [List.getElem?_set_ne hj] at h ⊢
      exact st.at_ j s h
  · by_cases hj : i = j
    · subst hj
      have hi : i < Γ.length := by
        have z := (List.getElem?_eq_some_iff.mp h).1
        rwa [List.length_set] at z
      rw [List.getElem?_set_self hi] at h; cases h
    · rw [List.getElem?_set_ne hj] at h
      exact st.new j q I h
  · by_cases hj : i = j
    · subst hj
      have hi : i < Γ.length := by
        have z := (List.getElem?_eq_some_iff.mp h).1
        rwa [List.length_set] at z
      rw [List.getElem?_set_self hi] at h; cases h
    · rw [List.getElem?_set_ne hj] at h
      exact st.pi j q I h
  · have ne : ∀ j I, (Γ.set i (.dat d))[j]? = some (Slot.inv q I) → Γ[j]? = some (Slot.inv q I) := fun j I h => by
      by_cases hj : i = j
      · subst hj
        have hi : i < Γ.length := by
          have z := (List.getElem?_eq_some_iff.mp h).1
          rwa [List.length_set] at z
        rw [List.getElem?_set_self hi] at h; cases h
      · rwa [List.getElem?_set_ne hj] at h
    exact st.sep j l q I J (ne j I h1) (ne l J h2)
theorem eg_name (hN : S.N[i]? = some x) (hx : Loc S.sc x) (q : Q (Γ.set i (.dat d))) (hst : S.stor x = true := by rfl) (hW : W i = true := by rfl) : EvG S W Γ (.Name x p) d Q := fun PX v σ H Hf k st r hk =>
  ⟨gName i, fun X ok => pg_name (by rw [ok.N]; exact ok.nd) (by rw [ok.N]; exact hN) (by rw [ok.sc]; exact hx) (ok.fn x hst), hk _ _ Hf H (Sub.refl _) (st.set r i) (.set hW) q⟩
/-- several targets, one after another -/
def EvGs (S : Sx) (W : Nat → Bool) (Γ : List Slot) (es : List Expr) (ds : List Da) (Q : List Slot → Prop) : Prop := ∀ PX vs σ H Hf k, Stt S PX Γ Hf H σ → Reps S.K Hf ds vs →
  (∀ Γ' σ' Hf' H', Sub Hf Hf' → Stt S PX Γ' Hf' H' σ' → Alt W Γ σ Γ' σ' → Q Γ' → k σ' H') → ∃ t : TGs, (∀ X, S.Ok X → PGs X es t) ∧ t vs σ H k
def tUGs (S : Sx) (es : List Expr) : TGs := fun vs σ H Q => ∃ t : TGs, (∀ X, S.Ok X → PGs X es t) ∧ t vs σ H Q
theorem puGs {X : Cx} (ok : S.Ok X) : PGs X es (tUGs S es) := ⟨fun pins s σ H vs us Q I r ⟨_, h, q⟩ => (h X ok).run pins s σ H vs us Q I r q⟩
theorem egs_nil (q : Q Γ) : EvGs S W Γ [] [] Q := fun PX vs σ H Hf k st r hk => ⟨_, fun _ _ => pgs_nil, r, hk Γ σ Hf H (Sub.refl _) st .refl q⟩
theorem egs_cons {ds : List Da} (h : EvG S W Γ e d fun Γ' => EvGs S W Γ' es ds Q) (hs : ∀ env, (assignEach (e :: es) env).map (·.2) = assign e env :: (assignEach es env).map (·.2) := by intro _; rfl) : EvGs S W Γ (e :: es) (d :: ds) Q := fun PX vs σ H Hf k st r hk => by
  unfold Reps at r
  obtain ⟨v, l, rfl, r1, r2⟩ := r
  refine ⟨_, fun X ok => pgs_cons (puG ok) (puGs ok) (hs _), v, l, rfl, h PX v σ H Hf _ st r1 fun Γ1 σ1 Hf1 H1 e1 st1 a1 q1 => ?_⟩
  exact q1 PX l σ1 H1 Hf1 k st1 (Reps.mono e1 _ _ r2) fun Γ' σ' Hf' H' e2 s2 a2 => hk Γ' σ' Hf' H' (e1.trans e2) s2 (a1.trans a2)

theorem eg_tup {ds : List Da} {kk : Nat} (h : EvGs S W Γ es ds Q) (hn : ∀ env, (assignEach es env).length = ds.length := by intro _; rfl) (hst : ∀ env, (assignEach es env).findIdx? (·.1) = none := by intro _; rfl) : EvG S W Γ (.Tuple es kk pos) (.tup ds) Q := fun PX v σ H Hf k st r hk => by
  unfold Rep at r
  obtain ⟨a, xs, rfl, r1, r2⟩ := r
  refine ⟨gTup S.K ds.length (tUGs S es), fun X ok => ?_, a, xs, rfl, st.ex.st r1, r2.len, h PX xs σ H Hf k st r2 hk⟩
  have z := pg_tup (pos := pos) (k := kk) ok.calm (puGs (es := es) ok) (hn X.env) (hst X.env)
  rw [ok.K] at z; exact z
theorem es_of {t : TS} (h : ∀ X, S.Ok X → PS X st t) (q : ∀ PX σ H Hf D', Stt S PX Γ Hf H σ → EnOk S PX Hf D D' → t D' σ H) : EvS S Γ st D := fun PX σ H Hf D' s k => ⟨t, h, q PX σ H Hf D' s k⟩
theorem eb_nil (q : D.nx Γ) : EvB S Γ [] D := fun PX σ H Hf D' s k => ⟨_, fun _ _ => pss_nil, k.nx Γ σ Hf H (Sub.refl _) s q⟩
theorem eb_cons (h : EvS S Γ st { D with nx := fun Γ' => EvB S Γ' sts D }) : EvB S Γ (st :: sts) D := fun PX σ H Hf D' s k =>
  ⟨_, fun X ok => pss_cons (puS ok) (puB ok), h PX σ H Hf { D' with nx := tUB S sts D' } s ⟨fun Γ' σ' Hf' H' e s' q => q PX σ' H' Hf' D' s' (k.mono e), k.rt, k.bk, k.ct, k.rr⟩⟩
/-- the way joins -/
theorem EvS.cut (G : List Slot → Prop) (h : EvS S Γ st { D with nx := G }) (q : ∀ Γ', G Γ' → D.nx Γ') : EvS S Γ st D := fun PX σ H Hf D' s k =>
  h PX σ H Hf D' s ⟨fun Γ' σ' Hf' H' e s' g => k.nx Γ' σ' Hf' H' e s' (q Γ' g), k.rt, k.bk, k.ct, k.rr⟩
theorem es_pass (q : D.nx Γ) : EvS S Γ (.Pass pos) D := es_of (fun _ _ => ps_pass) fun PX σ H Hf D' s k => k.nx Γ σ Hf H (Sub.refl _) s q
theorem es_break (q : D.bk Γ) : EvS S Γ (.Break pos) D := es_of (fun _ _ => ps_break) fun PX σ H Hf D' s k => k.bk Γ σ Hf H (Sub.refl _) s q
theorem es_cont (q : D.ct Γ) : EvS S Γ (.Continue pos) D := es_of (fun _ _ => ps_continue) fun PX σ H Hf D' s k => k.ct Γ σ Hf H (Sub.refl _) s q
theorem es_expr (h : EvE S Γ e fun _ => D.nx Γ) (hs : ∀ env, swapsWith e none pos.line env = pure false := by intro _; rfl) : EvS S Γ (.Expr e pos) D :=
  es_of (fun X ok => ps_expr (pu ok) (hs _)) fun PX σ H Hf D' s k => h PX σ H Hf _ s fun d v Hf' H' e s' _ q => k.nx Γ σ Hf' H' e s' q
theorem es_ret (hO : OpsIn S Γ) (h : EvE S Γ e D.rt) : EvS S Γ (.Return (some e) pos) D :=
  es_of (fun X ok => ps_ret (pu ok)) fun PX σ H Hf D' s k => h PX σ H Hf _ s fun d v Hf' H' e s' r q => k.rt d v Γ σ Hf' H' e s' hO r q
theorem es_retN (hO : OpsIn S Γ) (q : D.rt .non) : EvS S Γ (.Return none pos) D :=
  es_of (fun X ok => ps_retN) fun PX σ H Hf D' s k => k.rt .non .non Γ σ Hf H (Sub.refl _) s hO rfl q
theorem es_if (h : EvT S Γ c fun t => cond t (EvB S Γ body D) (EvB S Γ orelse D)) : EvS S Γ (.If c body orelse pos) D :=
  es_of (fun X ok => ps_if (puT ok) (puB ok) (puB ok)) fun PX σ H Hf D' s k => h PX σ H Hf _ s fun t Hf1 H1 e1 s1 q => cond_ite (by
    cases t with
    | true => exact q PX σ H1 Hf1 D' s1 (k.mono e1)
    | false => exact q PX σ H1 Hf1 D' s1 (k.mono e1))
theorem es_asg (h : EvE S Γ e fun d => EvG S anyW Γ a d D.nx) (hs : ∀ env, swapsWithSole [a] e spos.line env = pure false := by intro _; rfl) (hw : ∀ env : Env, env.scope = S.sc → swappedStores [a] e env = pure none := by intro _ _; rfl) (h1 : ∀ env, (assignEach [a] env).map (·.2) = [assign a env] := by intro _; rfl) : EvS S Γ (.Assign [a] e spos) D :=
  es_of (fun X ok => ps_asg (pu ok) (puG ok) (hs _) (hw _ ok.sc) (h1 _)) fun PX σ H Hf D' s k => h PX σ H Hf _ s fun d v Hf1 H1 e1 s1 r q => q PX v σ H1 Hf1 _ s1 r fun Γ' σ' Hf' H' e2 s2 _ g => k.nx Γ' σ' Hf' H' (e1.trans e2) s2 g
theorem es_set (hN : S.N[i]? = some x) (hx : Loc S.sc x) (h : EvE S Γ e fun d => D.nx (Γ.set i (.dat d))) (hs : ∀ env, swapsWith e (some (.Name x p)) spos.line env = pure false := by intro _; rfl) (hst : S.stor x = true := by rfl) : EvS S Γ (.Assign [.Name x p] e spos) D :=
  es_of (fun X ok => ps_set (i := i) (by rw [ok.N]; exact ok.nd) (by rw [ok.N]; exact hN) (by rw [ok.sc]; exact hx) (pu ok) (hs _) (ok.fn x hst)) fun PX σ H Hf D' s k => h PX σ H Hf _ s fun d v Hf1 H1 e1 s1 r q =>
    k.nx _ _ Hf1 H1 e1 (s1.set r i) q
/-- two plain names at once -/
theorem es_par {j : Nat} {y : Str} {py pt pt2 : Pos} {kt k2} (hN : S.N[i]? = some x) (hM : S.N[j]? = some y) (hij : i ≠ j) (hx : S.sc.names.lookup x = some .local) (hy : S.sc.names.lookup y = some .local) (hxy : x ≠ y)
    (hw : ∀ env : Env, env.scope = S.sc → swappedStores [.Tuple [.Name x p, .Name y py] kt pt] (.Tuple [a, b] k2 pt2) env = pure (some [x, y]))
    (h : EvE S Γ a fun d => EvE S Γ b fun d' => D.nx ((Γ.set i (.dat d)).set j (.dat d')))
    (he : ∀ env, starEach [a, b] env = (false, eval a env) :: starEach [b] env := by intro _; rfl) (he2 : ∀ env, starEach [b] env = (false, eval b env) :: starEach [] env := by intro _; rfl)
    (hs : ∀ env, swapsWithSole [.Tuple [.Name x p, .Name y py] kt pt] (.Tuple [a, b] k2 pt2) spos.line env = pure false := by intro _; rfl) :
    EvS S Γ (.Assign [.Tuple [.Name x p, .Name y py] kt pt] (.Tuple [a, b] k2 pt2) spos) D :=
  es_of (fun X ok => ps_par ok.calm (by rw [ok.N]; exact ok.nd) (by rw [ok.N]; exact hN) (by rw [ok.N]; exact hM) hij (by rw [ok.sc]; exact hx) (by rw [ok.sc]; exact hy)
    (pa_cons (pu ok) (pa_cons (pu ok) pa_nil (he2 _)) (he _)) (hw _ ok.sc) (hs _)) fun PX σ H Hf D' s k => h PX σ H Hf _ s fun d v Hf1 H1 e1 s1 r q => q PX σ H1 Hf1 _ s1 fun d' v' Hf2 H2 e2 s2 r2 q2 =>
      ⟨v, v', rfl, k.nx _ _ Hf2 H2 (e1.trans e2) ((s2.set (Rep.mono e2 _ _ r) i).set r2 j) q2⟩
/-- x op= e of a name -/
theorem es_aug {op : Operator} {r : Da → Da → (Da → Prop) → Prop} (ho : ∃ rr : TIp, (∀ X, S.Ok X → PIp X op rr) ∧ ∀ PX Γ σ Hf H x y v u (Q : Da → Prop) k, Stt S PX Γ Hf H σ → Rep S.K Hf x v → Rep S.K Hf y u → r x y Q →
      (∀ d v Hf' H', Sub Hf Hf' → Stt S PX Γ Hf' H' σ → Rep S.K Hf' d v → Q d → k v H') → rr v u H k) (hN : S.N[i]? = some x) (hx : Loc S.sc x) (hΓ : Γ[i]? = some (.dat d))
    (h : EvE S Γ e fun d' => r d d' fun d2 => D.nx (Γ.set i (.dat d2))) (hst : S.stor x = true := by rfl) : EvS S Γ (.AugAssign (.Name x p) op e spos) D := by
  obtain ⟨rr, h1, h2⟩ := ho
  refine es_of (fun X ok => ps_aug (i := i) (by rw [ok.N]; exact ok.nd) (by rw [ok.N]; exact hN) (by rw [ok.sc]; exact hx) (pu ok) (h1 X ok) (ok.fn x hst)) fun PX σ H Hf D' s k => ?_
  obtain ⟨v, ev, rv⟩ := s.at_ i _ hΓ
  refine ⟨v, ?_, h PX σ H Hf _ s fun d' v' Hf1 H1 e1 s1 r1 q1 => ?_⟩
  · cases z : σ[i]? with
    | none => rw [z] at ev; cases ev
    | some o => rw [z] at ev; exact congrArg some ev
  · exact h2 PX Γ σ Hf1 H1 d d' v v' _ _ s1 (Rep.mono e1 _ _ rv) r1 q1 fun d2 v2 Hf2 H2 e2 s2 r2 q2 => k.nx _ _ Hf2 H2 (e1.trans e2) (s2.set r2 i) q2
theorem ipg {op : Operator} {f : Int → Int → Int} (ho : ∀ X : Cx, PIp X op (ipI f)) : ∃ rr : TIp, (∀ X, S.Ok X → PIp X op rr) ∧ ∀ PX Γ σ Hf H x y v u (Q : Da → Prop) k, Stt S PX Γ Hf H σ → Rep S.K Hf x v → Rep S.K Hf y u → (asInt x fun i => asInt y fun j => Q (.int (f i j))) →
      (∀ d v Hf' H', Sub Hf Hf' → Stt S PX Γ Hf' H' σ → Rep S.K Hf' d v → Q d → k v H') → rr v u H k :=
  ⟨_, fun X _ => ho X, fun PX Γ σ Hf H x y v u Q k s rx ry h hk => by
    obtain ⟨i, rfl, h1⟩ := asInt_ h
    obtain ⟨j, rfl, h2⟩ := asInt_ h1
    exact ⟨i, j, rx, ry, hk (.int (f i j)) _ Hf H (Sub.refl _) s rfl h2⟩⟩
theorem es_add (hN : S.N[i]? = some x) (hx : Loc S.sc x) (hΓ : Γ[i]? = some (.dat d)) (h : EvE S Γ e fun d' => asInt d fun i' => asInt d' fun j => D.nx (Γ.set i (.dat (.int (i' + j))))) (hst : S.stor x = true := by rfl) : EvS S Γ (.AugAssign (.Name x p) .Add e spos) D :=
  es_aug (ipg fun _ => ip_add) hN hx hΓ h hst
theorem es_sub (hN : S.N[i]? = some x) (hx : Loc S.sc x) (hΓ : Γ[i]? = some (.dat d)) (h : EvE S Γ e fun d' => asInt d fun i' => asInt d' fun j => D.nx (Γ.set i (.dat (.int (i' - j))))) (hst : S.stor x = true := by rfl) : EvS S Γ (.AugAssign (.Name x p) .Sub e spos) D :=
  es_aug (ipg fun _ => ip_sub) hN hx hΓ h hst
end

/-! ## what is walked -/
/-- the iterator gives the items ds, one a turn -/
structure Yld (S : Sx) (J : It) (ds : List Da) (Hf : Hp) : Prop where
  go : ∀ i Hf' H', Sub Hf Hf' → Sub Hf' H' → i < ds.length → J.go i H'
  stop : ∀ i Hf' H', Sub Hf Hf' → Sub Hf' H' → ds.length ≤ i → J.stop i H'
  yld : ∀ PX i x Γ σ Hf' H' H'', Sub Hf Hf' → Stt S PX Γ Hf' H' σ → i < ds.length → J.yld i H' x H'' → ∃ Hf'' d, Sub Hf' Hf'' ∧ Stt S PX Γ Hf'' H'' σ ∧ ds[i]? = some d ∧ Rep S.K Hf'' d x
def EvI (S : Sx) (Γ : List Slot) (tg it : Expr) (Q : List Da → Prop) : Prop := ∀ PX σ H Hf k, Stt S PX Γ Hf H σ →
  (∀ ds J Hf' H', Sub Hf Hf' → Stt S PX Γ Hf' H' σ → Yld S J ds Hf' → Q ds → k J H') → ∃ w : TI, (∀ X, S.Ok X → PI X tg it w) ∧ w σ H k
def tUI (S : Sx) (tg it : Expr) : TI := fun σ H R => ∃ w : TI, (∀ X, S.Ok X → PI X tg it w) ∧ w σ H R
theorem puI {S : Sx} {X : Cx} {tg it : Expr} (ok : S.Ok X) : PI X tg it (tUI S tg it) := ⟨fun pins s σ H R I ⟨_, h, q⟩ => (h X ok).run pins s σ H R I q⟩
theorem Yld.mono {S : Sx} {J : It} {ds : List Da} {Hf Hf' : Hp} (h : Yld S J ds Hf) (e : Sub Hf Hf') : Yld S J ds Hf' :=
  ⟨fun i a b c => h.go i a b (e.trans c), fun i a b c => h.stop i a b (e.trans c), fun PX i x Γ σ a b c d => h.yld PX i x Γ σ a b c (e.trans d)⟩
theorem Reps.at {K : PySem.W.Frag} {H : Hp} {ds : List Da} {vs : List V} {i : Nat} (r : Reps K H ds vs) (hi : i < ds.length) : ∃ d v, ds[i]? = some d ∧ vs[i]? = some v ∧ Rep K H d v := by
  have e := List.getElem?_eq_getElem hi
  obtain ⟨v, h1, h2⟩ := r.get e
  exact ⟨_, v, e, h1, h2⟩
section
variable {S : Sx} {Γ : List Slot} {e a b c tg it elt : Expr} {es : List Expr} {sts body orelse : List Stmt} {st : Stmt} {D : EnG} {p pos spos : Pos} {x : Str} {i : Nat} {d : Da}
theorem ei_seq {Q : List Da → Prop} (h : EvE S Γ e fun d => asLst d Q) : EvI S Γ tg e Q := fun PX σ H Hf k st hk => ⟨iList S.K (tU S e), fun X ok => by
    have z := pi_list (tg := tg) (pu (e := e) ok)
    rw [ok.K] at z; exact z, h PX σ H Hf _ st fun d v Hf1 H1 e1 st1 r q => by
  obtain ⟨ds, rfl, q⟩ := asLst_ q
  unfold Rep at r
  obtain ⟨a, xs, rfl, r1, r2⟩ := r
  refine ⟨a, rfl, ⟨xs, st1.ex.sl r1⟩, hk ds _ Hf1 H1 e1 st1 ⟨fun i Hf' H' e e' hi => ?_, fun i Hf' H' e e' hi => ⟨xs, e'.sl (e.sl r1), by rw [r2.len]; exact hi⟩, fun PX i x Γ σ Hf' H' H'' e s hi y => ?_⟩ q⟩
  · obtain ⟨d, v, h1, h2, h3⟩ := r2.at hi
    exact ⟨xs, v, e'.sl (e.sl r1), h2⟩
  · obtain ⟨rfl, y⟩ := y
    obtain ⟨d, v, h1, h2, h3⟩ := r2.at hi
    have z := (y xs (s.ex.sl (e.sl r1))).symm.trans h2
    cases z
    exact ⟨Hf', d, Sub.refl _, s, h1, Rep.mono e _ _ h3⟩⟩
theorem ei_tup {Q : List Da → Prop} (h : EvE S Γ e fun d => asTup d Q) : EvI S Γ tg e Q := fun PX σ H Hf k st hk => ⟨iTup S.K (tU S e), fun X ok => by
    have z := pi_tup (tg := tg) (pu (e := e) ok)
    rw [ok.K] at z; exact z, h PX σ H Hf _ st fun d v Hf1 H1 e1 st1 r q => by
  obtain ⟨ds, rfl, q⟩ := asTup_ q
  unfold Rep at r
  obtain ⟨a, xs, rfl, r1, r2⟩ := r
  refine ⟨a, rfl, ⟨xs, st1.ex.st r1⟩, hk ds _ Hf1 H1 e1 st1 ⟨fun i Hf' H' e e' hi => ?_, fun i Hf' H' e e' hi => ⟨xs, e'.st (e.st r1), by rw [r2.len]; exact hi⟩, fun PX i x Γ σ Hf' H' H'' e s hi y => ?_⟩ q⟩
  · obtain ⟨d, v, h1, h2, h3⟩ := r2.at hi
    exact ⟨xs, v, e'.st (e.st r1), h2⟩
  · obtain ⟨rfl, y⟩ := y
    obtain ⟨d, v, h1, h2, h3⟩ := r2.at hi
    have z := (y xs (s.ex.st (e.st r1))).symm.trans h2
    cases z
    exact ⟨Hf', d, Sub.refl _, s, h1, Rep.mono e _ _ h3⟩⟩
def rngD (lo : Int) (n : Nat) : List Da := (List.range n).map fun i : Nat => Da.int (lo + (i : Int))
theorem rngD_len {lo : Int} {n : Nat} : (rngD lo n).length = n := by unfold rngD; rw [List.length_map, List.length_range]
theorem rngD_get {lo : Int} {n i : Nat} (h : i < n) : (rngD lo n)[i]? = some (.int (lo + (i : Int))) := by
  unfold rngD; rw [List.getElem?_map, List.getElem?_range h]; rfl
theorem yld_r {Hf : Hp} {lo : Int} {n : Nat} : Yld S (Itr lo n) (rngD lo n) Hf := by
  refine ⟨fun i Hf' H' _ _ hi => by rw [rngD_len] at hi; exact hi, fun i Hf' H' _ _ hi => by rw [rngD_len] at hi; exact hi, fun PX i x Γ σ Hf' H' H'' _ s hi y => ?_⟩
  obtain ⟨rfl, rfl⟩ := y
  rw [rngD_len] at hi
  exact ⟨Hf', _, Sub.refl _, s, rngD_get hi, rfl⟩
abbrev Rg (j : Int) : Prop := -(2 ^ 62) ≤ j ∧ j < 2 ^ 62
theorem ei_range1 {Q : List Da → Prop} {q : Pos} (hg : GlS S "range") (hm : S.mg "range" = none) (h : EvE S Γ a fun d => asInt d fun j => Rg j ∧ Q (rngD 0 j.toNat))
    (hs : ∀ env, starEach [a] env = (false, eval a env) :: starEach [] env := by intro _; rfl) : EvI S Γ tg (.Call (.Name "range" p) [a] [] q) Q := fun PX σ H Hf k st hk =>
  ⟨iRng1 (tCons (tU S a) tNil), fun X ok => pi_range1 (hg.gl ok) (by rw [ok.mg]; exact hm) (pa_cons (pu ok) pa_nil (hs _)) (hs _), h PX σ H Hf _ st fun d v Hf1 H1 e1 st1 r q => by
    obtain ⟨j, rfl, q⟩ := asInt_ q
    exact ⟨j, congrArg (· :: []) r, q.1.1, q.1.2, hk _ _ Hf1 H1 e1 st1 yld_r q.2⟩⟩
theorem ei_range2 {Q : List Da → Prop} {q : Pos} (hg : GlS S "range") (hm : S.mg "range" = none) (h : EvE S Γ a fun d => EvE S Γ b fun d' => asInt d fun i => asInt d' fun j => Rg i ∧ Rg j ∧ Q (rngD i (j - i).toNat))
    (hs : ∀ env, starEach [a, b] env = (false, eval a env) :: starEach [b] env := by intro _; rfl) (hs2 : ∀ env, starEach [b] env = (false, eval b env) :: starEach [] env := by intro _; rfl) : EvI S Γ tg (.Call (.Name "range" p) [a, b] [] q) Q := fun PX σ H Hf k st hk =>
  ⟨iRng2 (tCons (tU S a) (tCons (tU S b) tNil)), fun X ok => pi_range2 (hg.gl ok) (by rw [ok.mg]; exact hm) (pa_cons (pu ok) (pa_cons (pu ok) pa_nil (hs2 _)) (hs _)) (by rw [hs, hs2]; rfl) (by rw [hs2]; rfl),
    h PX σ H Hf _ st fun d v Hf1 H1 e1 st1 r q => q PX σ H1 Hf1 _ st1 fun d' v' Hf2 H2 e2 st2 r' q => by
    obtain ⟨i, rfl, q1⟩ := asInt_ q
    obtain ⟨j, rfl, q2⟩ := asInt_ q1
    have r1 : v = .int i := r
    have r2 : v' = .int j := r'
    subst r1; subst r2
    exact ⟨i, j, rfl, ⟨q2.1.1, q2.1.2, q2.2.1.1, q2.2.1.2⟩, hk _ _ Hf2 H2 (e1.trans e2) st2 yld_r q2.2.2⟩⟩

/-! ## for -/
def forG (step : Da → List Slot → (List Slot → Prop) → Prop) : List Da → List Slot → (List Slot → Prop) → Prop
  | [], Γ, K => K Γ
  | d :: ds, Γ, K => step d Γ fun Γ' => forG step ds Γ' K
theorem forG_drop {step : Da → List Slot → (List Slot → Prop) → Prop} {ds : List Da} {i : Nat} {d : Da} {Γ : List Slot} {K : List Slot → Prop} (h : ds[i]? = some d) (q : forG step (ds.drop i) Γ K) : step d Γ fun Γ' => forG step (ds.drop (i + 1)) Γ' K := by
  obtain ⟨hi, e⟩ := List.getElem?_eq_some_iff.mp h
  rw [List.drop_eq_getElem_cons hi, e] at q
  exact q
/-- an invariant by the turn -/
theorem forG_inv {step : Da → List Slot → (List Slot → Prop) → Prop} {ds : List Da} {Γ : List Slot} {K : List Slot → Prop} (G : Nat → List Slot → Prop) (h0 : G 0 Γ)
    (hs : ∀ i d Γ (k : List Slot → Prop), ds[i]? = some d → G i Γ → (∀ Γ', G (i + 1) Γ' → k Γ') → step d Γ k) (hd : ∀ Γ, G ds.length Γ → K Γ) : forG step ds Γ K := by
  have main : ∀ (n i : Nat) (Γ : List Slot), n + i = ds.length → G i Γ → forG step (ds.drop i) Γ K := by
    intro n
    induction n with
    | zero =>
      intro i Γ hi g
      rw [List.drop_eq_nil_of_le (by omega)]
      have e : i = ds.length := by omega
      subst e
      exact hd Γ g
    | succ n ih =>
      intro i Γ hi g
      have hl : i < ds.length := by omega
      rw [List.drop_eq_getElem_cons hl]
      exact hs i _ Γ _ (List.getElem?_eq_getElem hl) g fun Γ' g' => ih (i + 1) Γ' (by omega) g'
  have z := main ds.length 0 Γ (by omega) h0
  rwa [List.drop_zero] at z
theorem es_for (h : EvI S Γ tg it fun ds => forG (fun d Γ K => EvG S anyW Γ tg d fun Γ' => EvB S Γ' body { D with nx := K, ct := K, bk := D.nx }) ds Γ D.nx)
    (hs : ∀ env x, foldedSetIterable it env x = pure x := by intro _ _; rfl) : EvS S Γ (.For tg it body [] pos) D :=
  es_of (fun X ok => ps_for ok.po ok.calm (puI ok) (puG ok) (puB ok) (hs _)) fun PX σ H Hf D' s k => by
    show tUI S tg it σ H _
    refine h PX σ H Hf _ s fun ds J Hf1 H1 e1 s1 y q => ?_
    let step := fun d Γ (K : List Slot → Prop) => EvG S anyW Γ tg d fun Γ' => EvB S Γ' body { D with nx := K, ct := K, bk := D.nx }
    refine ⟨fun i m σ' H' => ∃ Γ' Hf', Sub Hf1 Hf' ∧ Stt S PX Γ' Hf' H' σ' ∧ m = ds.length - i ∧ i ≤ ds.length ∧ forG step (ds.drop i) Γ' D.nx, ⟨ds.length, Γ, Hf1, Sub.refl _, s1, by simp, Nat.zero_le _, by rw [List.drop_zero]; exact q⟩, ?_⟩
    rintro i m σ' H' ⟨Γ', Hf', e2, s2, rfl, hi, f⟩
    by_cases hl : i < ds.length
    · refine .inr ⟨y.go i Hf' H' e2 s2.ex hl, fun σ3 H3 => ∃ Γ3 Hf3, Sub Hf1 Hf3 ∧ Stt S PX Γ3 Hf3 H3 σ3 ∧ forG step (ds.drop (i + 1)) Γ3 D.nx, fun σ3 H3 ⟨Γ3, Hf3, a, b, c⟩ => ⟨ds.length - (i + 1), by omega, Γ3, Hf3, a, b, rfl, hl, c⟩, fun x H3 hy => ?_⟩
      obtain ⟨Hf3, d, e3, s3, hd, r⟩ := y.yld PX i x Γ' σ' Hf' H' H3 e2 s2 hl hy
      refine forG_drop hd f PX x σ' H3 Hf3 _ s3 r fun Γ4 σ4 Hf4 H4 e4 s4 _ q4 => ?_
      refine q4 PX σ4 H4 Hf4 _ s4 ⟨fun Γ5 σ5 Hf5 H5 e5 s5 q5 => ⟨Γ5, Hf5, ((e2.trans e3).trans e4).trans e5, s5, q5⟩, fun d v Γ5 σ5 Hf5 H5 e5 => k.rt d v Γ5 σ5 Hf5 H5 ((((e1.trans e2).trans e3).trans e4).trans e5),
        fun Γ5 σ5 Hf5 H5 e5 => k.nx Γ5 σ5 Hf5 H5 ((((e1.trans e2).trans e3).trans e4).trans e5), fun Γ5 σ5 Hf5 H5 e5 s5 q5 => ⟨Γ5, Hf5, ((e2.trans e3).trans e4).trans e5, s5, q5⟩, fun p ds vs Γ5 σ5 Hf5 H5 e5 => k.rr p ds vs Γ5 σ5 Hf5 H5 ((((e1.trans e2).trans e3).trans e4).trans e5)⟩
    · refine .inl ⟨y.stop i Hf' H' e2 s2.ex (by omega), ?_⟩
      rw [List.drop_eq_nil_of_le (by omega)] at f
      exact k.nx Γ' σ' Hf' H' (e1.trans e2) s2 f
end

/-! ## comprehensions -/
def Sx.blk (S : Sx) (scope : Scope) : Sx := { S with sc := relS scope S.sc, E := fun _ _ => False, stor := fun x => match scope.names.lookup x with | some .local => true | some .cell => true | _ => false }
theorem Sx.Ok.blk {S : Sx} {X : Cx} (ok : S.Ok X) (s : Shared) (H : Hp) (scope : Scope) (C : Addr) (cl : List (Str × Addr)) (fp : List Addr) : (S.blk scope).Ok (X.blk s H scope (compEnvC scope cl C X.env) fp) where
  P := ok.P
  w := ok.w
  K := ok.K
  mg := ok.mg
  base := ok.base
  N := ok.N
  sc := show relS scope X.env.scope = relS scope S.sc by rw [ok.sc]
  calm := ok.calm
  room := ok.room
  gd := ok.gd
  nd := ok.nd
  tk := fun u s' z => by
    obtain ⟨_, _, _, _, _, _, _, _, _, _, _, _, _, _, _, _, _, _, _, _, _, _, _, _, z⟩ := z
    exact z
  po := PassesOwn.never
  fn := fun x h => by
    cases e : scope.names.lookup x with
    | none => unfold Sx.blk at h; simp only [e] at h; cases h
    | some kd =>
      cases kd with
      | «local» =>
        refine .inr ?_
        show (relS scope X.env.scope).names.lookup x = _
        unfold relS
        exact lookup_relS_keep (by decide) e
      | cell =>
        refine .inl ?_
        show (scope.names.lookup x == some .cell) = true
        rw [e]; rfl
      | _ => unfold Sx.blk at h; simp only [e] at h; cases h
def wipeG (Γ : List Slot) : List Nat → List Slot
  | [] => Γ
  | v :: vs => (wipeG Γ vs).set v .no
theorem wipeG_out {Γ : List Slot} {i : Nat} : ∀ {vs : List Nat}, i ∉ vs → (wipeG Γ vs)[i]? = Γ[i]?
  | [], _ => rfl
  | v :: vs, h => by
    unfold wipeG
    rw [List.getElem?_set_ne (fun e => h (by rw [e]; exact List.mem_cons_self))]
    exact wipeG_out fun m => h (List.mem_cons_of_mem _ m)
theorem wipe_in {σ : L2.St} {i : Nat} : ∀ {vs : List Nat}, i ∈ vs → i < σ.length → (wipe σ vs)[i]? = some none
  | v :: vs, h, hi => by
    unfold wipe
    by_cases e : v = i
    · subst e; rw [List.getElem?_set_self (by rw [wipe_length]; exact hi)]
    · rw [List.getElem?_set_ne e]
      exact wipe_in (by rcases List.mem_cons.mp h with z | z; exact absurd z.symm e; exact z) hi
theorem wipe_eq {σ σ' : L2.St} {vs : List Nat} (hl : σ'.length = σ.length) (h : ∀ j : Nat, j ∉ vs → σ'[j]? = σ[j]?) : wipe σ' vs = wipe σ vs := by
  refine List.ext_getElem? fun j => ?_
  by_cases m : j ∈ vs
  · by_cases hj : j < σ.length
    · rw [wipe_in m hj, wipe_in m (by rw [hl]; exact hj)]
    · rw [List.getElem?_eq_none (by rw [wipe_length]; omega), List.getElem?_eq_none (by rw [wipe_length]; omega)]
  · rw [wipe_out m, wipe_out m]; exact h j m
section
variable {S : Sx} {PX Hf Hf' H H' : Hp} {Γ Γ' : List Slot} {σ σ' : L2.St} {D : Addr} {o o' : HO}
theorem Stt.no (st : Stt S PX Γ Hf H σ) (i : Nat) : Stt S PX (Γ.set i .no) Hf H (σ.set i none) := by
  have ne : ∀ (j : Nat) s, (Γ.set i .no)[j]? = some s → s = .no ∨ (i ≠ j ∧ Γ[j]? = some s) := fun j s h => by
    by_cases hj : i = j
    · subst hj
      have hi : i < Γ.length := by
        have z := (List.getElem?_eq_some_iff.mp h).1
        rwa [List.length_set] at z
      rw [List.getElem?_set_self hi] at h
      cases h; exact .inl rfl
    · rw [List.getElem?_set_ne hj] at h; exact .inr ⟨hj, h⟩
  have nv : ∀ (j : Nat) p I, (Γ.set i .no)[j]? = some (Slot.inv p I) → Γ[j]? = some (Slot.inv p I) := fun j p I h => by
    rcases ne j _ h with z | z
    · cases z
    · exact z.2
  refine ⟨by rw [List.length_set, List.length_set]; exact st.len, st.ex0, st.ex, st.keep, st.ops, fun j s h => ?_, fun j q I h => st.new j q I (nv j q I h), st.fr, st.px, st.pf, fun j q I h => st.pi j q I (nv j q I h), fun j l q I J h1 h2 => st.sep j l q I J (nv j q I h1) (nv l q J h2)⟩
  rcases ne j s h with rfl | ⟨z, h⟩
  · trivial
  · rw [List.getElem?_set_ne z]; exact st.at_ j s h
theorem Stt.wipe (st : Stt S PX Γ Hf H σ) : ∀ vs : List Nat, Stt S PX (wipeG Γ vs) Hf H (L2.wipe σ vs)
  | [] => st
  | v :: vs => (st.wipe vs).no v
theorem Stt.toBlk (st : Stt S PX Γ Hf H σ) (scope : Scope) : Stt (S.blk scope) PX Γ Hf H σ := ⟨st.len, st.ex0, st.ex, st.keep, st.ops, st.at_, st.new, st.fr, st.px, st.pf, st.pi, st.sep⟩
/-- a new object that is held apart -/
theorem Stt.frame (st : Stt S PX Γ Hf H σ) (hD : H D = none) : Stt S (upd PX D o) Γ Hf (upd H D o) σ := by
  have hn : ∀ (i : Nat) p I, Γ[i]? = some (.inv p I) → p ≠ D := fun i p I h z => st.ownH h (z ▸ hD)
  refine ⟨st.len, st.ex0, st.ex.upd hD, fun q u h1 h2 => ?_, fun q h => ?_, fun i s h => ?_, st.new, st.fr, st.px.updB, fun q h => ?_, fun i p I h => ?_, st.sep⟩
  · have z := st.keep q u h1 h2
    rw [upd_ne (ne_of_none z hD)]; exact z
  · have z := st.ops q h
    rw [upd_ne (fun c : q.1 = D => z (by rw [c]; exact hD))]; exact z
  · refine (st.at_ i s h).more (Sub.refl _) fun p I e => ?_
    subst e
    rw [upd_ne (hn i p I h)]
    exact ⟨(st.own h).2.1, rfl⟩
  · by_cases c : q = D
    · subst c; exact st.ex.free hD
    · rw [upd_ne c] at h; exact st.pf q h
  · rw [upd_ne (hn i p I h)]; exact st.pi i p I h
/-- what is held apart is changed -/
theorem Stt.reframe (st : Stt S (upd PX D o) Γ Hf H σ) (h0 : S.H0 D = none) : Stt S (upd PX D o') Γ Hf (upd H D o') σ := by
  have hn : ∀ (i : Nat) p I, Γ[i]? = some (.inv p I) → p ≠ D := fun i p I h z => by
    have y := st.pi i p I h
    rw [z, upd_same] at y; cases y
  have hf : Hf D = none := st.pf D (by rw [upd_same]; exact fun z => nomatch z)
  refine ⟨st.len, st.ex0, fun a u h => ?_, fun q u h1 h2 => ?_, fun q h => ?_, fun i s h => ?_, st.new, st.fr, fun a u h => ?_, fun q h => ?_, fun i p I h => ?_, st.sep⟩
  · rw [upd_ne (ne_of_none h hf)]; exact st.ex a u h
  · rw [upd_ne (ne_of_none h1 h0)]; exact st.keep q u h1 h2
  · by_cases c : q.1 = D
    · rw [c, upd_same]; exact fun z => nomatch z
    · rw [upd_ne c]; exact st.ops q h
  · refine (st.at_ i s h).more (Sub.refl _) fun p I e => ?_
    subst e
    rw [upd_ne (hn i p I h)]
    exact ⟨(st.own h).2.1, rfl⟩
  · by_cases c : a = D
    · subst c; rw [upd_same] at h ⊢; exact h
    · rw [upd_ne c] at h ⊢
      exact st.px a u (by rw [upd_ne c]; exact h)
  · by_cases c : q = D
    · subst c; exact hf
    · rw [upd_ne c] at h; exact st.pf q (by rw [upd_ne c]; exact h)
  · have y := st.pi i p I h
    rw [upd_ne (hn i p I h)] at y ⊢; exact y
/-- what was held apart is frozen -/
theorem Stt.freeze (st : Stt S (upd PX D o) Γ Hf H σ) (hP : PX D = none) (h0 : S.H0 D = none) : Stt S PX Γ (upd Hf D o) H σ ∧ Sub Hf (upd Hf D o) := by
  have hn : ∀ (i : Nat) p I, Γ[i]? = some (.inv p I) → p ≠ D := fun i p I h z => by
    have y := st.pi i p I h
    rw [z, upd_same] at y; cases y
  have hf : Hf D = none := st.pf D (by rw [upd_same]; exact fun z => nomatch z)
  have e : Sub Hf (upd Hf D o) := Sub.upd0 (Sub.refl _) hf
  have hD : H D = some o := st.px D o upd_same
  have pn : ∀ q, PX q ≠ none → q ≠ D := fun q h c => h (by rw [c]; exact hP)
  refine ⟨⟨st.len, st.ex0.trans e, fun a u h => ?_, st.keep, st.ops, fun i s h => ?_, st.new, fun q h h2 => ?_, fun a u h => ?_, fun q h => ?_, fun i p I h => ?_, st.sep⟩, e⟩
  · by_cases c : a = D
    · subst c; rw [upd_same] at h; rw [hD]; exact h
    · rw [upd_ne c] at h; exact st.ex a u h
  · refine (st.at_ i s h).more e fun p I e => ?_
    subst e
    rw [upd_ne (hn i p I h)]
    exact ⟨(st.own h).2.1, rfl⟩
  · by_cases c : q = D
    · subst c; exact h0
    · rw [upd_ne c] at h; exact st.fr q h h2
  · exact st.px a u (by rw [upd_ne (pn a (by rw [h]; exact fun z => nomatch z))]; exact h)
  · rw [upd_ne (pn q h)]
    exact st.pf q (by rw [upd_ne (pn q h)]; exact h)
  · have y := st.pi i p I h
    rw [upd_ne (hn i p I h)] at y; exact y
/-- back at the outer slots -/
theorem Stt.back {S' : Sx} {PX' : Hp} (st : Stt S PX Γ Hf H σ) (s2 : Stt S' PX' Γ' Hf' H' σ') (hS : S'.K = S.K ∧ S'.F0 = S.F0 ∧ S'.H0 = S.H0 ∧ S'.op = S.op) (e : Sub Hf Hf') (hi : ∀ (i : Nat) p I, Γ[i]? = some (.inv p I) → ∃ j : Nat, Γ'[j]? = some (.inv p I)) : Stt S PX' Γ Hf' H' σ := by
  obtain ⟨k1, k2, k3, k4⟩ := hS
  refine ⟨st.len, st.ex0.trans e, s2.ex, by rw [← k3, ← k4]; exact s2.keep, by rw [← k4]; exact s2.ops, fun i s h => ?_, st.new, by rw [← k2, ← k3]; exact s2.fr, s2.px, s2.pf, fun i p I h => ?_, st.sep⟩
  · cases s with
    | no => trivial
    | dat d => exact (st.at_ i _ h).more e fun _ _ z => nomatch z
    | inv p I =>
      obtain ⟨j, hj⟩ := hi i p I h
      exact ⟨(st.own h).1, by rw [← k1]; exact (s2.own hj).2⟩
  · obtain ⟨j, hj⟩ := hi i p I h
    exact s2.pi j p I hj
end
def EvTs (S : Sx) (Γ : List Slot) (ifs : List Expr) (Q : Bool → Prop) : Prop := ∀ PX σ H Hf k, Stt S PX Γ Hf H σ →
  (∀ b Hf' H', Sub Hf Hf' → Stt S PX Γ Hf' H' σ → Q b → k b H') → ∃ t : TT, (∀ X, S.Ok X → PTs X ifs t) ∧ t σ H k
def tUTs (S : Sx) (ifs : List Expr) : TT := fun σ H Q => ∃ t : TT, (∀ X, S.Ok X → PTs X ifs t) ∧ t σ H Q
theorem puTs {S : Sx} {X : Cx} {ifs : List Expr} (ok : S.Ok X) : PTs X ifs (tUTs S ifs) := ⟨fun pins s σ H Q I ⟨_, h, q⟩ => (h X ok).run pins s σ H Q I q⟩
theorem ets_nil {S : Sx} {Γ : List Slot} {Q : Bool → Prop} (q : Q true) : EvTs S Γ [] Q := fun PX σ H Hf k st hk => ⟨_, fun _ _ => pts_nil, hk true Hf H (Sub.refl _) st q⟩
theorem ets_one {S : Sx} {Γ : List Slot} {c : Expr} {Q : Bool → Prop} (h : EvT S Γ c Q) : EvTs S Γ [c] Q := fun PX σ H Hf k st hk => ⟨_, fun X ok => pts_one (puT ok), h PX σ H Hf k st hk⟩
def lcG (step : Da → List Da → (List Da → Prop) → Prop) : List Da → List Da → (List Da → Prop) → Prop
  | [], acc, Q => Q acc
  | d :: ds, acc, Q => step d acc fun acc' => lcG step ds acc' Q
theorem lcG_drop {step : Da → List Da → (List Da → Prop) → Prop} {ds acc : List Da} {i : Nat} {d : Da} {Q : List Da → Prop} (h : ds[i]? = some d) (q : lcG step (ds.drop i) acc Q) : step d acc fun acc' => lcG step (ds.drop (i + 1)) acc' Q := by
  obtain ⟨hi, e⟩ := List.getElem?_eq_some_iff.mp h
  rw [List.drop_eq_getElem_cons hi, e] at q
  exact q
/-- each item gives one -/
theorem lcG_map {step : Da → List Da → (List Da → Prop) → Prop} {f : Da → Da} {Q : List Da → Prop} : ∀ {ds acc : List Da}, (∀ d acc (k : List Da → Prop), d ∈ ds → k (acc ++ [f d]) → step d acc k) → Q (acc ++ ds.map f) → lcG step ds acc Q
  | [], acc, _, q => by rw [List.map_nil, List.append_nil] at q; exact q
  | d :: ds, acc, h, q => h d acc _ List.mem_cons_self (lcG_map (fun d' acc' k hd hk => h d' acc' k (List.mem_cons_of_mem _ hd) hk) (by rw [List.map_cons] at q; rw [List.append_assoc]; exact q))
/-- each item is kept or not -/
theorem lcG_filter {step : Da → List Da → (List Da → Prop) → Prop} {p : Da → Bool} {f : Da → Da} {Q : List Da → Prop} : ∀ {ds acc : List Da}, (∀ d acc (k : List Da → Prop), d ∈ ds → k (if p d then acc ++ [f d] else acc) → step d acc k) → Q (acc ++ (ds.filter p).map f) → lcG step ds acc Q
  | [], acc, _, q => by rw [List.filter_nil, List.map_nil, List.append_nil] at q; exact q
  | d :: ds, acc, h, q => h d acc _ List.mem_cons_self (lcG_filter (fun d' acc' k hd hk => h d' acc' k (List.mem_cons_of_mem _ hd) hk) (by
    rw [List.filter_cons] at q
    split at q <;> rename_i c
    · rw [if_pos c, List.append_assoc]; rw [List.map_cons] at q; exact q
    · rw [if_neg c]; exact q))
def noInv (Γ : List Slot) (vs : List Nat) : Prop := ∀ i ∈ vs, ∀ p I, Γ[i]? ≠ some (.inv p I)
/-! ## built-ins -/
mutual
def Da.pure : Da → Bool
  | .non | .bl _ | .int _ | .str _ => true
  | .lst xs | .tup xs => Da.pures xs
  | _ => false
def Da.pures : List Da → Bool
  | [] => true
  | x :: xs => x.pure && Da.pures xs
end
mutual
def Da.py : Da → PyData
  | .bl b => .bool b
  | .int i => .int i
  | .str x => .str x
  | .lst xs => .list (Da.pys xs)
  | .tup xs => .tuple (Da.pys xs)
  | _ => .none
def Da.pys : List Da → List PyData
  | [] => []
  | x :: xs => x.py :: Da.pys xs
end
mutual
theorem Rep.dp {K : PySem.W.Frag} {H : Hp} : ∀ (d : Da) (v : V), d.pure = true → Rep K H d v → Dp K H v d.py
  | .non, v, _, r => by unfold Rep at r; subst r; unfold Da.py; exact .non
  | .bl b, v, _, r => by unfold Rep at r; subst r; unfold Da.py; exact .bl b
  | .int b, v, _, r => by unfold Rep at r; subst r; unfold Da.py; exact .int b
  | .str b, v, _, r => by unfold Rep at r; subst r; unfold Da.py; exact .str b
  | .lst ds, v, h, r => by
    unfold Rep at r
    obtain ⟨a, xs, rfl, r1, r2⟩ := r
    unfold Da.pure at h
    unfold Da.py
    exact .lst r1 (Reps.dp ds xs h r2)
  | .tup ds, v, h, r => by
    unfold Rep at r
    obtain ⟨a, xs, rfl, r1, r2⟩ := r
    unfold Da.pure at h
    unfold Da.py
    exact .tup r1 (Reps.dp ds xs h r2)
  | .dct _, _, h, _ => by unfold Da.pure at h; cases h
  | .ins _ _, _, h, _ => by unfold Da.pure at h; cases h
  | .rf _, _, h, _ => by unfold Da.pure at h; cases h
  | .ty _, _, h, _ => by unfold Da.pure at h; cases h
theorem Reps.dp {K : PySem.W.Frag} {H : Hp} : ∀ (ds : List Da) (vs : List V), Da.pures ds = true → Reps K H ds vs → DpAll K H vs (Da.pys ds)
  | [], vs, _, r => by unfold Reps at r; subst r; unfold Da.pys; exact .nil
  | d :: ds, vs, h, r => by
    unfold Reps at r
    obtain ⟨x, l, rfl, r1, r2⟩ := r
    unfold Da.pures at h
    rw [Bool.and_eq_true] at h
    unfold Da.pys
    exact .cons (Rep.dp d x h.1 r1) (Reps.dp ds l h.2 r2)
end
structure CallG (S : Sx) (f : Value) (r : List Da → (Da → Prop) → Prop) : Prop where
  ex : ∃ rr : List V → Hp → VK → Prop, (∀ X, S.Ok X → CallR X f rr) ∧ ∀ PX Γ σ Hf H ds vs (Q : Da → Prop) k, Stt S PX Γ Hf H σ → Reps S.K Hf ds vs → r ds Q →
    (∀ d v Hf' H', Sub Hf Hf' → Stt S PX Γ Hf' H' σ → Rep S.K Hf' d v → Q d → k v H') → rr vs H k
theorem CallG.keep {S : Sx} {f : Value} {r : List Da → (Da → Prop) → Prop} (rr : List V → Hp → VK → Prop) (h : ∀ X, S.Ok X → CallR X f rr)
    (q : ∀ Hf H ds vs (Q : Da → Prop) k, Sub Hf H → Reps S.K Hf ds vs → r ds Q → (∀ d v, Rep S.K Hf d v → Q d → k v H) → rr vs H k) : CallG S f r :=
  ⟨rr, h, fun PX Γ σ Hf H ds vs Q k st rx hr hk => q Hf H ds vs Q k st.ex rx hr fun d v a b => hk d v Hf H (Sub.refl _) st a b⟩
section
variable {S : Sx} {Γ : List Slot} {e a b c : Expr} {es : List Expr} {Q : Da → Prop} {p pos : Pos} {x : Str} {id T : String} {r : List Da → (Da → Prop) → Prop}
theorem ev_callB (ho : CallG S (.builtin id) r) (hg : GlS S x) (hm : S.mg x = none) (hv : bootBuiltins x = some (.builtin id)) (h : EvA S Γ (e :: es) fun ds => r ds Q) (hn : x ≠ "__name__" := by decide) (hdb : (x == ("__debug__" : Str)) = false := by decide)
    (he : ∀ env, starEach (e :: es) env = (false, eval e env) :: starEach es env := by intro _; rfl) (hpl : ∀ env, (backTo pos (starEach es env)).any (·.1) = false := by intro _; rfl) : EvE S Γ (.Call (.Name x p) (e :: es) [] pos) Q := by
  obtain ⟨rr, h1, h2⟩ := ho.ex
  exact ev_of (fun X ok => pe_callB (h1 X ok) (hg.gl ok) (by rw [ok.mg]; exact hm) hv (puA ok) hn hdb (he _) (hpl _)) fun PX σ H Hf k st hk => h PX σ H Hf _ st fun ds vs Hf1 H1 e1 st1 r1 q1 =>
    h2 PX Γ σ Hf1 H1 ds vs Q k st1 r1 q1 fun d v Hf' H' e2 => hk d v Hf' H' (e1.trans e2)
theorem ev_callTy (ho : CallG S (.type T) r) (hg : GlS S x) (hm : S.mg x = none) (hv : bootBuiltins x = some (.type T)) (h : EvA S Γ (e :: es) fun ds => r ds Q) (hn : x ≠ "__name__" := by decide) (hdb : (x == ("__debug__" : Str)) = false := by decide)
    (he : ∀ env, starEach (e :: es) env = (false, eval e env) :: starEach es env := by intro _; rfl) (hpl : ∀ env, (backTo pos (starEach es env)).any (·.1) = false := by intro _; rfl) : EvE S Γ (.Call (.Name x p) (e :: es) [] pos) Q := by
  obtain ⟨rr, h1, h2⟩ := ho.ex
  exact ev_of (fun X ok => pe_callTy (h1 X ok) (hg.gl ok) (by rw [ok.mg]; exact hm) hv (puA ok) hn hdb (he _) (hpl _)) fun PX σ H Hf k st hk => h PX σ H Hf _ st fun ds vs Hf1 H1 e1 st1 r1 q1 =>
    h2 PX Γ σ Hf1 H1 ds vs Q k st1 r1 q1 fun d v Hf' H' e2 => hk d v Hf' H' (e1.trans e2)
@[reducible] def as1 (ds : List Da) (k : Da → Prop) : Prop := match ds with | [d] => k d | _ => False
@[reducible] def as2 (ds : List Da) (k : Da → Da → Prop) : Prop := match ds with | [d, e] => k d e | _ => False
theorem as1_ {ds : List Da} {k : Da → Prop} (h : as1 ds k) : ∃ d, ds = [d] ∧ k d := by
  match ds, h with
  | [d], h => exact ⟨d, rfl, h⟩
theorem as2_ {ds : List Da} {k : Da → Da → Prop} (h : as2 ds k) : ∃ d e, ds = [d, e] ∧ k d e := by
  match ds, h with
  | [d, e], h => exact ⟨d, e, rfl, h⟩
theorem Reps.one {K : PySem.W.Frag} {H : Hp} {d : Da} {vs : List V} (r : Reps K H [d] vs) : ∃ v, vs = [v] ∧ Rep K H d v := by
  obtain ⟨v, l, rfl, r1, r2⟩ := r
  unfold Reps at r2; subst r2
  exact ⟨v, rfl, r1⟩
theorem Reps.two {K : PySem.W.Frag} {H : Hp} {d e : Da} {vs : List V} (r : Reps K H [d, e] vs) : ∃ v u, vs = [v, u] ∧ Rep K H d v ∧ Rep K H e u := by
  obtain ⟨v, l, rfl, r1, r2⟩ := r
  obtain ⟨u, rfl, r3⟩ := r2.one
  exact ⟨v, u, rfl, r1, r3⟩
theorem c_abs : CallG S (.builtin "abs") fun ds Q => as1 ds fun d => asInt d fun i => Q (.int (if i < 0 then -i else i)) := .keep _ (fun _ _ => call_abs) fun Hf H ds vs Q k _ r h hk => by
  obtain ⟨d, rfl, h⟩ := as1_ h
  obtain ⟨i, rfl, h⟩ := asInt_ h
  obtain ⟨v, rfl, r1⟩ := r.one
  exact ⟨i, congrArg (· :: []) r1, hk (.int (if i < 0 then -i else i)) _ rfl h⟩
theorem c_max2 : CallG S (.builtin "max") fun ds Q => as2 ds fun d e => asInt d fun i => asInt e fun j => Q (.int (if j > i then j else i)) := .keep _ (fun X ok => call_max2 ok.calm) fun Hf H ds vs Q k _ r h hk => by
  obtain ⟨d, e, rfl, h⟩ := as2_ h
  obtain ⟨i, rfl, h⟩ := asInt_ h
  obtain ⟨j, rfl, h⟩ := asInt_ h
  obtain ⟨v, u, rfl, r1, r2⟩ := r.two
  have e1 : v = .int i := r1
  have e2 : u = .int j := r2
  subst e1; subst e2
  exact ⟨i, j, rfl, hk (.int (if j > i then j else i)) _ rfl h⟩
theorem c_min2 : CallG S (.builtin "min") fun ds Q => as2 ds fun d e => asInt d fun i => asInt e fun j => Q (.int (if j < i then j else i)) := .keep _ (fun X ok => call_min2 ok.calm) fun Hf H ds vs Q k _ r h hk => by
  obtain ⟨d, e, rfl, h⟩ := as2_ h
  obtain ⟨i, rfl, h⟩ := asInt_ h
  obtain ⟨j, rfl, h⟩ := asInt_ h
  obtain ⟨v, u, rfl, r1, r2⟩ := r.two
  have e1 : v = .int i := r1
  have e2 : u = .int j := r2
  subst e1; subst e2
  exact ⟨i, j, rfl, hk (.int (if j < i then j else i)) _ rfl h⟩
theorem c_int : CallG S (.type "int") fun ds Q => as1 ds fun d => asInt d fun i => Q (.int i) := .keep _ (fun _ _ => call_int1) fun Hf H ds vs Q k _ r h hk => by
  obtain ⟨d, rfl, h⟩ := as1_ h
  obtain ⟨i, rfl, h⟩ := asInt_ h
  obtain ⟨v, rfl, r1⟩ := r.one
  exact .inl ⟨i, congrArg (· :: []) r1, hk (.int i) _ rfl h⟩
theorem Rep.seq {K : PySem.W.Frag} {H : Hp} {d : Da} {v : V} {Q : List Da → Prop} (h : asSeq d Q) (r : Rep K H d v) : ∃ ds a xs, v = .ref a ∧ (SqL K H a xs ∨ SqT K H a xs) ∧ Reps K H ds xs ∧ Q ds := by
  obtain ⟨ds, rfl | rfl, q⟩ := asSeq_ h
  · obtain ⟨a, xs, e, r1, r2⟩ := r
    exact ⟨ds, a, xs, e, .inl r1, r2, q⟩
  · obtain ⟨a, xs, e, r1, r2⟩ := r
    exact ⟨ds, a, xs, e, .inr r1, r2, q⟩
theorem c_len : CallG S (.builtin "len") fun ds Q => as1 ds fun d => asSeq d fun xs => Q (.int (xs.length : Int)) :=
  .keep (fun xs H Q => ∃ p ys, xs = [.ref p] ∧ (SqL S.K H p ys ∨ SqT S.K H p ys) ∧ Q (.int ys.length) H) (fun X ok => by have z := call_len_seq (X := X); rw [ok.K] at z; exact z) fun Hf H ds vs Q k e r h hk => by
  obtain ⟨d, rfl, h⟩ := as1_ h
  obtain ⟨v, rfl, r1⟩ := r.one
  obtain ⟨ys, a, xs, rfl, hs, r2, q⟩ := r1.seq h
  exact ⟨a, xs, rfl, hs.imp e.sl e.st, hk _ _ (by rw [r2.len]; rfl) q⟩
theorem c_divmod : CallG S (.builtin "divmod") fun ds Q => as2 ds fun d e => asInt d fun i => asInt e fun j => Dv j ∧ Q (.tup [.int (i / j), .int (i % j)]) :=
  ⟨_, fun _ _ => call_divmodW, fun PX Γ σ Hf H ds vs Q k st r h hk => by
    obtain ⟨d, e, rfl, h⟩ := as2_ h
    obtain ⟨i, rfl, h⟩ := asInt_ h
    obtain ⟨j, rfl, h⟩ := asInt_ h
    obtain ⟨v, u, rfl, r1, r2⟩ := r.two
    have e1 : v = .int i := r1
    have e2 : u = .int j := r2
    subst e1; subst e2
    refine ⟨i, j, rfl, h.1.p, fun p hp => ?_⟩
    obtain ⟨st2, e2⟩ := st.alloc (o := .tup [.int (i / j), .int (i % j)]) hp
    exact hk (.tup [.int (i / j), .int (i % j)]) _ _ _ e2 st2 ⟨p, _, rfl, SqT.of upd_same, _, _, rfl, rfl, _, _, rfl, rfl, rfl⟩ h.2⟩
/-! sums of numbers and truths -/
def numV : V → Int
  | .int i => i
  | .bl b => if b = true then 1 else 0
  | _ => 0
def isNumV : V → Bool
  | .int _ => true
  | .bl _ => true
  | _ => false
def Da.num : Da → Int
  | .int i => i
  | .bl b => if b = true then 1 else 0
  | _ => 0
def Da.isNum : Da → Bool
  | .int _ => true
  | .bl _ => true
  | _ => false
theorem num_of {v : V} {u : Value} (r : RelV v u) (h : isNumV v = true) : NumOf (numV v) u := by
  cases v with
  | int i => obtain ⟨t, rfl⟩ := r; exact .inl ⟨t, rfl⟩
  | bl b => cases r; exact .inr ⟨b, rfl, rfl⟩
  | _ => cases h
theorem preSum_vals (val : Nat → Int) : ∀ n, preSum val n = ((List.range n).map val).sum
  | 0 => rfl
  | n + 1 => by
    show preSum val n + val n = _
    rw [preSum_vals val n, List.range_succ, List.map_append, List.sum_append, List.map_cons, List.map_nil, List.sum_cons, List.sum_nil]; omega
theorem range_getD {xs : List Int} : (List.range xs.length).map (fun i => xs.getD i 0) = xs := by
  refine List.ext_getElem? fun i => ?_
  rw [List.getElem?_map]
  by_cases h : i < xs.length
  · rw [List.getElem?_range h, List.getElem?_eq_getElem h]
    show some (xs.getD i 0) = _
    rw [List.getD_eq_getElem?_getD, List.getElem?_eq_getElem h]; rfl
  · rw [List.getElem?_eq_none (by rw [List.length_range]; omega), List.getElem?_eq_none (by omega)]; rfl
theorem sum_seq {X : Cx} (hc : X.calm = true) : CallR X (.builtin "sum") (fun vs H Q => ∃ a xs, vs = [V.ref a] ∧ (SqL X.K H a xs ∨ SqT X.K H a xs) ∧ xs.all isNumV = true ∧ Q (.int (xs.map numV).sum) H) := by
  intro pins s σ H vs us Q I r h
  obtain ⟨a, xs, rfl, hs, hn, q⟩ := h
  rw [Vals.ref1 r]
  have hh := I.ok.hd hc
  have val : ∀ (its : List Value), Vals xs its → ∀ i v, its.toArray[i]? = some v → NumOf ((xs.map numV).getD i 0) v := fun its rv i v e => by
    have e' : its[i]? = some v := by simpa using e
    have hi : i < xs.length := by rw [rv.length]; exact (List.getElem?_eq_some_iff.mp e').1
    obtain ⟨u, h1, h2⟩ := rv.get (List.getElem?_eq_getElem hi)
    rw [e'] at h1; cases h1
    rw [List.getD_eq_getElem?_getD, List.getElem?_map, List.getElem?_eq_getElem hi]
    exact num_of h2 (List.all_eq_true.mp hn _ (List.getElem_mem hi))
  have sm : ∀ (its : List Value), Vals xs its → preSum (fun i => (xs.map numV).getD i 0) its.toArray.size = (xs.map numV).sum := fun its rv => by
    rw [preSum_vals, List.size_toArray, ← rv.length, ← List.length_map (f := numV) (as := xs), range_getD]
  have fin : ∀ (ob : Obj) (n : Nat) (s' : Shared), n = (xs.map numV).sum.toNat ∨ True → Moved [s.heap.objs.size] (fun a b => b = a) { s with heap := s.heap.push ob } s' → Inv X pins σ H s' := fun ob n s' _ m => by
    obtain ⟨h2, g2, d2, t2, o2⟩ := s'
    have e1 : g2 = s.gens := m.gens
    have e2 : d2 = s.drawn := m.drawn
    have e3 : o2 = s.os := m.os
    subst e1; subst e2; subst e3
    exact I.kept (h' := h2) (t' := t2) fun b u e => m.heap b u (by simp only [List.mem_singleton]; exact Nat.ne_of_lt (Heap.lt_size e)) (Heap.get?_push_of_some _ e)
  rcases hs with hs | hs
  · obtain ⟨its, rv, hl, _⟩ := I.list hs
    have ha : a < s.heap.objs.size := by
      obtain ⟨o, n, e, _⟩ := hl
      exact Heap.lt_size e
    refine call_sum_walkAnyB (wpAny_pyIter_list hl.isList ?_)
    refine ⟨s.heap.objs.size, [s.heap.objs.size, a], [s.heap.objs.size], _, _, _, _, _, rfl, (Walks.list (A := X.A.in1) hh s.heap.objs.size a (Nat.ne_of_lt ha) its.toArray).toS, ?_, ?_, val its rv, fun s' t' m => ?_⟩
    · exact ⟨⟨_, Heap.get?_push_size _ rfl, rfl, rfl⟩, hl.isList.at fun o e => Heap.get?_push_of_some _ e⟩
    · intro b hb
      rcases List.mem_cons.mp hb with rfl | hb
      · rw [Heap.size_push]; exact Nat.lt_succ_self _
      · rw [List.mem_singleton.mp hb, Heap.size_push]; exact Nat.lt_succ_of_lt ha
    · rw [sm its rv]
      exact ⟨.int _, H, fin _ 0 s' (.inr trivial) m, ⟨_, rfl⟩, q⟩
  · obtain ⟨its, rv, hl, _⟩ := I.tuple hs
    have ha : a < s.heap.objs.size := hl.lt
    refine call_sum_walkAnyB (wpAny_pyIter_tuple hl ?_)
    refine ⟨s.heap.objs.size, [s.heap.objs.size, a], [s.heap.objs.size], _, _, _, _, _, rfl, (Walks.tuple (A := X.A.in1) hh s.heap.objs.size a (Nat.ne_of_lt ha) its.toArray).toS, ?_, ?_, val its rv, fun s' t' m => ?_⟩
    · exact ⟨⟨_, Heap.get?_push_size _ rfl, rfl, rfl⟩, (show s.heap.IsTuple a its.toArray from hl).at fun o e => Heap.get?_push_of_some _ e⟩
    · intro b hb
      rcases List.mem_cons.mp hb with rfl | hb
      · rw [Heap.size_push]; exact Nat.lt_succ_self _
      · rw [List.mem_singleton.mp hb, Heap.size_push]; exact Nat.lt_succ_of_lt ha
    · rw [sm its rv]
      exact ⟨.int _, H, fin _ 0 s' (.inr trivial) m, ⟨_, rfl⟩, q⟩
theorem Reps.nums {K : PySem.W.Frag} {H : Hp} : ∀ {ds : List Da} {vs : List V}, Reps K H ds vs → ds.all Da.isNum = true → vs.all isNumV = true ∧ vs.map numV = ds.map Da.num
  | [], _, r, _ => by unfold Reps at r; subst r; exact ⟨rfl, rfl⟩
  | d :: ds, _, r, h => by
    obtain ⟨v, l, rfl, r1, r2⟩ := r
    rw [List.all_cons, Bool.and_eq_true] at h
    obtain ⟨h1, h2⟩ := Reps.nums r2 h.2
    have z : isNumV v = true ∧ numV v = d.num := by
      cases d with
      | int i => have e : v = .int i := r1; subst e; exact ⟨rfl, rfl⟩
      | bl i => have e : v = .bl i := r1; subst e; exact ⟨rfl, rfl⟩
      | _ => cases h.1
    rw [List.all_cons, List.map_cons, List.map_cons, z.1, h1, h2, z.2]
    exact ⟨rfl, rfl⟩
theorem c_sum : CallG S (.builtin "sum") fun ds Q => as1 ds fun d => asSeq d fun xs => xs.all Da.isNum = true ∧ Q (.int (xs.map Da.num).sum) :=
  .keep (fun vs H Q => ∃ a xs, vs = [V.ref a] ∧ (SqL S.K H a xs ∨ SqT S.K H a xs) ∧ xs.all isNumV = true ∧ Q (.int (xs.map numV).sum) H) (fun X ok => by have z := sum_seq (X := X) ok.calm; rw [ok.K] at z; exact z) fun Hf H ds vs Q k e r h hk => by
  obtain ⟨d, rfl, h⟩ := as1_ h
  obtain ⟨v, rfl, r1⟩ := r.one
  obtain ⟨ys, a, xs, rfl, hs, r2, q⟩ := r1.seq h
  obtain ⟨z1, z2⟩ := r2.nums q.1
  exact ⟨a, xs, rfl, hs.imp e.sl e.st, z1, hk (.int (ys.map Da.num).sum) _ (by rw [z2]; rfl) q.2⟩
/-! repr -/
theorem repr_any {X : Cx} (hg : X.A.guards = some []) (hu : X.A.units + 64 < cLine) : CallR X (.builtin "repr") (fun vs H Q => ∃ v d, vs = [v] ∧ Dp X.K H v d ∧ d.showable = true ∧ d.hasDict = false ∧ d.depth ≤ 60 ∧ d.shown.length ≤ sizeLine ∧ Q (.str d.shown) H) := by
  intro pins s σ H vs us Q I r h
  obtain ⟨v, d, rfl, hd, h1, h2, h3, h4, q⟩ := h
  obtain ⟨u, rfl, ru⟩ := vals1 r
  cases hd with
  | non => cases ru; exact PySem.P.repr_of_none ⟨.str _, H, I.tok _, ⟨_, rfl⟩, q⟩
  | bl b => cases ru; exact PySem.P.repr_of_bool ⟨.str _, H, I.tok _, ⟨_, rfl⟩, q⟩
  | int i =>
    obtain ⟨t, rfl⟩ := ru
    exact PySem.P.repr_of_int (of_decide_eq_true h1) ⟨.str _, H, I.tok _, ⟨_, rfl⟩, q⟩
  | str x =>
    obtain ⟨t, rfl⟩ := ru
    exact PySem.P.repr_of_str ⟨.str _, H, I.tok _, ⟨_, rfl⟩, q⟩ h4
  | lst hs ha =>
    obtain ⟨as, rd⟩ := Dp.reads I _ _ _ (.lst hs ha) ru
    cases ru
    exact repr_of_reads' rd h1 (PyData.noDict_hsm h2) hg (by omega) (fun _ _ e => e) (fun h' u tk hk => ⟨.str _, H, I.kept hk, ⟨_, rfl⟩, q⟩) h4
  | tup hs ha =>
    obtain ⟨as, rd⟩ := Dp.reads I _ _ _ (.tup hs ha) ru
    cases ru
    exact repr_of_reads' rd h1 (PyData.noDict_hsm h2) hg (by omega) (fun _ _ e => e) (fun h' u tk hk => ⟨.str _, H, I.kept hk, ⟨_, rfl⟩, q⟩) h4
mutual
theorem Da.py_noDict : ∀ d : Da, d.py.hasDict = false
  | .bl _ => by unfold Da.py PyData.hasDict; rfl
  | .int _ => by unfold Da.py PyData.hasDict; rfl
  | .str _ => by unfold Da.py PyData.hasDict; rfl
  | .lst xs => by unfold Da.py PyData.hasDict; exact Da.pys_noDict xs
  | .tup xs => by unfold Da.py PyData.hasDict; exact Da.pys_noDict xs
  | .non => by unfold Da.py PyData.hasDict; rfl
  | .dct _ => by unfold Da.py PyData.hasDict; rfl
  | .ins _ _ => by unfold Da.py PyData.hasDict; rfl
  | .rf _ => by unfold Da.py PyData.hasDict; rfl
  | .ty _ => by unfold Da.py PyData.hasDict; rfl
theorem Da.pys_noDict : ∀ ds : List Da, PyData.hasDictAll (Da.pys ds) = false
  | [] => by unfold Da.pys PyData.hasDictAll; rfl
  | d :: ds => by unfold Da.pys PyData.hasDictAll; rw [Da.py_noDict d, Da.pys_noDict ds]; rfl
end
/-- data whose repr is asked -/
structure Shw (d : Da) : Prop where
  p : d.pure = true
  s : d.py.showable = true
  dp : d.py.depth ≤ 60
  l : d.py.shown.length ≤ 1000000
theorem c_repr : CallG S (.builtin "repr") fun ds Q => as1 ds fun d => Shw d ∧ Q (.str d.py.shown) :=
  .keep (fun vs H Q => ∃ v d, vs = [v] ∧ Dp S.K H v d ∧ d.showable = true ∧ d.hasDict = false ∧ d.depth ≤ 60 ∧ d.shown.length ≤ sizeLine ∧ Q (.str d.shown) H) (fun X ok => by have z := repr_any (X := X) ok.gd ok.room.units; rw [ok.K] at z; exact z) fun Hf H ds vs Q k e r h hk => by
  obtain ⟨d, rfl, h, q⟩ := as1_ h
  obtain ⟨v, rfl, r1⟩ := r.one
  exact ⟨v, d.py, rfl, Rep.dp d v h.p (Rep.mono e _ _ r1), h.s, d.py_noDict, h.dp, Nat.le_trans h.l (by decide : 1000000 ≤ sizeLine), hk (.str d.py.shown) _ rfl q⟩
/-! == of data -/
structure EqOk (d : Da) : Prop where
  p : d.pure = true
  s : SeqAt.shaped d.py = true
@[reducible] def eqQ (x y : Da) (k : Bool → Prop) : Prop := match x, y with
  | .int i, .int j => k (decide (i = j))
  | .str i, .str j => k (decide (i = j))
  | .bl i, .bl j => k (decide (i = j))
  | x, y => EqOk x ∧ EqOk y ∧ k (PyData.eqv x.py y.py)
theorem eq_any {f : Value → Value → Sem Value} {g : Bool → Bool} (h1 : ∀ X, S.Ok X → OpR X f (fun x y H Q => scal x y = true ∧ Q (.bl (g (decide (x = y)))) H)) (h2 : ∀ X, S.Ok X → OpR X f (fun x y H Q => ∃ d e, Dp S.K H x d ∧ Dp S.K H y e ∧ SeqAt.shaped d = true ∧ SeqAt.shaped e = true ∧ Q (.bl (g (PyData.eqv d e))) H)) :
    OpG S f fun x y Q => eqQ x y fun b => Q (.bl (g b)) :=
  .pure _ (fun X ok => (h1 X ok).or (h2 X ok)) fun Hf H x y v u Q k e rx ry hr hk => by
    unfold eqQ at hr
    split at hr
    · rename_i i j
      have e1 : v = .int i := rx
      have e2 : u = .int j := ry
      subst e1; subst e2
      exact .inl ⟨rfl, hk (.bl (g (decide (i = j)))) _ (by rw [show decide (V.int i = V.int j) = decide (i = j) by rw [Bool.eq_iff_iff]; simp]; rfl) hr⟩
    · rename_i i j
      have e1 : v = .str i := rx
      have e2 : u = .str j := ry
      subst e1; subst e2
      exact .inl ⟨rfl, hk (.bl (g (decide (i = j)))) _ (by rw [show decide (V.str i = V.str j) = decide (i = j) by rw [Bool.eq_iff_iff]; simp]; rfl) hr⟩
    · rename_i i j
      have e1 : v = .bl i := rx
      have e2 : u = .bl j := ry
      subst e1; subst e2
      exact .inl ⟨rfl, hk (.bl (g (decide (i = j)))) _ (by rw [show decide (V.bl i = V.bl j) = decide (i = j) by rw [Bool.eq_iff_iff]; simp]; rfl) hr⟩
    · obtain ⟨a, b, q⟩ := hr
      exact .inr ⟨x.py, y.py, Rep.dp x v a.p (Rep.mono e _ _ rx), Rep.dp y u b.p (Rep.mono e _ _ ry), a.s, b.s, hk (.bl (g (PyData.eqv x.py y.py))) _ rfl q⟩
theorem g_eq : OpG S (compareOp .Eq) fun x y Q => eqQ x y fun b => Q (.bl b) := eq_any (g := fun b => b) (fun _ _ => op_eq) fun X ok => by have z := op_eqD (X := X) ok.room.units; unfold rEqD at z; rw [ok.K] at z; exact z
theorem g_ne : OpG S (compareOp .NotEq) fun x y Q => eqQ x y fun b => Q (.bl (!b)) := eq_any (g := fun b => !b) (fun _ _ => op_ne) fun X ok => by have z := op_neD (X := X) ok.room.units; unfold rNeD at z; rw [ok.K] at z; exact z
end

/-! ## items, slices, stores, methods -/
def cutD {α : Type} (xs : List α) (lo hi : Option Int) : List α := (xs.drop (HT.sIx xs.length 0 lo)).take (HT.sIx xs.length xs.length hi - HT.sIx xs.length 0 lo)
theorem Reps.drop {K : PySem.W.Frag} {H : Hp} : ∀ {ds : List Da} {vs : List V} (n : Nat), Reps K H ds vs → Reps K H (ds.drop n) (vs.drop n)
  | _, _, 0, r => r
  | [], _, n + 1, r => by unfold Reps at r; subst r; exact rfl
  | d :: ds, _, n + 1, r => by
    obtain ⟨v, l, rfl, r1, r2⟩ := r
    exact Reps.drop n r2
theorem Reps.take {K : PySem.W.Frag} {H : Hp} : ∀ {ds : List Da} {vs : List V} (n : Nat), Reps K H ds vs → Reps K H (ds.take n) (vs.take n)
  | ds, vs, 0, r => by rw [List.take_zero, List.take_zero]; exact rfl
  | [], _, n + 1, r => by unfold Reps at r; subst r; exact rfl
  | d :: ds, _, n + 1, r => by
    obtain ⟨v, l, rfl, r1, r2⟩ := r
    exact ⟨v, _, rfl, r1, Reps.take n r2⟩
theorem Reps.cut {K : PySem.W.Frag} {H : Hp} {ds : List Da} {vs : List V} (lo hi : Option Int) (r : Reps K H ds vs) : Reps K H (cutD ds lo hi) (cutV vs lo hi) := by
  unfold cutD cutV
  rw [r.len]
  exact (r.drop _).take _
theorem Reps.set {K : PySem.W.Frag} {H : Hp} {d : Da} {v : V} (rd : Rep K H d v) : ∀ {ds : List Da} {vs : List V} (n : Nat), Reps K H ds vs → Reps K H (ds.set n d) (vs.set n v)
  | [], _, n, r => by unfold Reps at r; subst r; exact rfl
  | e :: ds, _, 0, r => by
    obtain ⟨u, l, rfl, r1, r2⟩ := r
    exact ⟨v, l, rfl, rd, r2⟩
  | e :: ds, _, n + 1, r => by
    obtain ⟨u, l, rfl, r1, r2⟩ := r
    exact ⟨u, _, rfl, r1, Reps.set rd n r2⟩
theorem atI_rep {K : PySem.W.Frag} {H : Hp} {ds : List Da} {vs : List V} {i : Int} {d : Da} (r : Reps K H ds vs) (h : atI ds i = some d) : ∃ v, atI vs i = some v ∧ Rep K H d v := by
  unfold atI at h ⊢
  rw [r.len]
  cases e : ixN ds.length i with
  | none => rw [e] at h; cases h
  | some j =>
    rw [e] at h
    exact r.get h
section
variable {S : Sx} {Γ : List Slot} {e a b c o : Expr} {es : List Expr} {lo hi : Option Expr} {Q : Da → Prop} {p pos p2 apos : Pos} {x : Str} {i : Nat} {A : Addr} {I : List Da → Prop}
/-- x[i], x a list, a tuple -/
theorem ev_ix (h : EvE S Γ a fun d => EvE S Γ b fun j => asSeq d fun ds => asInt j fun i => ∃ d, atI ds i = some d ∧ Q d) (hs : ∀ o i, subscripted b false o i = operate [o, i] (getItem o i) := by intro _ _; rfl) : EvE S Γ (.Subscript a b pos) Q :=
  ev_of (t := tOp (rIx S.K) (tU S a) (tU S b)) (fun X ok => by have z := pe_ix (pos := pos) ix_seq (pu (e := a) ok) (pu (e := b) ok) hs; rw [ok.K] at z; exact z) fun PX σ H Hf k st hk => h PX σ H Hf _ st fun d v Hf1 H1 e1 st1 r1 q => q PX σ H1 Hf1 _ st1 fun j u Hf2 H2 e2 st2 r2 q2 => by
    obtain ⟨ds, P, xs, rfl, hq, rr, q3⟩ := (Rep.mono e2 _ _ r1).seq q2
    obtain ⟨i, rfl, dd, hi, q4⟩ := asInt_ q3
    obtain ⟨w, h1, h2⟩ := atI_rep rr hi
    have e' : u = .int i := r2
    subst e'
    rcases hq with hq | hq
    · exact .inl ⟨P, xs, i, w, rfl, rfl, st2.ex.sl hq, h1, hk dd w Hf2 H2 (e1.trans e2) st2 h2 q4⟩
    · exact .inr (.inl ⟨P, xs, i, w, rfl, rfl, st2.ex.st hq, h1, hk dd w Hf2 H2 (e1.trans e2) st2 h2 q4⟩)
/-- a sign of a text -/
theorem ev_ixS (h : EvE S Γ a fun d => EvE S Γ b fun j => asStr d fun z => asInt j fun i => z.length ≤ 1000000 ∧ ∃ c, atI z.cps.toList i = some c ∧ Q (.str ⟨#[c]⟩)) (hs : ∀ o i, subscripted b false o i = operate [o, i] (getItem o i) := by intro _ _; rfl) : EvE S Γ (.Subscript a b pos) Q :=
  ev_of (t := tOp rIxS (tU S a) (tU S b)) (fun X ok => pe_ix (pos := pos) ix_str (pu (e := a) ok) (pu (e := b) ok) hs) fun PX σ H Hf k st hk => h PX σ H Hf _ st fun d v Hf1 H1 e1 st1 r1 q => q PX σ H1 Hf1 _ st1 fun j u Hf2 H2 e2 st2 r2 q2 => by
    obtain ⟨z, rfl, q3⟩ := asStr_ q2
    obtain ⟨i, rfl, hz, c, hi, q4⟩ := asInt_ q3
    have e' : u = .int i := r2
    have e'' : v = .str z := r1
    subst e'; subst e''
    exact ⟨z, i, c, rfl, rfl, Nat.le_trans hz (by decide : 1000000 ≤ sizeLine), hi, hk (.str ⟨#[c]⟩) _ Hf2 H2 (e1.trans e2) st2 rfl q4⟩
theorem slot_of {σ : L2.St} {PX Hf H : Hp} (st : Stt S PX Γ Hf H σ) (hΓ : Γ[i]? = some (.inv A I)) : σ[i]? = some (some (.ref A)) := by
  have o1 := (st.own hΓ).1
  cases z : σ[i]? with
  | none => rw [z] at o1; cases o1
  | some o => rw [z] at o1; exact congrArg some o1
/-- an item of a list of the def's own -/
theorem ev_ixO (hN : S.N[i]? = some x) (hv : Vis S.sc x) (hΓ : Γ[i]? = some (.inv A I)) (h : EvE S Γ b fun j => asInt j fun j => ∀ ds, I ds → ∃ d, atI ds j = some d ∧ Q d) (hs : ∀ o i, subscripted b false o i = operate [o, i] (getItem o i) := by intro _ _; rfl)
    (hd : (x == ("__debug__" : Str)) = false := by decide) (hcd : (x == ("__classdict__" : Str)) = false := by decide) : EvE S Γ (.Subscript (.Name x p) b pos) Q :=
  ev_of (t := tOp (rIxL S.K) (tVar i) (tU S b)) (fun X ok => by have z := pe_ix (pos := pos) ix_list (pe_var (pos := p) (i := i) (by rw [ok.N]; exact hN) (by rw [ok.sc]; exact hv) hd hcd) (pu (e := b) ok) hs; rw [ok.K] at z; exact z) fun PX σ H Hf k st hk => by
    refine ⟨.ref A, slot_of st hΓ, h PX σ H Hf _ st fun j u Hf2 H2 e2 st2 r2 q2 => ?_⟩
    obtain ⟨i, rfl, q3⟩ := asInt_ q2
    obtain ⟨_, _, vs, ds, hA, rr, hI⟩ := st2.own hΓ
    obtain ⟨d, hi, q4⟩ := q3 ds hI
    obtain ⟨w, h1, h2⟩ := atI_rep rr hi
    have e' : u = .int i := r2
    subst e'
    exact ⟨A, vs, i, w, rfl, rfl, SqL.of hA, h1, hk d w Hf2 H2 e2 st2 h2 q4⟩
def EvO (S : Sx) (Γ : List Slot) (e : Option Expr) (Q : Option Int → Prop) : Prop := ∀ PX σ H Hf k, Stt S PX Γ Hf H σ →
  (∀ b Hf' H', Sub Hf Hf' → Stt S PX Γ Hf' H' σ → Q b → k b H') → ∃ t : TO, (∀ X, S.Ok X → PO X e t) ∧ t σ H k
def tUO (S : Sx) (e : Option Expr) : TO := fun σ H Q => ∃ t : TO, (∀ X, S.Ok X → PO X e t) ∧ t σ H Q
theorem puO {X : Cx} (ok : S.Ok X) : PO X lo (tUO S lo) := ⟨fun pins s σ H Q I ⟨_, h, q⟩ => (h X ok).run pins s σ H Q I q⟩
theorem eo_none {Q : Option Int → Prop} (q : Q none) : EvO S Γ none Q := fun PX σ H Hf k st hk => ⟨_, fun _ _ => po_none, hk none Hf H (Sub.refl _) st q⟩
theorem eo_some {Q : Option Int → Prop} (h : EvE S Γ e fun d => asInt d fun i => Q (some i)) : EvO S Γ (some e) Q := fun PX σ H Hf k st hk => ⟨_, fun X ok => po_some (pu ok), h PX σ H Hf _ st fun d v Hf1 H1 e1 st1 r q => by
  obtain ⟨i, rfl, q⟩ := asInt_ q
  exact ⟨i, r, hk (some i) Hf1 H1 e1 st1 q⟩⟩
theorem ev_slL (h : EvE S Γ a fun d => EvO S Γ lo fun l => EvO S Γ hi fun u => asLst d fun ds => Q (.lst (cutD ds l u))) : EvE S Γ (.Subscript a (.Slice lo hi none p2) pos) Q :=
  ev_of (t := tSl (rSlL S.K) (tU S a) (tUO S lo) (tUO S hi)) (fun X ok => by have z := pe_slice (pos := pos) (p2 := p2) sl_list (pu (e := a) ok) (puO (lo := lo) ok) (puO (lo := hi) ok); rw [ok.K] at z; exact z) fun PX σ H Hf k st hk =>
    h PX σ H Hf _ st fun d v Hf1 H1 e1 st1 r1 q => q PX σ H1 Hf1 _ st1 fun l Hf2 H2 e2 st2 q2 => q2 PX σ H2 Hf2 _ st2 fun u Hf3 H3 e3 st3 q3 => by
    obtain ⟨ds, rfl, q4⟩ := asLst_ q3
    obtain ⟨P, xs, rfl, hq, rr⟩ := Rep.mono (e2.trans e3) _ _ r1
    refine ⟨P, xs, rfl, st3.ex.sl hq, fun p hp => ?_⟩
    obtain ⟨st4, e4⟩ := st3.alloc (o := .lst (cutV xs l u)) hp
    exact hk (.lst (cutD ds l u)) _ _ _ (((e1.trans e2).trans e3).trans e4) st4 ⟨p, _, rfl, SqL.of upd_same, Reps.mono e4 _ _ (rr.cut l u)⟩ q4
theorem cutV_all {xs : List V} {lo hi : Option Int} (h : HT.sIx xs.length 0 lo = 0 ∧ HT.sIx xs.length xs.length hi = xs.length) : cutV xs lo hi = xs := by
  unfold cutV
  rw [h.1, h.2, List.drop_zero, Nat.sub_zero, List.take_length]
theorem ev_slT (h : EvE S Γ a fun d => EvO S Γ lo fun l => EvO S Γ hi fun u => asTup d fun ds => Q (.tup (cutD ds l u))) : EvE S Γ (.Subscript a (.Slice lo hi none p2) pos) Q :=
  ev_of (t := tSl (rSlA S.K) (tU S a) (tUO S lo) (tUO S hi)) (fun X ok => by have z := pe_slice (pos := pos) (p2 := p2) sl_tupA (pu (e := a) ok) (puO (lo := lo) ok) (puO (lo := hi) ok); rw [ok.K] at z; exact z) fun PX σ H Hf k st hk =>
    h PX σ H Hf _ st fun d v Hf1 H1 e1 st1 r1 q => q PX σ H1 Hf1 _ st1 fun l Hf2 H2 e2 st2 q2 => q2 PX σ H2 Hf2 _ st2 fun u Hf3 H3 e3 st3 q3 => by
    obtain ⟨ds, rfl, q4⟩ := asTup_ q3
    obtain ⟨P, xs, rfl, hq, rr⟩ := Rep.mono (e2.trans e3) _ _ r1
    refine ⟨P, xs, rfl, st3.ex.st hq, fun w => ?_, fun w p hp => ?_⟩
    · have z := rr.cut l u
      rw [cutV_all w] at z
      exact hk (.tup (cutD ds l u)) _ _ _ ((e1.trans e2).trans e3) st3 ⟨P, xs, rfl, hq, z⟩ q4
    · obtain ⟨st4, e4⟩ := st3.alloc (o := .tup (cutV xs l u)) hp
      exact hk (.tup (cutD ds l u)) _ _ _ (((e1.trans e2).trans e3).trans e4) st4 ⟨p, _, rfl, SqT.of upd_same, Reps.mono e4 _ _ (rr.cut l u)⟩ q4
/-- a list of the def's own is changed -/
theorem Stt.put {PX Hf H : Hp} {σ : L2.St} (st : Stt S PX Γ Hf H σ) (hΓ : Γ[i]? = some (.inv A I)) {I' : List Da → Prop} {vs : List V} {xs : List Da} (r : Reps S.K Hf xs vs) (hI : I' xs) : Stt S PX (Γ.set i (.inv A I')) Hf (upd H A (.lst vs)) σ := by
  have hi : i < Γ.length := (List.getElem?_eq_some_iff.mp hΓ).1
  have get : ∀ (j : Nat) s, (Γ.set i (.inv A I'))[j]? = some s → (j = i ∧ s = .inv A I') ∨ (i ≠ j ∧ Γ[j]? = some s) := fun j s h => by
    by_cases c : i = j
    · subst c
      rw [List.getElem?_set_self hi] at h; cases h
      exact .inl ⟨rfl, rfl⟩
    · rw [List.getElem?_set_ne c] at h; exact .inr ⟨c, h⟩
  have ap : ∀ (j : Nat) p J, i ≠ j → Γ[j]? = some (Slot.inv p J) → p ≠ A := fun j p J c h z => by
    subst z; exact c (st.sep i j _ _ _ hΓ h)
  have fA := (st.own hΓ).2.1
  have pA := st.pi i A I hΓ
  refine ⟨by rw [List.length_set]; exact st.len, st.ex0, fun a u h => ?_, fun q u h1 h2 => ?_, fun q h => ?_, fun j s h => ?_, fun j p J h => ?_, st.fr, fun a u h => ?_, st.pf, fun j p J h => ?_, fun j l p J1 J2 h1 h2 => ?_⟩
  · rw [upd_ne (ne_of_none h fA)]; exact st.ex a u h
  · rw [upd_ne (fun z => ?_)]; exact st.keep q u h1 h2
    subst z
    rcases st.new i _ _ hΓ with c | c
    · exact h2 c
    · rw [h1] at c; cases c
  · by_cases c : q.1 = A
    · rw [c, upd_same]; exact fun z => nomatch z
    · rw [upd_ne c]; exact st.ops q h
  · rcases get j s h with ⟨rfl, rfl⟩ | ⟨c, h⟩
    · exact ⟨(st.own hΓ).1, fA, vs, xs, upd_same, r, hI⟩
    · refine (st.at_ j s h).more (Sub.refl _) fun p J e => ?_
      subst e
      rw [upd_ne (ap j p J c h)]
      exact ⟨(st.own h).2.1, rfl⟩
  · rcases get j _ h with ⟨rfl, e⟩ | ⟨c, h⟩
    · cases e; exact st.new _ _ _ hΓ
    · exact st.new j p J h
  · rw [upd_ne (ne_of_none h pA)]; exact st.px a u h
  · rcases get j _ h with ⟨rfl, e⟩ | ⟨c, h⟩
    · cases e; exact pA
    · exact st.pi j p J h
  · rcases get j _ h1 with ⟨rfl, e⟩ | ⟨c, h4⟩
    · cases e
      rcases get l _ h2 with ⟨rfl, e⟩ | ⟨c, h3⟩
      · rfl
      · exact absurd rfl (ap l _ _ c h3)
    · rcases get l _ h2 with ⟨rfl, e⟩ | ⟨c2, h3⟩
      · cases e; exact absurd rfl (ap j _ _ c h4)
      · exact st.sep j l p _ _ h4 h3
/-- x[i] = v, x a list of the def's own -/
theorem eg_sub {W : Nat → Bool} {d : Da} {Q : List Slot → Prop} {I' : List Da → Prop} (hN : S.N[i]? = some x) (hv : Vis S.sc x) (hΓ : Γ[i]? = some (.inv A I)) (h : EvE S Γ b fun j => asInt j fun j => (∀ ds, I ds → ∃ n, ixN ds.length j = some n ∧ I' (ds.set n d)) ∧ Q (Γ.set i (.inv A I')))
    (hW : W i = true := by rfl) (hd : (x == ("__debug__" : Str)) = false := by decide) (hcd : (x == ("__classdict__" : Str)) = false := by decide)
    (ha : ∀ env v, assign (.Subscript (.Name x p) b pos) env v = (do
      let ov ← holding [v] (eval (.Name x p) env)
      let iv ← holding [v, ov] (eval b env)
      standAt pos
      holding [v, ov, iv] (setItem ov iv v)
      release [v, ov, iv] []) := by intro _ _; rfl) : EvG S W Γ (.Subscript (.Name x p) b pos) d Q := by
  intro PX v σ H Hf k st r hk
  refine ⟨gSub (tVar i) (tU S b) rSetL, fun X ok => pg_sub (pe_var (pos := p) (i := i) (by rw [ok.N]; exact hN) (by rw [ok.sc]; exact hv) hd hcd) (pu ok) set_list (ha _), .ref A, slot_of st hΓ, ?_⟩
  refine h PX σ H Hf _ st fun j u Hf2 H2 e2 st2 r2 q2 => ?_
  obtain ⟨i', rfl, q3, q4⟩ := asInt_ q2
  obtain ⟨_, _, vs, ds, hA, rr, hI⟩ := st2.own hΓ
  obtain ⟨n, h1, h2⟩ := q3 ds hI
  have e' : u = .int i' := r2
  subst e'
  refine ⟨A, vs, i', n, rfl, rfl, hA, by rw [rr.len]; exact h1, ?_⟩
  exact hk _ _ Hf2 _ e2 (st2.put hΓ (Reps.set (Rep.mono e2 _ _ r) n rr) h2) ⟨rfl, fun _ _ => rfl, (Alt.set (σ := σ) (x := none) hW).g⟩ q4
theorem Stt.ice {PX Hf H : Hp} {σ : L2.St} (st : Stt S PX Γ Hf H σ) (hΓ : Γ[i]? = some (.inv A I)) (hop : A ∉ S.op.map (·.1)) : ∃ ds vs, I ds ∧ Sub Hf (upd Hf A (.lst vs)) ∧ Stt S PX (Γ.set i (.dat (.lst ds))) (upd Hf A (.lst vs)) H σ := by
  obtain ⟨_, fA, vs, ds, hA, rr, hI⟩ := st.own hΓ
  have hi : i < Γ.length := (List.getElem?_eq_some_iff.mp hΓ).1
  have e : Sub Hf (upd Hf A (.lst vs)) := Sub.upd0 (Sub.refl _) fA
  have pA := st.pi i A I hΓ
  have pn : ∀ q, PX q ≠ none → q ≠ A := fun q h c => h (by rw [c]; exact pA)
  have h0 : S.H0 A = none := (st.new i _ _ hΓ).resolve_left hop
  have get : ∀ (j : Nat) s, (Γ.set i (.dat (.lst ds)))[j]? = some s → (j = i ∧ s = .dat (.lst ds)) ∨ (i ≠ j ∧ Γ[j]? = some s) := fun j s h => by
    by_cases c : i = j
    · subst c
      rw [List.getElem?_set_self hi] at h; cases h
      exact .inl ⟨rfl, rfl⟩
    · rw [List.getElem?_set_ne c] at h; exact .inr ⟨c, h⟩
  have old : ∀ (j : Nat) p J, (Γ.set i (.dat (.lst ds)))[j]? = some (Slot.inv p J) → i ≠ j ∧ Γ[j]? = some (Slot.inv p J) := fun j p J h => by
    rcases get j _ h with ⟨_, z⟩ | z
    · cases z
    · exact z
  refine ⟨ds, vs, hI, e, by rw [List.length_set]; exact st.len, st.ex0.trans e, fun a u h => ?_, st.keep, st.ops, fun j s h => ?_, fun j p J h => st.new j p J (old j p J h).2, fun q h h2 => ?_, st.px, fun q h => ?_, fun j p J h => st.pi j p J (old j p J h).2, fun j l p J1 J2 h1 h2 => st.sep j l p J1 J2 (old j p J1 h1).2 (old l p J2 h2).2⟩
  · by_cases c : a = A
    · subst c; rw [upd_same] at h; rw [hA]; exact h
    · rw [upd_ne c] at h; exact st.ex a u h
  · rcases get j s h with ⟨rfl, rfl⟩ | ⟨c, h⟩
    · exact ⟨.ref A, (st.own hΓ).1, A, vs, rfl, SqL.of upd_same, Reps.mono e _ _ rr⟩
    · refine (st.at_ j s h).more e fun p J es => ?_
      subst es
      have n : p ≠ A := fun z => by subst z; exact c (st.sep i j _ _ _ hΓ h)
      rw [upd_ne n]
      exact ⟨(st.own h).2.1, rfl⟩
  · by_cases c : q = A
    · subst c; exact h0
    · rw [upd_ne c] at h; exact st.fr q h h2
  · rw [upd_ne (pn q h)]; exact st.pf q h
/-- a list of the def's own is read as it is (frozen from here on) -/
theorem eb_freeze {sts : List Stmt} {D : EnG} (hΓ : Γ[i]? = some (.inv A I)) (hop : A ∉ S.op.map (·.1)) (h : ∀ ds, I ds → EvB S (Γ.set i (.dat (.lst ds))) sts D) : EvB S Γ sts D := fun PX σ H Hf D' s k => by
  obtain ⟨ds, vs, hI, e, s2⟩ := s.ice hΓ hop
  exact h ds hI PX σ H _ D' s2 (k.mono e)
theorem eb_weak {sts : List Stmt} {D : EnG} {I' : List Da → Prop} (hΓ : Γ[i]? = some (.inv A I)) (hI : ∀ ds, I ds → I' ds) (h : EvB S (Γ.set i (.inv A I')) sts D) : EvB S Γ sts D := fun PX σ H Hf D' s k => by
  obtain ⟨_, _, vs, ds, hA, rr, hi⟩ := s.own hΓ
  have z := s.put hΓ rr (hI ds hi)
  have e : upd H A (.lst vs) = H := by
    funext q
    by_cases c : q = A
    · subst c; rw [upd_same, hA]
    · rw [upd_ne c]
  rw [e] at z
  exact h PX σ H Hf D' z k
theorem eb_open {sts : List Stmt} {D : EnG} (hΓ : Γ[i]? = some (.inv A I)) (h : ∀ ds, I ds → EvB S (Γ.set i (.inv A fun ys => ys = ds)) sts D) : EvB S Γ sts D := fun PX σ H Hf D' s k => by
  obtain ⟨_, _, vs, ds, hA, rr, hi⟩ := s.own hΓ
  have z := s.put (I' := fun ys => ys = ds) hΓ rr rfl
  have e : upd H A (.lst vs) = H := by
    funext q
    by_cases c : q = A
    · subst c; rw [upd_same, hA]
    · rw [upd_ne c]
  rw [e] at z
  exact h ds hi PX σ H Hf D' z k
end

/-! isinstance; names of built-in types; all, any -/
@[reducible] def isI (d : Da) : Bool := match d with | .int _ => true | .bl _ => true | _ => false
@[reducible] def isB (d : Da) : Bool := match d with | .bl _ => true | _ => false
@[reducible] def isSt (d : Da) : Bool := match d with | .str _ => true | _ => false
@[reducible] def isTu (d : Da) : Bool := match d with | .tup _ => true | _ => false
@[reducible] def isLs (d : Da) : Bool := match d with | .lst _ => true | _ => false
@[reducible] def isDc (d : Da) : Bool := match d with | .dct _ => true | _ => false
/-- data of a built-in kind -/
@[reducible] def Da.known (d : Da) : Bool := match d with | .ins _ _ => false | .rf _ => false | .ty _ => false | _ => true
def Da.tyn (d : Da) : String := match d with | .non => "NoneType" | .bl _ => "bool" | .int _ => "int" | .str _ => "str" | .lst _ => "list" | .tup _ => "tuple" | .dct _ => "dict" | _ => ""
theorem Rep.tyx {K : PySem.W.Frag} {H : Hp} {d : Da} {v : V} (h : d.known = true) (r : Rep K H d v) : TyX K H v (.type d.tyn) := by
  cases d with
  | non => have e : v = .non := r; subst e; exact .base .non
  | bl b => have e : v = .bl b := r; subst e; exact .base (.bl b)
  | int b => have e : v = .int b := r; subst e; exact .base (.int b)
  | str b => have e : v = .str b := r; subst e; exact .base (.str b)
  | lst ds =>
    obtain ⟨a, xs, rfl, h1, _⟩ := r
    rcases h1 with (h1 | ⟨o, h1⟩) | ⟨o, _, _, h1, h2, _⟩
    · exact .base (.lst h1)
    · exact .base (.frz h1)
    · exact .kList h1 h2
  | tup ds =>
    obtain ⟨a, xs, rfl, h1, _⟩ := r
    rcases h1 with (h1 | ⟨o, h1⟩) | ⟨o, _, _, h1, h2, _⟩
    · exact .base (.tup h1)
    · exact .fTuple h1
    · exact .kTuple h1 h2
  | dct ds =>
    obtain ⟨a, xs, rfl, h1, _⟩ := r
    rcases h1 with h1 | ⟨o, h1⟩
    · exact .base (.dK h1)
    · exact .fDict h1
  | _ => cases h
section
variable {S : Sx} {Γ : List Slot} {e : Expr} {Q : Da → Prop} {p pos : Pos} {x : Str}
theorem ev_bltn {n : String} (hg : GlS S x) (hm : S.mg x = none) (hv : bootBuiltins x = some (.type n)) (q : Q (.ty n)) (hn : x ≠ "__name__" := by decide) (hd : (x == ("__debug__" : Str)) = false := by decide) : EvE S Γ (.Name x p) Q :=
  ev_const (d := .ty n) (v := .ty n) (fun X ok => pe_bltn (hg.gl ok) (by rw [ok.mg]; exact hm) hv rfl hn hd) (fun _ => rfl) q
theorem c_isi {n : String} {f : Da → Bool} (hf : ∀ d : Da, d.known = true → kitB d.tyn n = some (f d)) : CallG S (.builtin "isinstance") fun ds Q => as2 ds fun d c => c = .ty n ∧ d.known = true ∧ Q (.bl (f d)) :=
  .keep (rIsi S.K) (fun X ok => by have z := call_isi (X := X); rw [ok.K] at z; exact z) fun Hf H ds vs Q k e r h hk => by
  obtain ⟨d, c, rfl, rfl, hd, q⟩ := as2_ h
  obtain ⟨v, u, rfl, r1, r2⟩ := r.two
  have e2 : u = .ty n := r2
  subst e2
  exact ⟨v, .ty n, _, _, f d, rfl, .ty n, Rep.tyx hd (Rep.mono e _ _ r1), kit_ty (hf d hd), hk (.bl (f d)) _ rfl q⟩
theorem c_isInt : CallG S (.builtin "isinstance") fun ds Q => as2 ds fun d c => c = .ty "int" ∧ d.known = true ∧ Q (.bl (isI d)) := c_isi fun d h => by
  cases d with
  | non => exact (by decide +kernel : kitB "NoneType" "int" = some false)
  | bl _ => exact (by decide +kernel : kitB "bool" "int" = some true)
  | int _ => exact (by decide +kernel : kitB "int" "int" = some true)
  | str _ => exact (by decide +kernel : kitB "str" "int" = some false)
  | lst _ => exact (by decide +kernel : kitB "list" "int" = some false)
  | tup _ => exact (by decide +kernel : kitB "tuple" "int" = some false)
  | dct _ => exact (by decide +kernel : kitB "dict" "int" = some false)
  | _ => cases h
theorem c_isBool : CallG S (.builtin "isinstance") fun ds Q => as2 ds fun d c => c = .ty "bool" ∧ d.known = true ∧ Q (.bl (isB d)) := c_isi fun d h => by
  cases d with
  | non => exact (by decide +kernel : kitB "NoneType" "bool" = some false)
  | bl _ => exact (by decide +kernel : kitB "bool" "bool" = some true)
  | int _ => exact (by decide +kernel : kitB "int" "bool" = some false)
  | str _ => exact (by decide +kernel : kitB "str" "bool" = some false)
  | lst _ => exact (by decide +kernel : kitB "list" "bool" = some false)
  | tup _ => exact (by decide +kernel : kitB "tuple" "bool" = some false)
  | dct _ => exact (by decide +kernel : kitB "dict" "bool" = some false)
  | _ => cases h
theorem c_isStr : CallG S (.builtin "isinstance") fun ds Q => as2 ds fun d c => c = .ty "str" ∧ d.known = true ∧ Q (.bl (isSt d)) := c_isi fun d h => by
  cases d with
  | non => exact (by decide +kernel : kitB "NoneType" "str" = some false)
  | bl _ => exact (by decide +kernel : kitB "bool" "str" = some false)
  | int _ => exact (by decide +kernel : kitB "int" "str" = some false)
  | str _ => exact (by decide +kernel : kitB "str" "str" = some true)
  | lst _ => exact (by decide +kernel : kitB "list" "str" = some false)
  | tup _ => exact (by decide +kernel : kitB "tuple" "str" = some false)
  | dct _ => exact (by decide +kernel : kitB "dict" "str" = some false)
  | _ => cases h
theorem c_isTuple : CallG S (.builtin "isinstance") fun ds Q => as2 ds fun d c => c = .ty "tuple" ∧ d.known = true ∧ Q (.bl (isTu d)) := c_isi fun d h => by
  cases d with
  | non => exact (by decide +kernel : kitB "NoneType" "tuple" = some false)
  | bl _ => exact (by decide +kernel : kitB "bool" "tuple" = some false)
  | int _ => exact (by decide +kernel : kitB "int" "tuple" = some false)
  | str _ => exact (by decide +kernel : kitB "str" "tuple" = some false)
  | lst _ => exact (by decide +kernel : kitB "list" "tuple" = some false)
  | tup _ => exact (by decide +kernel : kitB "tuple" "tuple" = some true)
  | dct _ => exact (by decide +kernel : kitB "dict" "tuple" = some false)
  | _ => cases h
theorem c_isList : CallG S (.builtin "isinstance") fun ds Q => as2 ds fun d c => c = .ty "list" ∧ d.known = true ∧ Q (.bl (isLs d)) := c_isi fun d h => by
  cases d with
  | non => exact (by decide +kernel : kitB "NoneType" "list" = some false)
  | bl _ => exact (by decide +kernel : kitB "bool" "list" = some false)
  | int _ => exact (by decide +kernel : kitB "int" "list" = some false)
  | str _ => exact (by decide +kernel : kitB "str" "list" = some false)
  | lst _ => exact (by decide +kernel : kitB "list" "list" = some true)
  | tup _ => exact (by decide +kernel : kitB "tuple" "list" = some false)
  | dct _ => exact (by decide +kernel : kitB "dict" "list" = some false)
  | _ => cases h
theorem reps_bls {K : PySem.W.Frag} {H : Hp} : ∀ {bs : List Bool} {vs : List V}, Reps K H (bs.map Da.bl) vs → vs = bs.map V.bl
  | [], _, r => r
  | b :: bs, _, r => by
    obtain ⟨v, l, rfl, r1, r2⟩ := r
    have e : v = .bl b := r1
    rw [e, reps_bls r2]; rfl
theorem c_all : CallG S (.builtin "all") fun ds Q => as1 ds fun d => asLst d fun xs => ∃ bs : List Bool, xs = bs.map Da.bl ∧ Q (.bl (bs.all id)) :=
  .keep (rAll S.K) (fun X ok => by have z := cr_all (X := X) ok.calm; rw [ok.K] at z; exact z) fun Hf H ds vs Q k e r h hk => by
  obtain ⟨d, rfl, h⟩ := as1_ h
  obtain ⟨xs, rfl, bs, rfl, q⟩ := asLst_ h
  obtain ⟨v, rfl, a, xs, rfl, r1, r2⟩ := r.one
  rw [reps_bls r2] at r1
  exact ⟨a, bs, rfl, e.sl r1, hk (.bl (bs.all id)) _ rfl q⟩
theorem c_any : CallG S (.builtin "any") fun ds Q => as1 ds fun d => asLst d fun xs => ∃ bs : List Bool, xs = bs.map Da.bl ∧ Q (.bl (bs.any id)) :=
  .keep (rAny S.K) (fun X ok => by have z := cr_any (X := X) ok.calm; rw [ok.K] at z; exact z) fun Hf H ds vs Q k e r h hk => by
  obtain ⟨d, rfl, h⟩ := as1_ h
  obtain ⟨xs, rfl, bs, rfl, q⟩ := asLst_ h
  obtain ⟨v, rfl, a, xs, rfl, r1, r2⟩ := r.one
  rw [reps_bls r2] at r1
  exact ⟨a, bs, rfl, e.sl r1, hk (.bl (bs.any id)) _ rfl q⟩
end
/-! ## a def's own facts -/
section
variable {P : Program} {w : World} {K : PySem.W.Frag} {mg : Str → Option Value} {base : Heap} {x qual : Str} {st : Stmt} {k : Nat} {N ps : List Str} {spec : Fd} {I : List Da → Prop}
def Def (K : PySem.W.Frag) (mg : Str → Option Value) (x : Str) (st : Stmt) : Prop := ∃ f fd, Fun K x x st f fd ∧ mg x = some (.ref f)
theorem calD (h : Def K mg x st) (C : FnScope N ps (defScope st))
    (bp : ∀ (kV doc pm : Value) (an : Option Addr) (cdv ct : Value) (us : List Value), us.length = ps.length → bindArgs (PySem.W.fnOf x x (defArgs st) (defBody st) (defScope st) .none kV doc pm an cdv ct) ⟨us, []⟩ = pure (ps.zip us))
    (len : ∀ ds q er, spec ds q er → ds.length = ps.length)
    (body : ∀ (F0 H0 : Hp) ds q er, spec ds q er → EvB (mkS P w K mg base N (defScope st) k F0 H0 [] er) (st0 ds N.length) (defBody st) { nx := fun _ => q .non, rt := q }) :
    Cal P w K mg base x x st (k + 1) ps (SpD K spec) := by
  obtain ⟨f, fd, F, hm⟩ := h
  exact ⟨⟨f, fd, F, hm, fnD (F := F) C len body⟩, bp⟩
theorem calO (h : Def K mg x st) (C : FnScope N ps (defScope st))
    (bp : ∀ (kV doc pm : Value) (an : Option Addr) (cdv ct : Value) (us : List Value), us.length = ps.length → bindArgs (PySem.W.fnOf x x (defArgs st) (defBody st) (defScope st) .none kV doc pm an cdv ct) ⟨us, []⟩ = pure (ps.zip us))
    (len : ∀ ds q er, spec ds q er → ds.length + 1 = ps.length)
    (body : ∀ (F0 H0 : Hp) (p : Addr) ds q er, spec ds q er → EvB (mkS P w K mg base N (defScope st) k F0 H0 [(p, I)] er) (.inv p I :: st0 ds (N.length - 1)) (defBody st) { nx := fun Γ => Slot.inv p I ∈ Γ ∧ q .non, rt := q }) :
    Cal P w K mg base x x st (k + 1) ps (SpO K I spec) := by
  obtain ⟨f, fd, F, hm⟩ := h
  exact ⟨⟨f, fd, F, hm, fnO (F := F) C len body⟩, bp⟩
theorem ops0 {S : Sx} {Γ : List Slot} (h : S.op = []) : OpsIn S Γ := fun q hq => by rw [h] at hq; cases hq
theorem ops1 {S : Sx} {Γ : List Slot} {p : Addr} (i : Nat) (h : S.op = [(p, I)]) (hi : Γ[i]? = some (.inv p I)) : OpsIn S Γ := fun q hq => by
  rw [h] at hq
  rw [List.mem_singleton.mp hq]
  exact List.mem_iff_getElem?.mpr ⟨i, hi⟩
end
/-! ## the law -/
theorem vals_of_script : ∀ {us : List Value} {ns : List Int}, IntsAre us ns → Vals (ns.map V.int) us
  | _, _, .nil => .nil
  | _, _, .cons n t r => .cons ⟨t, rfl⟩ (vals_of_script r)
theorem reps_ints {K : PySem.W.Frag} {H : Hp} : ∀ ns : List Int, Reps K H (ns.map Da.int) (ns.map V.int)
  | [] => rfl
  | n :: ns => ⟨.int n, _, rfl, rfl, reps_ints ns⟩
section
variable {P : Program} {w : World} {K : PySem.W.Frag} {mg mb : Str → Option Value} {k : Nat} {fa a : Addr} {fd : FuncData} {x : Str} {spec : Fd} {s1 : Shared} {us : List Value} {ns : List Int}
/-- one abstract heap H over the state behind the top, the script alone tracked in it (or nothing) -/
theorem law_over (H : Hp) (hH : ∀ b, H b = none ∨ (b = a ∧ K.lookup a = none ∧ ∃ o xs, H b = some (.frz o (.lst xs)))) (hS : SqL K H a (ns.map V.int)) (hok : HOk P w H s1.heap)
    (KX : K.In s1.heap) (hns : s1.heap.Ns mainGlobals mg) (hb : s1.heap.Ns builtinsNs mb) (hbb : ∀ x : Str, x ≠ "__name__" → mb x = bootBuiltins x) (hlim : s1.heap.NoLimit) (hg : s1.gens = #[])
    (ha : s1.heap.get? a = some { cls := .type "list", data := .seq us.toArray }) (hr : Room k callerA)
    (F : ∀ base : Heap, K.In base → base.Ns mainGlobals mg → FnG P w K mg base k fa fd [x] (SpD K spec)) (hbind : ∀ (s : Shared) (u : Value), BindsTo s fd ⟨[u], []⟩ [(x, u)])
    (hsp : spec [.lst (ns.map Da.int)] (fun d => d = .bl true) fun _ _ => False) :
    codeAny (model P w) callerA (.call (.ref fa) ⟨[.ref a], []⟩) (fun r s' => r = .ok (.ret (.bool true)) ∧ PySem.OldK s1.heap s'.heap ∧ s'.os = s1.os ∧ AllBare s'.gens) s1 := by
  have dict_free : ∀ {b : Addr} {o : Obj} {es : Array DictEntry} {ep : Nat}, s1.heap.get? b = some o → o.data = .dict es ep → H b = none := fun {b o es ep} e d => by
    rcases hH b with z | ⟨rfl, _⟩
    · exact z
    · rw [ha] at e
      cases e
      exact (nomatch d)
  have low : ∀ {b : Addr} {m : Str → Option Value}, s1.heap.Ns b m → (hidT s1.heap H).Ns b m := fun {b m} z => by
    obtain ⟨o, es, ep, e, d, r⟩ := z
    exact ⟨o, es, ep, hidT_get e (dict_free e d), d, r⟩
  have kin : K.In (hidT s1.heap H) := fun b o e => by
    refine hidT_get (KX b o e) ?_
    rcases hH b with z | ⟨rfl, z, _⟩
    · exact z
    · rw [z] at e; cases e
  have md : Mod K mg (hidT s1.heap H) := ⟨kin, low hns, ⟨mb, low hb, hbb⟩, by
    obtain ⟨mc, h1, h2⟩ := hlim
    exact ⟨mc, low h1, h2⟩⟩
  have e0 : Env0 P w K mg (hidT s1.heap H) callerA [] s1 H := { frames := rfl, mod := md, bs := fun b o e => of_hidT e, bsz := Nat.le_of_eq (hidT_size _ _), funs := trivial, frf := fun b z => (nomatch z), hok := hok, bare := .of_eq hg }
  refine codeAny_mono ((F _ kin (low hns)).run callerA [] s1 H ⟨[.ref a], []⟩ [.ref a] [.ref a] (fun v _ => v = .bl true) (fun _ _ _ => False) hr rfl e0 (hbind s1 (.ref a)) (.cons rfl .nil) ?_) fun r s' h => ?_
  · refine ⟨[.lst (ns.map Da.int)], H, _, _, Sub.refl _, ⟨.ref a, [], rfl, ⟨a, _, rfl, hS, reps_ints ns⟩, rfl⟩, hsp, fun d v Hf' H' _ _ r q => ?_, fun _ _ _ _ _ _ _ _ z => z⟩
    subst q
    exact r
  · match r, h with
    | .error e, h =>
      obtain ⟨_, _, _, _, _, _, _, _, _, _, _, _, z⟩ := h
      exact z.elim
    | .ok (.ret u), ⟨v, H', os, bare, un, hok', r', q⟩ =>
      subst q
      have eu : u = Value.bool true := r'
      subst eu
      refine ⟨rfl, PySem.OldK.of_keep fun b o e => ?_, os, bare⟩
      rcases hH b with z | ⟨_, _, ob, xs, z⟩
      · exact un.keep b o e z (fun z => nomatch z) (fun z => nomatch z)
      · have e1 := (hok b _ z).1
        have e2 := (hok' b _ (un.frzs b ob _ z)).1
        rw [e] at e1
        rw [e2, ← e1]
    | .ok .next, h => exact h.elim
    | .ok .brk, h => exact h.elim
    | .ok .cont, h => exact h.elim
theorem law_G (KX : K.In s1.heap) (hns : s1.heap.Ns mainGlobals mg) (hb : s1.heap.Ns builtinsNs mb) (hbb : ∀ x : Str, x ≠ "__name__" → mb x = bootBuiltins x) (hlim : s1.heap.NoLimit) (hg : s1.gens = #[])
    (ha : s1.heap.get? a = some { cls := .type "list", data := .seq us.toArray }) (hi : IntsAre us ns) (hl : ns.length ≤ sizeLine) (hr : Room k callerA)
    (F : ∀ base : Heap, K.In base → base.Ns mainGlobals mg → FnG P w K mg base k fa fd [x] (SpD K spec)) (hbind : ∀ (s : Shared) (u : Value), BindsTo s fd ⟨[u], []⟩ [(x, u)])
    (hsp : spec [.lst (ns.map Da.int)] (fun d => d = .bl true) fun _ _ => False) :
    codeAny (model P w) callerA (.call (.ref fa) ⟨[.ref a], []⟩) (fun r s' => r = .ok (.ret (.bool true)) ∧ PySem.OldK s1.heap s'.heap ∧ s'.os = s1.os ∧ AllBare s'.gens) s1 := by
  have rv := vals_of_script hi
  cases hk : K.lookup a with
  | some o =>
    have e := KX a o hk
    rw [ha] at e
    have e' := (Option.some.inj e).symm
    subst e'
    exact law_over (a := a) (fun _ => none) (fun _ => .inl rfl) (.inr ⟨_, us.toArray, _, hk, rfl, rfl, rfl, by rw [List.size_toArray, hi.length]; exact hl, by simpa using rv⟩) (fun b u z => by cases z) KX hns hb hbb hlim hg ha hr F hbind hsp
  | none =>
    have at_ : ∀ b, (upd (fun _ => none) a (.frz { cls := .type "list", data := .seq us.toArray } (.lst (ns.map V.int))) : Hp) b = none ∨ b = a := fun b => by
      by_cases c : b = a
      · exact .inr c
      · rw [upd_ne c]; exact .inl rfl
    refine law_over (a := a) (upd (fun _ => none) a (.frz { cls := .type "list", data := .seq us.toArray } (.lst (ns.map V.int)))) (fun b => ?_) (.inl (.inr ⟨_, upd_same⟩)) (fun b u z => ?_) KX hns hb hbb hlim hg ha hr F hbind hsp
    · rcases at_ b with z | rfl
      · exact .inl z
      · exact .inr ⟨rfl, hk, _, _, upd_same⟩
    · rcases at_ b with y | rfl
      · rw [y] at z; cases z
      · rw [upd_same] at z
        have z' := (Option.some.inj z).symm
        subst z'
        exact ⟨ha, by rw [List.length_map]; exact hl, us, _, rv, ha⟩
end
/-- the goal that k_head and k_fill leave -/
theorem walkG {l : PySem.W.OpenLaw} {n k : Nat} {q : Program} {loose : List Str} {XP : (Str → Option Value) → Heap → Prop} {YP : World → Heap → Prop} {d : PySem.DefRec} {K : Params → PySem.W.Frag} {spec : Fd} {x : Str}
    (hn : l.most = some n) (hn2 : n ≤ sizeLine) (hdf : d.params.defaults = []) (hr : Room k callerA) (hY : ∀ (w : World) (h : Heap), YP w h → (K w.params).In h)
    (F : ∀ (w : World) (mg : Str → Option Value) (fa : Addr) (h : Heap), (K w.params).In h → h.Ns mainGlobals mg → XP mg h → mg d.name = some (.ref fa) →
      ∃ fd : FuncData, (∀ (s : Shared) (u : Value), BindsTo s fd ⟨[u], []⟩ [(x, u)]) ∧ ∀ base : Heap, (K w.params).In base → base.Ns mainGlobals mg → FnG l.prog w (K w.params) mg base k fa fd [x] (SpD (K w.params) spec))
    (hsp : ∀ ns : List Int, ns.length ≤ n → (∀ k ∈ ns, Builtin.Int.intBits k ≤ 1048576) → spec [.lst (ns.map Da.int)] (fun d => d = .bl true) fun _ _ => False) :
    PySem.W.WalkO q loose XP YP l.row.toRowW d [] (fun f vs => PySem.call f vs) := by
  refine Att.attach_callB hn hdf fun w s0 s1 mg mb fa o pm cd doc a vs ns G Y ho hd hcd hmg hobj hints hlen hbits hg => ?_
  obtain ⟨fd, hb, hF⟩ := F w mg fa _ (hY w _ Y) G.T.g G.X hmg
  exact law_G (hY w _ Y) G.T.g G.T.b G.T.builtins G.T.nolimit hg hobj hints (Nat.le_trans hlen hn2) hr hF hb (hsp ns hlen hbits)
end GX

namespace GX
open PySem PySem.Spec PyProof.Rows L2
/-! ## lists that an expression makes and nobody else holds -/
def EvN (S : Sx) (Γ : List Slot) (e : Expr) (Q : List Da → Prop) : Prop := ∀ PX σ H Hf k, Stt S PX Γ Hf H σ →
  (∀ p ds vs Hf' H', Sub Hf Hf' → PX p = none → S.H0 p = none → p ∉ S.op.map (·.1) → Stt S (upd PX p (.lst vs)) Γ Hf' H' σ → Reps S.K Hf' ds vs → Q ds → k (.ref p) H') → tU S e σ H k
section
variable {S : Sx} {PX Hf Hf' H H' : Hp} {Γ Γ' : List Slot} {σ σ' : L2.St} {D : Addr} {o o' : HO} {p : Addr} {I : List Da → Prop}
theorem Stt.opn (st : Stt S PX Γ Hf H σ) (hp : H p = none) : p ∉ S.op.map (·.1) := fun m => by
  obtain ⟨q, h1, h2⟩ := List.mem_map.mp m
  exact st.ops q h1 (by rw [h2]; exact hp)
/-- an object that nobody knows is held apart -/
theorem Stt.hold (st : Stt S PX Γ Hf H σ) (h1 : H p = some o) (h2 : Hf p = none) (hn : ∀ (i : Nat) q I, Γ[i]? = some (.inv q I) → q ≠ p) : Stt S (upd PX p o) Γ Hf H σ := by
  refine ⟨st.len, st.ex0, st.ex, st.keep, st.ops, st.at_, st.new, st.fr, fun a u h => ?_, fun q h => ?_, fun i q I h => ?_, st.sep⟩
  · by_cases c : a = p
    · subst c; rw [upd_same] at h; rw [h1]; exact h
    · rw [upd_ne c] at h; exact st.px a u h
  · by_cases c : q = p
    · subst c; exact h2
    · rw [upd_ne c] at h; exact st.pf q h
  · rw [upd_ne (hn i q I h)]; exact st.pi i q I h
theorem Stt.heldN (st : Stt S (upd PX p o) Γ Hf H σ) : ∀ (i : Nat) q I, Γ[i]? = some (.inv q I) → q ≠ p := fun i q I h z => by
  have y := st.pi i q I h
  rw [z, upd_same] at y; cases y
theorem Stt.heldF (st : Stt S (upd PX p o) Γ Hf H σ) : Hf p = none := st.pf p (by rw [upd_same]; exact fun z => nomatch z)
theorem Stt.heldH (st : Stt S (upd PX p o) Γ Hf H σ) : H p = some o := st.px p o upd_same
/-- .. and no more -/
theorem Stt.unhold (st : Stt S (upd PX p o) Γ Hf H σ) (hP : PX p = none) : Stt S PX Γ Hf H σ := by
  have pn : ∀ q, PX q ≠ none → q ≠ p := fun q h c => h (by rw [c]; exact hP)
  refine ⟨st.len, st.ex0, st.ex, st.keep, st.ops, st.at_, st.new, st.fr, fun a u h => ?_, fun q h => ?_, fun i q I h => ?_, st.sep⟩
  · exact st.px a u (by rw [upd_ne (pn a (by rw [h]; exact fun z => nomatch z))]; exact h)
  · exact st.pf q (by rw [upd_ne (pn q h)]; exact h)
  · have y := st.pi i q I h
    rw [upd_ne (st.heldN i q I h)] at y; exact y
/-- a slot takes it -/
theorem Stt.setO {vs : List V} {ds : List Da} (st : Stt S (upd PX p (.lst vs)) Γ Hf H σ) (hP : PX p = none) (h0 : S.H0 p = none) (r : Reps S.K Hf ds vs) (hI : I ds) (i : Nat) : Stt S PX (Γ.set i (.inv p I)) Hf H (σ.set i (some (.ref p))) := by
  have u := st.unhold hP
  have hn := st.heldN
  have get : ∀ (j : Nat) s, (Γ.set i (.inv p I))[j]? = some s → (i = j ∧ j < Γ.length ∧ s = .inv p I) ∨ (i ≠ j ∧ Γ[j]? = some s) := fun j s h => by
    by_cases c : i = j
    · subst c
      have hi : i < Γ.length := by
        have z := (List.getElem?_eq_some_iff.mp h).1
        rwa [List.length_set] at z
      rw [List.getElem?_set_self hi] at h; cases h
      exact .inl ⟨rfl, hi, rfl⟩
    · rw [List.getElem?_set_ne c] at h; exact .inr ⟨c, h⟩
  refine ⟨by rw [List.length_set, List.length_set]; exact st.len, st.ex0, st.ex, st.keep, st.ops, fun j s h => ?_, fun j q J h => ?_, st.fr, u.px, u.pf, fun j q J h => ?_, fun j l q J1 J2 h1 h2 => ?_⟩
  · rcases get j s h with ⟨rfl, hj, rfl⟩ | ⟨c, h⟩
    · exact ⟨by rw [List.getElem?_set_self (by rw [st.len]; exact hj)]; rfl, st.heldF, vs, ds, st.heldH, r, hI⟩
    · rw [List.getElem?_set_ne c]; exact st.at_ j s h
  · rcases get j _ h with ⟨rfl, hj, e⟩ | ⟨c, h⟩
    · cases e; exact .inr h0
    · exact st.new j q J h
  · rcases get j _ h with ⟨rfl, hj, e⟩ | ⟨c, h⟩
    · cases e; exact hP
    · exact u.pi j q J h
  · rcases get j _ h1 with ⟨rfl, hj, e⟩ | ⟨c, h4⟩
    · cases e
      rcases get l _ h2 with ⟨rfl, _, e⟩ | ⟨c, h3⟩
      · rfl
      · exact absurd rfl (hn l _ _ h3)
    · rcases get l _ h2 with ⟨rfl, _, e⟩ | ⟨c2, h3⟩
      · cases e; exact absurd rfl (hn j _ _ h4)
      · exact st.sep j l q _ _ h4 h3
/-- all but an object that nobody knows is as it was -/
theorem Stt.growX (st : Stt S PX Γ Hf H σ) (hn : ∀ (i : Nat) q I, Γ[i]? = some (.inv q I) → q ≠ p) (hP : PX p = none) (h0 : S.H0 p = none) (hop : p ∉ S.op.map (·.1)) (g : Gr Hf H Hf' H') (k : ∀ a o, a ≠ p → H a = some o → H' a = some o) : Stt S PX Γ Hf' H' σ := by
  have npx : ∀ q, PX q ≠ none → q ≠ p := fun q h z => h (by rw [z]; exact hP)
  refine ⟨st.len, st.ex0.trans g.f, g.e, fun q u h1 h2 => k _ _ (ne_of_none h1 h0) (st.keep q u h1 h2), fun q h z => ?_, fun j s h => ?_, st.new, fun q h h2 => ?_, fun a o h => k a o (npx a (by rw [h]; exact fun z => nomatch z)) (st.px a o h), fun q h => ?_, st.pi, st.sep⟩
  · have c : q.1 ≠ p := fun c => hop (List.mem_map.mpr ⟨q, h, c⟩)
    cases y : H q.1 with
    | none => exact st.ops q h y
    | some o => rw [k _ _ c y] at z; cases z
  · cases s with
    | no => trivial
    | dat d => exact (st.at_ j _ h).more g.f fun _ _ z => nomatch z
    | inv p' I' =>
      have c := hn j p' I' h
      refine (st.at_ j _ h).more g.f fun p'' I'' z => ?_
      cases z
      have z := st.ownH h
      refine ⟨?_, ?_⟩
      · cases y : Hf' p' with
        | none => rfl
        | some u => exact absurd (g.n p' (by rw [y]; exact fun z => nomatch z) (st.own h).2.1) z
      · cases y : H p' with
        | none => exact absurd y z
        | some u => exact k _ _ c y
  · by_cases c : Hf q = none
    · exact st.fresh0 (g.n q h c)
    · exact st.fr q c h2
  · cases c : Hf' q with
    | none => rfl
    | some u => exact absurd (st.px.free (g.n q (by rw [c]; exact fun z => nomatch z) (st.pf q h))) h
end
/-- a def that gives a list of its own making -/
def SpN (K : PySem.W.Frag) (f : List Da → (List Da → Prop) → Er → Prop) : Sp := fun vs H Q E => ∃ ds Hf q er, Sub Hf H ∧ Reps K Hf ds vs ∧ f ds q er ∧
  (∀ p xs us Hf' H', Gr Hf H Hf' H' → Sub H H' → H p = none → Hf' p = none → H' p = some (.lst us) → Reps K Hf' xs us → q xs → Q (.ref p) H') ∧
  (∀ cls x fs Hf' H', Gr Hf H Hf' H' → Sub H H' → XRep K Hf' x fs → er cls fs → E cls x H')
section
variable {S : Sx} {Γ : List Slot} {e a b c : Expr} {es : List Expr} {kws : List Keyword} {Q : Da → Prop} {QN : List Da → Prop} {p pos spos : Pos} {x qual : Str} {st : Stmt} {k i : Nat} {ps : List Str} {spec : Fd} {specN : List Da → (List Da → Prop) → Er → Prop} {I : List Da → Prop} {D : EnG}
theorem EvN.ev (h : EvN S Γ e fun ds => Q (.lst ds)) : EvE S Γ e Q := fun PX σ H Hf k st hk => h PX σ H Hf k st fun p ds vs Hf' H' e1 hP h0 _ s r q => by
  obtain ⟨s8, e8⟩ := s.freeze hP h0
  exact hk (.lst ds) (.ref p) _ H' (e1.trans e8) s8 ⟨p, vs, rfl, SqL.of upd_same, Reps.mono e8 _ _ r⟩ q
theorem en_of {t : TE} (h : ∀ X, S.Ok X → PE X e t) (q : ∀ PX σ H Hf k, Stt S PX Γ Hf H σ → (∀ p ds vs Hf' H', Sub Hf Hf' → PX p = none → S.H0 p = none → p ∉ S.op.map (·.1) → Stt S (upd PX p (.lst vs)) Γ Hf' H' σ → Reps S.K Hf' ds vs → QN ds → k (.ref p) H') → t σ H k) : EvN S Γ e QN :=
  fun PX σ H Hf k st hk => ⟨t, h, q PX σ H Hf k st hk⟩
theorem en_lst (h : EvA S Γ es fun ds => Sz ds.length ∧ QN ds) : EvN S Γ (.List es pos) QN :=
  en_of (fun X ok => pe_lst (puA ok)) fun PX σ H Hf k st hk => h PX σ H Hf _ st fun ds vs Hf1 H1 e1 st1 r1 q1 => ⟨by rw [r1.len]; exact q1.1.ok, fun p hp =>
    hk p ds vs Hf1 _ e1 (st1.px.free hp) (st1.fresh0 hp) (st1.opn hp) (st1.frame hp) r1 q1.2⟩
/-- x = .., a list of the def's own -/
theorem es_own (hN : S.N[i]? = some x) (hx : Loc S.sc x) (h : EvN S Γ e fun ds => ∀ A, A ∉ S.op.map (·.1) → D.nx (Γ.set i (.inv A fun ys => ys = ds))) (hs : ∀ env, swapsWith e (some (.Name x p)) spos.line env = pure false := by intro _; rfl) (hst : S.stor x = true := by rfl) : EvS S Γ (.Assign [.Name x p] e spos) D :=
  es_of (fun X ok => ps_set (i := i) (by rw [ok.N]; exact ok.nd) (by rw [ok.N]; exact hN) (by rw [ok.sc]; exact hx) (pu ok) (hs _) (ok.fn x hst)) fun PX σ H Hf D' s k => h PX σ H Hf _ s fun A ds vs Hf1 H1 e1 hP h0 hop s1 r q =>
    k.nx _ _ Hf1 H1 e1 (s1.setO (I := fun ys => ys = ds) hP h0 r rfl i) (q A hop)
theorem es_retF (hO : OpsIn S Γ) (h : EvN S Γ e D.rr) : EvS S Γ (.Return (some e) pos) D :=
  es_of (fun X ok => ps_ret (pu ok)) fun PX σ H Hf D' s k => h PX σ H Hf _ s fun A ds vs Hf1 H1 e1 hP h0 hop s1 r q => k.rr A ds vs Γ σ Hf1 H1 e1 s1 hP h0 hO r q
theorem en_call (c : Cal S.P S.w S.K S.mg S.base x qual st k ps (SpN S.K specN)) (hk : k ≤ S.k) (hg : GlS S x) (hO : OpsIn S Γ) (h : EvA S Γ (e :: es) fun ds => specN ds QN S.E)
    (hd : (x == ("__debug__" : Str)) = false := by decide) (he : ∀ env, starEach (e :: es) env = (false, eval e env) :: starEach es env := by intro _; rfl) (hpl : ∀ env, (backTo pos (starEach es env)).any (·.1) = false := by intro _; rfl) :
    EvN S Γ (.Call (.Name x p) (e :: es) [] pos) QN := by
  obtain ⟨f, fd, F, hm, G⟩ := c.ex
  refine en_of (fun X ok => peG (sp := SpN S.K specN) (E := fun cls d H => S.WX cls d [] H) (by rw [ok.P, ok.w, ok.K, ok.mg, ok.base]; exact G) (ok.room.mono hk) ok.gd (hg.gl ok) (by rw [ok.mg]; exact hm) (by rw [ok.K]; exact F.kp) (c.bind F) ok.passes (puA ok) hd (he _) (hpl _)) ?_
  intro PX σ H Hf k st hk
  refine h PX σ H Hf _ st fun ds vs Hf1 H1 e1 st1 r1 q1 => ?_
  show SpN S.K specN (vs ++ []) H1 k _
  rw [List.append_nil]
  refine ⟨ds, Hf1, QN, S.E, st1.ex, r1, q1, fun p xs us Hf' H' g kp hp hf hl rr qq => ?_, fun cls x fs Hf' H' g kp xr er => (st1.grow g.f g.e kp g.n).wx hO xr er []⟩
  have st2 := st1.grow g.f g.e kp g.n
  exact hk p xs us Hf' H' (e1.trans g.f) (st1.px.free hp) (st1.fresh0 hp) (st1.opn hp) (st2.hold hl hf fun i q I h z => st1.ownH h (by rw [z]; exact hp)) rr qq
/-- f(g(..)): a list that the argument has made is handed on -/
theorem ev_callF (c : Cal S.P S.w S.K S.mg S.base x qual st k ps (SpO S.K I spec)) (hk : k ≤ S.k) (hg : GlS S x) (hO : OpsIn S Γ) (h : EvN S Γ e fun ds => I ds ∧ spec [] Q S.E)
    (hd : (x == ("__debug__" : Str)) = false := by decide) (he : ∀ env, starEach [e] env = (false, eval e env) :: starEach [] env := by intro _; rfl) (hpl : ∀ env, (backTo pos (starEach [] env)).any (·.1) = false := by intro _; rfl) :
    EvE S Γ (.Call (.Name x p) [e] [] pos) Q := by
  obtain ⟨f, fd, F, hm, G⟩ := c.ex
  refine ev_of (fun X ok => peG (sp := SpO S.K I spec) (E := fun cls d H => S.WX cls d [] H) (by rw [ok.P, ok.w, ok.K, ok.mg, ok.base]; exact G) (ok.room.mono hk) ok.gd (hg.gl ok) (by rw [ok.mg]; exact hm) (by rw [ok.K]; exact F.kp) (c.bind F) ok.passes
    (pa_cons (pu ok) pa_nil (he _)) hd (he _) (hpl _)) ?_
  intro PX σ H Hf k st hk
  refine h PX σ H Hf _ st fun a ds vs Hf1 H1 e1 hP h0 hop st1 r1 q1 => ?_
  have hn := st1.heldN
  have hf := st1.heldF
  have hh := st1.heldH
  have st2 := st1.unhold hP
  exact ⟨a, [], [], Hf1, Q, S.E, rfl, st1.ex, ⟨hf, vs, ds, hh, r1, q1.1⟩, rfl, q1.2, fun d v Hf' H' g kp ow rr qq => hk d v Hf' H' (e1.trans g.f) (st2.growX hn hP h0 hop g kp) rr qq,
    fun cls x fs Hf' H' g kp ow xr er => (st2.growX hn hP h0 hop g kp).wx hO xr er []⟩
end
/-! list comprehensions -/
theorem lc_run {S : Sx} {Γ : List Slot} {tg it elt : Expr} {ifs : List Expr} {scope : Scope} {own : List (Str × Nat)} {Q : List Da → Prop} (hv : noInv Γ (own.map (·.2)))
    (h : EvI S Γ tg it fun ds => Sz ds.length ∧ lcG (fun d acc K => EvG (S.blk scope) (fun i => (own.map (·.2)).contains i) (wipeG Γ (own.map (·.2))) tg d fun Γ' => EvTs (S.blk scope) Γ' ifs fun b => cond b (EvE (S.blk scope) Γ' elt fun y => K (acc ++ [y])) (K acc)) ds [] Q)
    {PX : Hp} {σ : L2.St} {H Hf : Hp} {k : VK} (st : Stt S PX Γ Hf H σ)
    (hk : ∀ p ds vs Hf' H', Sub Hf Hf' → PX p = none → S.H0 p = none → p ∉ S.op.map (·.1) → Stt S (upd PX p (.lst vs)) Γ Hf' H' σ → Reps S.K Hf' ds vs → Q ds → k (.ref p) H') :
    tLc (tUI S tg it) (tUG (S.blk scope) tg) (tUTs (S.blk scope) ifs) (tU (S.blk scope) elt) (own.map (·.2)) σ H k := by
  generalize hvs : own.map (·.2) = vs at hv h ⊢
  show tUI S tg it σ H _
  refine h PX σ H Hf _ st fun ds J Hf1 H1 e1 s1 y q D hD => ?_
  obtain ⟨hz, q⟩ := q
  have hP : PX D = none := s1.px.free hD
  have h0 : S.H0 D = none := s1.fresh0 hD
  have hop := s1.opn hD
  let step := fun d acc (K : List Da → Prop) => EvG (S.blk scope) (fun i => vs.contains i) (wipeG Γ vs) tg d fun Γ' => EvTs (S.blk scope) Γ' ifs fun b => cond b (EvE (S.blk scope) Γ' elt fun y => K (acc ++ [y])) (K acc)
  refine ⟨fun i m H' => ∃ Hf' acc accV, Sub Hf1 Hf' ∧ Stt S (upd PX D (.lst accV)) Γ Hf' H' σ ∧ Reps S.K Hf' acc accV ∧ acc.length ≤ i ∧ m = ds.length - i ∧ i ≤ ds.length ∧ lcG step (ds.drop i) acc Q,
    ⟨ds.length, Hf1, [], [], Sub.refl _, s1.frame hD, rfl, Nat.le_refl _, by simp, Nat.zero_le _, by rw [List.drop_zero]; exact q⟩, ?_⟩
  rintro i m H' ⟨Hf', acc, accV, e2, s2, ra, hl, rfl, hi, f⟩
  by_cases hlt : i < ds.length
  · refine .inr ⟨y.go i Hf' H' e2 s2.ex hlt, fun H' => ∃ Hf' acc accV, Sub Hf1 Hf' ∧ Stt S (upd PX D (.lst accV)) Γ Hf' H' σ ∧ Reps S.K Hf' acc accV ∧ acc.length ≤ i + 1 ∧ lcG step (ds.drop (i + 1)) acc Q,
      fun H' ⟨Hf', acc, accV, a, b, c, d, e⟩ => ⟨ds.length - (i + 1), by omega, Hf', acc, accV, a, b, c, d, rfl, hlt, e⟩, fun x H3 hy => ?_⟩
    obtain ⟨Hf3, d, e3, s3, hd, r⟩ := y.yld _ i x Γ σ Hf' H' H3 e2 s2 hlt hy
    have inv4 : ∀ {Γ4 : List Slot} {σ4 : L2.St}, Alt (fun i => vs.contains i) (wipeG Γ vs) (wipe σ vs) Γ4 σ4 → ∀ (i : Nat) p I, Γ[i]? = some (.inv p I) → ∃ j : Nat, Γ4[j]? = some (Slot.inv p I) := fun a i p I h => by
      have n : i ∉ vs := fun m => hv i m p I h
      exact ⟨i, by rw [a.g i (by simpa using n), wipeG_out n]; exact h⟩
    refine lcG_drop hd f _ x _ H3 Hf3 _ ((s3.wipe vs).toBlk scope) r fun Γ4 σ4 Hf4 H4 e4 s4 a4 q4 => ⟨?_, ?_⟩
    · rw [wipe_eq a4.len fun j hj => a4.s j (by simpa using hj)]
      exact wipe_eq (wipe_length _ _) fun j hj => wipe_out hj
    refine q4 _ σ4 H4 Hf4 _ s4 fun b Hf5 H5 e5 s5 q5 => cond_ite ?_
    cases b with
    | false =>
      exact ⟨Hf5, acc, accV, ((e2.trans e3).trans e4).trans e5, s3.back s5 ⟨rfl, rfl, rfl, rfl⟩ (e4.trans e5) (inv4 a4), Reps.mono ((e3.trans e4).trans e5) _ _ ra, by omega, q5⟩
    | true =>
      refine q5 _ σ4 H5 Hf5 _ s5 fun y yv Hf6 H6 e6 s6 r6 q6 => ?_
      have s7 := s3.back s6 ⟨rfl, rfl, rfl, rfl⟩ ((e4.trans e5).trans e6) (inv4 a4)
      refine ⟨accV, s7.px D _ upd_same, by rw [ra.len]; exact Nat.lt_of_le_of_lt hl (Nat.lt_of_lt_of_le hlt hz.ok), Hf6, acc ++ [y], accV ++ [yv], (((e2.trans e3).trans e4).trans e5).trans e6, s7.reframe h0, ?_, by rw [List.length_append]; exact Nat.add_le_add_right hl 1, q6⟩
      exact Reps.app (zs := [y]) (ws := [yv]) ⟨yv, [], rfl, r6, rfl⟩ (Reps.mono (((e3.trans e4).trans e5).trans e6) _ _ ra)
  · refine .inl ⟨y.stop i Hf' H' e2 s2.ex (by omega), ?_⟩
    rw [List.drop_eq_nil_of_le (by omega)] at f
    exact hk D acc accV Hf' H' (e1.trans e2) hP h0 hop s2 ra f

section
variable {S : Sx} {Γ : List Slot} {tg it elt : Expr} {ifs : List Expr} {scope : Scope} {own : List (Str × Nat)} {pos : Pos}
theorem en_lc {Q : List Da → Prop} (ok' : BlkOk S.N S.sc scope own) (hv : noInv Γ (own.map (·.2)))
    (h : EvI S Γ tg it fun ds => Sz ds.length ∧ lcG (fun d acc K => EvG (S.blk scope) (fun i => (own.map (·.2)).contains i) (wipeG Γ (own.map (·.2))) tg d fun Γ' => EvTs (S.blk scope) Γ' ifs fun b => cond b (EvE (S.blk scope) Γ' elt fun y => K (acc ++ [y])) (K acc)) ds [] Q)
    (hs : ∀ env x, foldedSetIterable it env x = pure x := by intro _ _; rfl) : EvN S Γ (.ListComp elt [⟨tg, it, ifs, 0⟩] scope pos) Q :=
  en_of (fun X ok => pe_lc (wi := tUI S tg it) (g := tUG (S.blk scope) tg) (tt := tUTs (S.blk scope) ifs) (te := tU (S.blk scope) elt) (own := own) ok.calm (by rw [ok.N]; exact ok.nd) (puI ok) (by rw [ok.N, ok.sc]; exact ok')
    (fun s H C cl fp => puG (ok.blk s H scope C cl fp)) (fun s H C cl fp => puTs (ok.blk s H scope C cl fp)) (fun s H C cl fp => pu (ok.blk s H scope C cl fp)) (hs _)) fun PX σ H Hf k st hk => lc_run hv h st hk
theorem ev_lc {Q : Da → Prop} (ok' : BlkOk S.N S.sc scope own) (hv : noInv Γ (own.map (·.2)))
    (h : EvI S Γ tg it fun ds => Sz ds.length ∧ lcG (fun d acc K => EvG (S.blk scope) (fun i => (own.map (·.2)).contains i) (wipeG Γ (own.map (·.2))) tg d fun Γ' => EvTs (S.blk scope) Γ' ifs fun b => cond b (EvE (S.blk scope) Γ' elt fun y => K (acc ++ [y])) (K acc)) ds [] fun acc => Q (.lst acc))
    (hs : ∀ env x, foldedSetIterable it env x = pure x := by intro _ _; rfl) : EvE S Γ (.ListComp elt [⟨tg, it, ifs, 0⟩] scope pos) Q := EvN.ev (en_lc ok' hv h hs)
theorem ls_of {t : TS} {st : Stmt} {D : EnG} (h : ∀ X, S.Ok X → PS X st t) (q : ∀ PX σ H Hf D', Stt S PX Γ Hf H σ → EnOk S PX Hf D D' → t D' σ H) : EvS S Γ st D := es_of h q
/-- x = [.. for ..] on one line -/
theorem es_lcN {i : Nat} {x : Str} {p spos : Pos} {D : EnG} (hN : S.N[i]? = some x) (hx : S.sc.names.lookup x = some .local) (hfk : S.sc.kind = .function) (hl : (p.line == pos.line) = true) (ha : (scope.names.any fun (n, k) => n == x && (k == .local || k == .cell)) = false) (ok' : BlkOk S.N S.sc scope own) (hv : noInv Γ (own.map (·.2)))
    (h : EvI S Γ tg it fun ds => Sz ds.length ∧ lcG (fun d acc K => EvG (S.blk scope) (fun i => (own.map (·.2)).contains i) (wipeG Γ (own.map (·.2))) tg d fun Γ' => EvTs (S.blk scope) Γ' ifs fun b => cond b (EvE (S.blk scope) Γ' elt fun y => K (acc ++ [y])) (K acc)) ds [] fun acc => ∀ A, A ∉ S.op.map (·.1) → D.nx (Γ.set i (.inv A fun ys => ys = acc)))
    (hs : ∀ env x, foldedSetIterable it env x = pure x := by intro _ _; rfl) : EvS S Γ (.Assign [.Name x p] (.ListComp elt [⟨tg, it, ifs, 0⟩] scope pos) spos) D :=
  es_of (fun X ok => ps_setLc (i := i) (wi := tUI S tg it) (g := tUG (S.blk scope) tg) (tt := tUTs (S.blk scope) ifs) (te := tU (S.blk scope) elt) (own := own) ok.calm (by rw [ok.N]; exact ok.nd) (by rw [ok.N]; exact hN) (by rw [ok.sc]; exact hx) (sw_true (by rw [ok.sc]; exact hfk) (by rw [ok.sc]; exact hx) hl ha) (puI ok) (by rw [ok.N, ok.sc]; exact ok')
    (fun s H C cl fp => puG (ok.blk s H scope C cl fp)) (fun s H C cl fp => puTs (ok.blk s H scope C cl fp)) (fun s H C cl fp => pu (ok.blk s H scope C cl fp)) (hs _)) fun PX σ H Hf D' s k =>
      lc_run (k := fun x H1 => gName i x σ H1 D'.nx) hv h s fun A ds vs Hf1 H1 e1 hP h0 hop s1 r q => k.nx _ _ Hf1 H1 e1 (s1.setO (I := fun ys => ys = ds) hP h0 r rfl i) (q A hop)
theorem es_lc {i : Nat} {x : Str} {p spos : Pos} {D : EnG} (hN : S.N[i]? = some x) (hx : S.sc.names.lookup x = some .local) (hfk : S.sc.kind = .function) (hl : (p.line == pos.line) = true) (ha : (scope.names.any fun (n, k) => n == x && (k == .local || k == .cell)) = false) (ok' : BlkOk S.N S.sc scope own) (hv : noInv Γ (own.map (·.2)))
    (h : EvI S Γ tg it fun ds => Sz ds.length ∧ lcG (fun d acc K => EvG (S.blk scope) (fun i => (own.map (·.2)).contains i) (wipeG Γ (own.map (·.2))) tg d fun Γ' => EvTs (S.blk scope) Γ' ifs fun b => cond b (EvE (S.blk scope) Γ' elt fun y => K (acc ++ [y])) (K acc)) ds [] fun acc => D.nx (Γ.set i (.dat (.lst acc))))
    (hs : ∀ env x, foldedSetIterable it env x = pure x := by intro _ _; rfl) : EvS S Γ (.Assign [.Name x p] (.ListComp elt [⟨tg, it, ifs, 0⟩] scope pos) spos) D :=
  es_of (fun X ok => ps_setLc (i := i) (wi := tUI S tg it) (g := tUG (S.blk scope) tg) (tt := tUTs (S.blk scope) ifs) (te := tU (S.blk scope) elt) (own := own) ok.calm (by rw [ok.N]; exact ok.nd) (by rw [ok.N]; exact hN) (by rw [ok.sc]; exact hx) (sw_true (by rw [ok.sc]; exact hfk) (by rw [ok.sc]; exact hx) hl ha) (puI ok) (by rw [ok.N, ok.sc]; exact ok')
    (fun s H C cl fp => puG (ok.blk s H scope C cl fp)) (fun s H C cl fp => puTs (ok.blk s H scope C cl fp)) (fun s H C cl fp => pu (ok.blk s H scope C cl fp)) (hs _)) fun PX σ H Hf D' s k =>
      lc_run (k := fun x H1 => gName i x σ H1 D'.nx) hv h s fun A ds vs Hf1 H1 e1 hP h0 hop s1 r q => by
        obtain ⟨s8, e8⟩ := s1.freeze hP h0
        exact k.nx _ _ _ H1 (e1.trans e8) (s8.set (d := .lst ds) ⟨A, vs, rfl, SqL.of upd_same, Reps.mono e8 _ _ r⟩ i) q
end
section
variable {P : Program} {w : World} {K : PySem.W.Frag} {mg : Str → Option Value} {base : Heap} {k : Nat} {f : Addr} {fd : FuncData} {x qual : Str} {st : Stmt} {N ps : List Str}
theorem fnN {F : Fun K x qual st f fd} {spec : List Da → (List Da → Prop) → Er → Prop} (C : FnScope N ps (defScope st)) (len : ∀ ds q er, spec ds q er → ds.length = ps.length)
    (body : ∀ (F0 H0 : Hp) ds q er, spec ds q er → EvB (mkS P w K mg base N (defScope st) k F0 H0 [] er) (st0 ds N.length) (defBody st) { nx := fun _ => False, rt := fun _ => False, rr := q }) :
    FnG P w K mg base (k + 1) f fd ps (SpN K spec) := by
  refine Fun.okG F C (fun vs H Q E h => ?_) fun cdv A outer s H vs Q E hr hgd h => ?_
  · obtain ⟨ds, Hf, q, er, _, r, h, _⟩ := h
    rw [r.len]; exact len ds q er h
  · obtain ⟨ds, Hf, q, er, e, r, h, hQ, hE⟩ := h
    have hl := len ds q er h
    have hb := body Hf H ds q er h
    have hps : ps.length ≤ N.length := by
      have z := congrArg List.length C.pre
      rw [List.length_take] at z; omega
    have st0' : Stt (mkS P w K mg base N (defScope st) k Hf H [] er) (fun _ => none) (st0 ds N.length) Hf H (L2.start N vs) := by
      refine ⟨?_, Sub.refl _, e, fun q o h _ => h, fun q h => (nomatch h), fun i s h => ?_, fun i p I h => ?_, fun p h1 h2 => absurd h2 h1, fun _ _ z => (nomatch z), fun p h => absurd rfl h, fun _ _ _ _ => rfl, fun i j p I J h => ?_⟩
      · unfold L2.start st0
        rw [List.length_append, List.length_map, List.length_replicate, List.length_append, List.length_map, List.length_replicate, r.len]
      · rcases st0_get h with ⟨d, h1, rfl⟩ | rfl
        · obtain ⟨v, h2, h3⟩ := r.get h1
          exact ⟨v, by rw [start_get h2]; rfl, h3⟩
        · trivial
      · rcases st0_get h with ⟨d, h1, z⟩ | z <;> cases z
      · rcases st0_get h with ⟨d, h1, z⟩ | z <;> cases z
    have gr : ∀ {PX Γ σ Hf' H'}, Stt (mkS P w K mg base N (defScope st) k Hf H [] er) PX Γ Hf' H' σ → Gr Hf H Hf' H' ∧ Sub H H' := fun z => ⟨⟨z.ex0, z.ex, z.fr⟩, fun a o h => z.keep a o h (by exact List.not_mem_nil)⟩
    obtain ⟨t, h1, h2⟩ := hb (fun _ => none) (L2.start N vs) H Hf { nx := fun _ H' => Q .non H', rt := Q } st0' ⟨fun _ _ _ _ _ _ z => z.elim, fun _ _ _ _ _ _ _ _ _ _ z => z.elim, fun _ _ _ _ _ _ z => z, fun _ _ _ _ _ _ z => z,
      fun p xs us Γ σ Hf' H' _ z hP h0 _ rr q => hQ p xs us Hf' H' (gr z).1 (gr z).2 h0 z.heldF z.heldH rr q⟩
    refine ⟨t, h1 _ (ok_body hr hgd C.nd fun cls d σ H' hw => ?_), h2⟩
    obtain ⟨Hf', fs, a1, a2, a4, a3, _, a5, a6⟩ := hw
    exact hE cls d fs Hf' H' ⟨a1, a2, a4⟩ (fun a o h => a3 a o h (by exact List.not_mem_nil)) a5 a6
theorem calN {spec : List Da → (List Da → Prop) → Er → Prop} (h : Def K mg x st) (C : FnScope N ps (defScope st))
    (bp : ∀ (kV doc pm : Value) (an : Option Addr) (cdv ct : Value) (us : List Value), us.length = ps.length → bindArgs (PySem.W.fnOf x x (defArgs st) (defBody st) (defScope st) .none kV doc pm an cdv ct) ⟨us, []⟩ = pure (ps.zip us))
    (len : ∀ ds q er, spec ds q er → ds.length = ps.length)
    (body : ∀ (F0 H0 : Hp) ds q er, spec ds q er → EvB (mkS P w K mg base N (defScope st) k F0 H0 [] er) (st0 ds N.length) (defBody st) { nx := fun _ => False, rt := fun _ => False, rr := q }) :
    Cal P w K mg base x x st (k + 1) ps (SpN K spec) := by
  obtain ⟨f, fd, F, hm⟩ := h
  exact ⟨⟨f, fd, F, hm, fnN (F := F) C len body⟩, bp⟩
end
/-! ## small helps -/
theorem cond_t {p q : Prop} (h : p) : cond true p q := h
theorem cond_f {p q : Prop} (h : q) : cond false p q := h
theorem cond_dec {c : Prop} [Decidable c] {p q : Prop} (h1 : c → p) (h2 : ¬ c → q) : cond (decide c) p q := by
  by_cases h : c
  · rw [decide_eq_true h]; exact h1 h
  · rw [decide_eq_false h]; exact h2 h
theorem cond_ndec {c : Prop} [Decidable c] {p q : Prop} (h1 : ¬ c → p) (h2 : c → q) : cond (!decide c) p q := by
  by_cases h : c
  · rw [decide_eq_true h]; exact h2 h
  · rw [decide_eq_false h]; exact h1 h
theorem cond_b {b : Bool} {p q : Prop} (h1 : b = true → p) (h2 : b = false → q) : cond b p q := by
  cases b with
  | true => exact h1 rfl
  | false => exact h2 rfl
theorem cond_nb {b : Bool} {p q : Prop} (h1 : b = false → p) (h2 : b = true → q) : cond (!b) p q := by
  cases b with
  | true => exact h2 rfl
  | false => exact h1 rfl
@[reducible] def as0 (ds : List Da) (k : Prop) : Prop := match ds with | [] => k | _ => False
@[reducible] def as3 (ds : List Da) (k : Da → Da → Da → Prop) : Prop := match ds with | [d, e, f] => k d e f | _ => False
@[reducible] def as4 (ds : List Da) (k : Da → Da → Da → Da → Prop) : Prop := match ds with | [d, e, f, g] => k d e f g | _ => False
theorem as0_ {ds : List Da} {k : Prop} (h : as0 ds k) : ds = [] ∧ k := by
  match ds, h with
  | [], h => exact ⟨rfl, h⟩
theorem as3_ {ds : List Da} {k : Da → Da → Da → Prop} (h : as3 ds k) : ∃ d e f, ds = [d, e, f] ∧ k d e f := by
  match ds, h with
  | [d, e, f], h => exact ⟨d, e, f, rfl, h⟩
theorem as4_ {ds : List Da} {k : Da → Da → Da → Da → Prop} (h : as4 ds k) : ∃ d e f g, ds = [d, e, f, g] ∧ k d e f g := by
  match ds, h with
  | [d, e, f, g], h => exact ⟨d, e, f, g, rfl, h⟩
theorem as0_len {ds : List Da} {k : Prop} (h : as0 ds k) : ds.length = 0 := by obtain ⟨rfl, _⟩ := as0_ h; rfl
theorem as1_len {ds : List Da} {k : Da → Prop} (h : as1 ds k) : ds.length = 1 := by obtain ⟨_, rfl, _⟩ := as1_ h; rfl
theorem as2_len {ds : List Da} {k : Da → Da → Prop} (h : as2 ds k) : ds.length = 2 := by obtain ⟨_, _, rfl, _⟩ := as2_ h; rfl
theorem as3_len {ds : List Da} {k : Da → Da → Da → Prop} (h : as3 ds k) : ds.length = 3 := by obtain ⟨_, _, _, rfl, _⟩ := as3_ h; rfl
theorem as4_len {ds : List Da} {k : Da → Da → Da → Da → Prop} (h : as4 ds k) : ds.length = 4 := by obtain ⟨_, _, _, _, rfl, _⟩ := as4_ h; rfl
theorem bt_int : bootBuiltins "int" = some (.type "int") := by decide +kernel
theorem bt_bool : bootBuiltins "bool" = some (.type "bool") := by decide +kernel
theorem bt_str : bootBuiltins "str" = some (.type "str") := by decide +kernel
theorem bt_tuple : bootBuiltins "tuple" = some (.type "tuple") := by decide +kernel
theorem bt_list : bootBuiltins "list" = some (.type "list") := by decide +kernel
theorem bt_isinstance : bootBuiltins "isinstance" = some (.builtin "isinstance") := by decide +kernel
theorem bt_len : bootBuiltins "len" = some (.builtin "len") := by decide +kernel
theorem bt_abs : bootBuiltins "abs" = some (.builtin "abs") := by decide +kernel
theorem bt_all : bootBuiltins "all" = some (.builtin "all") := by decide +kernel
theorem bt_any : bootBuiltins "any" = some (.builtin "any") := by decide +kernel
theorem bt_sum : bootBuiltins "sum" = some (.builtin "sum") := by decide +kernel
theorem bt_min : bootBuiltins "min" = some (.builtin "min") := by decide +kernel
theorem bt_max : bootBuiltins "max" = some (.builtin "max") := by decide +kernel
theorem bt_repr : bootBuiltins "repr" = some (.builtin "repr") := by decide +kernel
theorem bt_divmod : bootBuiltins "divmod" = some (.builtin "divmod") := by decide +kernel
theorem bt_sorted : bootBuiltins "sorted" = some (.builtin "sorted") := by decide +kernel
/-! the law's own def, at the end -/
theorem law_end {P : Program} {w : World} {K : PySem.W.Frag} {mg : Str → Option Value} {k : Nat} {fa : Addr} {x p : Str} {st : Stmt} {spec : Fd} {T : Prop} (t : T)
    (ok : ∀ base : Heap, T → Cal P w K mg base x x st k [p] (SpD K spec)) (hm : mg x = some (.ref fa)) :
    ∃ fd : FuncData, (∀ (s : Shared) (u : Value), BindsTo s fd ⟨[u], []⟩ [(p, u)]) ∧ ∀ base : Heap, K.In base → base.Ns mainGlobals mg → FnG P w K mg base k fa fd [p] (SpD K spec) := by
  obtain ⟨f0, fd0, F0, hm0, _⟩ := (ok (default : Heap) t).ex
  rw [hm] at hm0; cases hm0
  refine ⟨fd0, fun s u => .of_eq ((ok (default : Heap) t).bind F0 [u] rfl), fun base _ _ => ?_⟩
  obtain ⟨f, fd, F, hm', G⟩ := (ok base t).ex
  rw [hm] at hm'; cases hm'
  obtain ⟨oc, od, kV, doc, pm, an, cdv, ct, osl, rfl, lk, hcd⟩ := F.ex
  obtain ⟨oc', od', kV', doc', pm', an', cdv', ct', osl', rfl, lk', hcd'⟩ := F0.ex
  rw [lk] at lk'; cases lk'
  exact G
end GX
namespace GX
open PySem PySem.Spec PyProof.Rows L2
theorem ev_pow {S : Sx} {Γ : List Slot} {Q : Da → Prop} {i j : Int} {a b} {p1 p2 pos : Pos} (v : Int) (hc : CPow i j) (hv : i ^ j.toNat = v) (q : Q (.int v)) : EvE S Γ (.BinOp (.Constant (.int i) a p1) .Pow (.Constant (.int j) b p2) pos) Q :=
  ev_op g_Pow (ev_int (ev_int ⟨hc, by rw [hv]; exact q⟩))
end GX
namespace GX
open PySem PySem.Spec PyProof.Rows L2
/-! ## data that can be shown -/
mutual
def Da.okS : Da → Prop
  | .int i => i.natAbs < 10 ^ 40
  | .str x => ∀ c ∈ x.cps.toList, c < 16 ^ 8
  | .lst xs | .tup xs => Da.okSs xs
  | .non | .bl _ => True
  | _ => False
def Da.okSs : List Da → Prop
  | [] => True
  | x :: xs => x.okS ∧ Da.okSs xs
end
mutual
def Da.sz : Da → Nat
  | .str x => x.cps.size
  | .lst xs | .tup xs => Da.szs xs
  | _ => 0
def Da.szs : List Da → Nat
  | [] => 0
  | x :: xs => x.sz + 1 + Da.szs xs
end
mutual
def Da.dp : Da → Nat
  | .lst xs | .tup xs => Da.dps xs + 1
  | _ => 0
def Da.dps : List Da → Nat
  | [] => 0
  | x :: xs => max x.dp (Da.dps xs)
end
mutual
theorem Da.py_bulk : ∀ d : Da, d.py.bulk = d.sz
  | .lst xs => by unfold Da.py Da.sz PyData.bulk; exact Da.pys_bulk xs
  | .tup xs => by unfold Da.py Da.sz PyData.bulk; exact Da.pys_bulk xs
  | .str x => by unfold Da.py Da.sz PyData.bulk; rfl
  | .int x => by unfold Da.py Da.sz PyData.bulk; rfl
  | .bl x => by unfold Da.py Da.sz PyData.bulk; rfl
  | .non => by unfold Da.py Da.sz PyData.bulk; rfl
  | .dct _ => by unfold Da.py Da.sz PyData.bulk; rfl
  | .ins _ _ => by unfold Da.py Da.sz PyData.bulk; rfl
  | .rf _ => by unfold Da.py Da.sz PyData.bulk; rfl
  | .ty _ => by unfold Da.py Da.sz PyData.bulk; rfl
theorem Da.pys_bulk : ∀ ds : List Da, PyData.bulkAll (Da.pys ds) = Da.szs ds
  | [] => by unfold Da.pys Da.szs PyData.bulkAll; rfl
  | d :: ds => by unfold Da.pys Da.szs PyData.bulkAll; rw [Da.py_bulk d, Da.pys_bulk ds]
end
mutual
theorem Da.py_depth : ∀ d : Da, d.py.depth = d.dp
  | .lst xs => by unfold Da.py Da.dp PyData.depth; rw [Da.pys_depth xs]
  | .tup xs => by unfold Da.py Da.dp PyData.depth; rw [Da.pys_depth xs]
  | .str x => by unfold Da.py Da.dp PyData.depth; rfl
  | .int x => by unfold Da.py Da.dp PyData.depth; rfl
  | .bl x => by unfold Da.py Da.dp PyData.depth; rfl
  | .non => by unfold Da.py Da.dp PyData.depth; rfl
  | .dct _ => by unfold Da.py Da.dp PyData.depth; rfl
  | .ins _ _ => by unfold Da.py Da.dp PyData.depth; rfl
  | .rf _ => by unfold Da.py Da.dp PyData.depth; rfl
  | .ty _ => by unfold Da.py Da.dp PyData.depth; rfl
theorem Da.pys_depth : ∀ ds : List Da, PyData.depthAll (Da.pys ds) = Da.dps ds
  | [] => by unfold Da.pys Da.dps PyData.depthAll; rfl
  | d :: ds => by unfold Da.pys Da.dps PyData.depthAll; rw [Da.py_depth d, Da.pys_depth ds]
end
theorem int_short {i : Int} (h : i.natAbs < 10 ^ 40) : (PyData.shown (.int i)).length ≤ 41 := by
  have e := int_text_length_le10 (k := 40) (by decide) h
  show (Str.ofString (toString i)).length ≤ 41
  rw [PySem.ofString_length]; exact e
mutual
theorem Da.py_okS : ∀ d : Da, d.okS → d.pure = true ∧ d.py.showable = true ∧ d.py.leavesShort 41 = true
  | .lst xs, h => by unfold Da.okS at h; unfold Da.py Da.pure PyData.showable PyData.leavesShort; exact Da.pys_okS xs h
  | .tup xs, h => by unfold Da.okS at h; unfold Da.py Da.pure PyData.showable PyData.leavesShort; exact Da.pys_okS xs h
  | .str x, h => by
    unfold Da.okS at h; unfold Da.py Da.pure PyData.showable PyData.leavesShort
    exact ⟨rfl, rfl, List.all_eq_true.mpr fun c hc => decide_eq_true (h c hc)⟩
  | .int x, h => by
    unfold Da.okS at h; unfold Da.py Da.pure PyData.showable PyData.leavesShort
    refine ⟨rfl, decide_eq_true ?_, decide_eq_true (int_short h)⟩
    exact Nat.lt_of_lt_of_le (PySem.Flt.log2_lt_of (k := 140) (by decide) (Nat.lt_of_lt_of_le h (by decide))) (by decide)
  | .bl x, _ => by unfold Da.py Da.pure PyData.showable PyData.leavesShort; exact ⟨rfl, rfl, rfl⟩
  | .non, _ => by unfold Da.py Da.pure PyData.showable PyData.leavesShort; exact ⟨rfl, rfl, rfl⟩
  | .dct _, h => by unfold Da.okS at h; exact h.elim
  | .ins _ _, h => by unfold Da.okS at h; exact h.elim
  | .rf _, h => by unfold Da.okS at h; exact h.elim
  | .ty _, h => by unfold Da.okS at h; exact h.elim
theorem Da.pys_okS : ∀ ds : List Da, Da.okSs ds → Da.pures ds = true ∧ PyData.showableAll (Da.pys ds) = true ∧ PyData.leavesShortAll 41 (Da.pys ds) = true
  | [], _ => by unfold Da.pys Da.pures PyData.showableAll PyData.leavesShortAll; exact ⟨rfl, rfl, rfl⟩
  | d :: ds, h => by
    unfold Da.okSs at h
    obtain ⟨a1, a2, a3⟩ := Da.py_okS d h.1
    obtain ⟨b1, b2, b3⟩ := Da.pys_okS ds h.2
    unfold Da.pys Da.pures PyData.showableAll PyData.leavesShortAll
    rw [a1, a2, a3, b1, b2, b3]
    exact ⟨rfl, rfl, rfl⟩
end
theorem shw_of {d : Da} (h1 : d.okS) (h2 : d.sz ≤ 20000) (h3 : d.dp ≤ 60) : Shw d := by
  obtain ⟨a1, a2, a3⟩ := Da.py_okS d h1
  refine ⟨a1, a2, by rw [Da.py_depth]; exact h3, ?_⟩
  have z := PyData.shown_le_bulk 41 (by decide) _ a3
  rw [Da.py_bulk] at z
  omega
/-! lists of numbers -/
theorem rngD_mem {lo : Int} {n : Nat} {d : Da} (h : d ∈ rngD lo n) : ∃ i : Nat, i < n ∧ d = .int (lo + i) := by
  unfold rngD at h
  obtain ⟨i, h1, h2⟩ := List.mem_map.mp h
  exact ⟨i, List.mem_range.mp h1, h2.symm⟩
theorem atI_mem {ds : List Da} {i : Int} (h0 : 0 ≤ i) (h1 : i < ds.length) : ∃ d, atI ds i = some d ∧ d ∈ ds := by
  obtain ⟨k, rfl⟩ := Int.eq_ofNat_of_zero_le h0
  have hk : k < ds.length := by exact_mod_cast h1
  refine ⟨ds[k], ?_, List.getElem_mem hk⟩
  unfold atI ixN
  rw [if_pos h0, if_pos h1]
  exact List.getElem?_eq_getElem hk
theorem mem_cut {ds : List Da} {lo hi : Option Int} {d : Da} (h : d ∈ cutD ds lo hi) : d ∈ ds := List.mem_of_mem_drop (List.mem_of_mem_take h)
theorem mem_ints {ns : List Int} {d : Da} (h : d ∈ ns.map Da.int) : ∃ n, n ∈ ns ∧ d = .int n := by
  obtain ⟨n, h1, h2⟩ := List.mem_map.mp h
  exact ⟨n, h1, h2.symm⟩
end GX
namespace GX
open PySem PySem.Spec PyProof.Rows L2
theorem cut_take {ds : List Da} {u : Int} (h0 : 0 ≤ u) (h1 : u ≤ ds.length) : cutD ds none (some u) = ds.take u.toNat := by
  unfold cutD
  have e0 : HT.sIx ds.length 0 none = 0 := rfl
  have e1 : HT.sIx ds.length ds.length (some u) = u.toNat := by
    show (if u < 0 then (u + (ds.length : Int)).toNat else min u.toNat ds.length) = _
    rw [if_neg (by omega)]; omega
  rw [e0, e1, List.drop_zero, Nat.sub_zero]
end GX
namespace GX
open PySem PySem.Spec PyProof.Rows L2
/-- each item is kept or not: the two ways apart -/
theorem lcG_fil {step : Da → List Da → (List Da → Prop) → Prop} {p : Da → Bool} {f : Da → Da} {Q : List Da → Prop} {ds acc : List Da} (h : ∀ d acc (k : List Da → Prop), d ∈ ds → (p d = true → k (acc ++ [f d])) → (p d = false → k acc) → step d acc k) (q : Q (acc ++ (ds.filter p).map f)) : lcG step ds acc Q :=
  lcG_filter (p := p) (f := f) (fun d acc k hd hk => h d acc k hd (fun c => by rw [if_pos c] at hk; exact hk) (fun c => by rw [if_neg (by rw [c]; decide)] at hk; exact hk)) q
/-- numbers of a list within bounds -/
def allI (lo hi : Int) : List Da → Prop
  | [] => True
  | .int x :: r => (lo ≤ x ∧ x ≤ hi) ∧ allI lo hi r
  | _ :: _ => False
theorem allI_mem {lo hi : Int} : ∀ {xs : List Da} {d : Da}, allI lo hi xs → d ∈ xs → ∃ x, d = .int x ∧ lo ≤ x ∧ x ≤ hi
  | .int x :: r, d, h, m => by
    unfold allI at h
    rcases List.mem_cons.mp m with rfl | m
    · exact ⟨x, rfl, h.1⟩
    · exact allI_mem h.2 m
  | .non :: _, _, h, _ => by unfold allI at h; exact h.elim
  | .bl _ :: _, _, h, _ => by unfold allI at h; exact h.elim
  | .str _ :: _, _, h, _ => by unfold allI at h; exact h.elim
  | .lst _ :: _, _, h, _ => by unfold allI at h; exact h.elim
  | .tup _ :: _, _, h, _ => by unfold allI at h; exact h.elim
  | .dct _ :: _, _, h, _ => by unfold allI at h; exact h.elim
  | .ins _ _ :: _, _, h, _ => by unfold allI at h; exact h.elim
  | .rf _ :: _, _, h, _ => by unfold allI at h; exact h.elim
  | .ty _ :: _, _, h, _ => by unfold allI at h; exact h.elim
end GX

namespace GX
open PySem PySem.Spec PyProof.Rows L2
theorem loose_int {lv : List (Str × PySem.W.WData)} {mg : Str → Option Value} {h : Heap} {x : Str} {i : Int} (V : PySem.W.LooseAre lv mg h) (hx : (x, PySem.W.WData.int i) ∈ lv) : ∃ t, mg x = some (.int i t) := by
  obtain ⟨v, h1, h2⟩ := V.val _ hx
  cases h2
  exact ⟨_, h1⟩
end GX

namespace GX
open PySem PySem.Spec PyProof.Rows L2
section
variable {S : Sx} {Γ : List Slot} {e a b c tg : Expr} {es : List Expr} {lo hi : Option Expr} {Q : Da → Prop} {B : Bool → Prop} {p pos p2 apos : Pos} {x : Str} {i : Nat} {A : Addr} {I : List Da → Prop}
/-! ## chains -/
theorem ch_run {op op' : CmpOp} {r r' : Da → Da → (Da → Prop) → Prop} (ho : OpG S (compareOp op) r) (ho' : OpG S (compareOp op') r')
    (h : EvE S Γ a fun x => EvE S Γ b fun y => r x y fun d => asBl d fun k => cond k (EvE S Γ c fun z => r' y z Q) (Q (.bl false))) {PX : Hp} {σ : L2.St} {H Hf : Hp} {k : VK} (st : Stt S PX Γ Hf H σ)
    (hk : ∀ d v Hf' H', Sub Hf Hf' → Stt S PX Γ Hf' H' σ → Rep S.K Hf' d v → Q d → k v H') : tChain ho.ex.choose ho'.ex.choose (tU S a) (tU S b) (tU S c) σ H k :=
  h PX σ H Hf _ st fun x v Hf1 H1 e1 st1 r1 q1 => q1 PX σ H1 Hf1 _ st1 fun y u Hf2 H2 e2 st2 r2 q2 => ho.ex.choose_spec.2 PX Γ σ Hf2 H2 x y v u _ _ st2 (Rep.mono e2 _ _ r1) r2 q2 fun d w Hf3 H3 e3 st3 r3 q3 => by
    obtain ⟨t, rfl, q3⟩ := asBl_ q3
    refine ⟨t, r3, cond_ite ?_⟩
    cases t with
    | true => exact q3 PX σ H3 Hf3 _ st3 fun z w' Hf4 H4 e4 st4 r4 q4 => ho'.ex.choose_spec.2 PX Γ σ Hf4 H4 y z u w' _ _ st4 (Rep.mono (e3.trans e4) _ _ r2) r4 q4 fun d' v' Hf5 H5 e5 => hk d' v' Hf5 H5 ((((e1.trans e2).trans e3).trans e4).trans e5)
    | false => exact hk (.bl false) _ Hf3 H3 ((e1.trans e2).trans e3) st3 rfl q3
theorem ev_chain {op op' : CmpOp} {r r' : Da → Da → (Da → Prop) → Prop} (ho : OpG S (compareOp op) r) (ho' : OpG S (compareOp op') r')
    (h : EvE S Γ a fun x => EvE S Γ b fun y => r x y fun d => asBl d fun k => cond k (EvE S Γ c fun z => r' y z Q) (Q (.bl false))) (hm : lastMarks [op, op'] [b, c] = false := by with_unfolding_all rfl) : EvE S Γ (.Compare a [op, op'] [b, c] pos) Q :=
  ev_of (fun X ok => pe_chain (ho.ex.choose_spec.1 X ok) (ho'.ex.choose_spec.1 X ok) (pu ok) (pu ok) (pu ok) hm) fun PX σ H Hf k st hk => ch_run ho ho' h st hk
theorem et_chain {op op' : CmpOp} {r r' : Da → Da → (Da → Prop) → Prop} (ho : OpG S (compareOp op) r) (ho' : OpG S (compareOp op') r')
    (h : EvE S Γ a fun x => EvE S Γ b fun y => r x y fun d => asBl d fun k => cond k (EvE S Γ c fun z => r' y z fun d => asBl d B) (B false)) (hm : lastMarks [op, op'] [b, c] = false := by with_unfolding_all rfl) : EvT S Γ (.Compare a [op, op'] [b, c] pos) B :=
  fun PX σ H Hf k st hk => ⟨_, fun X ok => pt_chain (ho.ex.choose_spec.1 X ok) (ho'.ex.choose_spec.1 X ok) (pu ok) (pu ok) (pu ok) hm, ch_run (Q := fun d => asBl d B) ho ho' h st fun d v Hf' H' e st' r q => by
    obtain ⟨t, rfl, q⟩ := asBl_ q
    exact ⟨t, r, hk t Hf' H' e st' q⟩⟩
/-! ## + of all kinds -/
def rCatS (K : PySem.W.Frag) : R2 := fun x y H Q => ∃ l b xs zs, x = .ref l ∧ y = .ref b ∧ SqL K H l xs ∧ SqL K H b zs ∧ xs.length + zs.length ≤ sizeLine ∧ ∀ p, H p = none → Q (.ref p) (upd H p (.lst (xs ++ zs)))
theorem op_catS {X : Cx} : OpR X (binaryOp .Add) (rCatS X.K) := by
  intro pins s σ H x y v u Q I rx ry h
  obtain ⟨l, b, xs, zs, rfl, rfl, hH, hB, hz, q⟩ := h
  cases rx
  cases ry
  obtain ⟨its, r, pl, _⟩ := I.list hH
  obtain ⟨its2, r2, pl2, _⟩ := I.list hB
  obtain ⟨⟨cls, dd, data, sl⟩, ho, hc, n, hd⟩ := pl.isList
  obtain ⟨⟨cls2, dd2, data2, sl2⟩, ho2, hc2, n2, hd2⟩ := pl2.isList
  simp only at hc hd hc2 hd2
  subst hc hd hc2 hd2
  have e : its.toArray ++ its2.toArray = (its ++ its2).toArray := by simp
  refine concat_meets ⟨_, ho, rfl⟩ ⟨_, ho2, rfl⟩ noFill_list_add seq_list_add PySem.F.slot_list_add PySem.F.entry_list_add (PySem.F.args_list_add_2 _ _) (list_addW l b its.toArray its2.toArray n n2 dd dd2 sl sl2 (by rw [List.size_toArray, List.size_toArray, ← r.length, ← r2.length]; exact hz)) ⟨ho, ho2, ?_⟩
  rw [e]
  exact ⟨.ref _, _, I.lnew (t' := s.toks) (r.append r2) (by rw [List.length_append]; exact hz), rfl, q _ I.fresh⟩
def rCatU (K : PySem.W.Frag) : R2 := fun x y H Q => ∃ a b xs ys, x = .ref a ∧ y = .ref b ∧ SqT K H a xs ∧ SqT K H b ys ∧ xs.length + ys.length ≤ sizeLine ∧
  (xs = [] → Q (.ref b) H) ∧ (ys = [] → Q (.ref a) H) ∧ (∀ p, H p = none → Q (.ref p) (upd H p (.tup (xs ++ ys))))
theorem op_catU {X : Cx} : OpR X (binaryOp .Add) (rCatU X.K) := by
  intro pins s σ H x y v u Q I rx ry h
  obtain ⟨a, b, xs, ys, rfl, rfl, ha, hb, hz, q0, q1, q2⟩ := h
  cases rx
  cases ry
  obtain ⟨its, r1, p1, _⟩ := I.tuple ha
  obtain ⟨its2, r2, p2, _⟩ := I.tuple hb
  by_cases hx : xs = []
  · obtain ⟨⟨cls, dd, data, sl⟩, ho, hc, n, hd⟩ := id p1
    obtain ⟨⟨cls2, dd2, data2, sl2⟩, ho2, hc2, n2, hd2⟩ := id p2
    simp only at hc hd hc2 hd2
    subst hc hd hc2 hd2
    have e := r1.nil_iff.mpr hx
    exact concat_meets ⟨_, ho, rfl⟩ ⟨_, ho2, rfl⟩ noFill_tuple_add seq_tuple_add PySem.F.slot_tuple_add PySem.F.entry_tuple_add (PySem.F.args_tuple_add_2 _ _)
      (tuple_addW0 a b its.toArray its2.toArray n n2 dd dd2 sl sl2 (by simp [e])) ⟨ho, ho2, ⟨.ref b, H, I.tok _, rfl, q0 hx⟩⟩
  · refine HT.cat_tup p1 p2 (fun z => hx (r1.nil_iff.mp z)) (fun z => ⟨.ref a, H, I, rfl, q1 (r2.nil_iff.mp z)⟩) (fun z => ?_) (by rw [← r1.length, ← r2.length]; exact hz)
    refine ⟨.ref s.heap.objs.size, _, I.laid (t' := s.toks) (o := .tup (xs ++ ys)) (fun b ob q => Heap.get?_push_of_some _ q) (Nat.le_refl _) ?_, rfl, q2 _ (I.hok.fresh (Nat.le_refl _))⟩
    exact ⟨by rw [List.length_append]; exact hz, its ++ its2, r1.append r2, IsTup.new _ _⟩
@[reducible] def addQ (x y : Da) (Q : Da → Prop) : Prop := match x, y with
  | .int i, .int j => Q (.int (i + j))
  | .str i, .str j => i.length + j.length ≤ 1000000 ∧ Q (.str (i ++ j))
  | .lst a, .lst b => a.length + b.length ≤ 100000 ∧ Q (.lst (a ++ b))
  | .tup a, .tup b => a.length + b.length ≤ 100000 ∧ Q (.tup (a ++ b))
  | _, _ => False
theorem Rep.lst_ {K : PySem.W.Frag} {H : Hp} {ds : List Da} {v : V} (r : Rep K H (.lst ds) v) : ∃ a xs, v = .ref a ∧ SqL K H a xs ∧ Reps K H ds xs := r
theorem Rep.tup_ {K : PySem.W.Frag} {H : Hp} {ds : List Da} {v : V} (r : Rep K H (.tup ds) v) : ∃ a xs, v = .ref a ∧ SqT K H a xs ∧ Reps K H ds xs := r
theorem g_addD : OpG S (binaryOp .Add) addQ :=
  ⟨fun x y H Q => rI0 (fun i j => .int (i + j)) x y H Q ∨ (∃ i j, x = .str i ∧ y = .str j ∧ i.length + j.length ≤ sizeLine ∧ Q (.str (i ++ j)) H) ∨ rCatS S.K x y H Q ∨ rCatU S.K x y H Q,
   fun X ok => by
     have z1 := op_catS (X := X)
     have z2 := op_catU (X := X)
     rw [ok.K] at z1 z2
     exact op_add.or (op_add_str.or (z1.or z2)),
   fun PX Γ σ Hf H x y v u Q k st rx ry hr hk => by
    unfold addQ at hr
    split at hr
    · rename_i i j
      exact .inl ⟨i, j, rx, ry, hk (.int (i + j)) _ Hf H (Sub.refl _) st rfl hr⟩
    · rename_i i j
      exact .inr (.inl ⟨i, j, rx, ry, Nat.le_trans hr.1 (by decide : 1000000 ≤ sizeLine), hk (.str (i ++ j)) _ Hf H (Sub.refl _) st rfl hr.2⟩)
    · rename_i a b
      obtain ⟨p, xs, rfl, s1, r1⟩ := rx.lst_
      obtain ⟨p', ys, rfl, s2, r2⟩ := ry.lst_
      refine .inr (.inr (.inl ⟨p, p', xs, ys, rfl, rfl, st.ex.sl s1, st.ex.sl s2, by rw [r1.len, r2.len]; exact Sz.ok hr.1, fun q hq => ?_⟩))
      obtain ⟨st2, e2⟩ := st.alloc (o := .lst (xs ++ ys)) hq
      exact hk (.lst (a ++ b)) _ _ _ e2 st2 ⟨q, _, rfl, SqL.of upd_same, Reps.app (Reps.mono e2 _ _ r2) (Reps.mono e2 _ _ r1)⟩ hr.2
    · rename_i a b
      obtain ⟨p, xs, rfl, s1, r1⟩ := rx.tup_
      obtain ⟨p', ys, rfl, s2, r2⟩ := ry.tup_
      refine .inr (.inr (.inr ⟨p, p', xs, ys, rfl, rfl, st.ex.st s1, st.ex.st s2, by rw [r1.len, r2.len]; exact Sz.ok hr.1, fun hx => ?_, fun hy => ?_, fun q hq => ?_⟩))
      · have e : a = [] := List.eq_nil_of_length_eq_zero (by rw [← r1.len, hx]; rfl)
        subst e
        exact hk (.tup b) _ Hf H (Sub.refl _) st ⟨p', ys, rfl, s2, r2⟩ hr.2
      · have e : b = [] := List.eq_nil_of_length_eq_zero (by rw [← r2.len, hy]; rfl)
        subst e
        have q := hr.2
        rw [List.append_nil] at q
        exact hk (.tup a) _ Hf H (Sub.refl _) st ⟨p, xs, rfl, s1, r1⟩ q
      · obtain ⟨st2, e2⟩ := st.alloc (o := .tup (xs ++ ys)) hq
        exact hk (.tup (a ++ b)) _ _ _ e2 st2 ⟨q, _, rfl, SqT.of upd_same, Reps.app (Reps.mono e2 _ _ r2) (Reps.mono e2 _ _ r1)⟩ hr.2
    · exact hr.elim⟩
/-! ## in -/
@[reducible] def Da.flat (d : Da) : Bool := match d with | .non => true | .bl _ => true | .int _ => true | .str _ => true | _ => false
@[reducible] def eqF (x y : Da) : Bool := match x, y with
  | .non, .non => true
  | .bl a, .bl b => a == b
  | .bl a, .int b => (if a then 1 else 0) == b
  | .int a, .bl b => a == (if b then 1 else 0)
  | .int a, .int b => a == b
  | .str a, .str b => a == b
  | _, _ => false
theorem Rep.flat {K : PySem.W.Frag} {H : Hp} {d : Da} {v : V} (r : Rep K H d v) (h : d.flat = true) : flatV v = true := by
  cases d <;> first | (unfold Rep at r; subst r; rfl) | cases h
theorem Rep.eqF {K : PySem.W.Frag} {H : Hp} {d d' : Da} {v v' : V} (r : Rep K H d v) (r' : Rep K H d' v') (h : d.flat = true) (h' : d'.flat = true) : eqV v v' = GX.eqF d d' := by
  cases d <;> cases d' <;> first | (unfold Rep at r r'; subst r; subst r'; rfl) | (exact absurd h (by decide)) | (exact absurd h' (by decide)) | (cases h; done) | (cases h'; done)
theorem Reps.flat {K : PySem.W.Frag} {H : Hp} {d : Da} {v : V} (r0 : Rep K H d v) (h0 : d.flat = true) : ∀ {ds : List Da} {vs : List V}, Reps K H ds vs → ds.all Da.flat = true → vs.all flatV = true ∧ inV v vs = ds.any fun y => GX.eqF y d
  | [], _, r, _ => by unfold Reps at r; subst r; exact ⟨rfl, rfl⟩
  | y :: ds, _, r, h => by
    obtain ⟨u, l, rfl, r1, r2⟩ := r
    rw [List.all_cons, Bool.and_eq_true] at h
    obtain ⟨a, b⟩ := Reps.flat r0 h0 r2 h.2
    have c := Rep.eqF r1 r0 h.1 h0
    unfold inV at b ⊢
    rw [List.all_cons, List.any_cons, List.any_cons, a, b, Rep.flat r1 h.1, c]
    exact ⟨rfl, rfl⟩
@[reducible] def inQ (x y : Da) (k : Bool → Prop) : Prop := match y with
  | .lst ds => x.flat = true ∧ ds.all Da.flat = true ∧ k (ds.any fun y => eqF y x)
  | .tup ds => x.flat = true ∧ ds.all Da.flat = true ∧ k (ds.any fun y => eqF y x)
  | .str s => asStr x fun z => k (!(Builtin.Str.occurrences s z 0 s.length 1).isEmpty)
  | _ => False
theorem in_any {f : Value → Value → Sem Value} {neg : Bool} (h1 : ∀ X, S.Ok X → OpR X f (rIn X.K neg)) (h2 : ∀ X, S.Ok X → OpR X f (fun x y H Q => ∃ i j, x = .str i ∧ y = .str j ∧ Q (.bl (neg ^^ !(Builtin.Str.occurrences j i 0 j.length 1).isEmpty)) H)) :
    OpG S f fun x y Q => inQ x y fun b => Q (.bl (neg ^^ b)) :=
  .pure _ (fun X ok => (by have z := h1 X ok; rw [ok.K] at z; exact z.or (h2 X ok))) fun Hf H x y v u Q k e rx ry hr hk => by
    unfold inQ at hr
    have nb : ∀ b : Bool, (if neg then !b else b) = (neg ^^ b) := fun b => by cases neg <;> cases b <;> rfl
    split at hr
    · rename_i ds
      obtain ⟨p, xs, rfl, s1, r1⟩ := ry.lst_
      obtain ⟨a, b⟩ := Reps.flat rx hr.1 r1 hr.2.1
      refine .inl ⟨p, xs, rfl, .inl (e.sl s1), Rep.flat rx hr.1, a, ?_⟩
      have z := hk (.bl (neg ^^ ds.any fun y => eqF y x)) _ rfl hr.2.2
      rw [← b, ← nb] at z
      exact z
    · rename_i ds
      obtain ⟨p, xs, rfl, s1, r1⟩ := ry.tup_
      obtain ⟨a, b⟩ := Reps.flat rx hr.1 r1 hr.2.1
      refine .inl ⟨p, xs, rfl, .inr (e.st s1), Rep.flat rx hr.1, a, ?_⟩
      have z := hk (.bl (neg ^^ ds.any fun y => eqF y x)) _ rfl hr.2.2
      rw [← b, ← nb] at z
      exact z
    · rename_i s
      obtain ⟨z, rfl, q⟩ := asStr_ hr
      exact .inr ⟨z, s, rx, ry, hk (.bl _) _ rfl q⟩
    · exact hr.elim
theorem g_in : OpG S (compareOp .In) fun x y Q => inQ x y fun b => Q (.bl (false ^^ b)) := in_any (fun _ _ => op_in_seq) fun X ok => by
  intro pins s σ H x y v u Q I rx ry ⟨i, j, a, b, q⟩
  exact op_in_str pins s σ H x y v u Q I rx ry ⟨i, j, a, b, by rw [Bool.false_xor] at q; exact q⟩
theorem g_notin : OpG S (compareOp .NotIn) fun x y Q => inQ x y fun b => Q (.bl (true ^^ b)) := in_any (fun _ _ => op_notIn_seq) fun X ok => by
  intro pins s σ H x y v u Q I rx ry ⟨i, j, a, b, q⟩
  exact op_notIn_str pins s σ H x y v u Q I rx ry ⟨i, j, a, b, by rw [Bool.true_xor] at q; exact q⟩
/-! ## slices, items, len of all kinds -/
@[reducible] def slQ (d : Da) (l u : Option Int) (Q : Da → Prop) : Prop := match d with
  | .lst ds => Q (.lst (cutD ds l u))
  | .tup ds => Q (.tup (cutD ds l u))
  | .str z => z.length ≤ 1000000 ∧ Q (.str (cutS z l u))
  | _ => False
theorem ev_sl (h : EvE S Γ a fun d => EvO S Γ lo fun l => EvO S Γ hi fun u => slQ d l u Q) : EvE S Γ (.Subscript a (.Slice lo hi none p2) pos) Q :=
  ev_of (t := tSl (fun x l u H Q => rSlL S.K x l u H Q ∨ rSlA S.K x l u H Q ∨ rSlS x l u H Q) (tU S a) (tUO S lo) (tUO S hi))
    (fun X ok => by have z := pe_slice (pos := pos) (p2 := p2) (SlR.or sl_list (SlR.or sl_tupA sl_str)) (pu (e := a) ok) (puO (lo := lo) ok) (puO (lo := hi) ok); rw [ok.K] at z; exact z) fun PX σ H Hf k st hk =>
    h PX σ H Hf _ st fun d v Hf1 H1 e1 st1 r1 q => q PX σ H1 Hf1 _ st1 fun l Hf2 H2 e2 st2 q2 => q2 PX σ H2 Hf2 _ st2 fun u Hf3 H3 e3 st3 q3 => by
    unfold slQ at q3
    split at q3
    · rename_i ds
      obtain ⟨P, xs, rfl, hq, rr⟩ := (Rep.mono (e2.trans e3) _ _ r1).lst_
      refine .inl ⟨P, xs, rfl, st3.ex.sl hq, fun p hp => ?_⟩
      obtain ⟨st4, e4⟩ := st3.alloc (o := .lst (cutV xs l u)) hp
      exact hk (.lst (cutD ds l u)) _ _ _ (((e1.trans e2).trans e3).trans e4) st4 ⟨p, _, rfl, SqL.of upd_same, Reps.mono e4 _ _ (rr.cut l u)⟩ q3
    · rename_i ds
      obtain ⟨P, xs, rfl, hq, rr⟩ := (Rep.mono (e2.trans e3) _ _ r1).tup_
      refine .inr (.inl ⟨P, xs, rfl, st3.ex.st hq, fun w => ?_, fun w p hp => ?_⟩)
      · have z := rr.cut l u
        rw [cutV_all w] at z
        exact hk (.tup (cutD ds l u)) _ _ _ ((e1.trans e2).trans e3) st3 ⟨P, xs, rfl, hq, z⟩ q3
      · obtain ⟨st4, e4⟩ := st3.alloc (o := .tup (cutV xs l u)) hp
        exact hk (.tup (cutD ds l u)) _ _ _ (((e1.trans e2).trans e3).trans e4) st4 ⟨p, _, rfl, SqT.of upd_same, Reps.mono e4 _ _ (rr.cut l u)⟩ q3
    · rename_i z
      exact .inr (.inr ⟨z, r1, Nat.le_trans q3.1 (by decide : 1000000 ≤ sizeLine), hk (.str (cutS z l u)) _ Hf3 H3 ((e1.trans e2).trans e3) st3 rfl q3.2⟩)
    · exact q3.elim
@[reducible] def lenQ (d : Da) (Q : Int → Prop) : Prop := match d with
  | .lst ds => Q ds.length
  | .tup ds => Q ds.length
  | .str z => z.length ≤ 1000000 ∧ Q z.length
  | _ => False
theorem c_lenD : CallG S (.builtin "len") fun ds Q => as1 ds fun d => lenQ d fun n => Q (.int n) :=
  .keep (fun xs H Q => (∃ p ys, xs = [.ref p] ∧ (SqL S.K H p ys ∨ SqT S.K H p ys) ∧ Q (.int ys.length) H) ∨ (∃ z, xs = [.str z] ∧ z.length ≤ sizeLine ∧ Q (.int z.length) H)) (fun X ok => by have z := (call_len_seq (X := X)).or call_len_str; rw [ok.K] at z; exact z) fun Hf H ds vs Q k e r h hk => by
  obtain ⟨d, rfl, h2⟩ := as1_ h
  clear h
  obtain ⟨v, rfl, r1⟩ := r.one
  have h := h2
  unfold lenQ at h
  split at h
  · obtain ⟨p, xs, rfl, s1, r2⟩ := r1.lst_
    exact .inl ⟨p, xs, rfl, .inl (e.sl s1), hk _ _ (by rw [r2.len]; rfl) h⟩
  · obtain ⟨p, xs, rfl, s1, r2⟩ := r1.tup_
    exact .inl ⟨p, xs, rfl, .inr (e.st s1), hk _ _ (by rw [r2.len]; rfl) h⟩
  · rename_i z
    exact .inr ⟨z, congrArg (· :: []) r1, Nat.le_trans h.1 (by decide : 1000000 ≤ sizeLine), hk (.int z.length) _ rfl h.2⟩
  · exact h.elim
/-! ## walking texts, pairs -/
def chars (z : Str) : List Da := z.cps.toList.map fun c => Da.str ⟨#[c]⟩
theorem ei_str {QI : List Da → Prop} (h : EvE S Γ e fun d => asStr d fun z => QI (chars z)) : EvI S Γ tg e QI := fun PX σ H Hf k st hk => ⟨iStr (tU S e), fun X ok => pi_str (tg := tg) (pu (e := e) ok), h PX σ H Hf _ st fun d v Hf1 H1 e1 st1 r q => by
  obtain ⟨z, rfl, q⟩ := asStr_ q
  have hl : (chars z).length = z.cps.size := by unfold chars; rw [List.length_map, Array.length_toList]
  refine ⟨z, r, hk _ _ Hf1 H1 e1 st1 ⟨fun i Hf' H' e e' hi => by rw [hl] at hi; exact hi, fun i Hf' H' e e' hi => by rw [hl] at hi; exact hi, fun PX i x Γ σ Hf' H' H'' e s hi y => ?_⟩ q⟩
  obtain ⟨rfl, c, hc, rfl⟩ := y
  refine ⟨Hf', .str ⟨#[c]⟩, Sub.refl _, s, ?_, rfl⟩
  unfold chars
  rw [List.getElem?_map, Array.getElem?_toList, hc]; rfl⟩
theorem ei_zip {QI : List Da → Prop} {elts : List Expr} {kk : Nat} {tpos q : Pos} (hg : GlS S "zip") (hm : S.mg "zip" = none) (h : EvE S Γ a fun d => EvE S Γ b fun d' => asLst d fun xs => asLst d' fun ys => QI ((xs.zip ys).map fun z => Da.tup [z.1, z.2]))
    (hs : ∀ env, starEach [a, b] env = (false, eval a env) :: starEach [b] env := by intro _; rfl) (hs2 : ∀ env, starEach [b] env = (false, eval b env) :: starEach [] env := by intro _; rfl) (hpl : ∀ env, (backTo q (starEach [b] env)).any (·.1) = false := by intro _; rfl) :
    EvI S Γ (.Tuple elts kk tpos) (.Call (.Name "zip" p) [a, b] [] q) QI := fun PX σ H Hf k st hk =>
  ⟨iZip S.K (tCons (tU S a) (tCons (tU S b) tNil)), fun X ok => by have z := pi_zip (tpos := tpos) (p := p) (pos := q) (elts := elts) (kk := kk) (hg.gl ok) (by rw [ok.mg]; exact hm) (pa_cons (pu (e := a) ok) (pa_cons (pu (e := b) ok) pa_nil (hs2 _)) (hs _)) (hs _) (hpl _); rw [ok.K] at z; exact z,
    h PX σ H Hf _ st fun d v Hf1 H1 e1 st1 r q => q PX σ H1 Hf1 _ st1 fun d' v' Hf2 H2 e2 st2 r' q => by
    obtain ⟨xs, rfl, q1⟩ := asLst_ q
    obtain ⟨ys, rfl, q2⟩ := asLst_ q1
    obtain ⟨l1, us, rfl, s1, r1⟩ := (Rep.mono e2 _ _ r).lst_
    obtain ⟨l2, ws, rfl, s2, r2⟩ := r'.lst_
    have hl : ((xs.zip ys).map fun z => Da.tup [z.1, z.2]).length = min xs.length ys.length := by rw [List.length_map, List.length_zip]
    refine ⟨l1, l2, us, ws, rfl, st2.ex.sl s1, st2.ex.sl s2, hk _ _ Hf2 H2 (e1.trans e2) st2 ⟨fun i Hf' H' e e' hi => ?_, fun i Hf' H' e e' hi => ?_, fun PX i x Γ σ Hf' H' H'' e s hi y => ?_⟩ q2⟩
    · rw [hl] at hi
      obtain ⟨_, v1, _, h1, _⟩ := r1.at (i := i) (by omega)
      obtain ⟨_, v2, _, h2, _⟩ := r2.at (i := i) (by omega)
      exact ⟨us, ws, v1, v2, e'.sl (e.sl s1), e'.sl (e.sl s2), h1, h2⟩
    · rw [hl] at hi
      have z1 := r1.len
      have z2 := r2.len
      exact ⟨us, ws, e'.sl (e.sl s1), e'.sl (e.sl s2), by omega⟩
    · rw [hl] at hi
      obtain ⟨T, x, y, rfl, hT, rfl, y1, y2⟩ := y
      obtain ⟨d1, v1, g1, h1, w1⟩ := r1.at (i := i) (by omega)
      obtain ⟨d2, v2, g2, h2, w2⟩ := r2.at (i := i) (by omega)
      have k1 := (y1 us (s.ex.sl (e.sl s1))).symm.trans h1
      have k2 := (y2 ws (s.ex.sl (e.sl s2))).symm.trans h2
      cases k1; cases k2
      obtain ⟨st4, e4⟩ := s.alloc (o := .tup [x, y]) hT
      refine ⟨_, .tup [d1, d2], e4, st4, ?_, T, [x, y], rfl, SqT.of upd_same, x, _, rfl, Rep.mono (e.trans e4) _ _ w1, y, _, rfl, Rep.mono (e.trans e4) _ _ w2, rfl⟩
      rw [List.getElem?_map, (List.getElem?_zip_eq_some (z := (d1, d2))).mpr ⟨g1, g2⟩]; rfl⟩
/-! ## list(), tuple() -/
theorem c_tuple : CallG S (.type "tuple") fun ds Q => as1 ds fun d => asSeq d fun xs => Q (.tup xs) :=
  ⟨fun xs H Q => ∃ p ys, xs = [.ref p] ∧ ((SqL S.K H p ys ∧ ∀ l, H l = none → Q (.ref l) (upd H l (.tup ys))) ∨ (SqT S.K H p ys ∧ Q (.ref p) H)), fun X ok => by have z := call_tuple_of (X := X); rw [ok.K] at z; exact z, fun PX Γ σ Hf H ds vs Q k st r h hk => by
    obtain ⟨d, rfl, h⟩ := as1_ h
    obtain ⟨v, rfl, r1⟩ := r.one
    obtain ⟨xs, rfl | rfl, q⟩ := asSeq_ h
    · obtain ⟨p, us, rfl, s1, r2⟩ := r1.lst_
      refine ⟨p, us, rfl, .inl ⟨st.ex.sl s1, fun l hl => ?_⟩⟩
      obtain ⟨st2, e2⟩ := st.alloc (o := .tup us) hl
      exact hk (.tup xs) _ _ _ e2 st2 ⟨l, us, rfl, SqT.of upd_same, Reps.mono e2 _ _ r2⟩ q
    · obtain ⟨p, us, rfl, s1, r2⟩ := r1.tup_
      exact ⟨p, us, rfl, .inr ⟨st.ex.st s1, hk (.tup xs) _ Hf H (Sub.refl _) st ⟨p, us, rfl, s1, r2⟩ q⟩⟩⟩
end
end GX

namespace GX
open PySem PySem.Spec PyProof.Rows L2
/-! ## expressions that change a list of the def's own -/
def EvC (S : Sx) (Γ : List Slot) (e : Expr) (Q : Da → List Slot → Prop) : Prop := ∀ PX σ H Hf k, Stt S PX Γ Hf H σ →
  (∀ d v Γ' Hf' H', Sub Hf Hf' → Stt S PX Γ' Hf' H' σ → Rep S.K Hf' d v → Q d Γ' → k v H') → tU S e σ H k
theorem Reps.erase {K : PySem.W.Frag} {H : Hp} : ∀ {ds : List Da} {vs : List V} (n : Nat), Reps K H ds vs → Reps K H (ds.eraseIdx n) (vs.eraseIdx n)
  | [], _, n, r => by unfold Reps at r; subst r; exact rfl
  | e :: ds, _, 0, r => by
    obtain ⟨u, l, rfl, r1, r2⟩ := r
    exact r2
  | e :: ds, _, n + 1, r => by
    obtain ⟨u, l, rfl, r1, r2⟩ := r
    exact ⟨u, _, rfl, r1, Reps.erase n r2⟩
section
variable {S : Sx} {Γ : List Slot} {e a b c tg : Expr} {es : List Expr} {Q : Da → Prop} {QC : Da → List Slot → Prop} {QN : List Da → Prop} {p pos p2 apos cpos spos : Pos} {x y : Str} {i : Nat} {A : Addr} {I I' : List Da → Prop} {D : EnG}
theorem EvC.of (h : EvE S Γ e fun d => QC d Γ) : EvC S Γ e QC := fun PX σ H Hf k st hk => h PX σ H Hf k st fun d v Hf' H' e' s r q => hk d v Γ Hf' H' e' s r q
theorem es_setC {p : Pos} (hN : S.N[i]? = some x) (hx : Loc S.sc x) (h : EvC S Γ e fun d Γ' => D.nx (Γ'.set i (.dat d))) (hs : ∀ env, swapsWith e (some (.Name x p)) spos.line env = pure false := by intro _; rfl) (hst : S.stor x = true := by rfl) : EvS S Γ (.Assign [.Name x p] e spos) D :=
  es_of (fun X ok => ps_set (i := i) (by rw [ok.N]; exact ok.nd) (by rw [ok.N]; exact hN) (by rw [ok.sc]; exact hx) (pu ok) (hs _) (ok.fn x hst)) fun PX σ H Hf D' s k => h PX σ H Hf _ s fun d v Γ' Hf1 H1 e1 s1 r q =>
    k.nx _ _ Hf1 H1 e1 (s1.set r i) q
theorem es_exprC (h : EvC S Γ e fun _ Γ' => D.nx Γ') (hs : ∀ env, swapsWith e none pos.line env = pure false := by intro _; rfl) : EvS S Γ (.Expr e pos) D :=
  es_of (fun X ok => ps_expr (pu ok) (hs _)) fun PX σ H Hf D' s k => h PX σ H Hf _ s fun d v Γ' Hf' H' e s' _ q => k.nx Γ' σ Hf' H' e s' q
/-- x.append(e) -/
theorem ec_append (hN : S.N[i]? = some x) (hv : Vis S.sc x) (hΓ : Γ[i]? = some (.inv A I)) (h : EvC S Γ e fun d Γ' => ∃ J, Γ'[i]? = some (.inv A J) ∧ (∀ ds, J ds → ds.length < 100000 ∧ I' (ds ++ [d])) ∧ QC .non (Γ'.set i (.inv A I')))
    (hd : (x == ("__debug__" : Str)) = false := by decide) (hcd : (x == ("__classdict__" : Str)) = false := by decide)
    (hbase : ∀ env : Env, attributeBase (.Name x p) "append" env (eval (.Name x p) env) = eval (.Name x p) env := by intro _; rfl)
    (hfew : ∀ env, ((backTo cpos (starEach [e] env)).all (fun x => !x.1) && (backToKw cpos (keywordEach [] env)).all (fun x => x.1.isSome) && decide ([e].length + ([] : List Keyword).length + (if ([] : List Keyword).isEmpty then 0 else 1) < 30)) = true := by intro _; rfl)
    (hline : (apos.endLine == cpos.line) = true := by rfl) (hs : ∀ env, starEach [e] env = (false, eval e env) :: starEach [] env := by intro _; rfl) (hpl : ∀ env, (backTo cpos (starEach [] env)).any (·.1) = false := by intro _; rfl) :
    EvC S Γ (.Call (.Attribute (.Name x p) "append" apos) [e] [] cpos) QC := fun PX σ H Hf k st hk => by
  refine ⟨tBM S.K "list" rAppend (tVar i) (tCons (tU S e) tNil), fun X ok => ?_, ?_⟩
  · have z := pe_bm (X := X) (cpos := cpos) (apos := apos) PySem.F.plainAttrs_list PySem.F.slot_list_append (by first | rfl | decide +kernel | kernel_rfl) mt_append (pe_var (pos := p) (i := i) (by rw [ok.N]; exact hN) (by rw [ok.sc]; exact hv) hd hcd) (pa_cons (pu (e := e) ok) pa_nil (hs _)) (hbase _) (hfew _) hline (hs _) (hpl _)
    rw [ok.K] at z; exact z
  obtain ⟨_, _, vs, ds, hA, rr, hI⟩ := st.own hΓ
  refine ⟨.ref A, slot_of st hΓ, .inl ⟨rfl, vs, SqL.of hA⟩, ?_⟩
  refine h PX σ H Hf _ st fun d v Γ' Hf1 H1 e1 s1 r ⟨J, hJ, q1, q2⟩ => ?_
  obtain ⟨_, _, vs, ds, hA, rr, hI⟩ := s1.own hJ
  obtain ⟨q3, q4⟩ := q1 ds hI
  refine ⟨A, vs, v, rfl, rfl, hA, by rw [rr.len]; exact Nat.lt_of_lt_of_le q3 (by decide), ?_⟩
  exact hk .non .non _ Hf1 _ e1 (s1.put hJ (Reps.app (zs := [d]) (ws := [v]) ⟨v, [], rfl, r, rfl⟩ rr) q4) rfl q2
/-- x.pop(e) -/
theorem ec_pop (hN : S.N[i]? = some x) (hv : Vis S.sc x) (hΓ : Γ[i]? = some (.inv A I)) (h : EvC S Γ e fun d Γ' => ∃ J, Γ'[i]? = some (.inv A J) ∧ asInt d fun j => ∀ ds, J ds → ∃ n y, ds.length < 100000 ∧ ixN ds.length j = some n ∧ ds[n]? = some y ∧ ∃ I', I' (ds.eraseIdx n) ∧ QC y (Γ'.set i (.inv A I')))
    (hd : (x == ("__debug__" : Str)) = false := by decide) (hcd : (x == ("__classdict__" : Str)) = false := by decide)
    (hbase : ∀ env : Env, attributeBase (.Name x p) "pop" env (eval (.Name x p) env) = eval (.Name x p) env := by intro _; rfl)
    (hfew : ∀ env, ((backTo cpos (starEach [e] env)).all (fun x => !x.1) && (backToKw cpos (keywordEach [] env)).all (fun x => x.1.isSome) && decide ([e].length + ([] : List Keyword).length + (if ([] : List Keyword).isEmpty then 0 else 1) < 30)) = true := by intro _; rfl)
    (hline : (apos.endLine == cpos.line) = true := by rfl) (hs : ∀ env, starEach [e] env = (false, eval e env) :: starEach [] env := by intro _; rfl) (hpl : ∀ env, (backTo cpos (starEach [] env)).any (·.1) = false := by intro _; rfl) :
    EvC S Γ (.Call (.Attribute (.Name x p) "pop" apos) [e] [] cpos) QC := fun PX σ H Hf k st hk => by
  refine ⟨tBM S.K "list" rPopAt (tVar i) (tCons (tU S e) tNil), fun X ok => ?_, ?_⟩
  · have z := pe_bm (X := X) (cpos := cpos) (apos := apos) PySem.F.plainAttrs_list PySem.F.slot_list_pop (by first | rfl | decide +kernel | kernel_rfl) mt_popAt (pe_var (pos := p) (i := i) (by rw [ok.N]; exact hN) (by rw [ok.sc]; exact hv) hd hcd) (pa_cons (pu (e := e) ok) pa_nil (hs _)) (hbase _) (hfew _) hline (hs _) (hpl _)
    rw [ok.K] at z; exact z
  obtain ⟨_, _, vs, ds, hA, rr, hI⟩ := st.own hΓ
  refine ⟨.ref A, slot_of st hΓ, .inl ⟨rfl, vs, SqL.of hA⟩, ?_⟩
  refine h PX σ H Hf _ st fun d v Γ' Hf1 H1 e1 s1 r ⟨J, hJ, q1⟩ => ?_
  obtain ⟨j, rfl, q1⟩ := asInt_ q1
  have e' : v = .int j := r
  subst e'
  obtain ⟨_, _, vs, ds, hA, rr, hI⟩ := s1.own hJ
  obtain ⟨n, y, hl, h1, h2, I', q4, q5⟩ := q1 ds hI
  obtain ⟨u, h3, h4⟩ := rr.get h2
  have hs := ixN_seq h1
  refine ⟨A, vs, j, n, u, rfl, rfl, hA, by omega, by omega, by rw [rr.len]; exact hs.1, h3, ?_⟩
  exact hk y u _ Hf1 _ e1 (s1.put hJ (rr.erase n) q4) h4 q5
/-- len(x), x a list of the def's own -/
theorem ev_lenO (hN : S.N[i]? = some x) (hv : Vis S.sc x) (hΓ : Γ[i]? = some (.inv A I)) (hg : GlS S "len") (hm : S.mg "len" = none) (q : ∀ ds, I ds → Q (.int ds.length))
    (hd : (x == ("__debug__" : Str)) = false := by decide) (hcd : (x == ("__classdict__" : Str)) = false := by decide) (hs : ∀ env, starEach [Expr.Name x p] env = (false, eval (.Name x p) env) :: starEach [] env := by intro _; rfl) (hpl : ∀ env, (backTo pos (starEach [] env)).any (·.1) = false := by intro _; rfl) :
    EvE S Γ (.Call (.Name "len" p2) [.Name x p] [] pos) Q :=
  ev_of (t := tCB (fun xs H Q => ∃ p ys, xs = [.ref p] ∧ (SqL S.K H p ys ∨ SqT S.K H p ys) ∧ Q (.int ys.length) H) (tCons (tVar i) tNil)) (fun X ok => by
    have z := pe_callB (p := p2) (pos := pos) (call_len_seq (X := X)) (hg.gl ok) (by rw [ok.mg]; exact hm) bt_len (pa_cons (pe_var (pos := p) (i := i) (by rw [ok.N]; exact hN) (by rw [ok.sc]; exact hv) hd hcd) pa_nil (hs _)) (by decide) (by decide) (hs _) (hpl _)
    rw [ok.K] at z; exact z) fun PX σ H Hf k st hk => by
    obtain ⟨_, _, vs, ds, hA, rr, hI⟩ := st.own hΓ
    exact ⟨.ref A, slot_of st hΓ, A, vs, rfl, .inl (SqL.of hA), hk (.int ds.length) _ Hf H (Sub.refl _) st (by rw [rr.len]; rfl) (q ds hI)⟩
/-! list(..) -/
def rListStr : List V → Hp → VK → Prop := fun xs H Q => ∃ z, xs = [.str z] ∧ z.length ≤ sizeLine ∧ ∀ l, H l = none → Q (.ref l) (upd H l (.lst (z.cps.toList.map fun c => V.str ⟨#[c]⟩)))
theorem call_listStr {X : Cx} (hc : X.calm = true) : CallR X (.type "list") rListStr := by
  intro pins s σ H xs us Q I r h
  obtain ⟨z, rfl, hz, q⟩ := h
  obtain ⟨u, rfl, t, rfl⟩ := vals1 r
  refine PySem.call_list_str (I.ok.hd hc) z t (fun h' tk acc' c' hk hS' hacc => ?_) hz
  refine ⟨.ref s.heap.objs.size, _, I.laid (t' := tk) hk (Nat.le_refl _) (show ObjOk X.prog X.w _ _ _ (.lst (z.cps.toList.map fun c => V.str ⟨#[c]⟩)) from ⟨by rw [List.length_map, Array.length_toList]; exact hz, acc'.toList, c', ?_, by rw [Array.toArray_toList]; exact hS'⟩), rfl, q _ I.fresh⟩
  have hl : acc'.toList.length = z.cps.size := by rw [Array.length_toList]; exact hacc.1
  have e : (z.cps.toList.map fun c => V.str ⟨#[c]⟩) = (List.range acc'.toList.length).map fun i => V.str ⟨#[z.cps.getD i 0]⟩ := by
    refine List.ext_getElem? fun i => ?_
    rw [List.getElem?_map, List.getElem?_map, Array.getElem?_toList]
    by_cases h : i < z.cps.size
    · rw [List.getElem?_range (by rw [hl]; exact h), Array.getElem?_eq_getElem h]
      show some (V.str ⟨#[z.cps[i]]⟩) = some (V.str ⟨#[z.cps.getD i 0]⟩)
      rw [Array.getD_eq_getD_getElem?, Array.getElem?_eq_getElem h]; rfl
    · rw [List.getElem?_eq_none (by rw [List.length_range, hl]; omega), Array.getElem?_eq_none (by omega)]; rfl
  rw [e]
  refine vals_of_get acc'.toList _ fun j u hj => ?_
  obtain ⟨c, t, h1, rfl⟩ := hacc.2 j u (by rw [← hj, Array.getElem?_toList])
  refine ⟨t, ?_⟩
  rw [Array.getD_eq_getD_getElem?, h1]; rfl
@[reducible] def listQ (d : Da) (QN : List Da → Prop) : Prop := match d with
  | .lst xs => QN xs
  | .tup xs => QN xs
  | .str z => z.length ≤ 100000 ∧ QN (chars z)
  | _ => False
theorem reps_chars {K : PySem.W.Frag} {H : Hp} : ∀ l : List Nat, Reps K H (l.map fun c => Da.str ⟨#[c]⟩) (l.map fun c => V.str ⟨#[c]⟩)
  | [] => rfl
  | c :: l => ⟨_, _, rfl, rfl, reps_chars l⟩
theorem en_list (hg : GlS S "list") (hm : S.mg "list" = none) (h : EvE S Γ a fun d => listQ d QN) (hs : ∀ env, starEach [a] env = (false, eval a env) :: starEach [] env := by intro _; rfl) (hpl : ∀ env, (backTo pos (starEach [] env)).any (·.1) = false := by intro _; rfl) :
    EvN S Γ (.Call (.Name "list" p) [a] [] pos) QN :=
  en_of (t := tCB (fun xs H Q => (∃ p ys, xs = [.ref p] ∧ (SqL S.K H p ys ∨ SqT S.K H p ys) ∧ ∀ l, H l = none → Q (.ref l) (upd H l (.lst ys))) ∨ rListStr xs H Q) (tCons (tU S a) tNil)) (fun X ok => by
      have z := pe_callTy (X := X) (p := p) (pos := pos) (CallR.or call_list_of (call_listStr ok.calm)) (hg.gl ok) (by rw [ok.mg]; exact hm) bt_list (pa_cons (pu (e := a) ok) pa_nil (hs _)) (by decide) (by decide) (hs _) (hpl _)
      rw [ok.K] at z; exact z) fun PX σ H Hf k st hk => by
    refine h PX σ H Hf _ st fun d v Hf1 H1 e1 st1 r q0 => ?_
    have q : listQ d QN := q0
    unfold listQ at q
    split at q
    · rename_i ds
      obtain ⟨l, xs, rfl, s1, r1⟩ := r.lst_
      exact .inl ⟨l, xs, rfl, .inl (st1.ex.sl s1), fun n hn => hk n ds xs Hf1 _ e1 (st1.px.free hn) (st1.fresh0 hn) (st1.opn hn) (st1.frame hn) r1 q⟩
    · rename_i ds
      obtain ⟨l, xs, rfl, s1, r1⟩ := r.tup_
      exact .inl ⟨l, xs, rfl, .inr (st1.ex.st s1), fun n hn => hk n ds xs Hf1 _ e1 (st1.px.free hn) (st1.fresh0 hn) (st1.opn hn) (st1.frame hn) r1 q⟩
    · rename_i z
      exact .inr ⟨z, congrArg (· :: []) (show v = .str z from r), Nat.le_trans q.1 (by decide : 100000 ≤ sizeLine), fun n hn => hk n (chars z) _ Hf1 _ e1 (st1.px.free hn) (st1.fresh0 hn) (st1.opn hn) (st1.frame hn) (reps_chars _) q.2⟩
    · exact q.elim
theorem reps_rg {K : PySem.W.Frag} {H : Hp} (lo : Int) : ∀ l : List Nat, Reps K H (l.map fun i : Nat => Da.int (lo + (i : Int))) (l.map fun i : Nat => V.int (lo + (i : Int)))
  | [] => rfl
  | c :: l => ⟨_, _, rfl, rfl, reps_rg lo l⟩
theorem en_listRg {p3 p4 : Pos} (hg : GlS S "list") (hm : S.mg "list" = none) (hg2 : GlS S "range") (hm2 : S.mg "range" = none) (h : EvE S Γ a fun d => EvE S Γ b fun d' => asInt d fun i => asInt d' fun j => RgOk i j ∧ QN (rngD i (j - i).toNat))
    (hs : ∀ env, starEach [a, b] env = (false, eval a env) :: starEach [b] env := by intro _; rfl) (hs2 : ∀ env, starEach [b] env = (false, eval b env) :: starEach [] env := by intro _; rfl) (hpl : ∀ env, (backTo p3 (starEach [b] env)).any (·.1) = false := by intro _; rfl)
    (hs3 : ∀ env, starEach [Expr.Call (.Name "range" p4) [a, b] [] p3] env = (false, eval (.Call (.Name "range" p4) [a, b] [] p3) env) :: starEach [] env := by intro _; rfl) :
    EvN S Γ (.Call (.Name "list" p) [.Call (.Name "range" p4) [a, b] [] p3] [] pos) QN :=
  en_of (fun X ok => pe_listRg ok.calm (hg.gl ok) (by rw [ok.mg]; exact hm) (prg_2 (hg2.gl ok) (by rw [ok.mg]; exact hm2) (pu ok) (pu ok) (hs _) (hs2 _) (hpl _)) (hs3 _)) fun PX σ H Hf k st hk =>
    h PX σ H Hf _ st fun d v Hf1 H1 e1 st1 r q => q PX σ H1 Hf1 _ st1 fun d' v' Hf2 H2 e2 st2 r' q => by
    obtain ⟨i, rfl, q1⟩ := asInt_ q
    obtain ⟨j, rfl, q2⟩ := asInt_ q1
    have r1 : v = .int i := r
    have r2 : v' = .int j := r'
    subst r1; subst r2
    exact ⟨i, j, rfl, rfl, q2.1, fun n hn => hk n _ _ Hf2 _ (e1.trans e2) (st2.px.free hn) (st2.fresh0 hn) (st2.opn hn) (st2.frame hn) (reps_rg i _) q2.2⟩
/-- a tuple of texts of the module -/
theorem reps_strs {K : PySem.W.Frag} {H : Hp} : ∀ ws : List Str, Reps K H (ws.map Da.str) (ws.map V.str)
  | [] => rfl
  | _ :: ws => ⟨_, _, rfl, rfl, reps_strs ws⟩
def ConT (K : PySem.W.Frag) (mg : Str → Option Value) (x : Str) (ws : List Str) : Prop := ∃ a, mg x = some (.ref a) ∧ ∀ H : Hp, SqT K H a (ws.map V.str)
theorem ev_conT {ws : List Str} (hc : ConT S.K S.mg x ws) (hg : GlS S x) (q : Q (.tup (ws.map Da.str))) (hd : (x == ("__debug__" : Str)) = false := by decide) : EvE S Γ (.Name x pos) Q := by
  obtain ⟨a, h1, h2⟩ := hc
  exact ev_glob (d := .tup (ws.map .str)) (v := .ref a) hg h1 rfl (fun H => ⟨a, _, rfl, h2 H, reps_strs ws⟩) q hd
def ConS (mg : Str → Option Value) (x : Str) (z : Str) : Prop := ∃ t, mg x = some (.str z t)
theorem ev_conS {z : Str} (hc : ConS S.mg x z) (hg : GlS S x) (q : Q (.str z)) (hd : (x == ("__debug__" : Str)) = false := by decide) : EvE S Γ (.Name x pos) Q := by
  obtain ⟨t, h1⟩ := hc
  exact ev_glob (d := .str z) (v := .str z) hg h1 ⟨t, rfl⟩ (fun H => rfl) q hd
end
end GX

namespace GX
open PySem PySem.Spec PyProof.Rows L2
/-- a tuple of texts among the kept objects -/
def TupO (o : Obj) (ws : List Str) : Prop := ∃ (its : Array Value) (n : Nat), o.cls = .type "tuple" ∧ o.data = .seq its n ∧ its.size ≤ 1000 ∧ Vals (ws.map V.str) its.toList
theorem tupO_by {o : Obj} {its : Array Value} {n : Nat} {ws : List Str} (h1 : o.cls = .type "tuple") (h2 : o.data = .seq its n) (h3 : Nat.ble its.size 1000 = true) (h4 : Vals (ws.map V.str) its.toList) : TupO o ws := ⟨its, n, h1, h2, Nat.le_of_ble_eq_true h3, h4⟩
theorem conT_of {K : PySem.W.Frag} {mg : Str → Option Value} {x : Str} {a : Addr} {o : Obj} {ws : List Str} (h : mg x = some (.ref a)) (l : K.lookup a = some o) (v : TupO o ws) : ConT K mg x ws := by
  obtain ⟨its, n, h1, h2, h3, h4⟩ := v
  exact ⟨a, h, fun H => .inr ⟨o, its, n, l, h1, h2, Nat.le_trans h3 (by decide), h4⟩⟩
section
variable {S : Sx} {Γ : List Slot} {e a b c tg : Expr} {Q : Da → Prop} {p pos p2 apos cpos spos : Pos} {x y : Str} {i j : Nat} {D : EnG}
/-- two plain names at once, lists of the def's own among them -/
theorem es_parNN {py pt pt2 : Pos} {kt k2} (hN : S.N[i]? = some x) (hM : S.N[j]? = some y) (hij : i ≠ j) (hx : S.sc.names.lookup x = some .local) (hy : S.sc.names.lookup y = some .local) (hxy : x ≠ y)
    (hw : ∀ env : Env, env.scope = S.sc → swappedStores [.Tuple [.Name x p, .Name y py] kt pt] (.Tuple [a, b] k2 pt2) env = pure (some [x, y]))
    (h : EvN S Γ a fun d => EvN S Γ b fun d' => ∀ A, A ∉ S.op.map (·.1) → ∀ B, B ∉ S.op.map (·.1) → D.nx ((Γ.set i (.inv A fun ys => ys = d)).set j (.inv B fun ys => ys = d')))
    (he : ∀ env, starEach [a, b] env = (false, eval a env) :: starEach [b] env := by intro _; rfl) (he2 : ∀ env, starEach [b] env = (false, eval b env) :: starEach [] env := by intro _; rfl)
    (hs : ∀ env, swapsWithSole [.Tuple [.Name x p, .Name y py] kt pt] (.Tuple [a, b] k2 pt2) spos.line env = pure false := by intro _; rfl) :
    EvS S Γ (.Assign [.Tuple [.Name x p, .Name y py] kt pt] (.Tuple [a, b] k2 pt2) spos) D :=
  es_of (fun X ok => ps_par ok.calm (by rw [ok.N]; exact ok.nd) (by rw [ok.N]; exact hN) (by rw [ok.N]; exact hM) hij (by rw [ok.sc]; exact hx) (by rw [ok.sc]; exact hy)
    (pa_cons (pu ok) (pa_cons (pu ok) pa_nil (he2 _)) (he _)) (hw _ ok.sc) (hs _)) fun PX σ H Hf D' s k => h PX σ H Hf _ s fun A ds vs Hf1 H1 e1 hP h0 hop s1 r q => q _ σ H1 Hf1 _ s1 fun B ds' vs' Hf2 H2 e2 hP' h0' hop' s2 r' q2 => by
      have hAB : A ≠ B := fun z => by subst z; rw [upd_same] at hP'; cases hP'
      have s3 := s2.setO (I := fun ys => ys = ds') hP' h0' r' rfl j
      have s4 := s3.setO (I := fun ys => ys = ds) hP h0 (Reps.mono e2 _ _ r) rfl i
      refine ⟨.ref A, .ref B, rfl, k.nx _ _ Hf2 H2 (e1.trans e2) ?_ (q2 A hop B hop')⟩
      rw [List.set_comm _ _ hij, List.set_comm _ _ hij]; exact s4
theorem es_parNE {py pt pt2 : Pos} {kt k2} (hN : S.N[i]? = some x) (hM : S.N[j]? = some y) (hij : i ≠ j) (hx : S.sc.names.lookup x = some .local) (hy : S.sc.names.lookup y = some .local) (hxy : x ≠ y)
    (hw : ∀ env : Env, env.scope = S.sc → swappedStores [.Tuple [.Name x p, .Name y py] kt pt] (.Tuple [a, b] k2 pt2) env = pure (some [x, y]))
    (h : EvN S Γ a fun d => EvE S Γ b fun d' => ∀ A, A ∉ S.op.map (·.1) → D.nx ((Γ.set i (.inv A fun ys => ys = d)).set j (.dat d')))
    (he : ∀ env, starEach [a, b] env = (false, eval a env) :: starEach [b] env := by intro _; rfl) (he2 : ∀ env, starEach [b] env = (false, eval b env) :: starEach [] env := by intro _; rfl)
    (hs : ∀ env, swapsWithSole [.Tuple [.Name x p, .Name y py] kt pt] (.Tuple [a, b] k2 pt2) spos.line env = pure false := by intro _; rfl) :
    EvS S Γ (.Assign [.Tuple [.Name x p, .Name y py] kt pt] (.Tuple [a, b] k2 pt2) spos) D :=
  es_of (fun X ok => ps_par ok.calm (by rw [ok.N]; exact ok.nd) (by rw [ok.N]; exact hN) (by rw [ok.N]; exact hM) hij (by rw [ok.sc]; exact hx) (by rw [ok.sc]; exact hy)
    (pa_cons (pu ok) (pa_cons (pu ok) pa_nil (he2 _)) (he _)) (hw _ ok.sc) (hs _)) fun PX σ H Hf D' s k => h PX σ H Hf _ s fun A ds vs Hf1 H1 e1 hP h0 hop s1 r q => q _ σ H1 Hf1 _ s1 fun d' v' Hf2 H2 e2 s2 r' q2 => by
      have s3 := s2.set r' j
      have s4 := s3.setO (I := fun ys => ys = ds) hP h0 (Reps.mono e2 _ _ r) rfl i
      refine ⟨.ref A, v', rfl, k.nx _ _ Hf2 H2 (e1.trans e2) ?_ (q2 A hop)⟩
      rw [List.set_comm _ _ hij, List.set_comm _ _ hij]; exact s4
theorem es_parEN {py pt pt2 : Pos} {kt k2} (hN : S.N[i]? = some x) (hM : S.N[j]? = some y) (hij : i ≠ j) (hx : S.sc.names.lookup x = some .local) (hy : S.sc.names.lookup y = some .local) (hxy : x ≠ y)
    (hw : ∀ env : Env, env.scope = S.sc → swappedStores [.Tuple [.Name x p, .Name y py] kt pt] (.Tuple [a, b] k2 pt2) env = pure (some [x, y]))
    (h : EvE S Γ a fun d => EvN S Γ b fun d' => ∀ B, B ∉ S.op.map (·.1) → D.nx ((Γ.set i (.dat d)).set j (.inv B fun ys => ys = d')))
    (he : ∀ env, starEach [a, b] env = (false, eval a env) :: starEach [b] env := by intro _; rfl) (he2 : ∀ env, starEach [b] env = (false, eval b env) :: starEach [] env := by intro _; rfl)
    (hs : ∀ env, swapsWithSole [.Tuple [.Name x p, .Name y py] kt pt] (.Tuple [a, b] k2 pt2) spos.line env = pure false := by intro _; rfl) :
    EvS S Γ (.Assign [.Tuple [.Name x p, .Name y py] kt pt] (.Tuple [a, b] k2 pt2) spos) D :=
  es_of (fun X ok => ps_par ok.calm (by rw [ok.N]; exact ok.nd) (by rw [ok.N]; exact hN) (by rw [ok.N]; exact hM) hij (by rw [ok.sc]; exact hx) (by rw [ok.sc]; exact hy)
    (pa_cons (pu ok) (pa_cons (pu ok) pa_nil (he2 _)) (he _)) (hw _ ok.sc) (hs _)) fun PX σ H Hf D' s k => h PX σ H Hf _ s fun d v Hf1 H1 e1 s1 r q => q _ σ H1 Hf1 _ s1 fun B ds' vs' Hf2 H2 e2 hP' h0' hop' s2 r' q2 => by
      have s3 := s2.setO (I := fun ys => ys = ds') hP' h0' r' rfl j
      have s4 := s3.set (Rep.mono e2 _ _ r) i
      refine ⟨v, .ref B, rfl, k.nx _ _ Hf2 H2 (e1.trans e2) ?_ (q2 B hop')⟩
      rw [List.set_comm _ _ hij, List.set_comm _ _ hij]; exact s4
end
/-! lists, again -/
theorem cutD_len {α : Type} {xs : List α} {lo hi : Option Int} : (cutD xs lo hi).length ≤ xs.length := by
  unfold cutD
  rw [List.length_take, List.length_drop]; omega
theorem cut_drop {ds : List Da} {l : Int} (h0 : 0 ≤ l) (h1 : l ≤ ds.length) : cutD ds (some l) none = ds.drop l.toNat := by
  unfold cutD
  have e0 : HT.sIx ds.length ds.length none = ds.length := rfl
  have e1 : HT.sIx ds.length 0 (some l) = l.toNat := by
    show (if l < 0 then (l + (ds.length : Int)).toNat else min l.toNat ds.length) = _
    rw [if_neg (by omega)]; omega
  rw [e0, e1, List.take_of_length_le (by rw [List.length_drop]; omega)]
end GX
namespace GX
open PySem PySem.Spec PyProof.Rows L2
/-- two rows side by side -/
inductive All2 (R : Da → Da → Prop) : List Da → List Da → Prop
  | nil : All2 R [] []
  | cons {x y : Da} {xs ys : List Da} (h : R x y) (t : All2 R xs ys) : All2 R (x :: xs) (y :: ys)
/-- each item gives one of some -/
theorem lcG_rel {step : Da → List Da → (List Da → Prop) → Prop} {R : Da → Da → Prop} : ∀ {ds acc : List Da} {Q : List Da → Prop}, (∀ d acc (k : List Da → Prop), d ∈ ds → (∀ y, R d y → k (acc ++ [y])) → step d acc k) → (∀ ys, All2 R ds ys → Q (acc ++ ys)) → lcG step ds acc Q
  | [], acc, Q, _, q => by have z := q [] .nil; rw [List.append_nil] at z; exact z
  | d :: ds, acc, Q, h, q => h d acc _ List.mem_cons_self fun y r => lcG_rel (fun d' acc' k hd hk => h d' acc' k (List.mem_cons_of_mem _ hd) hk) fun ys t => by
    have z := q (y :: ys) (.cons r t)
    rw [List.append_assoc]; exact z
end GX

namespace GX
open PySem PySem.Spec PyProof.Rows L2
theorem atI_memG {α : Type} {ds : List α} {i : Int} (h0 : 0 ≤ i) (h1 : i < ds.length) : ∃ d, atI ds i = some d ∧ d ∈ ds := by
  have hk : i.toNat < ds.length := by omega
  refine ⟨ds[i.toNat], ?_, List.getElem_mem hk⟩
  unfold atI ixN
  rw [if_pos h0, if_pos h1]
  exact List.getElem?_eq_getElem hk
end GX

namespace GX
theorem cond_x0 {b : Bool} {p q : Prop} (h1 : b = true → p) (h2 : b = false → q) : cond (false ^^ b) p q := by
  cases b with
  | true => exact h1 rfl
  | false => exact h2 rfl
theorem cond_x1 {b : Bool} {p q : Prop} (h1 : b = false → p) (h2 : b = true → q) : cond (true ^^ b) p q := by
  cases b with
  | true => exact h2 rfl
  | false => exact h1 rfl
end GX

namespace LW
open PySem PySem.Spec PyProof.Rows L2 GX
def topS (i : Nat) : Stmt := PySem.Challenge.pw_claimback_k05_whole_worth_by_own_rates.main.body.getD i (.Pass ⟨0, 0, 0, 0⟩)
abbrev s_is_whole : Stmt := topS 9
theorem sc_is_whole : FnScope ["value"] ["value"] (defScope s_is_whole) := ⟨rfl, rfl, rfl, by decide +kernel, rfl, by decide +kernel, by decide +kernel⟩
abbrev s_is_number : Stmt := topS 10
theorem sc_is_number : FnScope ["value", "low", "high"] ["value", "low", "high"] (defScope s_is_number) := ⟨rfl, rfl, rfl, by decide +kernel, rfl, by decide +kernel, by decide +kernel⟩
abbrev s_is_tuple_of : Stmt := topS 11
theorem sc_is_tuple_of : FnScope ["value", "many"] ["value", "many"] (defScope s_is_tuple_of) := ⟨rfl, rfl, rfl, by decide +kernel, rfl, by decide +kernel, by decide +kernel⟩
abbrev s_is_letters : Stmt := topS 13
theorem sc_is_letters : FnScope ["value", "least", "most", "letter"] ["value", "least", "most"] (defScope s_is_letters) := ⟨rfl, rfl, rfl, by decide +kernel, rfl, by decide +kernel, by decide +kernel⟩
abbrev s_is_name : Stmt := topS 14
theorem sc_is_name : FnScope ["value"] ["value"] (defScope s_is_name) := ⟨rfl, rfl, rfl, by decide +kernel, rfl, by decide +kernel, by decide +kernel⟩
abbrev s_is_ascending : Stmt := topS 12
theorem sc_is_ascending : FnScope ["values", "one", "two"] ["values"] (defScope s_is_ascending) := ⟨rfl, rfl, rfl, by decide +kernel, rfl, by decide +kernel, by decide +kernel⟩
abbrev s_is_rate : Stmt := topS 23
theorem sc_is_rate : FnScope ["value"] ["value"] (defScope s_is_rate) := ⟨rfl, rfl, rfl, by decide +kernel, rfl, by decide +kernel, by decide +kernel⟩
abbrev s_is_money : Stmt := topS 24
theorem sc_is_money : FnScope ["value", "rate"] ["value"] (defScope s_is_money) := ⟨rfl, rfl, rfl, by decide +kernel, rfl, by decide +kernel, by decide +kernel⟩
abbrev s_rate_on : Stmt := topS 26
theorem sc_rate_on : FnScope ["money", "day", "rate"] ["money", "day"] (defScope s_rate_on) := ⟨rfl, rfl, rfl, by decide +kernel, rfl, by decide +kernel, by decide +kernel⟩
abbrev s_worth_of : Stmt := topS 27
theorem sc_worth_of : FnScope ["money", "day", "units", "num", "den"] ["money", "day", "units"] (defScope s_worth_of) := ⟨rfl, rfl, rfl, by decide +kernel, rfl, by decide +kernel, by decide +kernel⟩
abbrev s_check_money : Stmt := topS 25
theorem sc_check_money : FnScope ["value"] ["value"] (defScope s_check_money) := ⟨rfl, rfl, rfl, by decide +kernel, rfl, by decide +kernel, by decide +kernel⟩
abbrev s_check_amount : Stmt := topS 18
theorem sc_check_amount : FnScope ["value"] ["value"] (defScope s_check_amount) := ⟨rfl, rfl, rfl, by decide +kernel, rfl, by decide +kernel, by decide +kernel⟩
abbrev s_check_day : Stmt := topS 19
theorem sc_check_day : FnScope ["value"] ["value"] (defScope s_check_day) := ⟨rfl, rfl, rfl, by decide +kernel, rfl, by decide +kernel, by decide +kernel⟩
abbrev s_worth : Stmt := topS 28
theorem sc_worth : FnScope ["money", "day", "units"] ["money", "day", "units"] (defScope s_worth) := ⟨rfl, rfl, rfl, by decide +kernel, rfl, by decide +kernel, by decide +kernel⟩
abbrev s__law_well : Stmt := topS 30
theorem sc__law_well : FnScope ["script", "lap", "stirred", "cell", "own"] ["script", "lap"] (defScope s__law_well) := ⟨rfl, rfl, rfl, by decide +kernel, rfl, by decide +kernel, by decide +kernel⟩
abbrev s__law_draw : Stmt := topS 31
theorem sc__law_draw : FnScope ["well", "limit", "figure", "mixed"] ["well", "limit"] (defScope s__law_draw) := ⟨rfl, rfl, rfl, by decide +kernel, rfl, by decide +kernel, by decide +kernel⟩
abbrev s__law_of : Stmt := topS 32
theorem sc__law_of : FnScope ["well", "some"] ["well", "some"] (defScope s__law_of) := ⟨rfl, rfl, rfl, by decide +kernel, rfl, by decide +kernel, by decide +kernel⟩
abbrev s__law_unlike : Stmt := topS 33
theorem sc__law_unlike : FnScope ["well", "some", "many", "left", "turn"] ["well", "some", "many"] (defScope s__law_unlike) := ⟨rfl, rfl, rfl, by decide +kernel, rfl, by decide +kernel, by decide +kernel⟩
abbrev s__law_is : Stmt := topS 34
theorem sc__law_is : FnScope ["told", "due"] ["told", "due"] (defScope s__law_is) := ⟨rfl, rfl, rfl, by decide +kernel, rfl, by decide +kernel, by decide +kernel⟩
abbrev s__law_words : Stmt := topS 35
theorem sc__law_words : FnScope ["some"] [] (defScope s__law_words) := ⟨rfl, rfl, rfl, by decide +kernel, rfl, by decide +kernel, by decide +kernel⟩
abbrev s__law_names : Stmt := topS 36
theorem sc__law_names : FnScope ["well", "many", "found", "letters", "letter", "name", "turn"] ["well", "many"] (defScope s__law_names) := ⟨rfl, rfl, rfl, by decide +kernel, rfl, by decide +kernel, by decide +kernel⟩
abbrev s__law_money : Stmt := topS 37
theorem sc__law_money : FnScope ["well", "days", "top", "day"] ["well"] (defScope s__law_money) := ⟨rfl, rfl, rfl, by decide +kernel, rfl, by decide +kernel, by decide +kernel⟩
abbrev s__law_force : Stmt := topS 38
theorem sc__law_force : FnScope ["money", "day", "rate"] ["money", "day"] (defScope s__law_force) := ⟨rfl, rfl, rfl, by decide +kernel, rfl, by decide +kernel, by decide +kernel⟩
abbrev s__law_none : Stmt := topS 39
theorem sc__law_none : FnScope ["well", "money", "name", "rates", "at", "day", "top", "bottom", "some", "wrongs", "other"] ["well", "money"] (defScope s__law_none) := ⟨rfl, rfl, rfl, by decide +kernel, rfl, by decide +kernel, by decide +kernel⟩
abbrev s__law_right : Stmt := topS 40
theorem sc__law_right : FnScope ["well", "turn", "money", "days", "rate", "day", "top", "bottom", "some", "units", "due", "value"] ["well"] (defScope s__law_right) := ⟨rfl, rfl, rfl, by decide +kernel, rfl, by decide +kernel, by decide +kernel⟩
abbrev s_law : Stmt := topS 41
theorem sc_law : FnScope ["script", "lap"] ["script"] (defScope s_law) := ⟨rfl, rfl, rfl, by decide +kernel, rfl, by decide +kernel, by decide +kernel⟩
def w_WORDS : List Str := [("act" : Str), ("alike" : Str), ("all" : Str), ("back" : Str), ("cap" : Str), ("close" : Str), ("day" : Str), ("each" : Str), ("feed" : Str), ("full" : Str), ("hear" : Str), ("home" : Str), ("item" : Str), ("kind" : Str), ("land" : Str), ("level" : Str), ("lot" : Str), ("may" : Str), ("meal" : Str), ("need" : Str), ("no" : Str), ("none" : Str), ("of" : Str), ("office" : Str), ("pay" : Str), ("person" : Str), ("rate" : Str), ("rule" : Str), ("settle" : Str), ("slot" : Str), ("step" : Str), ("sure" : Str), ("twice" : Str), ("wait" : Str), ("with" : Str), ("yes" : Str)]
structure Txt (K : PySem.W.Frag) (mg : Str → Option Value) : Prop where
  m_abs : mg "abs" = none
  m_all : mg "all" = none
  m_bool : mg "bool" = none
  m_divmod : mg "divmod" = none
  m_int : mg "int" = none
  m_isinstance : mg "isinstance" = none
  m_len : mg "len" = none
  m_list : mg "list" = none
  m_max : mg "max" = none
  m_min : mg "min" = none
  m_range : mg "range" = none
  m_repr : mg "repr" = none
  m_str : mg "str" = none
  m_tuple : mg "tuple" = none
  m_zip : mg "zip" = none
  k_SMALL_LETTERS : ConS mg "SMALL_LETTERS" "abcdefghijklmnopqrstuvwxyz"
  k_MOST_IN_NAME : ∃ t, mg "MOST_IN_NAME" = some (.int 8 t)
  k_WORDS : ConT K mg "WORDS" w_WORDS
  k_MOST_AMOUNT : ∃ t, mg "MOST_AMOUNT" = some (.int 10000000000000 t)
  k_LAST_DAY : ∃ t, mg "LAST_DAY" = some (.int 999 t)
  k_MOST_RATES : ∃ t, mg "MOST_RATES" = some (.int 6 t)
  k_MOST_TERM : ∃ t, mg "MOST_TERM" = some (.int 1000000 t)
  d_is_whole : Def K mg "is_whole" s_is_whole
  d_is_number : Def K mg "is_number" s_is_number
  d_is_tuple_of : Def K mg "is_tuple_of" s_is_tuple_of
  d_is_letters : Def K mg "is_letters" s_is_letters
  d_is_name : Def K mg "is_name" s_is_name
  d_is_ascending : Def K mg "is_ascending" s_is_ascending
  d_is_rate : Def K mg "is_rate" s_is_rate
  d_is_money : Def K mg "is_money" s_is_money
  d_rate_on : Def K mg "rate_on" s_rate_on
  d_worth_of : Def K mg "worth_of" s_worth_of
  d_check_money : Def K mg "check_money" s_check_money
  d_check_amount : Def K mg "check_amount" s_check_amount
  d_check_day : Def K mg "check_day" s_check_day
  d_worth : Def K mg "worth" s_worth
  d__law_well : Def K mg "_law_well" s__law_well
  d__law_draw : Def K mg "_law_draw" s__law_draw
  d__law_of : Def K mg "_law_of" s__law_of
  d__law_unlike : Def K mg "_law_unlike" s__law_unlike
  d__law_is : Def K mg "_law_is" s__law_is
  d__law_words : Def K mg "_law_words" s__law_words
  d__law_names : Def K mg "_law_names" s__law_names
  d__law_money : Def K mg "_law_money" s__law_money
  d__law_force : Def K mg "_law_force" s__law_force
  d__law_none : Def K mg "_law_none" s__law_none
  d__law_right : Def K mg "_law_right" s__law_right
  d_law : Def K mg "law" s_law
section
variable {P : Program} {w : World} {K : PySem.W.Frag} {mg : Str → Option Value} {base : Heap}
theorem c_SMALL_LETTERS {S : Sx} {Γ : List Slot} {Q : Da → Prop} {pos : Pos} (T : Txt S.K S.mg) (hg : GlS S "SMALL_LETTERS") (q : Q (.str "abcdefghijklmnopqrstuvwxyz")) : EvE S Γ (.Name "SMALL_LETTERS" pos) Q := ev_conS T.k_SMALL_LETTERS hg q
theorem c_MOST_IN_NAME {S : Sx} {Γ : List Slot} {Q : Da → Prop} {pos : Pos} (T : Txt S.K S.mg) (hg : GlS S "MOST_IN_NAME") (q : Q (.int 8)) : EvE S Γ (.Name "MOST_IN_NAME" pos) Q := by
  obtain ⟨t, h⟩ := T.k_MOST_IN_NAME
  exact ev_glob (d := .int 8) (v := .int 8) hg h ⟨t, rfl⟩ (fun _ => rfl) q
theorem c_WORDS {S : Sx} {Γ : List Slot} {Q : Da → Prop} {pos : Pos} (T : Txt S.K S.mg) (hg : GlS S "WORDS") (q : Q (.tup (w_WORDS.map Da.str))) : EvE S Γ (.Name "WORDS" pos) Q := ev_conT T.k_WORDS hg q
theorem c_MOST_AMOUNT {S : Sx} {Γ : List Slot} {Q : Da → Prop} {pos : Pos} (T : Txt S.K S.mg) (hg : GlS S "MOST_AMOUNT") (q : Q (.int 10000000000000)) : EvE S Γ (.Name "MOST_AMOUNT" pos) Q := by
  obtain ⟨t, h⟩ := T.k_MOST_AMOUNT
  exact ev_glob (d := .int 10000000000000) (v := .int 10000000000000) hg h ⟨t, rfl⟩ (fun _ => rfl) q
theorem c_LAST_DAY {S : Sx} {Γ : List Slot} {Q : Da → Prop} {pos : Pos} (T : Txt S.K S.mg) (hg : GlS S "LAST_DAY") (q : Q (.int 999)) : EvE S Γ (.Name "LAST_DAY" pos) Q := by
  obtain ⟨t, h⟩ := T.k_LAST_DAY
  exact ev_glob (d := .int 999) (v := .int 999) hg h ⟨t, rfl⟩ (fun _ => rfl) q
theorem c_MOST_RATES {S : Sx} {Γ : List Slot} {Q : Da → Prop} {pos : Pos} (T : Txt S.K S.mg) (hg : GlS S "MOST_RATES") (q : Q (.int 6)) : EvE S Γ (.Name "MOST_RATES" pos) Q := by
  obtain ⟨t, h⟩ := T.k_MOST_RATES
  exact ev_glob (d := .int 6) (v := .int 6) hg h ⟨t, rfl⟩ (fun _ => rfl) q
theorem c_MOST_TERM {S : Sx} {Γ : List Slot} {Q : Da → Prop} {pos : Pos} (T : Txt S.K S.mg) (hg : GlS S "MOST_TERM") (q : Q (.int 1000000)) : EvE S Γ (.Name "MOST_TERM" pos) Q := by
  obtain ⟨t, h⟩ := T.k_MOST_TERM
  exact ev_glob (d := .int 1000000) (v := .int 1000000) hg h ⟨t, rfl⟩ (fun _ => rfl) q
/-! whole numbers, bounds -/
@[reducible] def isWh (d : Da) : Bool := match d with | .int _ => true | _ => false
@[reducible] def isBd (d : Da) : Bool := match d with | .int _ => true | .non => true | _ => false
@[reducible] def loOk (lo : Da) (i : Int) : Bool := match lo with | .int l => decide (l ≤ i) | _ => true
@[reducible] def hiOk (hi : Da) (i : Int) : Bool := match hi with | .int h => decide (i ≤ h) | _ => true
@[reducible] def numOk (d lo hi : Da) : Bool := match d with | .int i => loOk lo i && hiOk hi i | _ => false
theorem wh_int {d : Da} (h : isWh d = true) : ∃ i, d = .int i := by cases d <;> first | exact ⟨_, rfl⟩ | cases h
theorem numOk_of {i l h : Int} (h1 : l ≤ i) (h2 : i ≤ h) : numOk (.int i) (.int l) (.int h) = true := by
  show (decide (l ≤ i) && decide (i ≤ h)) = true
  rw [decide_eq_true h1, decide_eq_true h2]; rfl
@[reducible] def q_is_whole : Fd := fun ds q _ => as1 ds fun d => d.known = true ∧ q (.bl (isWh d))
@[reducible] def q_is_number : Fd := fun ds q _ => as3 ds fun d lo hi => d.known = true ∧ isBd lo = true ∧ isBd hi = true ∧ q (.bl (numOk d lo hi))
theorem ok_is_whole (T : Txt K mg) : Cal P w K mg base "is_whole" "is_whole" s_is_whole 1 ["value"] (SpD K q_is_whole) := by
  refine calD T.d_is_whole sc_is_whole (fun _ _ _ _ _ _ us hl => match us, hl with | [_], _ => rfl) (fun ds q er h => as1_len h) fun F0 H0 ds q er h => ?_
  obtain ⟨value, rfl, h⟩ := as1_ h
  obtain ⟨hk, hq⟩ := h
  refine eb_cons (es_ret (ops0 rfl) ?_)
  refine ev_and ?_
  refine ev_callB c_isInt rfl T.m_isinstance bt_isinstance ?_
  refine ea_cons ?_
  refine ev_var (i := 0) rfl (.inl rfl) rfl ?_
  refine ea_cons ?_
  refine ev_bltn (n := "int") rfl T.m_int bt_int ?_
  refine ea_nil ?_
  refine ⟨rfl, by first | rfl | assumption, ?_⟩
  cases value <;> first | cases hk | skip
  case bl => 
    refine ev_one ?_
    refine ev_not ?_
    refine ev_callB c_isBool rfl T.m_isinstance bt_isinstance ?_
    refine ea_cons ?_
    refine ev_var (i := 0) rfl (.inl rfl) rfl ?_
    refine ea_cons ?_
    refine ev_bltn (n := "bool") rfl T.m_bool bt_bool ?_
    refine ea_nil ?_
    refine ⟨rfl, by first | rfl | assumption, ?_⟩
    exact hq
  case int => 
    refine ev_one ?_
    refine ev_not ?_
    refine ev_callB c_isBool rfl T.m_isinstance bt_isinstance ?_
    refine ea_cons ?_
    refine ev_var (i := 0) rfl (.inl rfl) rfl ?_
    refine ea_cons ?_
    refine ev_bltn (n := "bool") rfl T.m_bool bt_bool ?_
    refine ea_nil ?_
    refine ⟨rfl, by first | rfl | assumption, ?_⟩
    exact hq
  all_goals exact hq
theorem ok_is_number (T : Txt K mg) : Cal P w K mg base "is_number" "is_number" s_is_number 2 ["value", "low", "high"] (SpD K q_is_number) := by
  refine calD T.d_is_number sc_is_number (fun _ _ _ _ _ _ us hl => match us, hl with | [_, _, _], _ => rfl) (fun ds q er h => as3_len h) fun F0 H0 ds q er h => ?_
  obtain ⟨value, low, high, rfl, h⟩ := as3_ h
  obtain ⟨hk, hlo, hhi, hq⟩ := h
  refine eb_cons (EvS.cut (fun Γ' => Γ' = st0 [value, low, high] 3 ∧ ∃ i, value = .int i ∧ loOk low i = true) ?_ ?_)
  · refine es_if ?_
    refine et_w ?_
    refine ew_or ?_
    refine et_not ?_
    refine et_val ?_
    refine ev_call (ok_is_whole T) (Nat.le_of_ble_eq_true rfl) rfl (ops0 rfl) ?_
    refine ea_cons ?_
    refine ev_var (i := 0) rfl (.inl rfl) rfl ?_
    refine ea_nil ?_
    refine ⟨by first | rfl | assumption, ?_⟩
    refine cond_nb (fun c => ?_) (fun c => ?_)
    · refine eb_cons (es_ret (ops0 rfl) ?_)
      refine ev_bl ?_
      have e : numOk value low high = false := by cases value <;> first | rfl | cases c
      rw [e] at hq; exact hq
    obtain ⟨i, rfl⟩ := wh_int c
    refine ew_or1 ?_
    refine et_w ?_
    refine ew_and ?_
    refine et_cmp g_isnot ?_
    refine ev_var (i := 1) rfl (.inl rfl) rfl ?_
    refine ev_non ?_
    refine ⟨rfl, ?_⟩
    cases low with
    | non =>
      refine eb_nil ?_
      exact ⟨rfl, i, rfl, rfl⟩
    | int l =>
      refine ew_and1 ?_
      refine et_cmp g_lt ?_
      refine ev_var (i := 0) rfl (.inl rfl) rfl ?_
      refine ev_var (i := 1) rfl (.inl rfl) rfl ?_
      refine cond_dec (fun c => ?_) (fun c => ?_)
      · refine eb_cons (es_ret (ops0 rfl) ?_)
        refine ev_bl ?_
        have e : numOk (.int i) (.int l) high = false := by show (decide (l ≤ i) && _) = false; rw [decide_eq_false (by omega)]; rfl
        rw [e] at hq; exact hq
      · refine eb_nil ?_
        exact ⟨rfl, i, rfl, decide_eq_true (by omega)⟩
    | _ => cases hlo
  · rintro Γ' ⟨rfl, i, rfl, hl⟩
    refine eb_cons (es_ret (ops0 rfl) ?_)
    refine ev_or ?_
    refine ev_cmp g_is ?_
    refine ev_var (i := 2) rfl (.inl rfl) rfl ?_
    refine ev_non ?_
    refine ⟨rfl, ?_⟩
    have e : numOk (.int i) low high = (true && hiOk high i) := by show (loOk low i && hiOk high i) = _; rw [hl]
    rw [e] at hq
    cases high with
    | non => exact hq
    | int j =>
      refine ev_one ?_
      refine ev_cmp g_le ?_
      refine ev_var (i := 0) rfl (.inl rfl) rfl ?_
      refine ev_var (i := 2) rfl (.inl rfl) rfl ?_
      exact hq
    | _ => cases hhi

@[reducible] def tupN (d : Da) (n : Int) : Bool := match d with | .tup xs => decide ((xs.length : Int) = n) | _ => false
theorem tupN_ {d : Da} {n : Int} (h : tupN d n = true) : ∃ xs, d = .tup xs ∧ (xs.length : Int) = n := by
  cases d <;> first | exact ⟨_, rfl, of_decide_eq_true h⟩ | cases h
theorem tup3_ {d : Da} (h : tupN d 3 = true) : ∃ a b c, d = .tup [a, b, c] := by
  obtain ⟨xs, rfl, h2⟩ := tupN_ h
  clear h
  match xs, h2 with
  | [a, b, c], _ => exact ⟨a, b, c, rfl⟩
  | [], h => exact absurd (show (0 : Int) = 3 from h) (by decide)
  | [a], h => exact absurd (show (1 : Int) = 3 from h) (by decide)
  | [a, b], h => exact absurd (show (2 : Int) = 3 from h) (by decide)
  | a :: b :: c :: d :: l, h => exact absurd h (by simp only [List.length_cons]; omega)
theorem tup2_ {d : Da} (h : tupN d 2 = true) : ∃ a b, d = .tup [a, b] := by
  obtain ⟨xs, rfl, h2⟩ := tupN_ h
  clear h
  match xs, h2 with
  | [a, b], _ => exact ⟨a, b, rfl⟩
  | [], h => exact absurd (show (0 : Int) = 2 from h) (by decide)
  | [a], h => exact absurd (show (1 : Int) = 2 from h) (by decide)
  | a :: b :: c :: l, h => exact absurd h (by simp only [List.length_cons]; omega)
theorem tup1_ {d : Da} (h : tupN d 1 = true) : ∃ a, d = .tup [a] := by
  obtain ⟨xs, rfl, h2⟩ := tupN_ h
  clear h
  match xs, h2 with
  | [a], _ => exact ⟨a, rfl⟩
  | [], h => exact absurd (show (0 : Int) = 1 from h) (by decide)
  | a :: b :: l, h => exact absurd h (by simp only [List.length_cons]; omega)
@[reducible] def q_is_tuple_of : Fd := fun ds q _ => as2 ds fun d m => d.known = true ∧ asInt m fun n => q (.bl (tupN d n))
theorem ok_is_tuple_of (T : Txt K mg) : Cal P w K mg base "is_tuple_of" "is_tuple_of" s_is_tuple_of 1 ["value", "many"] (SpD K q_is_tuple_of) := by
  refine calD T.d_is_tuple_of sc_is_tuple_of (fun _ _ _ _ _ _ us hl => match us, hl with | [_, _], _ => rfl) (fun ds q er h => as2_len h) fun F0 H0 ds q er h => ?_
  obtain ⟨value, many, rfl, h⟩ := as2_ h
  obtain ⟨hk, h2⟩ := h
  obtain ⟨n, rfl, hq⟩ := asInt_ h2
  refine eb_cons (es_ret (ops0 rfl) ?_)
  refine ev_and ?_
  refine ev_callB c_isTuple rfl T.m_isinstance bt_isinstance ?_
  refine ea_cons ?_
  refine ev_var (i := 0) rfl (.inl rfl) rfl ?_
  refine ea_cons ?_
  refine ev_bltn (n := "tuple") rfl T.m_tuple bt_tuple ?_
  refine ea_nil ?_
  refine ⟨rfl, by first | rfl | assumption, ?_⟩
  cases value <;> first | cases hk | skip
  case tup xs => 
    refine ev_one ?_
    refine ev_cmp g_eq ?_
    refine ev_callB c_lenD rfl T.m_len bt_len ?_
    refine ea_cons ?_
    refine ev_var (i := 0) rfl (.inl rfl) rfl ?_
    refine ea_nil ?_
    refine ev_var (i := 1) rfl (.inl rfl) rfl ?_
    exact hq
  all_goals exact hq

/-! texts -/
theorem all_bls {f : Da → Bool} (ds : List Da) : ([] : List Da) ++ ds.map (fun d => Da.bl (f d)) = (ds.map f).map Da.bl := by rw [List.nil_append, List.map_map]; rfl
theorem all_id {f : Da → Bool} (ds : List Da) : (ds.map f).all id = ds.all f := by rw [List.all_map]; rfl
def isSm (c : Nat) : Bool := decide (c ∈ ("abcdefghijklmnopqrstuvwxyz" : Str).cps.toList)
@[reducible] def isLet (d : Da) (l m : Int) : Bool := match d with | .str z => decide (l ≤ (z.length : Int)) && decide ((z.length : Int) ≤ m) && z.cps.toList.all isSm | _ => false
abbrev shortS (d : Da) : Prop := ∀ z, d = .str z → z.length ≤ 100000
def chB (d : Da) : Bool := match d with | .str y => (match y.cps.toList with | [c] => isSm c | _ => false) | _ => false
theorem chars_all {z : Str} : (chars z).all chB = z.cps.toList.all isSm := by unfold chars; rw [List.all_map]; rfl
theorem chars_mem {z : Str} {d : Da} (h : d ∈ chars z) : ∃ c, c ∈ z.cps.toList ∧ d = .str ⟨#[c]⟩ := by
  obtain ⟨c, h1, h2⟩ := List.mem_map.mp h
  exact ⟨c, h1, h2.symm⟩
theorem chars_len {z : Str} : (chars z).length = z.length := by unfold chars; rw [List.length_map, Array.length_toList]; rfl
@[reducible] def q_is_letters : Fd := fun ds q _ => as3 ds fun d l m => d.known = true ∧ shortS d ∧ asInt l fun l => asInt m fun m => q (.bl (isLet d l m))
theorem ok_is_letters (T : Txt K mg) : Cal P w K mg base "is_letters" "is_letters" s_is_letters 1 ["value", "least", "most"] (SpD K q_is_letters) := by
  refine calD T.d_is_letters sc_is_letters (fun _ _ _ _ _ _ us hl => match us, hl with | [_, _, _], _ => rfl) (fun ds q er h => as3_len h) fun F0 H0 ds q er h => ?_
  obtain ⟨value, least, most, rfl, h⟩ := as3_ h
  obtain ⟨hk, hs, h2⟩ := h
  obtain ⟨l, rfl, h3⟩ := asInt_ h2
  obtain ⟨m, rfl, hq⟩ := asInt_ h3
  refine eb_cons (es_if ?_)
  refine et_w ?_
  refine ew_or ?_
  refine et_not ?_
  refine et_val ?_
  refine ev_callB c_isStr rfl T.m_isinstance bt_isinstance ?_
  refine ea_cons ?_
  refine ev_var (i := 0) rfl (.inl rfl) rfl ?_
  refine ea_cons ?_
  refine ev_bltn (n := "str") rfl T.m_str bt_str ?_
  refine ea_nil ?_
  refine ⟨rfl, by first | rfl | assumption, ?_⟩
  cases value <;> first | cases hk | skip
  case str z =>
    have hz := hs z rfl
    refine ew_or1 ?_
    refine et_not ?_
    refine et_chain g_le g_le ?_
    refine ev_var (i := 1) rfl (.inl rfl) rfl ?_
    refine ev_callB c_lenD rfl T.m_len bt_len ?_
    refine ea_cons ?_
    refine ev_var (i := 0) rfl (.inl rfl) rfl ?_
    refine ea_nil ?_
    refine ⟨by omega, ?_⟩
    refine cond_dec (fun c1 => ?_) (fun c1 => ?_)
    · refine ev_var (i := 2) rfl (.inl rfl) rfl ?_
      refine cond_ndec (fun c2 => ?_) (fun c2 => ?_)
      · refine eb_cons (es_ret (ops0 rfl) ?_)
        refine ev_bl ?_
        rw [show isLet (.str z) l m = false by show (decide _ && decide _ && _) = false; rw [decide_eq_false c2, Bool.and_false, Bool.false_and]] at hq
        exact hq
      · refine eb_nil ?_
        refine eb_cons (es_ret (ops0 rfl) ?_)
        refine ev_callB c_all rfl T.m_all bt_all ?_
        refine ea_cons ?_
        refine ev_lc (own := [("letter", 3)]) (blkOk_by (N := ["value", "least", "most", "letter"]) (sc := defScope s_is_letters) (by decide +kernel)) (by intro i hi p I; simp only [List.map_cons, List.map_nil, List.mem_cons, List.not_mem_nil, or_false] at hi; rcases hi with rfl <;> first | exact fun z => hno _ _ (Option.some.inj z) | exact fun z => nomatch z) ?_
        refine ei_str ?_
        refine ev_var (i := 0) rfl (.inl rfl) rfl ?_
        refine ⟨by rw [chars_len]; exact hz, ?_⟩
        refine lcG_map (f := fun d => .bl (chB d)) (fun d acc k hd hk => ?_) ?_
        · obtain ⟨c, _, rfl⟩ := chars_mem hd
          refine eg_name (i := 3) rfl (.inl rfl) ?_
          refine ets_nil ?_
          refine ev_cmp g_in ?_
          refine ev_var (i := 3) rfl (.inl rfl) rfl ?_
          refine c_SMALL_LETTERS T rfl ?_
          have e := StrLaws.found_one ("abcdefghijklmnopqrstuvwxyz" : Str) c
          refine (?_ : k (acc ++ [Da.bl (false ^^ !(Builtin.Str.occurrences ("abcdefghijklmnopqrstuvwxyz" : Str) ⟨#[c]⟩ 0 ("abcdefghijklmnopqrstuvwxyz" : Str).length 1).isEmpty)]))
          rw [Bool.false_xor, e]
          exact hk
        refine ea_nil ?_
        refine ⟨_, all_bls _, ?_⟩
        rw [all_id, chars_all]
        rw [show isLet (.str z) l m = z.cps.toList.all isSm by show (decide _ && decide _ && _) = _; rw [decide_eq_true c1, decide_eq_true c2]; rfl] at hq
        exact hq
    · refine eb_cons (es_ret (ops0 rfl) ?_)
      refine ev_bl ?_
      rw [show isLet (.str z) l m = false by show (decide _ && decide _ && _) = false; rw [decide_eq_false c1]; rfl] at hq
      exact hq
  all_goals
    refine eb_cons (es_ret (ops0 rfl) ?_)
    refine ev_bl ?_
    exact hq
@[reducible] def isWord (z : Str) : Bool := (w_WORDS.map Da.str).any fun y => eqF y (.str z)
@[reducible] def isName (d : Da) : Bool := match d with | .str z => isLet (.str z) 1 8 && !isWord z | _ => false
@[reducible] def q_is_name : Fd := fun ds q _ => as1 ds fun d => d.known = true ∧ shortS d ∧ q (.bl (isName d))
theorem words_flat : (w_WORDS.map Da.str).all Da.flat = true := by decide +kernel
theorem ok_is_name (T : Txt K mg) : Cal P w K mg base "is_name" "is_name" s_is_name 2 ["value"] (SpD K q_is_name) := by
  refine calD T.d_is_name sc_is_name (fun _ _ _ _ _ _ us hl => match us, hl with | [_], _ => rfl) (fun ds q er h => as1_len h) fun F0 H0 ds q er h => ?_
  obtain ⟨value, rfl, h⟩ := as1_ h
  obtain ⟨hk, hs, hq⟩ := h
  refine eb_cons (es_ret (ops0 rfl) ?_)
  refine ev_and ?_
  refine ev_call (ok_is_letters T) (Nat.le_of_ble_eq_true rfl) rfl (ops0 rfl) ?_
  refine ea_cons ?_
  refine ev_var (i := 0) rfl (.inl rfl) rfl ?_
  refine ea_cons ?_
  refine ev_int ?_
  refine ea_cons ?_
  refine c_MOST_IN_NAME T rfl ?_
  refine ea_nil ?_
  refine ⟨hk, hs, ?_⟩
  cases value <;> first | cases hk | skip
  case str z =>
    refine cond_b (fun c => ?_) (fun c => ?_)
    · refine ev_one ?_
      refine ev_cmp g_notin ?_
      refine ev_var (i := 0) rfl (.inl rfl) rfl ?_
      refine c_WORDS T rfl ?_
      refine ⟨rfl, words_flat, ?_⟩
      rw [show isName (.str z) = (true ^^ isWord z) by rw [Bool.true_xor]; show (isLet (.str z) 1 8 && !isWord z) = _; rw [show isLet (.str z) 1 8 = true from c]; rfl] at hq
      exact hq
    · rw [show isName (.str z) = false by show (isLet (.str z) 1 8 && !isWord z) = _; rw [show isLet (.str z) 1 8 = false from c]; rfl] at hq
      exact hq
  all_goals exact hq

/-! what shows of data -/
theorem okS_known {d : Da} (h : d.okS) : d.known = true := by cases d <;> first | rfl | (unfold Da.okS at h; exact h.elim)
theorem okSs_mem : ∀ {xs : List Da} {x : Da}, Da.okSs xs → x ∈ xs → x.okS
  | y :: xs, x, h, m => by
    unfold Da.okSs at h
    rcases List.mem_cons.mp m with rfl | m
    · exact h.1
    · exact okSs_mem h.2 m
theorem szs_mem : ∀ {xs : List Da} {x : Da}, x ∈ xs → x.sz ≤ Da.szs xs
  | y :: xs, x, m => by
    unfold Da.szs
    rcases List.mem_cons.mp m with rfl | m
    · omega
    · have := szs_mem m; omega
theorem szs_len : ∀ xs : List Da, xs.length ≤ Da.szs xs
  | [] => Nat.zero_le _
  | y :: xs => by
    unfold Da.szs
    have := szs_len xs
    rw [List.length_cons]; omega
/-- data that can be handed to anything -/
structure Fit (d : Da) : Prop where
  o : d.okS
  s : d.sz ≤ 20000
theorem Fit.k {d : Da} (h : Fit d) : d.known = true := okS_known h.o
theorem Fit.sh {d : Da} (h : Fit d) : shortS d := fun z e => by
  subst e
  have := h.s
  unfold Da.sz at this
  show z.cps.size ≤ 100000
  omega
theorem Fit.tup {xs : List Da} (h : Fit (.tup xs)) {x : Da} (m : x ∈ xs) : Fit x := by
  have h1 := h.o
  have h2 := h.s
  unfold Da.okS at h1
  unfold Da.sz at h2
  have := szs_mem m
  exact ⟨okSs_mem h1 m, by omega⟩
theorem Fit.tupK {d : Da} (h : Fit d) : ∀ xs, d = .tup xs → ∀ x ∈ xs, x.known = true := fun xs e x m => by
  subst e; exact (h.tup m).k
theorem Fit.len {xs : List Da} (h : Fit (.tup xs)) : xs.length ≤ 20000 := by
  have h2 := h.s
  unfold Da.sz at h2
  have := szs_len xs
  omega
/-! numbers that ascend -/
def ascI (ns : List Int) : Bool := (ns.zip (ns.drop 1)).all fun z => decide (z.1 < z.2)
@[reducible] def q_is_ascending : Fd := fun ds q _ => as1 ds fun d => ∃ ns : List Int, d = .lst (ns.map Da.int) ∧ ns.length ≤ 20000 ∧ q (.bl (ascI ns))
def ltD (d : Da) : Bool := match d with | .tup [.int a, .int b] => decide (a < b) | _ => false
theorem cutD_1 {ns : List Int} : cutD (ns.map Da.int) (some 1) none = (ns.drop 1).map Da.int := by
  by_cases h : ns = []
  · subst h; rfl
  · have : 0 < ns.length := List.length_pos_iff.mpr h
    rw [cut_drop (by decide) (by rw [List.length_map]; omega), List.map_drop]; rfl
theorem zip_lt (ns ms : List Int) : (((ns.map Da.int).zip (ms.map Da.int)).map fun z => Da.tup [z.1, z.2]) = (ns.zip ms).map fun z => Da.tup [.int z.1, .int z.2] := by
  rw [List.zip_map, List.map_map]; rfl
theorem ok_is_ascending (T : Txt K mg) : Cal P w K mg base "is_ascending" "is_ascending" s_is_ascending 1 ["values"] (SpD K q_is_ascending) := by
  refine calD T.d_is_ascending sc_is_ascending (fun _ _ _ _ _ _ us hl => match us, hl with | [_], _ => rfl) (fun ds q er h => as1_len h) fun F0 H0 ds q er h => ?_
  obtain ⟨values, rfl, h⟩ := as1_ h
  obtain ⟨ns, rfl, hn, hq⟩ := h
  refine eb_cons (es_ret (ops0 rfl) ?_)
  refine ev_callB c_all rfl T.m_all bt_all ?_
  refine ea_cons ?_
  refine ev_lc (own := [("one", 1), ("two", 2)]) (blkOk_by (N := ["values", "one", "two"]) (sc := defScope s_is_ascending) (by decide +kernel)) (by intro i hi p I; simp only [List.map_cons, List.map_nil, List.mem_cons, List.not_mem_nil, or_false] at hi; rcases hi with rfl | rfl <;> first | exact fun z => hno _ _ (Option.some.inj z) | exact fun z => nomatch z) ?_
  refine ei_zip rfl T.m_zip ?_
  refine ev_var (i := 0) rfl (.inl rfl) rfl ?_
  refine ev_sl ?_
  refine ev_var (i := 0) rfl (.inl rfl) rfl ?_
  refine eo_some ?_
  refine ev_int ?_
  refine eo_none ?_
  dsimp only [slQ, asLst]
  rw [cutD_1, zip_lt]
  refine ⟨by rw [List.length_map, List.length_zip, List.length_drop]; omega, ?_⟩
  refine lcG_map (f := fun d => .bl (ltD d)) (fun d acc k hd hk => ?_) ?_
  · obtain ⟨z, _, rfl⟩ := List.mem_map.mp hd
    refine eg_tup ?_
    refine egs_cons ?_
    refine eg_name (i := 1) rfl (.inl rfl) ?_
    refine egs_cons ?_
    refine eg_name (i := 2) rfl (.inl rfl) ?_
    refine egs_nil ?_
    refine ets_nil ?_
    refine ev_cmp g_lt ?_
    refine ev_var (i := 1) rfl (.inl rfl) rfl ?_
    refine ev_var (i := 2) rfl (.inl rfl) rfl ?_
    exact hk
  refine ea_nil ?_
  refine ⟨_, all_bls _, ?_⟩
  rw [all_id, List.all_map]
  exact hq
/-! moneys -/
@[reducible] def isRate (d : Da) : Bool := match d with | .tup [a, b, c] => numOk a (.int 0) (.int 999) && (numOk b (.int 1) (.int 1000000) && numOk c (.int 1) (.int 1000000)) | _ => false
@[reducible] def rateD (r : Int × Int × Int) : Da := .tup [.int r.1, .int r.2.1, .int r.2.2]
structure RateP (r : Int × Int × Int) : Prop where
  a0 : 0 ≤ r.1
  a1 : r.1 ≤ 999
  b0 : 1 ≤ r.2.1
  b1 : r.2.1 ≤ 1000000
  c0 : 1 ≤ r.2.2
  c1 : r.2.2 ≤ 1000000
theorem numOk_ {d : Da} {l h : Int} (e : numOk d (.int l) (.int h) = true) : ∃ i, d = .int i ∧ l ≤ i ∧ i ≤ h := by
  cases d <;> first | cases e | skip
  rename_i i
  have e' : (decide (l ≤ i) && decide (i ≤ h)) = true := e
  rw [Bool.and_eq_true, decide_eq_true_eq, decide_eq_true_eq] at e'
  exact ⟨i, rfl, e'⟩
theorem isRate_ {d : Da} (h : isRate d = true) : ∃ r, d = rateD r ∧ RateP r := by
  match d, h with
  | .tup [a, b, c], h =>
    have h' : (numOk a (.int 0) (.int 999) && (numOk b (.int 1) (.int 1000000) && numOk c (.int 1) (.int 1000000))) = true := h
    rw [Bool.and_eq_true, Bool.and_eq_true] at h'
    obtain ⟨i, rfl, h1, h2⟩ := numOk_ h'.1
    obtain ⟨j, rfl, h3, h4⟩ := numOk_ h'.2.1
    obtain ⟨k, rfl, h5, h6⟩ := numOk_ h'.2.2
    exact ⟨(i, j, k), rfl, ⟨h1, h2, h3, h4, h5, h6⟩⟩
theorem RateP.is {r : Int × Int × Int} (h : RateP r) : isRate (rateD r) = true := by
  show (numOk _ _ _ && (numOk _ _ _ && numOk _ _ _)) = true
  rw [numOk_of h.a0 h.a1, numOk_of h.b0 h.b1, numOk_of h.c0 h.c1]; rfl
theorem rates_ : ∀ {rs : List Da}, rs.all isRate = true → ∃ l : List (Int × Int × Int), rs = l.map rateD ∧ ∀ r ∈ l, RateP r
  | [], _ => ⟨[], rfl, fun _ h => nomatch h⟩
  | d :: rs, h => by
    rw [List.all_cons, Bool.and_eq_true] at h
    obtain ⟨r, rfl, h1⟩ := isRate_ h.1
    obtain ⟨l, rfl, h2⟩ := rates_ h.2
    exact ⟨r :: l, rfl, fun x hx => by
      rcases List.mem_cons.mp hx with rfl | hx
      · exact h1
      · exact h2 x hx⟩
theorem rates_all {l : List (Int × Int × Int)} (h : ∀ r ∈ l, RateP r) : (l.map rateD).all isRate = true := by
  refine List.all_eq_true.mpr fun d hd => ?_
  obtain ⟨r, hr, rfl⟩ := List.mem_map.mp hd
  exact (h r hr).is
@[reducible] def q_is_rate : Fd := fun ds q _ => as1 ds fun d => d.known = true ∧ (∀ xs, d = .tup xs → ∀ x ∈ xs, x.known = true) ∧ q (.bl (isRate d))
theorem ok_is_rate (T : Txt K mg) : Cal P w K mg base "is_rate" "is_rate" s_is_rate 3 ["value"] (SpD K q_is_rate) := by
  refine calD T.d_is_rate sc_is_rate (fun _ _ _ _ _ _ us hl => match us, hl with | [_], _ => rfl) (fun ds q er h => as1_len h) fun F0 H0 ds q er h => ?_
  obtain ⟨value, rfl, h⟩ := as1_ h
  obtain ⟨hk, hx, hq⟩ := h
  refine eb_cons (es_if ?_)
  refine et_w ?_
  refine ew_or ?_
  refine et_not ?_
  refine et_val ?_
  refine ev_call (ok_is_tuple_of T) (Nat.le_of_ble_eq_true rfl) rfl (ops0 rfl) ?_
  refine ea_cons ?_
  refine ev_var (i := 0) rfl (.inl rfl) rfl ?_
  refine ea_cons ?_
  refine ev_int ?_
  refine ea_nil ?_
  refine ⟨by first | rfl | assumption, ?_⟩
  refine cond_nb (fun c => ?_) (fun c => ?_)
  · refine eb_cons (es_ret (ops0 rfl) ?_)
    refine ev_bl ?_
    have e : isRate value = false := by
      cases value <;> first | rfl | skip
      rename_i xs
      match xs, c with
      | [], _ => rfl
      | [_], _ => rfl
      | [_, _], _ => rfl
      | [_, _, _], c => cases c
      | _ :: _ :: _ :: _ :: _, _ => rfl
    rw [e] at hq; exact hq
  obtain ⟨a, b, p, rfl⟩ := tup3_ c
  have ha : a.known = true := hx _ rfl a (by simp)
  have hb : b.known = true := hx _ rfl b (by simp)
  have hp : p.known = true := hx _ rfl p (by simp)
  refine ew_or1 ?_
  refine et_not ?_
  refine et_val ?_
  refine ev_call (ok_is_number T) (Nat.le_of_ble_eq_true rfl) rfl (ops0 rfl) ?_
  refine ea_cons ?_
  refine ev_ix ?_
  refine ev_var (i := 0) rfl (.inl rfl) rfl ?_
  refine ev_int ?_
  refine ⟨_, rfl, ?_⟩
  refine ea_cons ?_
  refine ev_int ?_
  refine ea_cons ?_
  refine c_LAST_DAY T rfl ?_
  refine ea_nil ?_
  refine ⟨by first | rfl | assumption, by first | rfl | assumption, by first | rfl | assumption, ?_⟩
  refine cond_nb (fun c => ?_) (fun c1 => ?_)
  · refine eb_cons (es_ret (ops0 rfl) ?_)
    refine ev_bl ?_
    have e : isRate (.tup [a, b, p]) = false := by show (numOk a _ _ && _) = false; rw [show numOk a (.int 0) (.int 999) = false from c]; rfl
    rw [e] at hq; exact hq
  refine eb_nil ?_
  refine eb_cons (es_ret (ops0 rfl) ?_)
  refine ev_and ?_
  refine ev_call (ok_is_number T) (Nat.le_of_ble_eq_true rfl) rfl (ops0 rfl) ?_
  refine ea_cons ?_
  refine ev_ix ?_
  refine ev_var (i := 0) rfl (.inl rfl) rfl ?_
  refine ev_int ?_
  refine ⟨_, rfl, ?_⟩
  refine ea_cons ?_
  refine ev_int ?_
  refine ea_cons ?_
  refine c_MOST_TERM T rfl ?_
  refine ea_nil ?_
  refine ⟨by first | rfl | assumption, by first | rfl | assumption, by first | rfl | assumption, ?_⟩
  refine cond_b (fun c2 => ?_) (fun c2 => ?_)
  · refine ev_one ?_
    refine ev_call (ok_is_number T) (Nat.le_of_ble_eq_true rfl) rfl (ops0 rfl) ?_
    refine ea_cons ?_
    refine ev_ix ?_
    refine ev_var (i := 0) rfl (.inl rfl) rfl ?_
    refine ev_int ?_
    refine ⟨_, rfl, ?_⟩
    refine ea_cons ?_
    refine ev_int ?_
    refine ea_cons ?_
    refine c_MOST_TERM T rfl ?_
    refine ea_nil ?_
    refine ⟨by first | rfl | assumption, by first | rfl | assumption, by first | rfl | assumption, ?_⟩
    have e : isRate (.tup [a, b, p]) = numOk p (.int 1) (.int 1000000) := by show (numOk a _ _ && (numOk b _ _ && _)) = _; rw [show numOk a (.int 0) (.int 999) = true from c1, show numOk b (.int 1) (.int 1000000) = true from c2]; rfl
    rw [e] at hq; exact hq
  · have e : isRate (.tup [a, b, p]) = false := by show (numOk a _ _ && (numOk b _ _ && _)) = false; rw [show numOk a (.int 0) (.int 999) = true from c1, show numOk b (.int 1) (.int 1000000) = false from c2]; rfl
    rw [e] at hq; exact hq
def fst0 (d : Da) : Int := match d with | .tup (.int f :: _) => f | _ => 0
def headZ (rs : List Da) : Bool := match rs with | r :: _ => decide (fst0 r = 0) | [] => false
@[reducible] def ratesOk (rs : List Da) : Bool := decide (1 ≤ (rs.length : Int)) && (decide ((rs.length : Int) ≤ 6) && (rs.all isRate && (headZ rs && ascI (rs.map fst0))))
@[reducible] def isMon (d : Da) : Bool := match d with | .tup [n, .tup rs] => isName n && ratesOk rs | _ => false
@[reducible] def q_is_money : Fd := fun ds q _ => as1 ds fun d => Fit d ∧ q (.bl (isMon d))
theorem atI_zero {d : Da} {ds : List Da} : atI (d :: ds) 0 = some d := by
  unfold atI ixN
  rw [if_pos (by decide), if_pos (by rw [List.length_cons]; omega)]; rfl
theorem ok_is_money (T : Txt K mg) : Cal P w K mg base "is_money" "is_money" s_is_money 4 ["value"] (SpD K q_is_money) := by
  refine calD T.d_is_money sc_is_money (fun _ _ _ _ _ _ us hl => match us, hl with | [_], _ => rfl) (fun ds q er h => as1_len h) fun F0 H0 ds q er h => ?_
  obtain ⟨value, rfl, h⟩ := as1_ h
  obtain ⟨hf, hq⟩ := h
  have hk := hf.k
  refine eb_cons (es_if ?_)
  refine et_w ?_
  refine ew_or ?_
  refine et_not ?_
  refine et_val ?_
  refine ev_call (ok_is_tuple_of T) (Nat.le_of_ble_eq_true rfl) rfl (ops0 rfl) ?_
  refine ea_cons ?_
  refine ev_var (i := 0) rfl (.inl rfl) rfl ?_
  refine ea_cons ?_
  refine ev_int ?_
  refine ea_nil ?_
  refine ⟨by first | rfl | assumption, ?_⟩
  refine cond_nb (fun c => ?_) (fun c => ?_)
  · refine eb_cons (es_ret (ops0 rfl) ?_)
    refine ev_bl ?_
    have e : isMon value = false := by
      cases value <;> first | rfl | skip
      rename_i xs
      match xs, c with
      | [], _ => rfl
      | [_], _ => rfl
      | [_, _], c => cases c
      | _ :: x :: _ :: _, _ => cases x <;> rfl
    rw [e] at hq; exact hq
  obtain ⟨n, r, rfl⟩ := tup2_ c
  have hn := hf.tup (x := n) (by simp)
  have hr := hf.tup (x := r) (by simp)
  have hrk := hr.k
  refine ew_or ?_
  refine et_not ?_
  refine et_val ?_
  refine ev_call (ok_is_name T) (Nat.le_of_ble_eq_true rfl) rfl (ops0 rfl) ?_
  refine ea_cons ?_
  refine ev_ix ?_
  refine ev_var (i := 0) rfl (.inl rfl) rfl ?_
  refine ev_int ?_
  refine ⟨_, rfl, ?_⟩
  refine ea_nil ?_
  refine ⟨hn.k, hn.sh, ?_⟩
  refine cond_nb (fun c1 => ?_) (fun c1 => ?_)
  · refine eb_cons (es_ret (ops0 rfl) ?_)
    refine ev_bl ?_
    have e : isMon (.tup [n, r]) = false := by cases r <;> first | rfl | (show (isName n && _) = false; rw [c1]; rfl)
    rw [e] at hq; exact hq
  refine ew_or1 ?_
  refine et_not ?_
  refine et_val ?_
  refine ev_callB c_isTuple rfl T.m_isinstance bt_isinstance ?_
  refine ea_cons ?_
  refine ev_ix ?_
  refine ev_var (i := 0) rfl (.inl rfl) rfl ?_
  refine ev_int ?_
  refine ⟨_, rfl, ?_⟩
  refine ea_cons ?_
  refine ev_bltn (n := "tuple") rfl T.m_tuple bt_tuple ?_
  refine ea_nil ?_
  refine ⟨rfl, by first | rfl | assumption, ?_⟩
  refine cond_nb (fun c2 => ?_) (fun c2 => ?_)
  · refine eb_cons (es_ret (ops0 rfl) ?_)
    refine ev_bl ?_
    have e : isMon (.tup [n, r]) = false := by cases r <;> first | rfl | cases c2
    rw [e] at hq; exact hq
  obtain ⟨rs, rfl⟩ : ∃ rs, r = .tup rs := by cases r <;> first | exact ⟨_, rfl⟩ | cases c2
  have hl := hr.len
  have e0 : isMon (.tup [n, .tup rs]) = ratesOk rs := by show (isName n && _) = _; rw [c1]; rfl
  rw [e0] at hq
  refine eb_nil ?_
  refine eb_cons (es_if ?_)
  refine et_w ?_
  refine ew_or ?_
  refine et_not ?_
  refine et_chain g_le g_le ?_
  refine ev_int ?_
  refine ev_callB c_lenD rfl T.m_len bt_len ?_
  refine ea_cons ?_
  refine ev_ix ?_
  refine ev_var (i := 0) rfl (.inl rfl) rfl ?_
  refine ev_int ?_
  refine ⟨_, rfl, ?_⟩
  refine ea_nil ?_
  refine cond_dec (fun c3 => ?_) (fun c3 => ?_)
  · refine c_MOST_RATES T rfl ?_
    refine cond_ndec (fun c4 => ?_) (fun c4 => ?_)
    · refine eb_cons (es_ret (ops0 rfl) ?_)
      refine ev_bl ?_
      rw [show ratesOk rs = false by show (_ && (decide _ && _)) = false; rw [decide_eq_false c4, Bool.false_and, Bool.and_false]] at hq
      exact hq
    refine ew_or1 ?_
    refine et_not ?_
    refine et_val ?_
    refine ev_callB c_all rfl T.m_all bt_all ?_
    refine ea_cons ?_
    refine ev_lc (own := [("rate", 1)]) (blkOk_by (N := ["value", "rate"]) (sc := defScope s_is_money) (by decide +kernel)) (by intro i hi p I; simp only [List.map_cons, List.map_nil, List.mem_cons, List.not_mem_nil, or_false] at hi; rcases hi with rfl <;> first | exact fun z => hno _ _ (Option.some.inj z) | exact fun z => nomatch z) ?_
    refine ei_tup ?_
    refine ev_ix ?_
    refine ev_var (i := 0) rfl (.inl rfl) rfl ?_
    refine ev_int ?_
    refine ⟨_, rfl, ?_⟩
    refine ⟨by omega, ?_⟩
    refine lcG_map (f := fun d => .bl (isRate d)) (fun d acc k hd hk => ?_) ?_
    · have hd' := hr.tup hd
      refine eg_name (i := 1) rfl (.inl rfl) ?_
      refine ets_nil ?_
      refine ev_call (ok_is_rate T) (Nat.le_of_ble_eq_true rfl) rfl (ops0 rfl) ?_
      refine ea_cons ?_
      refine ev_var (i := 1) rfl (.inl rfl) rfl ?_
      refine ea_nil ?_
      refine ⟨hd'.k, hd'.tupK, ?_⟩
      exact hk
    refine ea_nil ?_
    refine ⟨_, all_bls _, ?_⟩
    rw [all_id]
    refine cond_nb (fun c5 => ?_) (fun c5 => ?_)
    · refine eb_cons (es_ret (ops0 rfl) ?_)
      refine ev_bl ?_
      rw [show ratesOk rs = false by show (_ && (_ && (_ && _))) = false; rw [c5, Bool.false_and, Bool.and_false, Bool.and_false]] at hq
      exact hq
    obtain ⟨l, rfl, hl2⟩ := rates_ c5
    match l, hl2 with
    | [], _ => exact absurd c3 (by decide)
    | r0 :: l, hl2 =>
      rw [show ratesOk ((r0 :: l).map rateD) = (decide (r0.1 = 0) && ascI (((r0 :: l).map rateD).map fst0)) by show (decide _ && (decide _ && (_ && (decide (r0.1 = 0) && _)))) = _; rw [decide_eq_true c3, decide_eq_true c4, c5]; rfl] at hq
      refine eb_nil ?_
      refine eb_cons (es_ret (ops0 rfl) ?_)
      refine ev_and ?_
      refine ev_cmp g_eq ?_
      refine ev_ix ?_
      refine ev_ix ?_
      refine ev_ix ?_
      refine ev_var (i := 0) rfl (.inl rfl) rfl ?_
      refine ev_int ?_
      refine ⟨_, rfl, ?_⟩
      refine ev_int ?_
      refine ⟨rateD r0, atI_zero, ?_⟩
      refine ev_int ?_
      refine ⟨_, rfl, ?_⟩
      refine ev_int ?_
      refine cond_dec (fun c6 => ?_) (fun c6 => ?_)
      · refine ev_one ?_
        refine ev_call (ok_is_ascending T) (Nat.le_of_ble_eq_true rfl) rfl (ops0 rfl) ?_
        refine ea_cons ?_
        refine ev_lc (own := [("rate", 1)]) (blkOk_by (N := ["value", "rate"]) (sc := defScope s_is_money) (by decide +kernel)) (by intro i hi p I; simp only [List.map_cons, List.map_nil, List.mem_cons, List.not_mem_nil, or_false] at hi; rcases hi with rfl <;> first | exact fun z => hno _ _ (Option.some.inj z) | exact fun z => nomatch z) ?_
        refine ei_tup ?_
        refine ev_ix ?_
        refine ev_var (i := 0) rfl (.inl rfl) rfl ?_
        refine ev_int ?_
        refine ⟨_, rfl, ?_⟩
        refine ⟨by omega, ?_⟩
        refine lcG_map (f := fun d => .int (fst0 d)) (fun d acc k hd hk => ?_) ?_
        · obtain ⟨r, _, rfl⟩ := List.mem_map.mp hd
          refine eg_name (i := 1) rfl (.inl rfl) ?_
          refine ets_nil ?_
          refine ev_ix ?_
          refine ev_var (i := 1) rfl (.inl rfl) rfl ?_
          refine ev_int ?_
          refine ⟨_, rfl, ?_⟩
          exact hk
        refine ea_nil ?_
        refine ⟨((r0 :: l).map rateD).map fst0, by rw [List.nil_append]; simp only [List.map_map]; rfl, by rw [List.length_map]; exact hl, ?_⟩
        rw [show (decide (r0.1 = 0) && ascI (((r0 :: l).map rateD).map fst0)) = ascI (((r0 :: l).map rateD).map fst0) by rw [decide_eq_true c6]; rfl] at hq
        exact hq
      · rw [show (decide (r0.1 = 0) && ascI (((r0 :: l).map rateD).map fst0)) = false by rw [decide_eq_false c6]; rfl] at hq
        exact hq
  · refine eb_cons (es_ret (ops0 rfl) ?_)
    refine ev_bl ?_
    rw [show ratesOk rs = false by show (decide _ && _) = false; rw [decide_eq_false c3]; rfl] at hq
    exact hq

/-! the rate of a day -/
def sndD (d : Da) : Da := match d with | .tup [_, b, c] => .tup [b, c] | _ => .non
def rateOn (l : List (Int × Int × Int)) (x : Int) : Int × Int := ((l.filter fun r => decide (r.1 ≤ x)).getLast?.map (·.2)).getD (1, 1)
abbrev pairD (r : Int × Int) : Da := .tup [.int r.1, .int r.2]
theorem atI_last {ds : List Da} (h : ds ≠ []) : atI ds (-1) = ds.getLast? := by
  have : 0 < ds.length := List.length_pos_iff.mpr h
  unfold atI ixN
  rw [if_neg (by decide), if_pos (by omega), List.getLast?_eq_getElem?]
  show ds[((-1 : Int) + (ds.length : Int)).toNat]? = _
  rw [show ((-1 : Int) + (ds.length : Int)).toNat = ds.length - 1 by omega]
theorem rateOn_at {l : List (Int × Int × Int)} {x : Int} (h : ∃ r ∈ l, r.1 ≤ x) : atI (([] : List Da) ++ ((l.map rateD).filter fun d => decide (fst0 d ≤ x)).map sndD) (-1) = some (pairD (rateOn l x)) := by
  have e : ([] : List Da) ++ ((l.map rateD).filter fun d => decide (fst0 d ≤ x)).map sndD = (l.filter fun r => decide (r.1 ≤ x)).map fun r => pairD r.2 := by
    rw [List.nil_append, List.filter_map, List.map_map]; rfl
  obtain ⟨r, hr, hx⟩ := h
  have hm : r ∈ l.filter fun r => decide (r.1 ≤ x) := List.mem_filter.mpr ⟨hr, decide_eq_true hx⟩
  have hne : (l.filter fun r => decide (r.1 ≤ x)) ≠ [] := List.ne_nil_of_mem hm
  rw [e, atI_last (fun z => hne (List.map_eq_nil_iff.mp z)), List.getLast?_map]
  unfold rateOn
  rw [List.getLast?_eq_some_getLast hne]; rfl
theorem rateOn_mem {l : List (Int × Int × Int)} {x : Int} (h : ∃ r ∈ l, r.1 ≤ x) : ∃ r ∈ l, rateOn l x = r.2 := by
  obtain ⟨r, hr, hx⟩ := h
  have hm : r ∈ l.filter fun r => decide (r.1 ≤ x) := List.mem_filter.mpr ⟨hr, decide_eq_true hx⟩
  have hne : (l.filter fun r => decide (r.1 ≤ x)) ≠ [] := List.ne_nil_of_mem hm
  refine ⟨_, (List.mem_filter.mp (List.getLast_mem hne)).1, ?_⟩
  unfold rateOn
  rw [List.getLast?_eq_some_getLast hne]; rfl
@[reducible] def q_rate_on : Fd := fun ds q _ => as2 ds fun m d => ∃ n l, m = .tup [n, .tup (l.map rateD)] ∧ l.length ≤ 1000 ∧ asInt d fun x => (∃ r ∈ l, r.1 ≤ x) ∧ q (pairD (rateOn l x))
theorem ok_rate_on (T : Txt K mg) : Cal P w K mg base "rate_on" "rate_on" s_rate_on 1 ["money", "day"] (SpD K q_rate_on) := by
  refine calD T.d_rate_on sc_rate_on (fun _ _ _ _ _ _ us hl => match us, hl with | [_, _], _ => rfl) (fun ds q er h => as2_len h) fun F0 H0 ds q er h => ?_
  obtain ⟨money, day, rfl, h⟩ := as2_ h
  obtain ⟨n, l, rfl, hl, h2⟩ := h
  obtain ⟨x, rfl, hx, hq⟩ := asInt_ h2
  refine eb_cons (es_ret (ops0 rfl) ?_)
  refine ev_ix ?_
  refine ev_lc (own := [("rate", 2)]) (blkOk_by (N := ["money", "day", "rate"]) (sc := defScope s_rate_on) (by decide +kernel)) (by intro i hi p I; simp only [List.map_cons, List.map_nil, List.mem_cons, List.not_mem_nil, or_false] at hi; rcases hi with rfl <;> first | exact fun z => hno _ _ (Option.some.inj z) | exact fun z => nomatch z) ?_
  refine ei_tup ?_
  refine ev_ix ?_
  refine ev_var (i := 0) rfl (.inl rfl) rfl ?_
  refine ev_int ?_
  refine ⟨_, rfl, ?_⟩
  refine ⟨by rw [List.length_map]; omega, ?_⟩
  refine lcG_fil (p := fun d => decide (fst0 d ≤ x)) (f := sndD) (fun d acc k hd hk1 hk2 => ?_) ?_
  · obtain ⟨r, _, rfl⟩ := List.mem_map.mp hd
    refine eg_name (i := 2) rfl (.inl rfl) ?_
    refine ets_one ?_
    refine et_cmp g_le ?_
    refine ev_ix ?_
    refine ev_var (i := 2) rfl (.inl rfl) rfl ?_
    refine ev_int ?_
    refine ⟨_, rfl, ?_⟩
    refine ev_var (i := 1) rfl (.inr (.inl rfl)) rfl ?_
    refine cond_b (fun c => ?_) (fun c => ?_)
    · refine ev_sl ?_
      refine ev_var (i := 2) rfl (.inl rfl) rfl ?_
      refine eo_some ?_
      refine ev_int ?_
      refine eo_none ?_
      exact hk1 c
    · exact hk2 c
  refine ev_neg ?_
  refine ev_int ?_
  refine ⟨_, rateOn_at hx, ?_⟩
  exact hq
@[reducible] def q_worth_of : Fd := fun ds q _ => as3 ds fun m d u => ∃ n l, m = .tup [n, .tup (l.map rateD)] ∧ l.length ≤ 1000 ∧ (∀ r ∈ l, RateP r) ∧ asInt d fun x => (∃ r ∈ l, r.1 ≤ x) ∧ asInt u fun u => q (.int (u * (rateOn l x).1 / (rateOn l x).2))
theorem ok_worth_of (T : Txt K mg) : Cal P w K mg base "worth_of" "worth_of" s_worth_of 2 ["money", "day", "units"] (SpD K q_worth_of) := by
  refine calD T.d_worth_of sc_worth_of (fun _ _ _ _ _ _ us hl => match us, hl with | [_, _, _], _ => rfl) (fun ds q er h => as3_len h) fun F0 H0 ds q er h => ?_
  obtain ⟨money, day, units, rfl, h⟩ := as3_ h
  obtain ⟨n, l, rfl, hl, hp, h2⟩ := h
  obtain ⟨x, rfl, hx, h3⟩ := asInt_ h2
  obtain ⟨u, rfl, hq⟩ := asInt_ h3
  refine eb_cons (es_asg ?_)
  refine ev_call (ok_rate_on T) (Nat.le_of_ble_eq_true rfl) rfl (ops0 rfl) ?_
  refine ea_cons ?_
  refine ev_var (i := 0) rfl (.inl rfl) rfl ?_
  refine ea_cons ?_
  refine ev_var (i := 1) rfl (.inl rfl) rfl ?_
  refine ea_nil ?_
  refine ⟨n, l, rfl, hl, hx, ?_⟩
  obtain ⟨r, hr, e⟩ := rateOn_mem hx
  have := (hp r hr).b0; have := (hp r hr).b1; have := (hp r hr).c0; have := (hp r hr).c1
  rw [e] at hq ⊢
  refine eg_tup ?_
  refine egs_cons ?_
  refine eg_name (i := 3) rfl (.inl rfl) ?_
  refine egs_cons ?_
  refine eg_name (i := 4) rfl (.inl rfl) ?_
  refine egs_nil ?_
  refine eb_cons (es_ret (ops0 rfl) ?_)
  refine ev_op g_div ?_
  refine ev_op g_mul ?_
  refine ev_var (i := 2) rfl (.inl rfl) rfl ?_
  refine ev_var (i := 3) rfl (.inl rfl) rfl ?_
  refine ⟨by first | (exact .inr ⟨by decide, by decide⟩) | (exact .inl ⟨by decide, by decide⟩) | (right; constructor <;> omega) | (left; constructor <;> omega), ?_⟩
  refine ev_var (i := 4) rfl (.inl rfl) rfl ?_
  refine ⟨⟨by first | decide | omega, by first | decide | omega⟩, ?_⟩
  exact hq
/-- a money that is one -/
structure MonP (n : Str) (l : List (Int × Int × Int)) : Prop where
  nm : isName (.str n) = true
  nl : n.length ≤ 8
  nc : ∀ c ∈ n.cps.toList, c < 16 ^ 8
  l0 : 1 ≤ l.length
  l1 : l.length ≤ 6
  r : ∀ r ∈ l, RateP r
  h : headZ (l.map rateD) = true
  a : ascI ((l.map rateD).map fst0) = true
@[reducible] def monD (n : Str) (l : List (Int × Int × Int)) : Da := .tup [.str n, .tup (l.map rateD)]
theorem okS_rates : ∀ {l : List (Int × Int × Int)}, (∀ r ∈ l, RateP r) → Da.okSs (l.map rateD)
  | [], _ => by show Da.okSs []; unfold Da.okSs; trivial
  | r :: l, h => by
    show Da.okSs (rateD r :: l.map rateD)
    unfold Da.okSs
    have := h r List.mem_cons_self
    have := this.a0; have := (h r List.mem_cons_self).a1; have := (h r List.mem_cons_self).b0; have := (h r List.mem_cons_self).b1; have := (h r List.mem_cons_self).c0; have := (h r List.mem_cons_self).c1
    exact ⟨by simp only [rateD, Da.okS, Da.okSs, and_true]; omega, okS_rates fun r hr => h r (List.mem_cons_of_mem _ hr)⟩
theorem sz_rates : ∀ l : List (Int × Int × Int), Da.szs (l.map rateD) = 4 * l.length
  | [] => by show Da.szs [] = _; unfold Da.szs; rfl
  | r :: l => by
    show Da.szs (rateD r :: l.map rateD) = _
    unfold Da.szs
    rw [sz_rates l, show (rateD r).sz = 3 by simp only [rateD, Da.sz, Da.szs], List.length_cons]; omega
theorem MonP.fit {n : Str} {l : List (Int × Int × Int)} (h : MonP n l) : Fit (monD n l) := by
  have h1 := h.nl
  have h2 := h.l1
  refine ⟨?_, ?_⟩
  · simp only [monD, Da.okS, Da.okSs, and_true]
    exact ⟨h.nc, okS_rates h.r⟩
  · simp only [monD, Da.sz, Da.szs]
    rw [sz_rates]
    have : n.cps.size ≤ 8 := h1
    omega
theorem MonP.is {n : Str} {l : List (Int × Int × Int)} (h : MonP n l) : isMon (monD n l) = true := by
  have h1 := h.l0
  have h2 := h.l1
  show (isName (.str n) && (decide _ && (decide _ && (_ && (_ && _))))) = true
  rw [h.nm, rates_all h.r, h.h, h.a, decide_eq_true (by rw [List.length_map]; omega), decide_eq_true (by rw [List.length_map]; omega)]
  rfl
theorem MonP.on {n : Str} {l : List (Int × Int × Int)} (h : MonP n l) {x : Int} (hx : 0 ≤ x) : ∃ r ∈ l, r.1 ≤ x := by
  have h1 := h.h
  match l, h1 with
  | r :: l, h1 => exact ⟨r, List.mem_cons_self, by have : r.1 = 0 := of_decide_eq_true h1; omega⟩
@[reducible] def q_check_money : Fd := fun ds q _ => as1 ds fun d => ∃ n l, d = monD n l ∧ MonP n l ∧ q .non
theorem ok_check_money (T : Txt K mg) : Cal P w K mg base "check_money" "check_money" s_check_money 5 ["value"] (SpD K q_check_money) := by
  refine calD T.d_check_money sc_check_money (fun _ _ _ _ _ _ us hl => match us, hl with | [_], _ => rfl) (fun ds q er h => as1_len h) fun F0 H0 ds q er h => ?_
  obtain ⟨value, rfl, h⟩ := as1_ h
  obtain ⟨n, l, rfl, hm, hq⟩ := h
  refine eb_cons (es_if ?_)
  refine et_not ?_
  refine et_val ?_
  refine ev_call (ok_is_money T) (Nat.le_of_ble_eq_true rfl) rfl (ops0 rfl) ?_
  refine ea_cons ?_
  refine ev_var (i := 0) rfl (.inl rfl) rfl ?_
  refine ea_nil ?_
  refine ⟨hm.fit, ?_⟩
  refine cond_nb (fun c => ?_) (fun _ => ?_)
  · rw [hm.is] at c; cases c
  refine eb_nil ?_
  refine eb_nil ?_
  exact hq
@[reducible] def q_check_amount : Fd := fun ds q _ => as1 ds fun d => asInt d fun x => 0 ≤ x ∧ x ≤ 10000000000000 ∧ q .non
theorem ok_check_amount (T : Txt K mg) : Cal P w K mg base "check_amount" "check_amount" s_check_amount 3 ["value"] (SpD K q_check_amount) := by
  refine calD T.d_check_amount sc_check_amount (fun _ _ _ _ _ _ us hl => match us, hl with | [_], _ => rfl) (fun ds q er h => as1_len h) fun F0 H0 ds q er h => ?_
  obtain ⟨value, rfl, h⟩ := as1_ h
  obtain ⟨x, rfl, h0, h1, hq⟩ := asInt_ h
  refine eb_cons (es_if ?_)
  refine et_not ?_
  refine et_val ?_
  refine ev_call (ok_is_number T) (Nat.le_of_ble_eq_true rfl) rfl (ops0 rfl) ?_
  refine ea_cons ?_
  refine ev_var (i := 0) rfl (.inl rfl) rfl ?_
  refine ea_cons ?_
  refine ev_int ?_
  refine ea_cons ?_
  refine c_MOST_AMOUNT T rfl ?_
  refine ea_nil ?_
  refine ⟨by first | rfl | assumption, by first | rfl | assumption, by first | rfl | assumption, ?_⟩
  refine cond_nb (fun c => ?_) (fun _ => ?_)
  · rw [numOk_of h0 h1] at c; cases c
  refine eb_nil ?_
  refine eb_nil ?_
  exact hq
@[reducible] def q_check_day : Fd := fun ds q _ => as1 ds fun d => asInt d fun x => 0 ≤ x ∧ x ≤ 999 ∧ q .non
theorem ok_check_day (T : Txt K mg) : Cal P w K mg base "check_day" "check_day" s_check_day 3 ["value"] (SpD K q_check_day) := by
  refine calD T.d_check_day sc_check_day (fun _ _ _ _ _ _ us hl => match us, hl with | [_], _ => rfl) (fun ds q er h => as1_len h) fun F0 H0 ds q er h => ?_
  obtain ⟨value, rfl, h⟩ := as1_ h
  obtain ⟨x, rfl, h0, h1, hq⟩ := asInt_ h
  refine eb_cons (es_if ?_)
  refine et_not ?_
  refine et_val ?_
  refine ev_call (ok_is_number T) (Nat.le_of_ble_eq_true rfl) rfl (ops0 rfl) ?_
  refine ea_cons ?_
  refine ev_var (i := 0) rfl (.inl rfl) rfl ?_
  refine ea_cons ?_
  refine ev_int ?_
  refine ea_cons ?_
  refine c_LAST_DAY T rfl ?_
  refine ea_nil ?_
  refine ⟨by first | rfl | assumption, by first | rfl | assumption, by first | rfl | assumption, ?_⟩
  refine cond_nb (fun c => ?_) (fun _ => ?_)
  · rw [numOk_of h0 h1] at c; cases c
  refine eb_nil ?_
  refine eb_nil ?_
  exact hq
@[reducible] def q_worth : Fd := fun ds q _ => as3 ds fun m d u => ∃ n l, m = monD n l ∧ MonP n l ∧ asInt d fun x => 0 ≤ x ∧ x ≤ 999 ∧ asInt u fun u => 0 ≤ u ∧ u ≤ 10000000000000 ∧ q (.int (u * (rateOn l x).1 / (rateOn l x).2))
theorem ok_worth (T : Txt K mg) : Cal P w K mg base "worth" "worth" s_worth 6 ["money", "day", "units"] (SpD K q_worth) := by
  refine calD T.d_worth sc_worth (fun _ _ _ _ _ _ us hl => match us, hl with | [_, _, _], _ => rfl) (fun ds q er h => as3_len h) fun F0 H0 ds q er h => ?_
  obtain ⟨money, day, units, rfl, h⟩ := as3_ h
  obtain ⟨n, l, rfl, hm, h2⟩ := h
  obtain ⟨x, rfl, h0, h1, h3⟩ := asInt_ h2
  obtain ⟨u, rfl, h4, h5, hq⟩ := asInt_ h3
  refine eb_cons (es_expr ?_)
  refine ev_call (ok_check_money T) (Nat.le_of_ble_eq_true rfl) rfl (ops0 rfl) ?_
  refine ea_cons ?_
  refine ev_var (i := 0) rfl (.inl rfl) rfl ?_
  refine ea_nil ?_
  refine ⟨n, l, rfl, hm, ?_⟩
  refine eb_cons (es_expr ?_)
  refine ev_call (ok_check_day T) (Nat.le_of_ble_eq_true rfl) rfl (ops0 rfl) ?_
  refine ea_cons ?_
  refine ev_var (i := 1) rfl (.inl rfl) rfl ?_
  refine ea_nil ?_
  refine ⟨h0, h1, ?_⟩
  refine eb_cons (es_expr ?_)
  refine ev_call (ok_check_amount T) (Nat.le_of_ble_eq_true rfl) rfl (ops0 rfl) ?_
  refine ea_cons ?_
  refine ev_var (i := 2) rfl (.inl rfl) rfl ?_
  refine ea_nil ?_
  refine ⟨h4, h5, ?_⟩
  refine eb_cons (es_ret (ops0 rfl) ?_)
  refine ev_call (ok_worth_of T) (Nat.le_of_ble_eq_true rfl) rfl (ops0 rfl) ?_
  refine ea_cons ?_
  refine ev_var (i := 0) rfl (.inl rfl) rfl ?_
  refine ea_cons ?_
  refine ev_var (i := 1) rfl (.inl rfl) rfl ?_
  refine ea_cons ?_
  refine ev_var (i := 2) rfl (.inl rfl) rfl ?_
  refine ea_nil ?_
  refine ⟨_, l, rfl, by have := hm.l1; omega, hm.r, hm.on h0, ?_⟩
  exact hq

/-! the law's own numbers -/
def PailOk (xs : List Da) : Prop := ∃ a b c : Int, xs = [.int a, .int b, .int c] ∧ 0 ≤ a ∧ 0 ≤ b ∧ b < 2147483629 ∧ 0 ≤ c
@[reducible] def q__law_well : List Da → (List Da → Prop) → Er → Prop := fun ds q _ => as2 ds fun s t => ∃ ns : List Int, s = .lst (ns.map Da.int) ∧ asInt t fun i => 0 ≤ i ∧ i < 100 ∧ ∀ xs, PailOk xs → q xs
@[reducible] def q__law_draw : Fd := fun ds q _ => as1 ds fun t => asInt t fun limit => 0 < limit ∧ limit < 18446744073709551616 ∧ ∀ r : Int, 0 ≤ r → r < limit → q (.int r)
@[reducible] def q__law_of : Fd := fun ds q _ => as1 ds fun s => ∃ xs, (s = .lst xs ∨ s = .tup xs) ∧ 0 < xs.length ∧ xs.length < 1000000 ∧ ∀ d ∈ xs, q d
theorem ok__law_well (T : Txt K mg) : Cal P w K mg base "_law_well" "_law_well" s__law_well 1 ["script", "lap"] (SpN K q__law_well) := by
  refine calN T.d__law_well sc__law_well (fun _ _ _ _ _ _ us hl => match us, hl with | [_, _], _ => rfl) (fun ds q er h => as2_len h) fun F0 H0 ds q er h => ?_
  obtain ⟨script, lap, rfl, h⟩ := as2_ h
  obtain ⟨ns, rfl, h2⟩ := h
  obtain ⟨i, rfl, hi, hi2, hq⟩ := asInt_ h2
  refine eb_cons (es_set (i := 2) rfl (.inl rfl) ?_)
  refine ev_op g_addD ?_
  refine ev_int ?_
  refine ev_op g_mul ?_
  refine ev_int ?_
  refine ev_var (i := 1) rfl (.inl rfl) rfl ?_
  refine ⟨by first | (exact .inr ⟨by decide, by decide⟩) | (exact .inl ⟨by decide, by decide⟩) | (right; constructor <;> omega) | (left; constructor <;> omega), ?_⟩
  refine eb_cons (es_for ?_)
  refine ei_seq ?_
  refine ev_sl ?_
  refine ev_var (i := 0) rfl (.inl rfl) rfl ?_
  refine eo_none ?_
  refine eo_some ?_
  refine ev_int ?_
  refine forG_inv (fun _ Γ => ∃ (m : Int) (s : Slot), Γ = [.dat (.lst (ns.map Da.int)), .dat (.int i), .dat (.int m), s, .no] ∧ 0 ≤ m ∧ m < 2147483629) ⟨_, _, rfl, by omega, by omega⟩ ?_ ?_
  · rintro j d Γ k hd ⟨m, s, rfl, h0, h1⟩ hk
    obtain ⟨n, _, rfl⟩ := mem_ints (mem_cut (List.mem_of_getElem? hd))
    refine eg_name (i := 3) rfl (.inl rfl) ?_
    refine eb_cons (es_set (i := 2) rfl (.inl rfl) ?_)
    refine ev_op g_mod ?_
    refine ev_callTy c_int rfl T.m_int bt_int ?_
    refine ea_cons ?_
    refine ev_op g_addD ?_
    refine ev_op g_addD ?_
    refine ev_op g_mul ?_
    refine ev_var (i := 2) rfl (.inl rfl) rfl ?_
    refine ev_int ?_
    refine ⟨by first | (exact .inr ⟨by decide, by decide⟩) | (exact .inl ⟨by decide, by decide⟩) | (right; constructor <;> omega) | (left; constructor <;> omega), ?_⟩
    refine ev_op g_mod ?_
    refine ev_callTy c_int rfl T.m_int bt_int ?_
    refine ea_cons ?_
    refine ev_var (i := 3) rfl (.inl rfl) rfl ?_
    refine ea_nil ?_
    refine ev_int ?_
    refine ⟨by first | decide | omega, ?_⟩
    refine ev_int ?_
    refine ea_nil ?_
    refine ev_int ?_
    refine ⟨by first | decide | omega, ?_⟩
    refine eb_nil ?_
    exact hk _ ⟨_, _, rfl, by omega, by omega⟩
  rintro Γ ⟨m, s, rfl, h0, h1⟩
  refine eb_cons (es_set (i := 4) rfl (.inl rfl) ?_)
  refine ev_ifx ?_
  refine et_cmp g_lt ?_
  refine ev_var (i := 1) rfl (.inl rfl) rfl ?_
  refine ev_callB c_lenD rfl T.m_len bt_len ?_
  refine ea_cons ?_
  refine ev_var (i := 0) rfl (.inl rfl) rfl ?_
  refine ea_nil ?_
  refine cond_dec (fun c => ?_) (fun c => ?_)
  · refine ev_callTy c_int rfl T.m_int bt_int ?_
    refine ea_cons ?_
    refine ev_ix ?_
    refine ev_var (i := 0) rfl (.inl rfl) rfl ?_
    refine ev_var (i := 1) rfl (.inl rfl) rfl ?_
    obtain ⟨d, hd, hm⟩ := atI_mem hi c
    obtain ⟨own, _, rfl⟩ := mem_ints hm
    refine ⟨_, hd, ?_⟩
    refine ea_nil ?_
    refine eb_cons (es_set (i := 2) rfl (.inl rfl) ?_)
    refine ev_op g_mod ?_
    refine ev_callTy c_int rfl T.m_int bt_int ?_
    refine ea_cons ?_
    refine ev_op g_addD ?_
    refine ev_op g_addD ?_
    refine ev_op g_mul ?_
    refine ev_var (i := 2) rfl (.inl rfl) rfl ?_
    refine ev_int ?_
    refine ⟨by first | (exact .inr ⟨by decide, by decide⟩) | (exact .inl ⟨by decide, by decide⟩) | (right; constructor <;> omega) | (left; constructor <;> omega), ?_⟩
    refine ev_op g_mul ?_
    refine ev_op g_mod ?_
    refine ev_callTy c_int rfl T.m_int bt_int ?_
    refine ea_cons ?_
    refine ev_var (i := 4) rfl (.inl rfl) rfl ?_
    refine ea_nil ?_
    refine ev_int ?_
    refine ⟨by first | decide | omega, ?_⟩
    refine ev_int ?_
    refine ⟨by first | (exact .inr ⟨by decide, by decide⟩) | (exact .inl ⟨by decide, by decide⟩) | (right; constructor <;> omega) | (left; constructor <;> omega), ?_⟩
    refine ev_int ?_
    refine ea_nil ?_
    refine ev_int ?_
    refine ⟨by first | decide | omega, ?_⟩
    refine eb_cons (es_retF (ops0 rfl) ?_)
    refine en_lst ?_
    refine ea_cons ?_
    refine ev_ifx ?_
    refine et_w ?_
    refine ew_or ?_
    refine et_cmp g_lt ?_
    refine ev_var (i := 4) rfl (.inl rfl) rfl ?_
    refine ev_int ?_
    refine cond_dec (fun c1 => ?_) (fun c1 => ?_)
    · refine ev_callB c_abs rfl T.m_abs bt_abs ?_
      refine ea_cons ?_
      refine ev_var (i := 4) rfl (.inl rfl) rfl ?_
      refine ea_nil ?_
      refine ea_cons ?_
      refine ev_var (i := 2) rfl (.inl rfl) rfl ?_
      refine ea_cons ?_
      refine ev_int ?_
      refine ea_nil ⟨Nat.le_of_ble_eq_true rfl, ?_⟩
      exact hq _ ⟨_, _, _, rfl, by split <;> omega, by omega, by omega, by omega⟩
    · refine ew_or1 ?_
      refine et_cmp g_ge ?_
      refine ev_var (i := 4) rfl (.inl rfl) rfl ?_
      refine ev_pow (1000000000000000) ⟨by decide, by decide, by decide⟩ (by decide +kernel) ?_
      refine cond_dec (fun c2 => ?_) (fun c2 => ?_)
      · refine ev_callB c_abs rfl T.m_abs bt_abs ?_
        refine ea_cons ?_
        refine ev_var (i := 4) rfl (.inl rfl) rfl ?_
        refine ea_nil ?_
        refine ea_cons ?_
        refine ev_var (i := 2) rfl (.inl rfl) rfl ?_
        refine ea_cons ?_
        refine ev_int ?_
        refine ea_nil ⟨Nat.le_of_ble_eq_true rfl, ?_⟩
        exact hq _ ⟨_, _, _, rfl, by split <;> omega, by omega, by omega, by omega⟩
      · refine ev_int ?_
        refine ea_cons ?_
        refine ev_var (i := 2) rfl (.inl rfl) rfl ?_
        refine ea_cons ?_
        refine ev_int ?_
        refine ea_nil ⟨Nat.le_of_ble_eq_true rfl, ?_⟩
        exact hq _ ⟨_, _, _, rfl, by omega, by omega, by omega, by omega⟩
  · refine ev_int ?_
    refine eb_cons (es_set (i := 2) rfl (.inl rfl) ?_)
    refine ev_op g_mod ?_
    refine ev_callTy c_int rfl T.m_int bt_int ?_
    refine ea_cons ?_
    refine ev_op g_addD ?_
    refine ev_op g_addD ?_
    refine ev_op g_mul ?_
    refine ev_var (i := 2) rfl (.inl rfl) rfl ?_
    refine ev_int ?_
    refine ⟨by first | (exact .inr ⟨by decide, by decide⟩) | (exact .inl ⟨by decide, by decide⟩) | (right; constructor <;> omega) | (left; constructor <;> omega), ?_⟩
    refine ev_op g_mul ?_
    refine ev_op g_mod ?_
    refine ev_callTy c_int rfl T.m_int bt_int ?_
    refine ea_cons ?_
    refine ev_var (i := 4) rfl (.inl rfl) rfl ?_
    refine ea_nil ?_
    refine ev_int ?_
    refine ⟨by first | decide | omega, ?_⟩
    refine ev_int ?_
    refine ⟨by first | (exact .inr ⟨by decide, by decide⟩) | (exact .inl ⟨by decide, by decide⟩) | (right; constructor <;> omega) | (left; constructor <;> omega), ?_⟩
    refine ev_int ?_
    refine ea_nil ?_
    refine ev_int ?_
    refine ⟨by first | decide | omega, ?_⟩
    refine eb_cons (es_retF (ops0 rfl) ?_)
    refine en_lst ?_
    refine ea_cons ?_
    refine ev_ifx ?_
    refine et_w ?_
    refine ew_or ?_
    refine et_cmp g_lt ?_
    refine ev_var (i := 4) rfl (.inl rfl) rfl ?_
    refine ev_int ?_
    refine ew_or1 ?_
    refine et_cmp g_ge ?_
    refine ev_var (i := 4) rfl (.inl rfl) rfl ?_
    refine ev_pow (1000000000000000) ⟨by decide, by decide, by decide⟩ (by decide +kernel) ?_
    refine ev_int ?_
    refine ea_cons ?_
    refine ev_var (i := 2) rfl (.inl rfl) rfl ?_
    refine ea_cons ?_
    refine ev_int ?_
    refine ea_nil ⟨Nat.le_of_ble_eq_true rfl, ?_⟩
    exact hq _ ⟨_, _, _, rfl, by omega, by omega, by omega, by omega⟩
theorem ok__law_draw (T : Txt K mg) : Cal P w K mg base "_law_draw" "_law_draw" s__law_draw 1 ["well", "limit"] (SpO K PailOk q__law_draw) := by
  refine calO T.d__law_draw sc__law_draw (fun _ _ _ _ _ _ us hl => match us, hl with | [_, _], _ => rfl) (fun ds q er h => congrArg (· + 1) (as1_len h)) fun F0 H0 pa ds q er h => ?_
  obtain ⟨limit, rfl, h⟩ := as1_ h
  obtain ⟨limit, rfl, ht, ht2, hq⟩ := asInt_ h
  refine eb_cons (es_if ?_)
  refine et_cmp g_gt ?_
  refine ev_ixO (i := 0) rfl (.inl rfl) rfl ?_
  refine ev_int ?_
  rintro ds ⟨a, b, c, rfl, ha, hb, hb2, hc⟩
  refine ⟨_, rfl, ?_⟩
  refine ev_int ?_
  refine cond_dec (fun c1 => ?_) (fun c1 => ?_)
  · refine eb_cons (es_asg ?_)
    refine ev_callB c_divmod rfl T.m_divmod bt_divmod ?_
    refine ea_cons ?_
    refine ev_ixO (i := 0) rfl (.inl rfl) rfl ?_
    refine ev_int ?_
    rintro ds ⟨a, b, c, rfl, ha, hb, hb2, hc⟩
    refine ⟨_, rfl, ?_⟩
    refine ea_cons ?_
    refine ev_var (i := 1) rfl (.inl rfl) rfl ?_
    refine ea_nil ?_
    refine ⟨⟨by first | decide | omega, by first | decide | omega⟩, ?_⟩
    refine eg_tup ?_
    refine egs_cons ?_
    refine eg_sub (i := 0) (I' := PailOk) rfl (.inl rfl) rfl ?_
    refine ev_int ?_
    refine ⟨?_, ?_⟩
    · rintro ds ⟨a', b', c', rfl, ha', hb', hb2', hc'⟩
      exact ⟨0, rfl, a / limit, b', c', rfl, Int.ediv_nonneg ha (by omega), hb', hb2', hc'⟩
    refine egs_cons ?_
    refine eg_name (i := 2) rfl (.inl rfl) ?_
    refine egs_nil ?_
    refine eb_cons (es_ret (ops1 0 rfl rfl) ?_)
    refine ev_var (i := 2) rfl (.inl rfl) rfl ?_
    exact hq _ (Int.emod_nonneg _ (by omega)) (Int.emod_lt_of_pos _ ht)
  · refine eb_nil ?_
    refine eb_cons (es_asg ?_)
    refine ev_op g_addD ?_
    refine ev_ixO (i := 0) rfl (.inl rfl) rfl ?_
    refine ev_int ?_
    rintro ds ⟨a, b, c, rfl, ha, hb, hb2, hc⟩
    refine ⟨_, rfl, ?_⟩
    refine ev_int ?_
    refine eg_sub (i := 0) (I' := PailOk) rfl (.inl rfl) rfl ?_
    refine ev_int ?_
    refine ⟨?_, ?_⟩
    · rintro ds ⟨a', b', c', rfl, ha', hb', hb2', hc'⟩
      exact ⟨2, rfl, a', b', c + 1, rfl, ha', hb', hb2', by omega⟩
    refine eb_cons (es_set (i := 3) rfl (.inl rfl) ?_)
    refine ev_op g_mod ?_
    refine ev_callTy c_int rfl T.m_int bt_int ?_
    refine ea_cons ?_
    refine ev_op g_addD ?_
    refine ev_op g_mul ?_
    refine ev_ixO (i := 0) rfl (.inl rfl) rfl ?_
    refine ev_int ?_
    rintro ds ⟨a1, b1, c1', rfl, ha1, hb1, hb21, hc1⟩
    refine ⟨_, rfl, ?_⟩
    refine ev_int ?_
    refine ⟨by first | (exact .inr ⟨by decide, by decide⟩) | (exact .inl ⟨by decide, by decide⟩) | (right; constructor <;> omega) | (left; constructor <;> omega), ?_⟩
    refine ev_op g_mul ?_
    refine ev_int ?_
    refine ev_ixO (i := 0) rfl (.inl rfl) rfl ?_
    refine ev_int ?_
    rintro ds ⟨a2, b2, c2, rfl, ha2, hb2', hb22, hc2⟩
    refine ⟨_, rfl, ?_⟩
    refine ⟨by first | (exact .inr ⟨by decide, by decide⟩) | (exact .inl ⟨by decide, by decide⟩) | (right; constructor <;> omega) | (left; constructor <;> omega), ?_⟩
    refine ea_nil ?_
    refine ev_int ?_
    refine ⟨by first | decide | omega, ?_⟩
    refine eb_cons (es_asg ?_)
    refine ev_op g_mod ?_
    refine ev_callTy c_int rfl T.m_int bt_int ?_
    refine ea_cons ?_
    refine ev_op g_addD ?_
    refine ev_op g_mul ?_
    refine ev_var (i := 3) rfl (.inl rfl) rfl ?_
    refine ev_op g_addD ?_
    refine ev_op g_mod ?_
    refine ev_callTy c_int rfl T.m_int bt_int ?_
    refine ea_cons ?_
    refine ev_var (i := 3) rfl (.inl rfl) rfl ?_
    refine ea_nil ?_
    refine ev_int ?_
    refine ⟨by first | decide | omega, ?_⟩
    refine ev_int ?_
    refine ⟨by first | (exact .inr ⟨by decide, by decide⟩) | (exact .inl ⟨by decide, by decide⟩) | (right; constructor <;> omega) | (left; constructor <;> omega), ?_⟩
    refine ev_ixO (i := 0) rfl (.inl rfl) rfl ?_
    refine ev_int ?_
    rintro ds ⟨a3, b3, c3, rfl, ha3, hb3, hb23, hc3⟩
    refine ⟨_, rfl, ?_⟩
    refine ea_nil ?_
    refine ev_int ?_
    refine ⟨by first | decide | omega, ?_⟩
    refine eg_sub (i := 0) (I' := PailOk) rfl (.inl rfl) rfl ?_
    refine ev_int ?_
    refine ⟨?_, ?_⟩
    · rintro ds ⟨a', b', c', rfl, ha', hb', hb2', hc'⟩
      exact ⟨1, rfl, a', _, c', rfl, ha', Int.emod_nonneg _ (by omega), Int.emod_lt_of_pos _ (by omega), hc'⟩
    refine eb_cons (es_ret (ops1 0 rfl rfl) ?_)
    refine ev_op g_mod ?_
    refine ev_callTy c_int rfl T.m_int bt_int ?_
    refine ea_cons ?_
    refine ev_op g_div ?_
    refine ev_ixO (i := 0) rfl (.inl rfl) rfl ?_
    refine ev_int ?_
    rintro ds ⟨a4, b4, c4, rfl, ha4, hb4, hb24, hc4⟩
    refine ⟨_, rfl, ?_⟩
    refine ev_int ?_
    refine ⟨⟨by first | decide | omega, by first | decide | omega⟩, ?_⟩
    refine ea_nil ?_
    refine ev_var (i := 1) rfl (.inl rfl) rfl ?_
    refine ⟨by first | decide | omega, ?_⟩
    exact hq _ (Int.emod_nonneg _ (by omega)) (Int.emod_lt_of_pos _ ht)
theorem ok__law_of (T : Txt K mg) : Cal P w K mg base "_law_of" "_law_of" s__law_of 2 ["well", "some"] (SpO K PailOk q__law_of) := by
  refine calO T.d__law_of sc__law_of (fun _ _ _ _ _ _ us hl => match us, hl with | [_, _], _ => rfl) (fun ds q er h => congrArg (· + 1) (as1_len h)) fun F0 H0 pa ds q er h => ?_
  obtain ⟨some, rfl, h⟩ := as1_ h
  obtain ⟨xs, hs, h1, h2, hq⟩ := h
  rcases hs with rfl | rfl
  · refine eb_cons (es_ret (ops1 0 rfl rfl) ?_)
    refine ev_ix ?_
    refine ev_var (i := 1) rfl (.inl rfl) rfl ?_
    refine ev_callO (i := 0) (ok__law_draw T) (Nat.le_of_ble_eq_true rfl) rfl (ops1 0 rfl rfl) rfl (.inl rfl) rfl ?_
    refine ea_cons ?_
    refine ev_callB c_lenD rfl T.m_len bt_len ?_
    refine ea_cons ?_
    refine ev_var (i := 1) rfl (.inl rfl) rfl ?_
    refine ea_nil ?_
    refine ea_nil ?_
    refine ⟨by omega, by omega, fun r hr0 hr1 => ?_⟩
    obtain ⟨d, hd, hm⟩ := atI_mem hr0 hr1
    refine ⟨d, hd, ?_⟩
    exact hq d hm
  · refine eb_cons (es_ret (ops1 0 rfl rfl) ?_)
    refine ev_ix ?_
    refine ev_var (i := 1) rfl (.inl rfl) rfl ?_
    refine ev_callO (i := 0) (ok__law_draw T) (Nat.le_of_ble_eq_true rfl) rfl (ops1 0 rfl rfl) rfl (.inl rfl) rfl ?_
    refine ea_cons ?_
    refine ev_callB c_lenD rfl T.m_len bt_len ?_
    refine ea_cons ?_
    refine ev_var (i := 1) rfl (.inl rfl) rfl ?_
    refine ea_nil ?_
    refine ea_nil ?_
    refine ⟨by omega, by omega, fun r hr0 hr1 => ?_⟩
    obtain ⟨d, hd, hm⟩ := atI_mem hr0 hr1
    refine ⟨d, hd, ?_⟩
    exact hq d hm
theorem anyI {xs : List Da} {q : Da → Prop} {er : Er} (lo hi : Int) (h : allI lo hi xs) (k : ∀ x, lo ≤ x → x ≤ hi → q (.int x)) (hl : 0 < xs.length := by exact Nat.le_of_ble_eq_true rfl) (hl2 : xs.length < 1000000 := by exact Nat.le_of_ble_eq_true rfl) : q__law_of [.lst xs] q er :=
  ⟨xs, .inl rfl, hl, hl2, fun d hd => by
    obtain ⟨x, rfl, h0, h1⟩ := allI_mem h hd
    exact k x h0 h1⟩
theorem anyT {xs : List Da} {q : Da → Prop} {er : Er} (lo hi : Int) (h : allI lo hi xs) (k : ∀ x, lo ≤ x → x ≤ hi → q (.int x)) (hl : 0 < xs.length := by exact Nat.le_of_ble_eq_true rfl) (hl2 : xs.length < 1000000 := by exact Nat.le_of_ble_eq_true rfl) : q__law_of [.tup xs] q er :=
  ⟨xs, .inr rfl, hl, hl2, fun d hd => by
    obtain ⟨x, rfl, h0, h1⟩ := allI_mem h hd
    exact k x h0 h1⟩

/-! some of a row, unlike ones, in its order -/
@[reducible] def q__law_unlike : Fd := fun ds q _ => as2 ds fun s m => ∃ xs, (s = .lst xs ∨ ∃ z, s = .str z ∧ xs = chars z) ∧ xs.length ≤ 1000 ∧ asInt m fun k => 0 ≤ k ∧ k ≤ xs.length ∧ ∀ ds : List Da, ds.Sublist xs → (ds.length : Int) = k → q (.lst ds)
theorem ok__law_unlike (T : Txt K mg) : Cal P w K mg base "_law_unlike" "_law_unlike" s__law_unlike 2 ["well", "some", "many"] (SpO K PailOk q__law_unlike) := by
  refine calO T.d__law_unlike sc__law_unlike (fun _ _ _ _ _ _ us hl => match us, hl with | [_, _, _], _ => rfl) (fun ds q er h => congrArg (· + 1) (as2_len h)) fun F0 H0 pa ds q er h => ?_
  obtain ⟨some, many, rfl, h⟩ := as2_ h
  obtain ⟨xs, hs, hl, h2⟩ := h
  obtain ⟨m, rfl, hm0, hm1, hq⟩ := asInt_ h2
  rcases hs with rfl | ⟨z, rfl, rfl⟩
  · refine eb_cons (es_own (i := 3) rfl (.inl rfl) ?_)
    refine en_list rfl T.m_list ?_
    refine ev_var (i := 1) rfl (.inl rfl) rfl ?_
    intro A_left hA_left
    refine eb_weak (i := 3) (I' := fun ds => ds.Sublist xs ∧ ds.length + 0 = xs.length) rfl (fun ds e => by subst e; exact ⟨List.Sublist.refl _, rfl⟩) ?_
    refine eb_cons (es_for ?_)
    refine ei_range1 rfl T.m_range ?_
    refine ev_op g_sub ?_
    refine ev_callB c_lenD rfl T.m_len bt_len ?_
    refine ea_cons ?_
    refine ev_var (i := 1) rfl (.inl rfl) rfl ?_
    refine ea_nil ?_
    refine ev_var (i := 2) rfl (.inl rfl) rfl ?_
    refine ⟨⟨by omega, by omega⟩, ?_⟩
    refine forG_inv (fun i Γ => ∃ s4, Γ = [.inv pa PailOk, .dat (.lst xs), .dat (.int m), .inv A_left (fun ds => ds.Sublist xs ∧ ds.length + i = xs.length), s4]) ?_ ?_ ?_
    · exact ⟨_, rfl⟩
    · rintro i d Γ k hd ⟨s4, rfl⟩ hk
      have hi : i < ((xs.length : Int) - m).toNat := by
        have z := (List.getElem?_eq_some_iff.mp hd).1
        rwa [rngD_len] at z
      refine eg_name (i := 4) rfl (.inl rfl) ?_
      refine eb_cons (es_exprC ?_)
      refine ec_pop (i := 3) rfl (.inl rfl) rfl ?_
      refine EvC.of ?_
      refine ev_callO (i := 0) (ok__law_draw T) (Nat.le_of_ble_eq_true rfl) rfl (ops1 0 rfl rfl) rfl (.inl rfl) rfl ?_
      refine ea_cons ?_
      refine ev_lenO (i := 3) rfl (.inl rfl) rfl rfl T.m_len ?_
      rintro ds ⟨h1, h3⟩
      refine ea_nil ?_
      refine ⟨by omega, by omega, fun r hr0 hr1 => ?_⟩
      refine ⟨_, rfl, ?_⟩
      rintro ds' ⟨h5, h6⟩
      have hr : r < (ds'.length : Int) := by omega
      obtain ⟨y, hy, _⟩ := atI_mem hr0 hr
      have hn : r.toNat < ds'.length := by omega
      refine ⟨r.toNat, ds'[r.toNat], by have := h5.length_le; omega, by unfold ixN; rw [if_pos hr0, if_pos hr], List.getElem?_eq_getElem hn, fun ds => ds.Sublist xs ∧ ds.length + (i + 1) = xs.length, ⟨(List.eraseIdx_sublist _ _).trans h5, by rw [List.length_eraseIdx_of_lt hn]; omega⟩, ?_⟩
      refine eb_nil ?_
      exact hk _ ⟨_, rfl⟩
    · rintro Γ ⟨s4, rfl⟩
      refine eb_freeze (i := 3) rfl hA_left (fun ds_left h_left => ?_)
      refine eb_cons (es_ret (ops1 0 rfl rfl) ?_)
      refine ev_var (i := 3) rfl (.inl rfl) rfl ?_
      exact hq _ h_left.1 (by have := h_left.2; rw [rngD_len] at this; omega)
  · have hz : z.length ≤ 1000 := by rw [chars_len] at hl; exact hl
    refine eb_cons (es_own (i := 3) rfl (.inl rfl) ?_)
    refine en_list rfl T.m_list ?_
    refine ev_var (i := 1) rfl (.inl rfl) rfl ?_
    refine ⟨by omega, ?_⟩
    intro A_left hA_left
    refine eb_weak (i := 3) (I' := fun ds => ds.Sublist (chars z) ∧ ds.length + 0 = (chars z).length) rfl (fun ds e => by subst e; exact ⟨List.Sublist.refl _, rfl⟩) ?_
    refine eb_cons (es_for ?_)
    refine ei_range1 rfl T.m_range ?_
    refine ev_op g_sub ?_
    refine ev_callB c_lenD rfl T.m_len bt_len ?_
    refine ea_cons ?_
    refine ev_var (i := 1) rfl (.inl rfl) rfl ?_
    refine ea_nil ?_
    refine ⟨by omega, ?_⟩
    refine ev_var (i := 2) rfl (.inl rfl) rfl ?_
    rw [show (z.length : Int) = ((chars z).length : Int) by rw [chars_len]]
    refine ⟨⟨by omega, by omega⟩, ?_⟩
    refine forG_inv (fun i Γ => ∃ s4, Γ = [.inv pa PailOk, .dat (.str z), .dat (.int m), .inv A_left (fun ds => ds.Sublist (chars z) ∧ ds.length + i = (chars z).length), s4]) ?_ ?_ ?_
    · exact ⟨_, rfl⟩
    · rintro i d Γ k hd ⟨s4, rfl⟩ hk
      have hi : i < (((chars z).length : Int) - m).toNat := by
        have z := (List.getElem?_eq_some_iff.mp hd).1
        rwa [rngD_len] at z
      refine eg_name (i := 4) rfl (.inl rfl) ?_
      refine eb_cons (es_exprC ?_)
      refine ec_pop (i := 3) rfl (.inl rfl) rfl ?_
      refine EvC.of ?_
      refine ev_callO (i := 0) (ok__law_draw T) (Nat.le_of_ble_eq_true rfl) rfl (ops1 0 rfl rfl) rfl (.inl rfl) rfl ?_
      refine ea_cons ?_
      refine ev_lenO (i := 3) rfl (.inl rfl) rfl rfl T.m_len ?_
      rintro ds ⟨h1, h3⟩
      refine ea_nil ?_
      refine ⟨by omega, by omega, fun r hr0 hr1 => ?_⟩
      refine ⟨_, rfl, ?_⟩
      rintro ds' ⟨h5, h6⟩
      have hr : r < (ds'.length : Int) := by omega
      obtain ⟨y, hy, _⟩ := atI_mem hr0 hr
      have hn : r.toNat < ds'.length := by omega
      refine ⟨r.toNat, ds'[r.toNat], by have := h5.length_le; omega, by unfold ixN; rw [if_pos hr0, if_pos hr], List.getElem?_eq_getElem hn, fun ds => ds.Sublist (chars z) ∧ ds.length + (i + 1) = (chars z).length, ⟨(List.eraseIdx_sublist _ _).trans h5, by rw [List.length_eraseIdx_of_lt hn]; omega⟩, ?_⟩
      refine eb_nil ?_
      exact hk _ ⟨_, rfl⟩
    · rintro Γ ⟨s4, rfl⟩
      refine eb_freeze (i := 3) rfl hA_left (fun ds_left h_left => ?_)
      refine eb_cons (es_ret (ops1 0 rfl rfl) ?_)
      refine ev_var (i := 3) rfl (.inl rfl) rfl ?_
      exact hq _ h_left.1 (by have := h_left.2; rw [rngD_len] at this; omega)

@[reducible] def q__law_is : Fd := fun ds q _ => as2 ds fun a b => Shw a ∧ Shw b ∧ q (.bl (decide (a.py.shown = b.py.shown)))
theorem ok__law_is (T : Txt K mg) : Cal P w K mg base "_law_is" "_law_is" s__law_is 1 ["told", "due"] (SpD K q__law_is) := by
  refine calD T.d__law_is sc__law_is (fun _ _ _ _ _ _ us hl => match us, hl with | [_, _], _ => rfl) (fun ds q er h => as2_len h) fun F0 H0 ds q er h => ?_
  obtain ⟨told, due, rfl, h⟩ := as2_ h
  obtain ⟨h1, h2, hq⟩ := h
  refine eb_cons (es_ret (ops0 rfl) ?_)
  refine ev_cmp g_eq ?_
  refine ev_callB c_repr rfl T.m_repr bt_repr ?_
  refine ea_cons ?_
  refine ev_var (i := 0) rfl (.inl rfl) rfl ?_
  refine ea_nil ?_
  refine ⟨h1, ?_⟩
  refine ev_callB c_repr rfl T.m_repr bt_repr ?_
  refine ea_cons ?_
  refine ev_var (i := 1) rfl (.inl rfl) rfl ?_
  refine ea_nil ?_
  refine ⟨h2, ?_⟩
  exact hq
@[reducible] def q__law_words : Fd := fun ds q _ => as0 ds (q (.lst (w_WORDS.map Da.str)))
theorem ok__law_words (T : Txt K mg) : Cal P w K mg base "_law_words" "_law_words" s__law_words 1 [] (SpD K q__law_words) := by
  refine calD T.d__law_words sc__law_words (fun _ _ _ _ _ _ us hl => match us, hl with | [], _ => rfl) (fun ds q er h => as0_len h) fun F0 H0 ds q er h => ?_
  obtain ⟨rfl, h⟩ := as0_ h
  refine eb_cons (es_set (i := 0) rfl (.inl rfl) ?_)
  refine ev_lst ?_
  refine ea_cons ?_
  refine ev_str ?_
  refine ea_cons ?_
  refine ev_str ?_
  refine ea_cons ?_
  refine ev_str ?_
  refine ea_cons ?_
  refine ev_str ?_
  refine ea_cons ?_
  refine ev_str ?_
  refine ea_cons ?_
  refine ev_str ?_
  refine ea_cons ?_
  refine ev_str ?_
  refine ea_cons ?_
  refine ev_str ?_
  refine ea_cons ?_
  refine ev_str ?_
  refine ea_cons ?_
  refine ev_str ?_
  refine ea_cons ?_
  refine ev_str ?_
  refine ea_cons ?_
  refine ev_str ?_
  refine ea_cons ?_
  refine ev_str ?_
  refine ea_nil ⟨Nat.le_of_ble_eq_true rfl, ?_⟩
  refine eb_cons (es_set (i := 0) rfl (.inl rfl) ?_)
  refine ev_op g_addD ?_
  refine ev_var (i := 0) rfl (.inl rfl) rfl ?_
  refine ev_lst ?_
  refine ea_cons ?_
  refine ev_str ?_
  refine ea_cons ?_
  refine ev_str ?_
  refine ea_cons ?_
  refine ev_str ?_
  refine ea_cons ?_
  refine ev_str ?_
  refine ea_cons ?_
  refine ev_str ?_
  refine ea_cons ?_
  refine ev_str ?_
  refine ea_cons ?_
  refine ev_str ?_
  refine ea_cons ?_
  refine ev_str ?_
  refine ea_cons ?_
  refine ev_str ?_
  refine ea_cons ?_
  refine ev_str ?_
  refine ea_cons ?_
  refine ev_str ?_
  refine ea_cons ?_
  refine ev_str ?_
  refine ea_cons ?_
  refine ev_str ?_
  refine ea_nil ⟨Nat.le_of_ble_eq_true rfl, ?_⟩
  refine ⟨by first | exact Nat.le_of_ble_eq_true rfl | (simp only [List.length_append, List.length_map, List.length_cons, List.length_nil]; omega), ?_⟩
  refine eb_cons (es_ret (ops0 rfl) ?_)
  refine ev_op g_addD ?_
  refine ev_var (i := 0) rfl (.inl rfl) rfl ?_
  refine ev_lst ?_
  refine ea_cons ?_
  refine ev_str ?_
  refine ea_cons ?_
  refine ev_str ?_
  refine ea_cons ?_
  refine ev_str ?_
  refine ea_cons ?_
  refine ev_str ?_
  refine ea_cons ?_
  refine ev_str ?_
  refine ea_cons ?_
  refine ev_str ?_
  refine ea_cons ?_
  refine ev_str ?_
  refine ea_cons ?_
  refine ev_str ?_
  refine ea_cons ?_
  refine ev_str ?_
  refine ea_cons ?_
  refine ev_str ?_
  refine ea_nil ⟨Nat.le_of_ble_eq_true rfl, ?_⟩
  refine ⟨by first | exact Nat.le_of_ble_eq_true rfl | (simp only [List.length_append, List.length_map, List.length_cons, List.length_nil]; omega), ?_⟩
  exact h
/-- small letters alone -/
abbrev lowS (z : Str) : Prop := ∀ c ∈ z.cps.toList, isSm c = true
theorem isSm_lt {c : Nat} (h : isSm c = true) : c < 16 ^ 8 := by
  have h1 : c ∈ ("abcdefghijklmnopqrstuvwxyz" : Str).cps.toList := of_decide_eq_true h
  have h2 : ∀ c ∈ ("abcdefghijklmnopqrstuvwxyz" : Str).cps.toList, c < 16 ^ 8 := by decide +kernel
  exact h2 c h1
structure NameP (z : Str) : Prop where
  low : lowS z
  l0 : 1 ≤ z.length
  l1 : z.length ≤ 8
  w : isWord z = false
theorem NameP.is {z : Str} (h : NameP z) : isName (.str z) = true := by
  have h0 := h.l0
  have h1 := h.l1
  show (decide _ && decide _ && _ && !isWord z) = true
  rw [h.w, decide_eq_true (by omega), decide_eq_true (by omega), List.all_eq_true.mpr h.low]; rfl
theorem str_app (a b : Str) : (a ++ b).cps.toList = a.cps.toList ++ b.cps.toList := by rw [Str.cps_append, Array.toList_append]
theorem word_last : ∀ w ∈ w_WORDS, w.cps.toList.getLast? ≠ some 113 := by decide +kernel
theorem not_word (y : Str) : isWord (y ++ "q") = false := by
  cases h : isWord (y ++ "q") with
  | false => rfl
  | true =>
    obtain ⟨d, hd, e⟩ := List.any_eq_true.mp h
    obtain ⟨w, hw, rfl⟩ := List.mem_map.mp hd
    have e2 : w = y ++ "q" := by
      have e3 : (w == y ++ "q") = true := e
      exact eq_of_beq e3
    have z := word_last w hw
    rw [e2, str_app] at z
    exact absurd (by rw [List.getLast?_append]; rfl) z
theorem cutS_low {z : Str} {lo hi : Option Int} (h : lowS z) : lowS (cutS z lo hi) := fun c hc => h c (by
  unfold cutS at hc
  exact List.mem_of_mem_drop (List.mem_of_mem_take hc))
theorem cutS_len7 {z : Str} : (cutS z none (some 7)).length ≤ 7 := by
  show (cutS z none (some 7)).cps.size ≤ 7
  unfold cutS
  rw [List.size_toArray, List.length_take]
  have e1 : HT.sIx z.length z.length (some 7) = min 7 z.length := HT.sIx_nat z.length z.length 7
  rw [e1]; omega
theorem low_app {a b : Str} (h1 : lowS a) (h2 : lowS b) : lowS (a ++ b) := fun c hc => by
  rw [str_app] at hc
  rcases List.mem_append.mp hc with m | m
  · exact h1 c m
  · exact h2 c m
theorem len_app (a b : Str) : (a ++ b).length = a.length + b.length := by
  show (a ++ b).cps.size = a.cps.size + b.cps.size
  rw [Str.cps_append, Array.size_append]
theorem low_abc : lowS "abcdefghijklmnopqrstuvwxyz" := by decide +kernel
theorem low_q : lowS "q" := by decide +kernel
theorem low_1 {c : Nat} (h : isSm c = true) : lowS ⟨#[c]⟩ := fun d hd => by
  have e : d = c := by simpa using hd
  rw [e]; exact h
@[reducible] def q__law_names : Fd := fun ds q _ => as1 ds fun m => asInt m fun k => 0 ≤ k ∧ k ≤ 25 ∧ ∀ zs : List Str, (zs.length : Int) = k → (∀ z ∈ zs, NameP z) → q (.lst (zs.map Da.str))
theorem ok__law_names (T : Txt K mg) : Cal P w K mg base "_law_names" "_law_names" s__law_names 3 ["well", "many"] (SpO K PailOk q__law_names) := by
  refine calO T.d__law_names sc__law_names (fun _ _ _ _ _ _ us hl => match us, hl with | [_, _], _ => rfl) (fun ds q er h => congrArg (· + 1) (as1_len h)) fun F0 H0 pa ds q er h => ?_
  obtain ⟨many, rfl, h⟩ := as1_ h
  obtain ⟨m, rfl, hm0, hm1, hq⟩ := asInt_ h
  refine eb_cons (es_parNE (i := 2) (j := 3) rfl rfl (by decide) rfl rfl (by decide) (fun env h => by cases env; cases h; rfl) ?_)
  refine en_lst ?_
  refine ea_nil ⟨Nat.le_of_ble_eq_true rfl, ?_⟩
  refine ev_str ?_
  intro A_found hA_found
  refine eb_weak (i := 2) (I' := fun ds => ∃ zs : List Str, ds = zs.map Da.str ∧ zs.length = 0 ∧ ∀ z ∈ zs, NameP z) rfl (fun ds e => by subst e; exact ⟨[], rfl, rfl, fun _ h => nomatch h⟩) ?_
  refine eb_cons (es_for ?_)
  refine ei_seq ?_
  refine ev_callO (i := 0) (ok__law_unlike T) (Nat.le_of_ble_eq_true rfl) rfl (ops1 0 rfl rfl) rfl (.inl rfl) rfl ?_
  refine ea_cons ?_
  refine ev_sl ?_
  refine ev_var (i := 3) rfl (.inl rfl) rfl ?_
  refine eo_none ?_
  refine eo_some ?_
  refine ev_int ?_
  refine ⟨by decide, ?_⟩
  refine ea_cons ?_
  refine ev_var (i := 1) rfl (.inl rfl) rfl ?_
  refine ea_nil ?_
  have hc : (chars (cutS ("abcdefghijklmnopqrstuvwxyz" : Str) none (some 25))).length = 25 := by decide +kernel
  refine ⟨_, .inr ⟨_, rfl, rfl⟩, by omega, ?_⟩
  refine ⟨hm0, by omega, fun ds hds hlen => ?_⟩
  refine forG_inv (fun j Γ => ∃ s4 s5 s6, Γ = [.inv pa PailOk, .dat (.int m), .inv A_found (fun ds => ∃ zs : List Str, ds = zs.map Da.str ∧ zs.length = j ∧ ∀ z ∈ zs, NameP z), .dat (.str "abcdefghijklmnopqrstuvwxyz"), s4, s5, s6]) ⟨_, _, _, rfl⟩ ?_ ?_
  · rintro j d Γ k hd ⟨s4, s5, s6, rfl⟩ hk
    have hj : j < ds.length := (List.getElem?_eq_some_iff.mp hd).1
    obtain ⟨c, hc2, rfl⟩ := chars_mem (hds.subset (List.mem_of_getElem? hd))
    have hsm := cutS_low low_abc c hc2
    refine eg_name (i := 4) rfl (.inl rfl) ?_
    refine eb_cons (es_set (i := 5) rfl (.inl rfl) ?_)
    refine ev_var (i := 4) rfl (.inl rfl) rfl ?_
    refine eb_cons (es_for ?_)
    refine ei_range1 rfl T.m_range ?_
    refine ev_callO (i := 0) (ok__law_of T) (Nat.le_of_ble_eq_true rfl) rfl (ops1 0 rfl rfl) rfl (.inl rfl) rfl ?_
    refine ea_cons ?_
    refine ev_tup ?_
    refine ea_cons ?_
    refine ev_int ?_
    refine ea_cons ?_
    refine ev_int ?_
    refine ea_cons ?_
    refine ev_int ?_
    refine ea_cons ?_
    refine ev_int ?_
    refine ea_cons ?_
    refine ev_int ?_
    refine ea_cons ?_
    refine ev_int ?_
    refine ea_nil ⟨Nat.le_of_ble_eq_true rfl, ?_⟩
    refine ea_nil ?_
    refine anyT 0 7 (by simp only [allI, and_true]; omega) (fun x hx0 hx1 => ?_)
    refine ⟨⟨by omega, by omega⟩, ?_⟩
    refine forG_inv (fun i Γ => ∃ (z : Str) (s6 : Slot), Γ = [.inv pa PailOk, .dat (.int m), .inv A_found (fun ds => ∃ zs : List Str, ds = zs.map Da.str ∧ zs.length = j ∧ ∀ z ∈ zs, NameP z), .dat (.str "abcdefghijklmnopqrstuvwxyz"), .dat (.str ⟨#[c]⟩), .dat (.str z), s6] ∧ lowS z ∧ 1 ≤ z.length ∧ z.length ≤ 1 + i) ⟨_, _, rfl, low_1 hsm, Nat.le_refl 1, Nat.le_refl 1⟩ ?_ ?_
    · rintro i d2 Γ k2 hd2 ⟨z, s6, rfl, h1, h2, h3⟩ hk2
      have hi : i < (x : Int).toNat := by
        have z := (List.getElem?_eq_some_iff.mp hd2).1
        rwa [rngD_len] at z
      refine eg_name (i := 6) rfl (.inl rfl) ?_
      refine eb_cons (es_set (i := 5) rfl (.inl rfl) ?_)
      refine ev_op g_addD ?_
      refine ev_var (i := 5) rfl (.inl rfl) rfl ?_
      refine ev_ixS ?_
      refine ev_var (i := 3) rfl (.inl rfl) rfl ?_
      refine ev_callO (i := 0) (ok__law_draw T) (Nat.le_of_ble_eq_true rfl) rfl (ops1 0 rfl rfl) rfl (.inl rfl) rfl ?_
      refine ea_cons ?_
      refine ev_int ?_
      refine ea_nil ?_
      refine ⟨by omega, by omega, fun r hr0 hr1 => ?_⟩
      obtain ⟨c2, e2, hm2⟩ := atI_memG (ds := ("abcdefghijklmnopqrstuvwxyz" : Str).cps.toList) hr0 (show r < ((26 : Nat) : Int) from hr1)
      refine ⟨by decide, c2, e2, ?_⟩
      refine ⟨by show z.length + 1 ≤ _; omega, ?_⟩
      refine eb_nil ?_
      exact hk2 _ ⟨_, _, rfl, low_app h1 (low_1 (low_abc c2 hm2)), by rw [len_app]; omega, by rw [len_app]; show z.length + 1 ≤ _; omega⟩
    · rintro Γ ⟨z, s6', rfl, h1, h2, h3⟩
      rw [rngD_len] at h3
      refine eb_cons (es_exprC ?_)
      refine ec_append (i := 2) (I' := (fun ds => ∃ zs : List Str, ds = zs.map Da.str ∧ zs.length = j + 1 ∧ ∀ z ∈ zs, NameP z)) rfl (.inl rfl) rfl ?_
      refine EvC.of ?_
      refine ev_ifx ?_
      refine et_cmp g_in ?_
      refine ev_var (i := 5) rfl (.inl rfl) rfl ?_
      refine ev_call0 (ok__law_words T) (Nat.le_of_ble_eq_true rfl) rfl (ops1 0 rfl rfl) ?_
      refine ⟨rfl, words_flat, ?_⟩
      refine cond_x0 (fun c => ?_) (fun c => ?_)
      · refine ev_op g_addD ?_
        refine ev_sl ?_
        refine ev_var (i := 5) rfl (.inl rfl) rfl ?_
        refine eo_none ?_
        refine eo_some ?_
        refine ev_int ?_
        refine ⟨by omega, ?_⟩
        refine ev_str ?_
        have h7 := cutS_len7 (z := z)
        refine ⟨by show _ + 1 ≤ _; omega, ?_⟩
        refine ⟨_, rfl, ?_, ?_⟩
        · rintro ds ⟨zs, rfl, hl, hp⟩
          refine ⟨by rw [List.length_map]; omega, zs ++ [cutS z none (some 7) ++ "q"], by rw [List.map_append]; rfl, by rw [List.length_append, hl]; rfl, fun y hy => ?_⟩
          rcases List.mem_append.mp hy with hy | hy
          · exact hp y hy
          · rw [List.mem_singleton.mp hy]
            exact ⟨low_app (cutS_low h1) low_q, by rw [len_app]; show 1 ≤ _ + 1; omega, by rw [len_app]; show _ + 1 ≤ 8; omega, not_word _⟩
        refine eb_nil ?_
        exact hk _ ⟨_, _, _, rfl⟩
      · refine ev_var (i := 5) rfl (.inl rfl) rfl ?_
        refine ⟨_, rfl, ?_, ?_⟩
        · rintro ds ⟨zs, rfl, hl, hp⟩
          refine ⟨by rw [List.length_map]; omega, zs ++ [z], by rw [List.map_append]; rfl, by rw [List.length_append, hl]; rfl, fun y hy => ?_⟩
          rcases List.mem_append.mp hy with hy | hy
          · exact hp y hy
          · rw [List.mem_singleton.mp hy]
            exact ⟨h1, h2, by omega, c⟩
        refine eb_nil ?_
        exact hk _ ⟨_, _, _, rfl⟩
  · rintro Γ ⟨s4, s5, s6, rfl⟩
    refine eb_freeze (i := 2) rfl hA_found (fun ds_found h_found => ?_)
    refine eb_cons (es_ret (ops1 0 rfl rfl) ?_)
    refine ev_var (i := 2) rfl (.inl rfl) rfl ?_
    obtain ⟨zs, e, hl, hp⟩ := h_found
    subst e
    exact hq zs (by omega) hp

theorem ascI_pw : ∀ {ns : List Int}, ns.Pairwise (· < ·) → ascI ns = true
  | [], _ => rfl
  | [a], _ => rfl
  | a :: b :: r, h => by
    have h1 := ascI_pw (List.Pairwise.of_cons h)
    unfold ascI at h1 ⊢
    show (decide (a < b) && _) = true
    rw [decide_eq_true (List.rel_of_pairwise_cons h List.mem_cons_self)]
    exact h1
theorem rng_sub {ds : List Da} {lo : Int} {n : Nat} (h : ds.Sublist (rngD lo n)) : ∃ xs : List Int, ds = xs.map Da.int ∧ xs.Pairwise (· < ·) ∧ ∀ x ∈ xs, lo ≤ x ∧ x < lo + n := by
  have e : rngD lo n = ((List.range n).map fun i : Nat => lo + (i : Int)).map Da.int := by unfold rngD; rw [List.map_map]; rfl
  rw [e] at h
  obtain ⟨xs, h1, h2⟩ := List.sublist_map_iff.mp h
  refine ⟨xs, h2, List.Pairwise.sublist h1 ?_, fun x hx => ?_⟩
  · rw [List.pairwise_map]
    exact List.pairwise_lt_range.imp fun h => by omega
  · obtain ⟨i, hi, rfl⟩ := List.mem_map.mp (h1.subset hx)
    have := List.mem_range.mp hi
    omega
/-- a day gets a rate -/
def DayR (top : Int) (d y : Da) : Prop := ∃ x n m, d = .int x ∧ y = rateD (x, n, m) ∧ 1 ≤ n ∧ n ≤ top ∧ 1 ≤ m ∧ m ≤ top
theorem dayR_ {top : Int} : ∀ {xs : List Int} {ys : List Da}, All2 (DayR top) (xs.map Da.int) ys → ∃ l : List (Int × Int × Int), ys = l.map rateD ∧ l.map (·.1) = xs ∧ ∀ r ∈ l, 1 ≤ r.2.1 ∧ r.2.1 ≤ top ∧ 1 ≤ r.2.2 ∧ r.2.2 ≤ top
  | [], _, .nil => ⟨[], rfl, rfl, fun _ h => nomatch h⟩
  | x :: xs, _, .cons h t => by
    obtain ⟨x', n, m, e, rfl, h1, h2, h3, h4⟩ := h
    cases e
    obtain ⟨l, rfl, e2, h5⟩ := dayR_ t
    exact ⟨(x, n, m) :: l, rfl, by rw [List.map_cons, e2], fun r hr => by
      rcases List.mem_cons.mp hr with rfl | hr
      · exact ⟨h1, h2, h3, h4⟩
      · exact h5 r hr⟩
theorem fst_rates (l : List (Int × Int × Int)) : (l.map rateD).map fst0 = l.map (·.1) := by rw [List.map_map]; rfl
@[reducible] def q__law_money : Fd := fun ds q _ => as0 ds (∀ n l, MonP n l → q (monD n l))
theorem ok__law_money (T : Txt K mg) : Cal P w K mg base "_law_money" "_law_money" s__law_money 4 ["well"] (SpO K PailOk q__law_money) := by
  refine calO T.d__law_money sc__law_money (fun _ _ _ _ _ _ us hl => match us, hl with | [_], _ => rfl) (fun ds q er h => congrArg (· + 1) (as0_len h)) fun F0 H0 pa ds q er h => ?_
  obtain ⟨rfl, h⟩ := as0_ h
  refine eb_cons (es_set (i := 1) rfl (.inl rfl) ?_)
  refine ev_op g_addD ?_
  refine ev_lst ?_
  refine ea_cons ?_
  refine ev_int ?_
  refine ea_nil ⟨Nat.le_of_ble_eq_true rfl, ?_⟩
  refine ev_callO (i := 0) (ok__law_unlike T) (Nat.le_of_ble_eq_true rfl) rfl (ops1 0 rfl rfl) rfl (.inr (.inl rfl)) rfl ?_
  refine ea_cons ?_
  refine EvN.ev ?_
  refine en_listRg rfl T.m_list rfl T.m_range ?_
  refine ev_int ?_
  refine ev_int ?_
  refine ⟨⟨by decide, by decide, by decide, by decide, by decide⟩, ?_⟩
  refine ea_cons ?_
  refine ev_callO (i := 0) (ok__law_of T) (Nat.le_of_ble_eq_true rfl) rfl (ops1 0 rfl rfl) rfl (.inr (.inl rfl)) rfl ?_
  refine ea_cons ?_
  refine ev_tup ?_
  refine ea_cons ?_
  refine ev_int ?_
  refine ea_cons ?_
  refine ev_int ?_
  refine ea_cons ?_
  refine ev_int ?_
  refine ea_cons ?_
  refine ev_int ?_
  refine ea_nil ⟨Nat.le_of_ble_eq_true rfl, ?_⟩
  refine ea_nil ?_
  refine anyT 0 5 (by simp only [allI, and_true]; omega) (fun k hk0 hk1 => ?_)
  refine ea_nil ?_
  refine ⟨_, .inl rfl, by rw [rngD_len]; decide, hk0, by rw [rngD_len]; show k ≤ ((999 : Nat) : Int); omega, fun ds hds hlen => ?_⟩
  obtain ⟨xs, rfl, hp, hb⟩ := rng_sub hds
  rw [List.length_map] at hlen
  refine ⟨by first | exact Nat.le_of_ble_eq_true rfl | (simp only [List.length_append, List.length_map, List.length_cons, List.length_nil]; omega), ?_⟩
  refine eb_cons (es_set (i := 2) rfl (.inr rfl) ?_)
  refine ev_callO (i := 0) (ok__law_of T) (Nat.le_of_ble_eq_true rfl) rfl (ops1 0 rfl rfl) rfl (.inr (.inl rfl)) rfl ?_
  refine ea_cons ?_
  refine ev_tup ?_
  refine ea_cons ?_
  refine ev_int ?_
  refine ea_cons ?_
  refine ev_int ?_
  refine ea_cons ?_
  refine ev_pow (1000000) ⟨by decide, by decide, by decide⟩ (by decide +kernel) ?_
  refine ea_nil ⟨Nat.le_of_ble_eq_true rfl, ?_⟩
  refine ea_nil ?_
  refine anyT 9 1000000 (by simp only [allI, and_true]; omega) (fun top ht0 ht1 => ?_)
  refine eb_cons (es_ret (ops1 0 rfl rfl) ?_)
  refine ev_tup ?_
  refine ea_cons ?_
  refine ev_ix ?_
  refine ev_callO (i := 0) (ok__law_names T) (Nat.le_of_ble_eq_true rfl) rfl (ops1 0 rfl rfl) rfl (.inr (.inl rfl)) rfl ?_
  refine ea_cons ?_
  refine ev_int ?_
  refine ea_nil ?_
  refine ⟨by omega, by omega, fun zs hz hz2 => ?_⟩
  obtain ⟨z, rfl⟩ : ∃ z, zs = [z] := by
    match zs, hz with
    | [z], _ => exact ⟨z, rfl⟩
    | [], hz => exact absurd (show (0 : Int) = 1 from hz) (by decide)
    | _ :: _ :: _, hz => exact absurd hz (by simp only [List.length_cons]; omega)
  have hz3 := hz2 z (List.mem_singleton.mpr rfl)
  refine ev_int ?_
  refine ⟨.str z, rfl, ?_⟩
  refine ea_cons ?_
  refine ev_callTy c_tuple rfl T.m_tuple bt_tuple ?_
  refine ea_cons ?_
  refine ev_lc (own := [("day", 3)]) (blkOk_by (N := ["well", "days", "top", "day"]) (sc := defScope s__law_money) (by decide +kernel)) (by intro i hi p I; simp only [List.map_cons, List.map_nil, List.mem_cons, List.not_mem_nil, or_false] at hi; rcases hi with rfl <;> first | exact fun z => hno _ _ (Option.some.inj z) | exact fun z => nomatch z) ?_
  refine ei_seq ?_
  refine ev_var (i := 1) rfl (.inl rfl) rfl ?_
  refine ⟨by simp only [List.length_append, List.length_map, List.length_cons, List.length_nil]; omega, ?_⟩
  refine lcG_rel (R := DayR top) (fun d acc kk hd hkk => ?_) ?_
  · obtain ⟨x, rfl⟩ : ∃ x, d = .int x := by
      rcases List.mem_append.mp hd with h | h
      · exact ⟨0, List.mem_singleton.mp h⟩
      · obtain ⟨x, _, rfl⟩ := List.mem_map.mp h
        exact ⟨x, rfl⟩
    refine eg_name (i := 3) rfl (.inl rfl) ?_
    refine ets_nil ?_
    refine ev_tup ?_
    refine ea_cons ?_
    refine ev_var (i := 3) rfl (.inl rfl) rfl ?_
    refine ea_cons ?_
    refine ev_op g_addD ?_
    refine ev_int ?_
    refine ev_callO (i := 0) (ok__law_draw T) (Nat.le_of_ble_eq_true rfl) rfl (ops1 0 rfl rfl) rfl (.inr (.inl rfl)) rfl ?_
    refine ea_cons ?_
    refine ev_var (i := 2) rfl (.inr (.inl rfl)) rfl ?_
    refine ea_nil ?_
    refine ⟨by omega, by omega, fun r hr0 hr1 => ?_⟩
    refine ea_cons ?_
    refine ev_op g_addD ?_
    refine ev_int ?_
    refine ev_callO (i := 0) (ok__law_draw T) (Nat.le_of_ble_eq_true rfl) rfl (ops1 0 rfl rfl) rfl (.inr (.inl rfl)) rfl ?_
    refine ea_cons ?_
    refine ev_var (i := 2) rfl (.inr (.inl rfl)) rfl ?_
    refine ea_nil ?_
    refine ⟨by omega, by omega, fun r hr0 hr1 => ?_⟩
    refine ea_nil ⟨Nat.le_of_ble_eq_true rfl, ?_⟩
    exact hkk _ ⟨x, _, _, rfl, rfl, by omega, by omega, by omega, by omega⟩
  intro ys hys
  rw [List.nil_append]
  refine ea_nil ?_
  refine ea_nil ⟨Nat.le_of_ble_eq_true rfl, ?_⟩
  have hys' : All2 (DayR top) ((0 :: xs).map Da.int) ys := hys
  obtain ⟨l, rfl, e, hl⟩ := dayR_ hys'
  have el : l.length = (0 :: xs).length := by rw [← e, List.length_map]
  have hx0 : (0 :: xs).Pairwise (· < ·) := List.pairwise_cons.mpr ⟨fun x hx => by have := hb x hx; omega, hp⟩
  refine h z l ⟨hz3.is, hz3.l1, fun c hc => isSm_lt (hz3.low c hc), ?_, ?_, ?_, ?_, ?_⟩
  · rw [el, List.length_cons]; omega
  · rw [el, List.length_cons]; omega
  · intro r hr
    have h1 := hl r hr
    have h2 : r.1 ∈ 0 :: xs := by rw [← e]; exact List.mem_map.mpr ⟨r, hr, rfl⟩
    have h3 : 0 ≤ r.1 ∧ r.1 ≤ 999 := by
      rcases List.mem_cons.mp h2 with h | h
      · omega
      · have := hb _ h; have : ((999 : Nat) : Int) = 999 := rfl; omega
    exact ⟨h3.1, h3.2, h1.1, by omega, h1.2.2.1, by omega⟩
  · match l, e with
    | r :: l, e =>
      have : r.1 = 0 := (List.cons.inj e).1
      exact decide_eq_true this
  · rw [fst_rates, e]; exact ascI_pw hx0
@[reducible] def q__law_force : Fd := fun ds q _ => as2 ds fun m d => ∃ n l, m = .tup [n, .tup (l.map rateD)] ∧ l.length ≤ 1000 ∧ asInt d fun x => (∃ r ∈ l, r.1 ≤ x) ∧ q (pairD (rateOn l x))
theorem ok__law_force (T : Txt K mg) : Cal P w K mg base "_law_force" "_law_force" s__law_force 1 ["money", "day"] (SpD K q__law_force) := by
  refine calD T.d__law_force sc__law_force (fun _ _ _ _ _ _ us hl => match us, hl with | [_, _], _ => rfl) (fun ds q er h => as2_len h) fun F0 H0 ds q er h => ?_
  obtain ⟨money, day, rfl, h⟩ := as2_ h
  obtain ⟨n, l, rfl, hl, h2⟩ := h
  obtain ⟨x, rfl, hx, hq⟩ := asInt_ h2
  refine eb_cons (es_ret (ops0 rfl) ?_)
  refine ev_ix ?_
  refine ev_lc (own := [("rate", 2)]) (blkOk_by (N := ["money", "day", "rate"]) (sc := defScope s__law_force) (by decide +kernel)) (by intro i hi p I; simp only [List.map_cons, List.map_nil, List.mem_cons, List.not_mem_nil, or_false] at hi; rcases hi with rfl <;> first | exact fun z => hno _ _ (Option.some.inj z) | exact fun z => nomatch z) ?_
  refine ei_tup ?_
  refine ev_ix ?_
  refine ev_var (i := 0) rfl (.inl rfl) rfl ?_
  refine ev_int ?_
  refine ⟨_, rfl, ?_⟩
  refine ⟨by rw [List.length_map]; omega, ?_⟩
  refine lcG_fil (p := fun d => decide (fst0 d ≤ x)) (f := sndD) (fun d acc k hd hk1 hk2 => ?_) ?_
  · obtain ⟨r, _, rfl⟩ := List.mem_map.mp hd
    refine eg_name (i := 2) rfl (.inl rfl) ?_
    refine ets_one ?_
    refine et_cmp g_le ?_
    refine ev_ix ?_
    refine ev_var (i := 2) rfl (.inl rfl) rfl ?_
    refine ev_int ?_
    refine ⟨_, rfl, ?_⟩
    refine ev_var (i := 1) rfl (.inr (.inl rfl)) rfl ?_
    refine cond_b (fun c => ?_) (fun c => ?_)
    · refine ev_sl ?_
      refine ev_var (i := 2) rfl (.inl rfl) rfl ?_
      refine eo_some ?_
      refine ev_int ?_
      refine eo_none ?_
      exact hk1 c
    · exact hk2 c
  refine ev_neg ?_
  refine ev_int ?_
  refine ⟨_, rateOn_at hx, ?_⟩
  exact hq

/-! values that are no moneys -/
structure Bad (d : Da) : Prop where
  f : Fit d
  m : isMon d = false
theorem okTc {x : Da} {xs : List Da} (h : x.okS) (t : (Da.tup xs).okS) : (Da.tup (x :: xs)).okS := by
  unfold Da.okS at t ⊢; unfold Da.okSs; exact ⟨h, t⟩
theorem okLc {x : Da} {xs : List Da} (h : x.okS) (t : (Da.lst xs).okS) : (Da.lst (x :: xs)).okS := by
  unfold Da.okS at t ⊢; unfold Da.okSs; exact ⟨h, t⟩
theorem okT0 : (Da.tup []).okS := by unfold Da.okS Da.okSs; trivial
theorem okL0 : (Da.lst []).okS := by unfold Da.okS Da.okSs; trivial
theorem okN : Da.non.okS := by unfold Da.okS; trivial
theorem okB {b : Bool} : (Da.bl b).okS := by unfold Da.okS; trivial
theorem okI {i : Int} (h : i.natAbs < 10 ^ 40) : (Da.int i).okS := by unfold Da.okS; exact h
theorem okSs_of : ∀ {xs : List Da}, (∀ x ∈ xs, x.okS) → Da.okSs xs
  | [], _ => by unfold Da.okSs; trivial
  | x :: xs, h => by
    unfold Da.okSs
    exact ⟨h x List.mem_cons_self, okSs_of fun y hy => h y (List.mem_cons_of_mem _ hy)⟩
theorem szs_le {B : Nat} : ∀ {xs : List Da}, (∀ x ∈ xs, x.sz ≤ B) → Da.szs xs ≤ (B + 1) * xs.length
  | [], _ => by unfold Da.szs; exact Nat.zero_le _
  | x :: xs, h => by
    unfold Da.szs
    have h1 := h x List.mem_cons_self
    have h2 := szs_le (B := B) (xs := xs) fun y hy => h y (List.mem_cons_of_mem _ hy)
    rw [List.length_cons, Nat.mul_add]; omega
theorem rate_ok {l : List (Int × Int × Int)} (h : ∀ r ∈ l, RateP r) {x : Da} (hx : x ∈ l.map rateD) : x.okS ∧ x.sz ≤ 10 := by
  obtain ⟨r, hr, rfl⟩ := List.mem_map.mp hx
  have := (h r hr).a0; have := (h r hr).a1; have := (h r hr).b0; have := (h r hr).b1; have := (h r hr).c0; have := (h r hr).c1
  exact ⟨okTc (okI (by omega)) (okTc (okI (by omega)) (okTc (okI (by omega)) okT0)), by simp only [rateD, Da.sz, Da.szs]; omega⟩
/-- no rate -/
structure WR (d : Da) : Prop where
  r : isRate d = false
  o : d.okS
  s : d.sz ≤ 10
theorem bad_put {n : Str} {l : List (Int × Int × Int)} (h : MonP n l) {d : Da} (w : WR d) (a b : Option Int) : Bad (.tup [.str n, .tup (cutD (l.map rateD) none a ++ [d] ++ cutD (l.map rateD) b none)]) := by
  have hx : ∀ x ∈ cutD (l.map rateD) none a ++ [d] ++ cutD (l.map rateD) b none, x.okS ∧ x.sz ≤ 10 := fun x hx => by
    rcases List.mem_append.mp hx with hx | hx
    · rcases List.mem_append.mp hx with hx | hx
      · exact rate_ok h.r (mem_cut hx)
      · rw [List.mem_singleton.mp hx]; exact ⟨w.o, w.s⟩
    · exact rate_ok h.r (mem_cut hx)
  have h1 := cutD_len (xs := l.map rateD) (lo := none) (hi := a)
  have h2 := cutD_len (xs := l.map rateD) (lo := b) (hi := none)
  rw [List.length_map] at h1 h2
  have h3 := h.l1
  have h4 : n.cps.size ≤ 8 := h.nl
  have h5 := szs_le (B := 10) fun x m => (hx x m).2
  rw [List.length_append, List.length_append, List.length_singleton] at h5
  refine ⟨⟨okTc (by unfold Da.okS; exact h.nc) (okTc (by unfold Da.okS; exact okSs_of fun x m => (hx x m).1) okT0), ?_⟩, ?_⟩
  · simp only [Da.sz, Da.szs]; omega
  · have e : (cutD (l.map rateD) none a ++ [d] ++ cutD (l.map rateD) b none).all isRate = false := by
      rw [List.all_append, List.all_append, List.all_cons, w.r, Bool.false_and, Bool.and_false, Bool.false_and]
    show (isName _ && (_ && (_ && (_ && _)))) = false
    rw [e, Bool.false_and, Bool.and_false, Bool.and_false, Bool.and_false]
theorem ascI_dup : ∀ (ns : List Int) (x : Int), ascI (ns ++ [x, x]) = false
  | [], x => by show (decide (x < x) && _) = false; rw [decide_eq_false (by omega)]; rfl
  | [a], x => by show (decide (a < x) && (decide (x < x) && _)) = false; rw [decide_eq_false (p := x < x) (by omega), Bool.false_and, Bool.and_false]
  | a :: b :: ns, x => by
    have h := ascI_dup (b :: ns) x
    unfold ascI at h ⊢
    exact (show (decide (a < b) && ((((b :: ns) ++ [x, x]).zip (((b :: ns) ++ [x, x]).drop 1)).all fun z => decide (z.1 < z.2))) = false by rw [h, Bool.and_false])
theorem cut_last {ds : List Da} (h : ds ≠ []) : cutD ds (some (-1)) none = [ds.getLast h] := by
  have : 0 < ds.length := List.length_pos_iff.mpr h
  unfold GX.cutD
  have e0 : HT.sIx ds.length ds.length none = ds.length := rfl
  have e1 : HT.sIx ds.length 0 (some (-1)) = ds.length - 1 := by
    show (if (-1 : Int) < 0 then ((-1 : Int) + (ds.length : Int)).toNat else min (-1 : Int).toNat ds.length) = _
    rw [if_pos (by decide)]; omega
  rw [e0, e1, show ds.length - (ds.length - 1) = 1 by omega]
  have e2 : ds.drop (ds.length - 1) = [ds.getLast h] := by
    rw [List.drop_eq_getElem_cons (by omega), List.getLast_eq_getElem, List.drop_eq_nil_of_le (by omega)]
  rw [e2]; rfl
theorem bad_twice {n : Str} {l : List (Int × Int × Int)} (h : MonP n l) : Bad (.tup [.str n, .tup (l.map rateD ++ cutD (l.map rateD) (some (-1)) none)]) := by
  have hl := h.l0
  have hne : l ≠ [] := fun e => by subst e; exact absurd hl (by decide)
  have hne2 : l.map rateD ≠ [] := fun e => hne (List.map_eq_nil_iff.mp e)
  have e1 : l.map rateD ++ cutD (l.map rateD) (some (-1)) none = (l ++ [l.getLast hne]).map rateD := by
    rw [cut_last hne2, List.map_append, List.getLast_map]; rfl
  have hr : ∀ r ∈ l ++ [l.getLast hne], RateP r := fun r m => by
    rcases List.mem_append.mp m with m | m
    · exact h.r r m
    · rw [List.mem_singleton.mp m]; exact h.r _ (List.getLast_mem hne)
  rw [e1]
  have h3 := h.l1
  have h4 : n.cps.size ≤ 8 := h.nl
  refine ⟨⟨okTc (by unfold Da.okS; exact h.nc) (okTc (by unfold Da.okS; exact okS_rates hr) okT0), ?_⟩, ?_⟩
  · simp only [Da.sz, Da.szs]; rw [sz_rates, List.length_append, List.length_singleton]; omega
  · have e : ascI (((l ++ [l.getLast hne]).map rateD).map fst0) = false := by
      rw [fst_rates, List.map_append]
      have : l = l.dropLast ++ [l.getLast hne] := (List.dropLast_concat_getLast hne).symm
      have e2 : l.map (·.1) = l.dropLast.map (·.1) ++ [(l.getLast hne).1] := by
        conv => lhs; rw [this]
        rw [List.map_append]; rfl
      rw [e2, List.append_assoc]
      exact ascI_dup _ _
    show (isName _ && (_ && (_ && (_ && (_ && _))))) = false
    rw [e, Bool.and_false, Bool.and_false, Bool.and_false, Bool.and_false, Bool.and_false]
theorem bad_name {d : Da} {l : List (Int × Int × Int)} (hr : ∀ r ∈ l, RateP r) (hl : l.length ≤ 6) (h1 : isName d = false) (h2 : d.okS) (h3 : d.sz ≤ 100) : Bad (.tup [d, .tup (l.map rateD)]) := by
  refine ⟨⟨okTc h2 (okTc (by unfold Da.okS; exact okS_rates hr) okT0), ?_⟩, ?_⟩
  · simp only [Da.sz, Da.szs]; rw [sz_rates]; omega
  · show (isName _ && _) = false
    rw [h1]; rfl
theorem word_not_name : ∀ w ∈ w_WORDS, isName (.str w) = false ∧ (Da.str w).okS ∧ (Da.str w).sz ≤ 100 := by
  have h : ∀ w ∈ w_WORDS, isName (.str w) = false ∧ (∀ c ∈ w.cps.toList, c < 16 ^ 8) ∧ w.cps.size ≤ 100 := by decide +kernel
  exact fun w hw => ⟨(h w hw).1, by unfold Da.okS; exact (h w hw).2.1, by unfold Da.sz; exact (h w hw).2.2⟩
@[reducible] def q__law_none : Fd := fun ds q _ => as1 ds fun d => ∃ n l, d = monD n l ∧ MonP n l ∧ ∀ d, Bad d → q d
theorem ok__law_none (T : Txt K mg) : Cal P w K mg base "_law_none" "_law_none" s__law_none 3 ["well", "money"] (SpO K PailOk q__law_none) := by
  refine calO T.d__law_none sc__law_none (fun _ _ _ _ _ _ us hl => match us, hl with | [_, _], _ => rfl) (fun ds q er h => congrArg (· + 1) (as1_len h)) fun F0 H0 pa ds q er h => ?_
  obtain ⟨money, rfl, h⟩ := as1_ h
  obtain ⟨n, l, rfl, hm, hq⟩ := h
  have hlen : (l.map rateD).length = l.length := List.length_map ..
  have hl0 := hm.l0
  have hl1 := hm.l1
  have hn8 : n.cps.size ≤ 8 := hm.nl
  have on : (Da.str n).okS := by unfold Da.okS; exact hm.nc
  have orT : (Da.tup (l.map rateD)).okS := by unfold Da.okS; exact okS_rates hm.r
  have orL : (Da.lst (l.map rateD)).okS := by unfold Da.okS; exact okS_rates hm.r
  refine eb_cons (es_asg ?_)
  refine ev_var (i := 1) rfl (.inl rfl) rfl ?_
  refine eg_tup ?_
  refine egs_cons ?_
  refine eg_name (i := 2) rfl (.inl rfl) ?_
  refine egs_cons ?_
  refine eg_name (i := 3) rfl (.inr rfl) ?_
  refine egs_nil ?_
  refine eb_cons (es_set (i := 4) rfl (.inl rfl) ?_)
  refine ev_callO (i := 0) (ok__law_draw T) (Nat.le_of_ble_eq_true rfl) rfl (ops1 0 rfl rfl) rfl (.inl rfl) rfl ?_
  refine ea_cons ?_
  refine ev_callB c_lenD rfl T.m_len bt_len ?_
  refine ea_cons ?_
  refine ev_var (i := 3) rfl (.inr (.inl rfl)) rfl ?_
  refine ea_nil ?_
  refine ea_nil ?_
  refine ⟨by omega, by omega, fun r hr0 hr1 => ?_⟩
  refine eb_cons (es_asg ?_)
  refine ev_ix ?_
  refine ev_var (i := 3) rfl (.inr (.inl rfl)) rfl ?_
  refine ev_var (i := 4) rfl (.inl rfl) rfl ?_
  obtain ⟨d, hd, hdm⟩ := atI_mem (ds := l.map rateD) hr0 hr1
  obtain ⟨r1, hr1m, rfl⟩ := List.mem_map.mp hdm
  have := (hm.r r1 hr1m).a0; have := (hm.r r1 hr1m).a1; have := (hm.r r1 hr1m).b0; have := (hm.r r1 hr1m).b1; have := (hm.r r1 hr1m).c0; have := (hm.r r1 hr1m).c1
  refine ⟨_, hd, ?_⟩
  refine eg_tup ?_
  refine egs_cons ?_
  refine eg_name (i := 5) rfl (.inl rfl) ?_
  refine egs_cons ?_
  refine eg_name (i := 6) rfl (.inl rfl) ?_
  refine egs_cons ?_
  refine eg_name (i := 7) rfl (.inl rfl) ?_
  refine egs_nil ?_
  refine eb_cons (es_own (i := 8) rfl (.inl rfl) ?_)
  refine en_lst ?_
  refine ea_cons ?_
  refine ev_tup ?_
  refine ea_cons ?_
  refine ev_var (i := 2) rfl (.inl rfl) rfl ?_
  refine ea_nil ⟨Nat.le_of_ble_eq_true rfl, ?_⟩
  refine ea_cons ?_
  refine ev_op g_addD ?_
  refine ev_var (i := 1) rfl (.inl rfl) rfl ?_
  refine ev_tup ?_
  refine ea_cons ?_
  refine ev_int ?_
  refine ea_nil ⟨Nat.le_of_ble_eq_true rfl, ?_⟩
  refine ⟨by first | exact Nat.le_of_ble_eq_true rfl | (simp only [List.length_append, List.length_map, List.length_cons, List.length_nil]; omega), ?_⟩
  refine ea_cons ?_
  refine EvN.ev ?_
  refine en_list rfl T.m_list ?_
  refine ev_var (i := 1) rfl (.inl rfl) rfl ?_
  refine ea_cons ?_
  refine ev_non ?_
  refine ea_cons ?_
  refine ev_tup ?_
  refine ea_nil ⟨Nat.le_of_ble_eq_true rfl, ?_⟩
  refine ea_cons ?_
  refine ev_var (i := 2) rfl (.inl rfl) rfl ?_
  refine ea_cons ?_
  refine ev_var (i := 3) rfl (.inr (.inl rfl)) rfl ?_
  refine ea_cons ?_
  refine ev_tup ?_
  refine ea_cons ?_
  refine ev_var (i := 2) rfl (.inl rfl) rfl ?_
  refine ea_cons ?_
  refine ev_tup ?_
  refine ea_nil ⟨Nat.le_of_ble_eq_true rfl, ?_⟩
  refine ea_nil ⟨Nat.le_of_ble_eq_true rfl, ?_⟩
  refine ea_cons ?_
  refine ev_tup ?_
  refine ea_cons ?_
  refine ev_var (i := 2) rfl (.inl rfl) rfl ?_
  refine ea_cons ?_
  refine EvN.ev ?_
  refine en_list rfl T.m_list ?_
  refine ev_var (i := 3) rfl (.inr (.inl rfl)) rfl ?_
  refine ea_nil ⟨Nat.le_of_ble_eq_true rfl, ?_⟩
  refine ea_cons ?_
  refine ev_tup ?_
  refine ea_cons ?_
  refine ev_var (i := 3) rfl (.inr (.inl rfl)) rfl ?_
  refine ea_cons ?_
  refine ev_var (i := 2) rfl (.inl rfl) rfl ?_
  refine ea_nil ⟨Nat.le_of_ble_eq_true rfl, ?_⟩
  refine ea_nil ⟨Nat.le_of_ble_eq_true rfl, ?_⟩
  intro A_some hA_some
  have bad1 : ∀ d ∈ [Da.tup [.str n], .tup ([.str n, .tup (l.map rateD)] ++ [.int 0]), .lst [.str n, .tup (l.map rateD)], .non, .tup [], .str n, .tup (l.map rateD), .tup [.str n, .tup []], .tup [.str n, .lst (l.map rateD)], .tup [.tup (l.map rateD), .str n]], Bad d := by
    have sz1 := sz_rates l
    intro d hd
    simp only [List.mem_cons, List.not_mem_nil, or_false] at hd
    rcases hd with rfl | rfl | rfl | rfl | rfl | rfl | rfl | rfl | rfl | rfl
    · exact ⟨⟨okTc on okT0, by simp only [Da.sz, Da.szs]; omega⟩, rfl⟩
    · exact ⟨⟨okTc on (okTc orT (okTc (okI (by decide)) okT0)), by simp only [List.cons_append, List.nil_append, Da.sz, Da.szs]; omega⟩, rfl⟩
    · exact ⟨⟨okLc on (okLc orT okL0), by simp only [Da.sz, Da.szs]; omega⟩, rfl⟩
    · exact ⟨⟨okN, by simp only [Da.sz, Da.szs]; omega⟩, rfl⟩
    · exact ⟨⟨okT0, by simp only [Da.sz, Da.szs]; omega⟩, rfl⟩
    · exact ⟨⟨on, by simp only [Da.sz, Da.szs]; omega⟩, rfl⟩
    · refine ⟨⟨orT, by simp only [Da.sz, Da.szs]; omega⟩, ?_⟩
      match l with
      | [] => rfl
      | [_] => rfl
      | [_, _] => rfl
      | _ :: _ :: _ :: _ => rfl
    · refine ⟨⟨okTc on (okTc okT0 okT0), by simp only [Da.sz, Da.szs]; omega⟩, ?_⟩
      show (isName _ && (decide ((1 : Int) ≤ 0) && _)) = false
      rw [decide_eq_false (by decide), Bool.false_and, Bool.and_false]
    · exact ⟨⟨okTc on (okTc orL okT0), by simp only [Da.sz, Da.szs]; omega⟩, rfl⟩
    · exact ⟨⟨okTc orT (okTc on okT0), by simp only [Da.sz, Da.szs]; omega⟩, rfl⟩
  refine eb_weak (i := 8) (I' := fun ds => (∀ d ∈ ds, Bad d) ∧ ds.length ≤ 10 + 0) rfl (fun ds e => by subst e; exact ⟨bad1, Nat.le_refl _⟩) ?_
  refine eb_cons (es_set (i := 9) rfl (.inl rfl) ?_)
  refine ev_tup ?_
  refine ea_cons ?_
  refine ev_tup ?_
  refine ea_cons ?_
  refine ev_var (i := 5) rfl (.inl rfl) rfl ?_
  refine ea_cons ?_
  refine ev_int ?_
  refine ea_cons ?_
  refine ev_var (i := 7) rfl (.inl rfl) rfl ?_
  refine ea_nil ⟨Nat.le_of_ble_eq_true rfl, ?_⟩
  refine ea_cons ?_
  refine ev_tup ?_
  refine ea_cons ?_
  refine ev_var (i := 5) rfl (.inl rfl) rfl ?_
  refine ea_cons ?_
  refine ev_var (i := 6) rfl (.inl rfl) rfl ?_
  refine ea_cons ?_
  refine ev_int ?_
  refine ea_nil ⟨Nat.le_of_ble_eq_true rfl, ?_⟩
  refine ea_cons ?_
  refine ev_tup ?_
  refine ea_cons ?_
  refine ev_var (i := 5) rfl (.inl rfl) rfl ?_
  refine ea_cons ?_
  refine ev_op g_addD ?_
  refine ev_pow (1000000) ⟨by decide, by decide, by decide⟩ (by decide +kernel) ?_
  refine ev_int ?_
  refine ea_cons ?_
  refine ev_var (i := 7) rfl (.inl rfl) rfl ?_
  refine ea_nil ⟨Nat.le_of_ble_eq_true rfl, ?_⟩
  refine ea_cons ?_
  refine ev_tup ?_
  refine ea_cons ?_
  refine ev_var (i := 5) rfl (.inl rfl) rfl ?_
  refine ea_cons ?_
  refine ev_var (i := 6) rfl (.inl rfl) rfl ?_
  refine ea_cons ?_
  refine ev_bl ?_
  refine ea_nil ⟨Nat.le_of_ble_eq_true rfl, ?_⟩
  refine ea_cons ?_
  refine ev_tup ?_
  refine ea_cons ?_
  refine ev_var (i := 5) rfl (.inl rfl) rfl ?_
  refine ea_cons ?_
  refine ev_var (i := 6) rfl (.inl rfl) rfl ?_
  refine ea_nil ⟨Nat.le_of_ble_eq_true rfl, ?_⟩
  refine ea_nil ⟨Nat.le_of_ble_eq_true rfl, ?_⟩
  refine eb_cons (es_for ?_)
  refine ei_tup ?_
  refine ev_op g_addD ?_
  refine ev_var (i := 9) rfl (.inl rfl) rfl ?_
  refine ev_tup ?_
  refine ea_cons ?_
  refine ev_tup ?_
  refine ea_cons ?_
  refine ev_int ?_
  refine ea_cons ?_
  refine ev_var (i := 6) rfl (.inl rfl) rfl ?_
  refine ea_cons ?_
  refine ev_var (i := 7) rfl (.inl rfl) rfl ?_
  refine ea_nil ⟨Nat.le_of_ble_eq_true rfl, ?_⟩
  refine ea_cons ?_
  refine ev_lst ?_
  refine ea_cons ?_
  refine ev_var (i := 5) rfl (.inl rfl) rfl ?_
  refine ea_cons ?_
  refine ev_var (i := 6) rfl (.inl rfl) rfl ?_
  refine ea_cons ?_
  refine ev_var (i := 7) rfl (.inl rfl) rfl ?_
  refine ea_nil ⟨Nat.le_of_ble_eq_true rfl, ?_⟩
  refine ea_nil ⟨Nat.le_of_ble_eq_true rfl, ?_⟩
  refine ⟨by first | exact Nat.le_of_ble_eq_true rfl | (simp only [List.length_append, List.length_map, List.length_cons, List.length_nil]; omega), ?_⟩
  have hW : ∀ d ∈ [Da.tup [.int r1.1, .int 0, .int r1.2.2], .tup [.int r1.1, .int r1.2.1, .int 0], .tup [.int r1.1, .int (1000000 + 1), .int r1.2.2], .tup [.int r1.1, .int r1.2.1, .bl true], .tup [.int r1.1, .int r1.2.1]] ++ [.tup [.int 1000, .int r1.2.1, .int r1.2.2], .lst [.int r1.1, .int r1.2.1, .int r1.2.2]], WR d := by
    intro d hd
    simp only [List.mem_append, List.mem_cons, List.not_mem_nil, or_false] at hd
    rcases hd with (rfl | rfl | rfl | rfl | rfl) | (rfl | rfl)
    all_goals refine ⟨by first | rfl | (simp [isRate, numOk, loOk, hiOk]; done) | (simp [isRate, numOk, loOk, hiOk]; omega), by repeat first | exact okT0 | exact okL0 | exact okB | exact okI (by omega) | refine okTc ?_ ?_ | refine okLc ?_ ?_, by simp only [Da.sz, Da.szs]; omega⟩
  refine forG_inv (fun j Γ => ∃ s10, Γ = [.inv pa PailOk, .dat (monD n l), .dat (.str n), .dat (.tup (l.map rateD)), .dat (.int r), .dat (.int r1.1), .dat (.int r1.2.1), .dat (.int r1.2.2), .inv A_some (fun ds => (∀ d ∈ ds, Bad d) ∧ ds.length ≤ 10 + j), .dat (.tup [Da.tup [.int r1.1, .int 0, .int r1.2.2], .tup [.int r1.1, .int r1.2.1, .int 0], .tup [.int r1.1, .int (1000000 + 1), .int r1.2.2], .tup [.int r1.1, .int r1.2.1, .bl true], .tup [.int r1.1, .int r1.2.1]]), s10] ∧ ∀ p I, s10 ≠ .inv p I) ⟨_, rfl, fun _ _ z => nomatch z⟩ ?_ ?_
  · rintro j d Γ k hd ⟨s10, rfl, hno⟩ hk
    have hj : j < 7 := (List.getElem?_eq_some_iff.mp hd).1
    have w := hW d (List.mem_of_getElem? hd)
    have c1 := cutD_len (xs := l.map rateD) (lo := none) (hi := some r)
    have c2 := cutD_len (xs := l.map rateD) (lo := some (r + 1)) (hi := none)
    refine eg_name (i := 10) rfl (.inl rfl) ?_
    refine eb_cons (es_exprC ?_)
    refine ec_append (i := 8) (I' := (fun ds => (∀ d ∈ ds, Bad d) ∧ ds.length ≤ 10 + (j + 1))) rfl (.inl rfl) rfl ?_
    refine EvC.of ?_
    refine ev_tup ?_
    refine ea_cons ?_
    refine ev_var (i := 2) rfl (.inl rfl) rfl ?_
    refine ea_cons ?_
    refine ev_op g_addD ?_
    refine ev_op g_addD ?_
    refine ev_sl ?_
    refine ev_var (i := 3) rfl (.inr (.inl rfl)) rfl ?_
    refine eo_none ?_
    refine eo_some ?_
    refine ev_var (i := 4) rfl (.inl rfl) rfl ?_
    refine ev_tup ?_
    refine ea_cons ?_
    refine ev_var (i := 10) rfl (.inl rfl) rfl ?_
    refine ea_nil ⟨Nat.le_of_ble_eq_true rfl, ?_⟩
    refine ⟨by simp only [List.length_append, List.length_cons, List.length_nil]; omega, ?_⟩
    refine ev_sl ?_
    refine ev_var (i := 3) rfl (.inr (.inl rfl)) rfl ?_
    refine eo_some ?_
    refine ev_op g_addD ?_
    refine ev_var (i := 4) rfl (.inl rfl) rfl ?_
    refine ev_int ?_
    refine eo_none ?_
    refine ⟨by simp only [List.length_append, List.length_cons, List.length_nil]; omega, ?_⟩
    refine ea_nil ⟨Nat.le_of_ble_eq_true rfl, ?_⟩
    refine ⟨_, rfl, ?_, ?_⟩
    · rintro ds ⟨h1, h2⟩
      refine ⟨by omega, fun y hy => ?_, by rw [List.length_append, List.length_singleton]; omega⟩
      rcases List.mem_append.mp hy with hy | hy
      · exact h1 y hy
      · rw [List.mem_singleton.mp hy]; exact bad_put hm w _ _
    refine eb_nil ?_
    exact hk _ ⟨_, rfl, fun _ _ z => nomatch z⟩
  rintro Γ ⟨s10, rfl, hno⟩
  refine eb_freeze (i := 8) rfl hA_some (fun ds_some h_some => ?_)
  refine eb_cons (es_set (i := 8) rfl (.inl rfl) ?_)
  refine ev_op g_addD ?_
  refine ev_var (i := 8) rfl (.inl rfl) rfl ?_
  refine ev_lst ?_
  refine ea_cons ?_
  refine ev_tup ?_
  refine ea_cons ?_
  refine ev_var (i := 2) rfl (.inl rfl) rfl ?_
  refine ea_cons ?_
  refine ev_op g_addD ?_
  refine ev_var (i := 3) rfl (.inr (.inl rfl)) rfl ?_
  refine ev_sl ?_
  refine ev_var (i := 3) rfl (.inr (.inl rfl)) rfl ?_
  refine eo_some ?_
  refine ev_neg ?_
  refine ev_int ?_
  refine eo_none ?_
  have c3 := cutD_len (xs := l.map rateD) (lo := some (-1)) (hi := none)
  refine ⟨by omega, ?_⟩
  refine ea_nil ⟨Nat.le_of_ble_eq_true rfl, ?_⟩
  refine ea_cons ?_
  refine ev_tup ?_
  refine ea_cons ?_
  refine ev_var (i := 2) rfl (.inl rfl) rfl ?_
  refine ea_cons ?_
  refine ev_tup ?_
  refine ea_cons ?_
  refine ev_tup ?_
  refine ea_cons ?_
  refine ev_int ?_
  refine ea_cons ?_
  refine ev_int ?_
  refine ea_cons ?_
  refine ev_int ?_
  refine ea_nil ⟨Nat.le_of_ble_eq_true rfl, ?_⟩
  refine ea_nil ⟨Nat.le_of_ble_eq_true rfl, ?_⟩
  refine ea_nil ⟨Nat.le_of_ble_eq_true rfl, ?_⟩
  refine ea_cons ?_
  refine ev_tup ?_
  refine ea_cons ?_
  refine ev_var (i := 1) rfl (.inl rfl) rfl ?_
  refine ea_nil ⟨Nat.le_of_ble_eq_true rfl, ?_⟩
  refine ea_nil ⟨Nat.le_of_ble_eq_true rfl, ?_⟩
  have h_len : ds_some.length ≤ 17 := h_some.2
  refine ⟨by simp only [List.length_cons, List.length_nil]; omega, ?_⟩
  refine eb_cons (es_set (i := 8) rfl (.inl rfl) ?_)
  refine ev_op g_addD ?_
  refine ev_var (i := 8) rfl (.inl rfl) rfl ?_
  refine ev_lc (own := [("other", 10)]) (blkOk_by (N := ["well", "money", "name", "rates", "at", "day", "top", "bottom", "some", "wrongs", "other"]) (sc := defScope s__law_none) (by decide +kernel)) (by intro i hi p I; simp only [List.map_cons, List.map_nil, List.mem_cons, List.not_mem_nil, or_false] at hi; rcases hi with rfl <;> first | exact fun z => hno _ _ (Option.some.inj z) | exact fun z => nomatch z) ?_
  refine ei_tup ?_
  refine ev_tup ?_
  refine ea_cons ?_
  refine ev_str ?_
  refine ea_cons ?_
  refine ev_str ?_
  refine ea_cons ?_
  refine ev_str ?_
  refine ea_cons ?_
  refine ev_str ?_
  refine ea_cons ?_
  refine ev_non ?_
  refine ea_cons ?_
  refine ev_callO (i := 0) (ok__law_of T) (Nat.le_of_ble_eq_true rfl) rfl (ops1 0 rfl rfl) rfl (.inl rfl) rfl ?_
  refine ea_cons ?_
  refine ev_call0 (ok__law_words T) (Nat.le_of_ble_eq_true rfl) rfl (ops1 0 rfl rfl) ?_
  refine ea_nil ?_
  refine ⟨_, .inl rfl, by decide, by decide, fun w hw => ?_⟩
  obtain ⟨w, hw2, rfl⟩ := List.mem_map.mp hw
  refine ea_nil ⟨Nat.le_of_ble_eq_true rfl, ?_⟩
  refine ⟨Nat.le_of_ble_eq_true rfl, ?_⟩
  refine lcG_map (f := fun d => .tup [d, .tup (l.map rateD)]) (fun d acc k hd hk => ?_) ?_
  · refine eg_name (i := 10) rfl (.inl rfl) ?_
    refine ets_nil ?_
    refine ev_tup ?_
    refine ea_cons ?_
    refine ev_var (i := 10) rfl (.inl rfl) rfl ?_
    refine ea_cons ?_
    refine ev_var (i := 3) rfl (.inr (.inl rfl)) rfl ?_
    refine ea_nil ⟨Nat.le_of_ble_eq_true rfl, ?_⟩
    exact hk
  refine ⟨by simp only [List.length_append, List.length_map, List.length_cons, List.length_nil]; omega, ?_⟩
  refine eb_cons (es_ret (ops1 0 rfl rfl) ?_)
  refine ev_callO (i := 0) (ok__law_of T) (Nat.le_of_ble_eq_true rfl) rfl (ops1 0 rfl rfl) rfl (.inl rfl) rfl ?_
  refine ea_cons ?_
  refine ev_var (i := 8) rfl (.inl rfl) rfl ?_
  refine ea_nil ?_
  refine ⟨_, .inl rfl, by simp only [List.length_append, List.length_map, List.length_cons, List.length_nil]; omega, by simp only [List.length_append, List.length_map, List.length_cons, List.length_nil]; omega, fun d hd => hq d ?_⟩
  rcases List.mem_append.mp hd with hd | hd
  · rcases List.mem_append.mp hd with hd | hd
    · exact h_some.1 d hd
    · simp only [List.mem_cons, List.not_mem_nil, or_false] at hd
      rcases hd with rfl | rfl | rfl
      · exact bad_twice hm
      · refine ⟨⟨okTc on (okTc (okTc (okTc (okI (by decide)) (okTc (okI (by decide)) (okTc (okI (by decide)) okT0))) okT0) okT0), by simp only [Da.sz, Da.szs]; omega⟩, ?_⟩
        show (isName (.str n) && false) = false
        exact Bool.and_false _
      · exact ⟨⟨okTc (okTc on (okTc orT okT0)) okT0, by have := sz_rates l; simp only [Da.sz, Da.szs]; omega⟩, rfl⟩
  · rw [List.nil_append] at hd
    obtain ⟨e, he, rfl⟩ := List.mem_map.mp hd
    refine bad_name hm.r hl1 ?_ ?_ ?_
    all_goals (simp only [List.mem_cons, List.not_mem_nil, or_false] at he; rcases he with rfl | rfl | rfl | rfl | rfl | rfl)
    all_goals first | exact (word_not_name w hw2).1 | exact (word_not_name w hw2).2.1 | exact (word_not_name w hw2).2.2 | exact okN | (unfold Da.okS; decide +kernel) | decide +kernel

@[reducible] def q__law_right : Fd := fun ds q _ => as0 ds (q (.bl true))
theorem ok__law_right (T : Txt K mg) : Cal P w K mg base "_law_right" "_law_right" s__law_right 7 ["well"] (SpO K PailOk q__law_right) := by
  refine calO T.d__law_right sc__law_right (fun _ _ _ _ _ _ us hl => match us, hl with | [_], _ => rfl) (fun ds q er h => congrArg (· + 1) (as0_len h)) fun F0 H0 pa ds q er h => ?_
  obtain ⟨rfl, h⟩ := as0_ h
  refine eb_cons (es_for ?_)
  refine ei_range1 rfl T.m_range ?_
  refine ev_int ?_
  refine ⟨⟨by decide, by decide⟩, ?_⟩
  refine forG_inv (fun _ Γ => ∃ s1 s2 s3 s5 s6 s7 s8 s9 s10 s11, Γ = [.inv pa PailOk, s1, s2, s3, .no, s5, s6, s7, s8, s9, s10, s11]) ⟨_, _, _, _, _, _, _, _, _, _, rfl⟩ ?_ ?_
  · rintro j d Γ k hd ⟨s1, s2, s3, s5, s6, s7, s8, s9, s10, s11, rfl⟩ hk
    refine eg_name (i := 1) rfl (.inl rfl) ?_
    refine eb_cons (es_set (i := 2) rfl (.inl rfl) ?_)
    refine ev_callO (i := 0) (ok__law_money T) (Nat.le_of_ble_eq_true rfl) rfl (ops1 0 rfl rfl) rfl (.inl rfl) rfl ?_
    refine ea_nil ?_
    intro n l hm
    have hl1 := hm.l1
    have hlen : (l.map rateD).length = l.length := List.length_map ..
    refine eb_cons (es_set (i := 3) rfl (.inl rfl) ?_)
    refine ev_op g_addD ?_
    refine ev_lst ?_
    refine ea_cons ?_
    refine ev_int ?_
    refine ea_cons ?_
    refine ev_int ?_
    refine ea_cons ?_
    refine ev_callO (i := 0) (ok__law_draw T) (Nat.le_of_ble_eq_true rfl) rfl (ops1 0 rfl rfl) rfl (.inl rfl) rfl ?_
    refine ea_cons ?_
    refine ev_int ?_
    refine ea_nil ?_
    refine ⟨by omega, by omega, fun r hr0 hr1 => ?_⟩
    refine ea_nil ⟨Nat.le_of_ble_eq_true rfl, ?_⟩
    refine ev_lc (own := [("rate", 4)]) (blkOk_by (N := ["well", "turn", "money", "days", "rate", "day", "top", "bottom", "some", "units", "due", "value"]) (sc := defScope s__law_right) (by decide +kernel)) (by intro i hi p I; simp only [List.map_cons, List.map_nil, List.mem_cons, List.not_mem_nil, or_false] at hi; rcases hi with rfl <;> first | exact fun z => hno _ _ (Option.some.inj z) | exact fun z => nomatch z) ?_
    refine ei_tup ?_
    refine ev_ix ?_
    refine ev_var (i := 2) rfl (.inl rfl) rfl ?_
    refine ev_int ?_
    refine ⟨_, rfl, ?_⟩
    refine ⟨by omega, ?_⟩
    refine lcG_map (f := fun d => .int (fst0 d)) (fun d acc k hd hk => ?_) ?_
    · obtain ⟨r, _, rfl⟩ := List.mem_map.mp hd
      refine eg_name (i := 4) rfl (.inl rfl) ?_
      refine ets_nil ?_
      refine ev_ix ?_
      refine ev_var (i := 4) rfl (.inl rfl) rfl ?_
      refine ev_int ?_
      refine ⟨_, rfl, ?_⟩
      exact hk
    refine ⟨by first | exact Nat.le_of_ble_eq_true rfl | (simp only [List.length_append, List.length_map, List.length_cons, List.length_nil]; omega), ?_⟩
    refine eb_cons (es_for ?_)
    refine ei_seq ?_
    refine ev_op g_addD ?_
    refine ev_var (i := 3) rfl (.inl rfl) rfl ?_
    refine ev_lc (own := [("rate", 4)]) (blkOk_by (N := ["well", "turn", "money", "days", "rate", "day", "top", "bottom", "some", "units", "due", "value"]) (sc := defScope s__law_right) (by decide +kernel)) (by intro i hi p I; simp only [List.map_cons, List.map_nil, List.mem_cons, List.not_mem_nil, or_false] at hi; rcases hi with rfl <;> first | exact fun z => hno _ _ (Option.some.inj z) | exact fun z => nomatch z) ?_
    refine ei_tup ?_
    refine ev_ix ?_
    refine ev_var (i := 2) rfl (.inl rfl) rfl ?_
    refine ev_int ?_
    refine ⟨_, rfl, ?_⟩
    refine ⟨by omega, ?_⟩
    refine lcG_map (f := fun d => .int (if fst0 d - 1 > 0 then fst0 d - 1 else 0)) (fun d acc k hd hk => ?_) ?_
    · obtain ⟨r, _, rfl⟩ := List.mem_map.mp hd
      refine eg_name (i := 4) rfl (.inl rfl) ?_
      refine ets_nil ?_
      refine ev_callB c_max2 rfl T.m_max bt_max ?_
      refine ea_cons ?_
      refine ev_int ?_
      refine ea_cons ?_
      refine ev_op g_sub ?_
      refine ev_ix ?_
      refine ev_var (i := 4) rfl (.inl rfl) rfl ?_
      refine ev_int ?_
      refine ⟨_, rfl, ?_⟩
      refine ev_int ?_
      refine ea_nil ?_
      exact hk
    refine ⟨by first | exact Nat.le_of_ble_eq_true rfl | (simp only [List.length_append, List.length_map, List.length_cons, List.length_nil]; omega), ?_⟩
    have hD : ∀ d ∈ ([Da.int 0, .int 999, .int r] ++ ([] ++ (l.map rateD).map fun d => Da.int (fst0 d))) ++ ([] ++ (l.map rateD).map fun d => Da.int (if fst0 d - 1 > 0 then fst0 d - 1 else 0)), ∃ x, d = .int x ∧ 0 ≤ x ∧ x ≤ 999 := by
      intro d hd
      rcases List.mem_append.mp hd with hd | hd
      · rcases List.mem_append.mp hd with hd | hd
        · exact allI_mem (by simp only [allI, and_true]; omega) hd
        · rw [List.nil_append] at hd
          obtain ⟨y, hy, rfl⟩ := List.mem_map.mp hd
          obtain ⟨z, hz, rfl⟩ := List.mem_map.mp hy
          exact ⟨_, rfl, (hm.r z hz).a0, (hm.r z hz).a1⟩
      · rw [List.nil_append] at hd
        obtain ⟨y, hy, rfl⟩ := List.mem_map.mp hd
        obtain ⟨z, hz, rfl⟩ := List.mem_map.mp hy
        have h0 := (hm.r z hz).a0
        have h1 := (hm.r z hz).a1
        refine ⟨_, rfl, ?_⟩
        show 0 ≤ (if z.1 - 1 > 0 then z.1 - 1 else 0) ∧ (if z.1 - 1 > 0 then z.1 - 1 else 0) ≤ 999
        split <;> omega
    refine forG_inv (fun _ Γ => ∃ s1 s3 s5 s6 s7 s8 s9 s10 s11, Γ = [.inv pa PailOk, s1, .dat (monD n l), s3, .no, s5, s6, s7, s8, s9, s10, s11]) ⟨_, _, _, _, _, _, _, _, _, rfl⟩ ?_ ?_
    · rintro j2 d2 Γ k2 hd2 ⟨s1, s3, s5, s6, s7, s8, s9, s10, s11, rfl⟩ hk2
      obtain ⟨x, rfl, hx0, hx1⟩ := hD d2 (List.mem_of_getElem? hd2)
      refine eg_name (i := 5) rfl (.inl rfl) ?_
      refine eb_cons (es_asg ?_)
      refine ev_call (ok__law_force T) (Nat.le_of_ble_eq_true rfl) rfl (ops1 0 rfl rfl) ?_
      refine ea_cons ?_
      refine ev_var (i := 2) rfl (.inl rfl) rfl ?_
      refine ea_cons ?_
      refine ev_var (i := 5) rfl (.inl rfl) rfl ?_
      refine ea_nil ?_
      refine ⟨_, l, rfl, by omega, hm.on hx0, ?_⟩
      have hT : 1 ≤ (rateOn l x).1 ∧ (rateOn l x).1 ≤ 1000000 ∧ 1 ≤ (rateOn l x).2 ∧ (rateOn l x).2 ≤ 1000000 := by
        obtain ⟨y, hy, e⟩ := rateOn_mem (hm.on hx0)
        rw [e]
        exact ⟨(hm.r y hy).b0, (hm.r y hy).b1, (hm.r y hy).c0, (hm.r y hy).c1⟩
      obtain ⟨hp0, hp1, hb0, hb1⟩ := hT
      refine eg_tup ?_
      refine egs_cons ?_
      refine eg_name (i := 6) rfl (.inl rfl) ?_
      refine egs_cons ?_
      refine eg_name (i := 7) rfl (.inl rfl) ?_
      refine egs_nil ?_
      refine eb_cons (es_set (i := 8) rfl (.inl rfl) ?_)
      refine ev_lst ?_
      refine ea_cons ?_
      refine ev_int ?_
      refine ea_cons ?_
      refine ev_int ?_
      refine ea_cons ?_
      refine ev_var (i := 7) rfl (.inl rfl) rfl ?_
      refine ea_cons ?_
      refine ev_op g_sub ?_
      refine ev_var (i := 7) rfl (.inl rfl) rfl ?_
      refine ev_int ?_
      refine ea_cons ?_
      refine ev_callO (i := 0) (ok__law_draw T) (Nat.le_of_ble_eq_true rfl) rfl (ops1 0 rfl rfl) rfl (.inl rfl) rfl ?_
      refine ea_cons ?_
      refine ev_pow (10000000000000) ⟨by decide, by decide, by decide⟩ (by decide +kernel) ?_
      refine ea_nil ?_
      refine ⟨by omega, by omega, fun r hr0 hr1 => ?_⟩
      refine ea_cons ?_
      refine ev_pow (10000000000000) ⟨by decide, by decide, by decide⟩ (by decide +kernel) ?_
      refine ea_cons ?_
      refine ev_callO (i := 0) (ok__law_draw T) (Nat.le_of_ble_eq_true rfl) rfl (ops1 0 rfl rfl) rfl (.inl rfl) rfl ?_
      refine ea_cons ?_
      refine ev_int ?_
      refine ea_nil ?_
      refine ⟨by omega, by omega, fun r hr0 hr1 => ?_⟩
      refine ea_nil ⟨Nat.le_of_ble_eq_true rfl, ?_⟩
      refine eb_cons (es_for ?_)
      refine ei_seq ?_
      refine ev_op g_addD ?_
      refine ev_var (i := 8) rfl (.inl rfl) rfl ?_
      refine ev_lst ?_
      refine ea_cons ?_
      refine ev_op g_mul ?_
      refine ev_var (i := 7) rfl (.inl rfl) rfl ?_
      refine ev_op g_addD ?_
      refine ev_var (i := 6) rfl (.inl rfl) rfl ?_
      refine ev_int ?_
      refine ⟨by first | (exact .inr ⟨by decide, by decide⟩) | (exact .inl ⟨by decide, by decide⟩) | (right; constructor <;> omega) | (left; constructor <;> omega), ?_⟩
      refine ea_nil ⟨Nat.le_of_ble_eq_true rfl, ?_⟩
      refine ⟨by first | exact Nat.le_of_ble_eq_true rfl | (simp only [List.length_append, List.length_map, List.length_cons, List.length_nil]; omega), ?_⟩
      have hP : 0 ≤ (rateOn l x).2 * ((rateOn l x).1 + 1) ∧ (rateOn l x).2 * ((rateOn l x).1 + 1) ≤ 1000000 * 1000001 := ⟨Int.mul_nonneg (by omega) (by omega), Int.mul_le_mul hb1 (by omega) (by omega) (by omega)⟩
      refine forG_inv (fun _ Γ => ∃ s1 s3 s8 s9 s10 s11, Γ = [.inv pa PailOk, s1, .dat (monD n l), s3, .no, .dat (.int x), .dat (.int (rateOn l x).1), .dat (.int (rateOn l x).2), s8, s9, s10, s11]) ⟨_, _, _, _, _, _, rfl⟩ ?_ ?_
      · rintro j3 d3 Γ k3 hd3 ⟨s1, s3, s8, s9, s10, s11, rfl⟩ hk3
        obtain ⟨u, rfl, hu0, hu1⟩ := allI_mem (lo := 0) (hi := 10000000000000) (by simp only [allI, List.cons_append, List.nil_append, and_true]; omega) (List.mem_of_getElem? hd3)
        have hM : 0 ≤ u * (rateOn l x).1 ∧ u * (rateOn l x).1 ≤ 10000000000000 * 1000000 := ⟨Int.mul_nonneg hu0 (by omega), Int.mul_le_mul hu1 hp1 (by omega) (by omega)⟩
        have hV : 0 ≤ u * (rateOn l x).1 / (rateOn l x).2 ∧ u * (rateOn l x).1 / (rateOn l x).2 ≤ 10000000000000 * 1000000 := ⟨Int.ediv_nonneg hM.1 (by omega), Int.le_trans (Int.ediv_le_self _ hM.1) hM.2⟩
        refine eg_name (i := 9) rfl (.inl rfl) ?_
        refine eb_cons (es_set (i := 10) rfl (.inl rfl) ?_)
        refine ev_op g_div ?_
        refine ev_op g_mul ?_
        refine ev_var (i := 9) rfl (.inl rfl) rfl ?_
        refine ev_var (i := 6) rfl (.inl rfl) rfl ?_
        refine ⟨by first | (exact .inr ⟨by decide, by decide⟩) | (exact .inl ⟨by decide, by decide⟩) | (right; constructor <;> omega) | (left; constructor <;> omega), ?_⟩
        refine ev_var (i := 7) rfl (.inl rfl) rfl ?_
        refine ⟨⟨by first | decide | omega, by first | decide | omega⟩, ?_⟩
        refine eb_cons (es_if ?_)
        refine et_not ?_
        refine et_val ?_
        refine ev_call (ok__law_is T) (Nat.le_of_ble_eq_true rfl) rfl (ops1 0 rfl rfl) ?_
        refine ea_cons ?_
        refine ev_lst ?_
        refine ea_cons ?_
        refine ev_call (ok_worth T) (Nat.le_of_ble_eq_true rfl) rfl (ops1 0 rfl rfl) ?_
        refine ea_cons ?_
        refine ev_var (i := 2) rfl (.inl rfl) rfl ?_
        refine ea_cons ?_
        refine ev_var (i := 5) rfl (.inl rfl) rfl ?_
        refine ea_cons ?_
        refine ev_var (i := 9) rfl (.inl rfl) rfl ?_
        refine ea_nil ?_
        refine ⟨n, l, rfl, hm, by omega, by omega, by omega, by omega, ?_⟩
        refine ea_cons ?_
        refine ev_callK0 (pm := [2, 1, 0]) (ks := ["units", "day", "money"]) (ok_worth T) (fun _ _ _ _ _ _ us ws h1 h2 => match us, ws, h1, h2 with | [], [_, _, _], _, _ => rfl) (Nat.le_of_ble_eq_true rfl) rfl (ops1 0 rfl rfl) ?_
        refine ek_cons ?_
        refine ev_var (i := 9) rfl (.inl rfl) rfl ?_
        refine ek_cons ?_
        refine ev_var (i := 5) rfl (.inl rfl) rfl ?_
        refine ek_cons ?_
        refine ev_var (i := 2) rfl (.inl rfl) rfl ?_
        refine ek_nil ?_
        refine ⟨rfl, ?_⟩
        refine ⟨n, l, rfl, hm, by omega, by omega, by omega, by omega, ?_⟩
        refine ea_nil ⟨Nat.le_of_ble_eq_true rfl, ?_⟩
        refine ea_cons ?_
        refine ev_lst ?_
        refine ea_cons ?_
        refine ev_var (i := 10) rfl (.inl rfl) rfl ?_
        refine ea_cons ?_
        refine ev_var (i := 10) rfl (.inl rfl) rfl ?_
        refine ea_nil ⟨Nat.le_of_ble_eq_true rfl, ?_⟩
        refine ea_nil ?_
        refine ⟨shw_of (by simp only [Da.okS, Da.okSs, and_true, true_and]; try omega) (Nat.le_of_ble_eq_true rfl) (Nat.le_of_ble_eq_true rfl), shw_of (by simp only [Da.okS, Da.okSs, and_true, true_and]; try omega) (Nat.le_of_ble_eq_true rfl) (Nat.le_of_ble_eq_true rfl), ?_⟩
        refine cond_ndec (fun c => absurd rfl c) (fun _ => ?_)
        refine eb_nil ?_
        refine eb_nil ?_
        exact hk3 _ ⟨_, _, _, _, _, _, rfl⟩
      · rintro Γ ⟨s1, s3, s8, s9, s10, s11, rfl⟩
        refine eb_nil ?_
        exact hk2 _ ⟨_, _, _, _, _, _, _, _, _, rfl⟩
    · rintro Γ ⟨s1, s3, s5, s6, s7, s8, s9, s10, s11, rfl⟩
      refine eb_cons (es_for ?_)
      refine ei_tup ?_
      refine ev_tup ?_
      refine ea_cons ?_
      refine ev_tup ?_
      refine ea_cons ?_
      refine ev_var (i := 2) rfl (.inl rfl) rfl ?_
      refine ea_cons ?_
      refine ev_bl ?_
      refine ea_nil ⟨Nat.le_of_ble_eq_true rfl, ?_⟩
      refine ea_cons ?_
      refine ev_tup ?_
      refine ea_cons ?_
      refine ev_callO (i := 0) (ok__law_none T) (Nat.le_of_ble_eq_true rfl) rfl (ops1 0 rfl rfl) rfl (.inl rfl) rfl ?_
      refine ea_cons ?_
      refine ev_var (i := 2) rfl (.inl rfl) rfl ?_
      refine ea_nil ?_
      refine ⟨n, l, rfl, hm, fun v1 hv1 => ?_⟩
      refine ea_cons ?_
      refine ev_bl ?_
      refine ea_nil ⟨Nat.le_of_ble_eq_true rfl, ?_⟩
      refine ea_cons ?_
      refine ev_tup ?_
      refine ea_cons ?_
      refine ev_callO (i := 0) (ok__law_none T) (Nat.le_of_ble_eq_true rfl) rfl (ops1 0 rfl rfl) rfl (.inl rfl) rfl ?_
      refine ea_cons ?_
      refine ev_var (i := 2) rfl (.inl rfl) rfl ?_
      refine ea_nil ?_
      refine ⟨n, l, rfl, hm, fun v2 hv2 => ?_⟩
      refine ea_cons ?_
      refine ev_bl ?_
      refine ea_nil ⟨Nat.le_of_ble_eq_true rfl, ?_⟩
      refine ea_nil ⟨Nat.le_of_ble_eq_true rfl, ?_⟩
      refine forG_inv (fun _ Γ => ∃ s1 s3 s5 s6 s7 s8 s9 s10 s11, Γ = [.inv pa PailOk, s1, .dat (monD n l), s3, .no, s5, s6, s7, s8, s9, s10, s11]) ⟨_, _, _, _, _, _, _, _, _, rfl⟩ ?_ ?_
      · rintro j2 d2 Γ k2 hd2 ⟨s1, s3, s5, s6, s7, s8, s9, s10, s11, rfl⟩ hk2
        have hm2 := List.mem_of_getElem? hd2
        obtain ⟨v, rfl, hf⟩ : ∃ v, d2 = .tup [v, .bl (isMon v)] ∧ Fit v := by
          simp only [List.mem_cons, List.not_mem_nil, or_false] at hm2
          rcases hm2 with rfl | rfl | rfl
          · exact ⟨_, by rw [hm.is], hm.fit⟩
          · exact ⟨_, by rw [hv1.m], hv1.f⟩
          · exact ⟨_, by rw [hv2.m], hv2.f⟩
        refine eg_tup ?_
        refine egs_cons ?_
        refine eg_name (i := 11) rfl (.inl rfl) ?_
        refine egs_cons ?_
        refine eg_name (i := 10) rfl (.inl rfl) ?_
        refine egs_nil ?_
        refine eb_cons (es_if ?_)
        refine et_not ?_
        refine et_val ?_
        refine ev_call (ok__law_is T) (Nat.le_of_ble_eq_true rfl) rfl (ops1 0 rfl rfl) ?_
        refine ea_cons ?_
        refine ev_lst ?_
        refine ea_cons ?_
        refine ev_call (ok_is_money T) (Nat.le_of_ble_eq_true rfl) rfl (ops1 0 rfl rfl) ?_
        refine ea_cons ?_
        refine ev_var (i := 11) rfl (.inl rfl) rfl ?_
        refine ea_nil ?_
        refine ⟨hf, ?_⟩
        refine ea_cons ?_
        refine ev_callK0 (pm := [0]) (ks := ["value"]) (ok_is_money T) (fun _ _ _ _ _ _ us ws h1 h2 => match us, ws, h1, h2 with | [], [_], _, _ => rfl) (Nat.le_of_ble_eq_true rfl) rfl (ops1 0 rfl rfl) ?_
        refine ek_cons ?_
        refine ev_var (i := 11) rfl (.inl rfl) rfl ?_
        refine ek_nil ?_
        refine ⟨rfl, ?_⟩
        refine ⟨hf, ?_⟩
        refine ea_nil ⟨Nat.le_of_ble_eq_true rfl, ?_⟩
        refine ea_cons ?_
        refine ev_lst ?_
        refine ea_cons ?_
        refine ev_var (i := 10) rfl (.inl rfl) rfl ?_
        refine ea_cons ?_
        refine ev_var (i := 10) rfl (.inl rfl) rfl ?_
        refine ea_nil ⟨Nat.le_of_ble_eq_true rfl, ?_⟩
        refine ea_nil ?_
        refine ⟨shw_of (by simp only [Da.okS, Da.okSs, and_true, true_and]; try omega) (Nat.le_of_ble_eq_true rfl) (Nat.le_of_ble_eq_true rfl), shw_of (by simp only [Da.okS, Da.okSs, and_true, true_and]; try omega) (Nat.le_of_ble_eq_true rfl) (Nat.le_of_ble_eq_true rfl), ?_⟩
        refine cond_ndec (fun c => absurd rfl c) (fun _ => ?_)
        refine eb_nil ?_
        refine eb_nil ?_
        exact hk2 _ ⟨_, _, _, _, _, _, _, _, _, rfl⟩
      · rintro Γ ⟨s1, s3, s5, s6, s7, s8, s9, s10, s11, rfl⟩
        refine eb_nil ?_
        exact hk _ ⟨_, _, _, _, _, _, _, _, _, _, rfl⟩
  rintro Γ ⟨s1, s2, s3, s5, s6, s7, s8, s9, s10, s11, rfl⟩
  refine eb_cons (es_ret (ops1 0 rfl rfl) ?_)
  refine ev_bl ?_
  exact h

@[reducible] def q_law : Fd := fun ds q _ => as1 ds fun s => ∃ ns : List Int, s = .lst (ns.map Da.int) ∧ ns.length ≤ 63 ∧ q (.bl true)
theorem all_t (ds : List Da) : ([] : List Da) ++ ds.map (fun _ => Da.bl true) = (ds.map fun _ => true).map Da.bl ∧ (ds.map fun _ => true).all id = true := by
  refine ⟨by rw [List.nil_append, List.map_map]; rfl, List.all_eq_true.mpr fun b hb => ?_⟩
  obtain ⟨_, _, rfl⟩ := List.mem_map.mp hb
  rfl
theorem ok_law (T : Txt K mg) : Cal P w K mg base "law" "law" s_law 8 ["script"] (SpD K q_law) := by
  refine calD T.d_law sc_law (fun _ _ _ _ _ _ us hl => match us, hl with | [_], _ => rfl) (fun ds q er h => as1_len h) fun F0 H0 ds q er h => ?_
  obtain ⟨script, rfl, h⟩ := as1_ h
  obtain ⟨ns, rfl, hn, hq⟩ := h
  refine eb_cons (es_ret (ops0 rfl) ?_)
  refine ev_callB c_all rfl T.m_all bt_all ?_
  refine ea_cons ?_
  refine ev_lc (own := [("lap", 1)]) (blkOk_by (N := ["script", "lap"]) (sc := defScope s_law) (by decide +kernel)) (by intro i hi p I; simp only [List.map_cons, List.map_nil, List.mem_cons, List.not_mem_nil, or_false] at hi; rcases hi with rfl <;> first | exact fun z => hno _ _ (Option.some.inj z) | exact fun z => nomatch z) ?_
  refine ei_range1 rfl T.m_range ?_
  refine ev_callB c_max2 rfl T.m_max bt_max ?_
  refine ea_cons ?_
  refine ev_int ?_
  refine ea_cons ?_
  refine ev_callB c_min2 rfl T.m_min bt_min ?_
  refine ea_cons ?_
  refine ev_callB c_lenD rfl T.m_len bt_len ?_
  refine ea_cons ?_
  refine ev_var (i := 0) rfl (.inr (.inl rfl)) rfl ?_
  refine ea_nil ?_
  refine ea_cons ?_
  refine ev_int ?_
  refine ea_nil ?_
  refine ea_nil ?_
  rw [List.length_map]
  generalize hM : (if (if (3 : Int) < (ns.length : Int) then (3 : Int) else (ns.length : Int)) > 1 then (if (3 : Int) < (ns.length : Int) then (3 : Int) else (ns.length : Int)) else 1) = M
  have hM2 : 1 ≤ M ∧ M ≤ 3 := by subst hM; (repeat' split) <;> omega
  refine ⟨⟨by omega, by omega⟩, by rw [rngD_len]; omega, ?_⟩
  refine lcG_map (f := fun _ => .bl true) (fun d acc k hd hk => ?_) ?_
  · obtain ⟨i, hi, rfl⟩ := rngD_mem hd
    refine eg_name (i := 1) rfl (.inl rfl) ?_
    refine ets_nil ?_
    refine ev_callF (ok__law_right T) (Nat.le_of_ble_eq_true rfl) rfl (ops0 rfl) ?_
    refine en_call (ok__law_well T) (Nat.le_of_ble_eq_true rfl) rfl (ops0 rfl) ?_
    refine ea_cons ?_
    refine ev_var (i := 0) rfl (.inr (.inl rfl)) rfl ?_
    refine ea_cons ?_
    refine ev_var (i := 1) rfl (.inl rfl) rfl ?_
    refine ea_nil ?_
    refine ⟨ns, rfl, by omega, by omega, fun xs hx => ?_⟩
    refine ⟨hx, ?_⟩
    exact hk
  refine ea_nil ?_
  refine ⟨_, (all_t _).1, ?_⟩
  rw [(all_t _).2]; exact hq
theorem law_start : ∀ ns : List Int, ns.length ≤ 63 → (∀ k ∈ ns, Builtin.Int.intBits k ≤ 1048576) → q_law [.lst (ns.map Da.int)] (fun d => d = .bl true) fun _ _ => False := fun ns h _ => ⟨ns, rfl, h, rfl⟩
theorem txt_of {K : PySem.W.Frag} {h : Heap} {mg : Str → Option Value} (X : K.In h) (G : h.Ns mainGlobals mg)
    {tk_SMALL_LETTERS : Tok} (k_SMALL_LETTERS : PySem.W.nsIn K mainGlobals "SMALL_LETTERS" = some (some (.str "abcdefghijklmnopqrstuvwxyz" tk_SMALL_LETTERS)))
    {tk_MOST_IN_NAME : Tok} (k_MOST_IN_NAME : PySem.W.nsIn K mainGlobals "MOST_IN_NAME" = some (some (.int 8 tk_MOST_IN_NAME)))
    {a_WORDS : Addr} {o_WORDS : Obj} (k_WORDS : PySem.W.nsIn K mainGlobals "WORDS" = some (some (.ref a_WORDS))) (l_WORDS : K.lookup a_WORDS = some o_WORDS) (v_WORDS : TupO o_WORDS w_WORDS)
    (k_MOST_AMOUNT : ∃ t, mg "MOST_AMOUNT" = some (.int 10000000000000 t))
    {tk_LAST_DAY : Tok} (k_LAST_DAY : PySem.W.nsIn K mainGlobals "LAST_DAY" = some (some (.int 999 tk_LAST_DAY)))
    {tk_MOST_RATES : Tok} (k_MOST_RATES : PySem.W.nsIn K mainGlobals "MOST_RATES" = some (some (.int 6 tk_MOST_RATES)))
    (k_MOST_TERM : ∃ t, mg "MOST_TERM" = some (.int 1000000 t))
    (m_abs : PySem.W.nsIn K mainGlobals "abs" = some none)
    (m_all : PySem.W.nsIn K mainGlobals "all" = some none)
    (m_bool : PySem.W.nsIn K mainGlobals "bool" = some none)
    (m_divmod : PySem.W.nsIn K mainGlobals "divmod" = some none)
    (m_int : PySem.W.nsIn K mainGlobals "int" = some none)
    (m_isinstance : PySem.W.nsIn K mainGlobals "isinstance" = some none)
    (m_len : PySem.W.nsIn K mainGlobals "len" = some none)
    (m_list : PySem.W.nsIn K mainGlobals "list" = some none)
    (m_max : PySem.W.nsIn K mainGlobals "max" = some none)
    (m_min : PySem.W.nsIn K mainGlobals "min" = some none)
    (m_range : PySem.W.nsIn K mainGlobals "range" = some none)
    (m_repr : PySem.W.nsIn K mainGlobals "repr" = some none)
    (m_str : PySem.W.nsIn K mainGlobals "str" = some none)
    (m_tuple : PySem.W.nsIn K mainGlobals "tuple" = some none)
    (m_zip : PySem.W.nsIn K mainGlobals "zip" = some none)
    {a_is_whole : Addr} {oc_is_whole kv_is_whole dc_is_whole pm_is_whole cd_is_whole ct_is_whole : Value} {od_is_whole an_is_whole : Option Addr} {sl_is_whole : Array (Option Value)}
    (a1_is_whole : PySem.W.nsIn K mainGlobals "is_whole" = some (some (.ref a_is_whole))) (l_is_whole : K.lookup a_is_whole = some ⟨oc_is_whole, od_is_whole, .func (PySem.W.fnOf "is_whole" "is_whole" (defArgs s_is_whole) (defBody s_is_whole) (defScope s_is_whole) .none kv_is_whole dc_is_whole pm_is_whole an_is_whole cd_is_whole ct_is_whole), sl_is_whole⟩) (c_is_whole : PySem.W.codeIn K cd_is_whole "is_whole" = true) (kp_is_whole : PySem.W.keepIn K (.ref a_is_whole) = true)
    {a_is_number : Addr} {oc_is_number kv_is_number dc_is_number pm_is_number cd_is_number ct_is_number : Value} {od_is_number an_is_number : Option Addr} {sl_is_number : Array (Option Value)}
    (a1_is_number : PySem.W.nsIn K mainGlobals "is_number" = some (some (.ref a_is_number))) (l_is_number : K.lookup a_is_number = some ⟨oc_is_number, od_is_number, .func (PySem.W.fnOf "is_number" "is_number" (defArgs s_is_number) (defBody s_is_number) (defScope s_is_number) .none kv_is_number dc_is_number pm_is_number an_is_number cd_is_number ct_is_number), sl_is_number⟩) (c_is_number : PySem.W.codeIn K cd_is_number "is_number" = true) (kp_is_number : PySem.W.keepIn K (.ref a_is_number) = true)
    {a_is_tuple_of : Addr} {oc_is_tuple_of kv_is_tuple_of dc_is_tuple_of pm_is_tuple_of cd_is_tuple_of ct_is_tuple_of : Value} {od_is_tuple_of an_is_tuple_of : Option Addr} {sl_is_tuple_of : Array (Option Value)}
    (a1_is_tuple_of : PySem.W.nsIn K mainGlobals "is_tuple_of" = some (some (.ref a_is_tuple_of))) (l_is_tuple_of : K.lookup a_is_tuple_of = some ⟨oc_is_tuple_of, od_is_tuple_of, .func (PySem.W.fnOf "is_tuple_of" "is_tuple_of" (defArgs s_is_tuple_of) (defBody s_is_tuple_of) (defScope s_is_tuple_of) .none kv_is_tuple_of dc_is_tuple_of pm_is_tuple_of an_is_tuple_of cd_is_tuple_of ct_is_tuple_of), sl_is_tuple_of⟩) (c_is_tuple_of : PySem.W.codeIn K cd_is_tuple_of "is_tuple_of" = true) (kp_is_tuple_of : PySem.W.keepIn K (.ref a_is_tuple_of) = true)
    {a_is_letters : Addr} {oc_is_letters kv_is_letters dc_is_letters pm_is_letters cd_is_letters ct_is_letters : Value} {od_is_letters an_is_letters : Option Addr} {sl_is_letters : Array (Option Value)}
    (a1_is_letters : PySem.W.nsIn K mainGlobals "is_letters" = some (some (.ref a_is_letters))) (l_is_letters : K.lookup a_is_letters = some ⟨oc_is_letters, od_is_letters, .func (PySem.W.fnOf "is_letters" "is_letters" (defArgs s_is_letters) (defBody s_is_letters) (defScope s_is_letters) .none kv_is_letters dc_is_letters pm_is_letters an_is_letters cd_is_letters ct_is_letters), sl_is_letters⟩) (c_is_letters : PySem.W.codeIn K cd_is_letters "is_letters" = true) (kp_is_letters : PySem.W.keepIn K (.ref a_is_letters) = true)
    {a_is_name : Addr} {oc_is_name kv_is_name dc_is_name pm_is_name cd_is_name ct_is_name : Value} {od_is_name an_is_name : Option Addr} {sl_is_name : Array (Option Value)}
    (a1_is_name : PySem.W.nsIn K mainGlobals "is_name" = some (some (.ref a_is_name))) (l_is_name : K.lookup a_is_name = some ⟨oc_is_name, od_is_name, .func (PySem.W.fnOf "is_name" "is_name" (defArgs s_is_name) (defBody s_is_name) (defScope s_is_name) .none kv_is_name dc_is_name pm_is_name an_is_name cd_is_name ct_is_name), sl_is_name⟩) (c_is_name : PySem.W.codeIn K cd_is_name "is_name" = true) (kp_is_name : PySem.W.keepIn K (.ref a_is_name) = true)
    {a_is_ascending : Addr} {oc_is_ascending kv_is_ascending dc_is_ascending pm_is_ascending cd_is_ascending ct_is_ascending : Value} {od_is_ascending an_is_ascending : Option Addr} {sl_is_ascending : Array (Option Value)}
    (a1_is_ascending : PySem.W.nsIn K mainGlobals "is_ascending" = some (some (.ref a_is_ascending))) (l_is_ascending : K.lookup a_is_ascending = some ⟨oc_is_ascending, od_is_ascending, .func (PySem.W.fnOf "is_ascending" "is_ascending" (defArgs s_is_ascending) (defBody s_is_ascending) (defScope s_is_ascending) .none kv_is_ascending dc_is_ascending pm_is_ascending an_is_ascending cd_is_ascending ct_is_ascending), sl_is_ascending⟩) (c_is_ascending : PySem.W.codeIn K cd_is_ascending "is_ascending" = true) (kp_is_ascending : PySem.W.keepIn K (.ref a_is_ascending) = true)
    {a_is_rate : Addr} {oc_is_rate kv_is_rate dc_is_rate pm_is_rate cd_is_rate ct_is_rate : Value} {od_is_rate an_is_rate : Option Addr} {sl_is_rate : Array (Option Value)}
    (a1_is_rate : PySem.W.nsIn K mainGlobals "is_rate" = some (some (.ref a_is_rate))) (l_is_rate : K.lookup a_is_rate = some ⟨oc_is_rate, od_is_rate, .func (PySem.W.fnOf "is_rate" "is_rate" (defArgs s_is_rate) (defBody s_is_rate) (defScope s_is_rate) .none kv_is_rate dc_is_rate pm_is_rate an_is_rate cd_is_rate ct_is_rate), sl_is_rate⟩) (c_is_rate : PySem.W.codeIn K cd_is_rate "is_rate" = true) (kp_is_rate : PySem.W.keepIn K (.ref a_is_rate) = true)
    {a_is_money : Addr} {oc_is_money kv_is_money dc_is_money pm_is_money cd_is_money ct_is_money : Value} {od_is_money an_is_money : Option Addr} {sl_is_money : Array (Option Value)}
    (a1_is_money : PySem.W.nsIn K mainGlobals "is_money" = some (some (.ref a_is_money))) (l_is_money : K.lookup a_is_money = some ⟨oc_is_money, od_is_money, .func (PySem.W.fnOf "is_money" "is_money" (defArgs s_is_money) (defBody s_is_money) (defScope s_is_money) .none kv_is_money dc_is_money pm_is_money an_is_money cd_is_money ct_is_money), sl_is_money⟩) (c_is_money : PySem.W.codeIn K cd_is_money "is_money" = true) (kp_is_money : PySem.W.keepIn K (.ref a_is_money) = true)
    {a_rate_on : Addr} {oc_rate_on kv_rate_on dc_rate_on pm_rate_on cd_rate_on ct_rate_on : Value} {od_rate_on an_rate_on : Option Addr} {sl_rate_on : Array (Option Value)}
    (a1_rate_on : PySem.W.nsIn K mainGlobals "rate_on" = some (some (.ref a_rate_on))) (l_rate_on : K.lookup a_rate_on = some ⟨oc_rate_on, od_rate_on, .func (PySem.W.fnOf "rate_on" "rate_on" (defArgs s_rate_on) (defBody s_rate_on) (defScope s_rate_on) .none kv_rate_on dc_rate_on pm_rate_on an_rate_on cd_rate_on ct_rate_on), sl_rate_on⟩) (c_rate_on : PySem.W.codeIn K cd_rate_on "rate_on" = true) (kp_rate_on : PySem.W.keepIn K (.ref a_rate_on) = true)
    {a_worth_of : Addr} {oc_worth_of kv_worth_of dc_worth_of pm_worth_of cd_worth_of ct_worth_of : Value} {od_worth_of an_worth_of : Option Addr} {sl_worth_of : Array (Option Value)}
    (a1_worth_of : PySem.W.nsIn K mainGlobals "worth_of" = some (some (.ref a_worth_of))) (l_worth_of : K.lookup a_worth_of = some ⟨oc_worth_of, od_worth_of, .func (PySem.W.fnOf "worth_of" "worth_of" (defArgs s_worth_of) (defBody s_worth_of) (defScope s_worth_of) .none kv_worth_of dc_worth_of pm_worth_of an_worth_of cd_worth_of ct_worth_of), sl_worth_of⟩) (c_worth_of : PySem.W.codeIn K cd_worth_of "worth_of" = true) (kp_worth_of : PySem.W.keepIn K (.ref a_worth_of) = true)
    {a_check_money : Addr} {oc_check_money kv_check_money dc_check_money pm_check_money cd_check_money ct_check_money : Value} {od_check_money an_check_money : Option Addr} {sl_check_money : Array (Option Value)}
    (a1_check_money : PySem.W.nsIn K mainGlobals "check_money" = some (some (.ref a_check_money))) (l_check_money : K.lookup a_check_money = some ⟨oc_check_money, od_check_money, .func (PySem.W.fnOf "check_money" "check_money" (defArgs s_check_money) (defBody s_check_money) (defScope s_check_money) .none kv_check_money dc_check_money pm_check_money an_check_money cd_check_money ct_check_money), sl_check_money⟩) (c_check_money : PySem.W.codeIn K cd_check_money "check_money" = true) (kp_check_money : PySem.W.keepIn K (.ref a_check_money) = true)
    {a_check_amount : Addr} {oc_check_amount kv_check_amount dc_check_amount pm_check_amount cd_check_amount ct_check_amount : Value} {od_check_amount an_check_amount : Option Addr} {sl_check_amount : Array (Option Value)}
    (a1_check_amount : PySem.W.nsIn K mainGlobals "check_amount" = some (some (.ref a_check_amount))) (l_check_amount : K.lookup a_check_amount = some ⟨oc_check_amount, od_check_amount, .func (PySem.W.fnOf "check_amount" "check_amount" (defArgs s_check_amount) (defBody s_check_amount) (defScope s_check_amount) .none kv_check_amount dc_check_amount pm_check_amount an_check_amount cd_check_amount ct_check_amount), sl_check_amount⟩) (c_check_amount : PySem.W.codeIn K cd_check_amount "check_amount" = true) (kp_check_amount : PySem.W.keepIn K (.ref a_check_amount) = true)
    {a_check_day : Addr} {oc_check_day kv_check_day dc_check_day pm_check_day cd_check_day ct_check_day : Value} {od_check_day an_check_day : Option Addr} {sl_check_day : Array (Option Value)}
    (a1_check_day : PySem.W.nsIn K mainGlobals "check_day" = some (some (.ref a_check_day))) (l_check_day : K.lookup a_check_day = some ⟨oc_check_day, od_check_day, .func (PySem.W.fnOf "check_day" "check_day" (defArgs s_check_day) (defBody s_check_day) (defScope s_check_day) .none kv_check_day dc_check_day pm_check_day an_check_day cd_check_day ct_check_day), sl_check_day⟩) (c_check_day : PySem.W.codeIn K cd_check_day "check_day" = true) (kp_check_day : PySem.W.keepIn K (.ref a_check_day) = true)
    {a_worth : Addr} {oc_worth kv_worth dc_worth pm_worth cd_worth ct_worth : Value} {od_worth an_worth : Option Addr} {sl_worth : Array (Option Value)}
    (a1_worth : PySem.W.nsIn K mainGlobals "worth" = some (some (.ref a_worth))) (l_worth : K.lookup a_worth = some ⟨oc_worth, od_worth, .func (PySem.W.fnOf "worth" "worth" (defArgs s_worth) (defBody s_worth) (defScope s_worth) .none kv_worth dc_worth pm_worth an_worth cd_worth ct_worth), sl_worth⟩) (c_worth : PySem.W.codeIn K cd_worth "worth" = true) (kp_worth : PySem.W.keepIn K (.ref a_worth) = true)
    {a__law_well : Addr} {oc__law_well kv__law_well dc__law_well pm__law_well cd__law_well ct__law_well : Value} {od__law_well an__law_well : Option Addr} {sl__law_well : Array (Option Value)}
    (a1__law_well : PySem.W.nsIn K mainGlobals "_law_well" = some (some (.ref a__law_well))) (l__law_well : K.lookup a__law_well = some ⟨oc__law_well, od__law_well, .func (PySem.W.fnOf "_law_well" "_law_well" (defArgs s__law_well) (defBody s__law_well) (defScope s__law_well) .none kv__law_well dc__law_well pm__law_well an__law_well cd__law_well ct__law_well), sl__law_well⟩) (c__law_well : PySem.W.codeIn K cd__law_well "_law_well" = true) (kp__law_well : PySem.W.keepIn K (.ref a__law_well) = true)
    {a__law_draw : Addr} {oc__law_draw kv__law_draw dc__law_draw pm__law_draw cd__law_draw ct__law_draw : Value} {od__law_draw an__law_draw : Option Addr} {sl__law_draw : Array (Option Value)}
    (a1__law_draw : PySem.W.nsIn K mainGlobals "_law_draw" = some (some (.ref a__law_draw))) (l__law_draw : K.lookup a__law_draw = some ⟨oc__law_draw, od__law_draw, .func (PySem.W.fnOf "_law_draw" "_law_draw" (defArgs s__law_draw) (defBody s__law_draw) (defScope s__law_draw) .none kv__law_draw dc__law_draw pm__law_draw an__law_draw cd__law_draw ct__law_draw), sl__law_draw⟩) (c__law_draw : PySem.W.codeIn K cd__law_draw "_law_draw" = true) (kp__law_draw : PySem.W.keepIn K (.ref a__law_draw) = true)
    {a__law_of : Addr} {oc__law_of kv__law_of dc__law_of pm__law_of cd__law_of ct__law_of : Value} {od__law_of an__law_of : Option Addr} {sl__law_of : Array (Option Value)}
    (a1__law_of : PySem.W.nsIn K mainGlobals "_law_of" = some (some (.ref a__law_of))) (l__law_of : K.lookup a__law_of = some ⟨oc__law_of, od__law_of, .func (PySem.W.fnOf "_law_of" "_law_of" (defArgs s__law_of) (defBody s__law_of) (defScope s__law_of) .none kv__law_of dc__law_of pm__law_of an__law_of cd__law_of ct__law_of), sl__law_of⟩) (c__law_of : PySem.W.codeIn K cd__law_of "_law_of" = true) (kp__law_of : PySem.W.keepIn K (.ref a__law_of) = true)
    {a__law_unlike : Addr} {oc__law_unlike kv__law_unlike dc__law_unlike pm__law_unlike cd__law_unlike ct__law_unlike : Value} {od__law_unlike an__law_unlike : Option Addr} {sl__law_unlike : Array (Option Value)}
    (a1__law_unlike : PySem.W.nsIn K mainGlobals "_law_unlike" = some (some (.ref a__law_unlike))) (l__law_unlike : K.lookup a__law_unlike = some ⟨oc__law_unlike, od__law_unlike, .func (PySem.W.fnOf "_law_unlike" "_law_unlike" (defArgs s__law_unlike) (defBody s__law_unlike) (defScope s__law_unlike) .none kv__law_unlike dc__law_unlike pm__law_unlike an__law_unlike cd__law_unlike ct__law_unlike), sl__law_unlike⟩) (c__law_unlike : PySem.W.codeIn K cd__law_unlike "_law_unlike" = true) (kp__law_unlike : PySem.W.keepIn K (.ref a__law_unlike) = true)
    {a__law_is : Addr} {oc__law_is kv__law_is dc__law_is pm__law_is cd__law_is ct__law_is : Value} {od__law_is an__law_is : Option Addr} {sl__law_is : Array (Option Value)}
    (a1__law_is : PySem.W.nsIn K mainGlobals "_law_is" = some (some (.ref a__law_is))) (l__law_is : K.lookup a__law_is = some ⟨oc__law_is, od__law_is, .func (PySem.W.fnOf "_law_is" "_law_is" (defArgs s__law_is) (defBody s__law_is) (defScope s__law_is) .none kv__law_is dc__law_is pm__law_is an__law_is cd__law_is ct__law_is), sl__law_is⟩) (c__law_is : PySem.W.codeIn K cd__law_is "_law_is" = true) (kp__law_is : PySem.W.keepIn K (.ref a__law_is) = true)
    {a__law_words : Addr} {oc__law_words kv__law_words dc__law_words pm__law_words cd__law_words ct__law_words : Value} {od__law_words an__law_words : Option Addr} {sl__law_words : Array (Option Value)}
    (a1__law_words : PySem.W.nsIn K mainGlobals "_law_words" = some (some (.ref a__law_words))) (l__law_words : K.lookup a__law_words = some ⟨oc__law_words, od__law_words, .func (PySem.W.fnOf "_law_words" "_law_words" (defArgs s__law_words) (defBody s__law_words) (defScope s__law_words) .none kv__law_words dc__law_words pm__law_words an__law_words cd__law_words ct__law_words), sl__law_words⟩) (c__law_words : PySem.W.codeIn K cd__law_words "_law_words" = true) (kp__law_words : PySem.W.keepIn K (.ref a__law_words) = true)
    {a__law_names : Addr} {oc__law_names kv__law_names dc__law_names pm__law_names cd__law_names ct__law_names : Value} {od__law_names an__law_names : Option Addr} {sl__law_names : Array (Option Value)}
    (a1__law_names : PySem.W.nsIn K mainGlobals "_law_names" = some (some (.ref a__law_names))) (l__law_names : K.lookup a__law_names = some ⟨oc__law_names, od__law_names, .func (PySem.W.fnOf "_law_names" "_law_names" (defArgs s__law_names) (defBody s__law_names) (defScope s__law_names) .none kv__law_names dc__law_names pm__law_names an__law_names cd__law_names ct__law_names), sl__law_names⟩) (c__law_names : PySem.W.codeIn K cd__law_names "_law_names" = true) (kp__law_names : PySem.W.keepIn K (.ref a__law_names) = true)
    {a__law_money : Addr} {oc__law_money kv__law_money dc__law_money pm__law_money cd__law_money ct__law_money : Value} {od__law_money an__law_money : Option Addr} {sl__law_money : Array (Option Value)}
    (a1__law_money : PySem.W.nsIn K mainGlobals "_law_money" = some (some (.ref a__law_money))) (l__law_money : K.lookup a__law_money = some ⟨oc__law_money, od__law_money, .func (PySem.W.fnOf "_law_money" "_law_money" (defArgs s__law_money) (defBody s__law_money) (defScope s__law_money) .none kv__law_money dc__law_money pm__law_money an__law_money cd__law_money ct__law_money), sl__law_money⟩) (c__law_money : PySem.W.codeIn K cd__law_money "_law_money" = true) (kp__law_money : PySem.W.keepIn K (.ref a__law_money) = true)
    {a__law_force : Addr} {oc__law_force kv__law_force dc__law_force pm__law_force cd__law_force ct__law_force : Value} {od__law_force an__law_force : Option Addr} {sl__law_force : Array (Option Value)}
    (a1__law_force : PySem.W.nsIn K mainGlobals "_law_force" = some (some (.ref a__law_force))) (l__law_force : K.lookup a__law_force = some ⟨oc__law_force, od__law_force, .func (PySem.W.fnOf "_law_force" "_law_force" (defArgs s__law_force) (defBody s__law_force) (defScope s__law_force) .none kv__law_force dc__law_force pm__law_force an__law_force cd__law_force ct__law_force), sl__law_force⟩) (c__law_force : PySem.W.codeIn K cd__law_force "_law_force" = true) (kp__law_force : PySem.W.keepIn K (.ref a__law_force) = true)
    {a__law_none : Addr} {oc__law_none kv__law_none dc__law_none pm__law_none cd__law_none ct__law_none : Value} {od__law_none an__law_none : Option Addr} {sl__law_none : Array (Option Value)}
    (a1__law_none : PySem.W.nsIn K mainGlobals "_law_none" = some (some (.ref a__law_none))) (l__law_none : K.lookup a__law_none = some ⟨oc__law_none, od__law_none, .func (PySem.W.fnOf "_law_none" "_law_none" (defArgs s__law_none) (defBody s__law_none) (defScope s__law_none) .none kv__law_none dc__law_none pm__law_none an__law_none cd__law_none ct__law_none), sl__law_none⟩) (c__law_none : PySem.W.codeIn K cd__law_none "_law_none" = true) (kp__law_none : PySem.W.keepIn K (.ref a__law_none) = true)
    {a__law_right : Addr} {oc__law_right kv__law_right dc__law_right pm__law_right cd__law_right ct__law_right : Value} {od__law_right an__law_right : Option Addr} {sl__law_right : Array (Option Value)}
    (a1__law_right : PySem.W.nsIn K mainGlobals "_law_right" = some (some (.ref a__law_right))) (l__law_right : K.lookup a__law_right = some ⟨oc__law_right, od__law_right, .func (PySem.W.fnOf "_law_right" "_law_right" (defArgs s__law_right) (defBody s__law_right) (defScope s__law_right) .none kv__law_right dc__law_right pm__law_right an__law_right cd__law_right ct__law_right), sl__law_right⟩) (c__law_right : PySem.W.codeIn K cd__law_right "_law_right" = true) (kp__law_right : PySem.W.keepIn K (.ref a__law_right) = true)
    {a_law : Addr} {oc_law kv_law dc_law pm_law cd_law ct_law : Value} {od_law an_law : Option Addr} {sl_law : Array (Option Value)}
    (a1_law : PySem.W.nsIn K mainGlobals "law" = some (some (.ref a_law))) (l_law : K.lookup a_law = some ⟨oc_law, od_law, .func (PySem.W.fnOf "law" "law" (defArgs s_law) (defBody s_law) (defScope s_law) .none kv_law dc_law pm_law an_law cd_law ct_law), sl_law⟩) (c_law : PySem.W.codeIn K cd_law "law" = true) (kp_law : PySem.W.keepIn K (.ref a_law) = true)
    : Txt K mg :=
  { m_abs := PySem.W.mg_none_of X G m_abs,
    m_all := PySem.W.mg_none_of X G m_all,
    m_bool := PySem.W.mg_none_of X G m_bool,
    m_divmod := PySem.W.mg_none_of X G m_divmod,
    m_int := PySem.W.mg_none_of X G m_int,
    m_isinstance := PySem.W.mg_none_of X G m_isinstance,
    m_len := PySem.W.mg_none_of X G m_len,
    m_list := PySem.W.mg_none_of X G m_list,
    m_max := PySem.W.mg_none_of X G m_max,
    m_min := PySem.W.mg_none_of X G m_min,
    m_range := PySem.W.mg_none_of X G m_range,
    m_repr := PySem.W.mg_none_of X G m_repr,
    m_str := PySem.W.mg_none_of X G m_str,
    m_tuple := PySem.W.mg_none_of X G m_tuple,
    m_zip := PySem.W.mg_none_of X G m_zip,
    k_SMALL_LETTERS := ⟨_, PySem.W.mg_of X G k_SMALL_LETTERS⟩,
    k_MOST_IN_NAME := ⟨_, PySem.W.mg_of X G k_MOST_IN_NAME⟩,
    k_WORDS := conT_of (PySem.W.mg_of X G k_WORDS) l_WORDS v_WORDS,
    k_MOST_AMOUNT := k_MOST_AMOUNT,
    k_LAST_DAY := ⟨_, PySem.W.mg_of X G k_LAST_DAY⟩,
    k_MOST_RATES := ⟨_, PySem.W.mg_of X G k_MOST_RATES⟩,
    k_MOST_TERM := k_MOST_TERM,
    d_is_whole := ⟨_, _, fun_mk l_is_whole c_is_whole kp_is_whole, PySem.W.mg_of X G a1_is_whole⟩,
    d_is_number := ⟨_, _, fun_mk l_is_number c_is_number kp_is_number, PySem.W.mg_of X G a1_is_number⟩,
    d_is_tuple_of := ⟨_, _, fun_mk l_is_tuple_of c_is_tuple_of kp_is_tuple_of, PySem.W.mg_of X G a1_is_tuple_of⟩,
    d_is_letters := ⟨_, _, fun_mk l_is_letters c_is_letters kp_is_letters, PySem.W.mg_of X G a1_is_letters⟩,
    d_is_name := ⟨_, _, fun_mk l_is_name c_is_name kp_is_name, PySem.W.mg_of X G a1_is_name⟩,
    d_is_ascending := ⟨_, _, fun_mk l_is_ascending c_is_ascending kp_is_ascending, PySem.W.mg_of X G a1_is_ascending⟩,
    d_is_rate := ⟨_, _, fun_mk l_is_rate c_is_rate kp_is_rate, PySem.W.mg_of X G a1_is_rate⟩,
    d_is_money := ⟨_, _, fun_mk l_is_money c_is_money kp_is_money, PySem.W.mg_of X G a1_is_money⟩,
    d_rate_on := ⟨_, _, fun_mk l_rate_on c_rate_on kp_rate_on, PySem.W.mg_of X G a1_rate_on⟩,
    d_worth_of := ⟨_, _, fun_mk l_worth_of c_worth_of kp_worth_of, PySem.W.mg_of X G a1_worth_of⟩,
    d_check_money := ⟨_, _, fun_mk l_check_money c_check_money kp_check_money, PySem.W.mg_of X G a1_check_money⟩,
    d_check_amount := ⟨_, _, fun_mk l_check_amount c_check_amount kp_check_amount, PySem.W.mg_of X G a1_check_amount⟩,
    d_check_day := ⟨_, _, fun_mk l_check_day c_check_day kp_check_day, PySem.W.mg_of X G a1_check_day⟩,
    d_worth := ⟨_, _, fun_mk l_worth c_worth kp_worth, PySem.W.mg_of X G a1_worth⟩,
    d__law_well := ⟨_, _, fun_mk l__law_well c__law_well kp__law_well, PySem.W.mg_of X G a1__law_well⟩,
    d__law_draw := ⟨_, _, fun_mk l__law_draw c__law_draw kp__law_draw, PySem.W.mg_of X G a1__law_draw⟩,
    d__law_of := ⟨_, _, fun_mk l__law_of c__law_of kp__law_of, PySem.W.mg_of X G a1__law_of⟩,
    d__law_unlike := ⟨_, _, fun_mk l__law_unlike c__law_unlike kp__law_unlike, PySem.W.mg_of X G a1__law_unlike⟩,
    d__law_is := ⟨_, _, fun_mk l__law_is c__law_is kp__law_is, PySem.W.mg_of X G a1__law_is⟩,
    d__law_words := ⟨_, _, fun_mk l__law_words c__law_words kp__law_words, PySem.W.mg_of X G a1__law_words⟩,
    d__law_names := ⟨_, _, fun_mk l__law_names c__law_names kp__law_names, PySem.W.mg_of X G a1__law_names⟩,
    d__law_money := ⟨_, _, fun_mk l__law_money c__law_money kp__law_money, PySem.W.mg_of X G a1__law_money⟩,
    d__law_force := ⟨_, _, fun_mk l__law_force c__law_force kp__law_force, PySem.W.mg_of X G a1__law_force⟩,
    d__law_none := ⟨_, _, fun_mk l__law_none c__law_none kp__law_none, PySem.W.mg_of X G a1__law_none⟩,
    d__law_right := ⟨_, _, fun_mk l__law_right c__law_right kp__law_right, PySem.W.mg_of X G a1__law_right⟩,
    d_law := ⟨_, _, fun_mk l_law c_law kp_law, PySem.W.mg_of X G a1_law⟩ }
end
end LW
open PySem PySem.W PyProof.Rows
set_option maxHeartbeats 0 in
theorem PySem.Challenge.cw_claimback_k05_whole_worth_by_own_rates_holds : PySem.Challenge.rw_claimback_k05_whole_worth_by_own_rates.Holds := by
  w_on; o_law; k_head; (case hw => w_witness2)
  k_fill
  refine GX.walkG (l := PySem.Challenge.rw_claimback_k05_whole_worth_by_own_rates) (n := 63) (k := 8) (x := "script") (spec := LW.q_law) rfl (by decide) rfl ⟨rfl, by decide, by decide⟩ (fun w h Y => PySem.W.kIn_of Y) ?F LW.law_start
  case F =>
    intro w mg fa h KX G xp hmg
    apply GX.law_end (LW.txt_of KX G ?k_SMALL_LETTERS ?k_MOST_IN_NAME ?k_WORDS ?l_WORDS ?v_WORDS ?k_MOST_AMOUNT ?k_LAST_DAY ?k_MOST_RATES ?k_MOST_TERM ?m_abs ?m_all ?m_bool ?m_divmod ?m_int ?m_isinstance ?m_len ?m_list ?m_max ?m_min ?m_range ?m_repr ?m_str ?m_tuple ?m_zip ?a1_is_whole ?l_is_whole ?c_is_whole ?kp_is_whole ?a1_is_number ?l_is_number ?c_is_number ?kp_is_number ?a1_is_tuple_of ?l_is_tuple_of ?c_is_tuple_of ?kp_is_tuple_of ?a1_is_letters ?l_is_letters ?c_is_letters ?kp_is_letters ?a1_is_name ?l_is_name ?c_is_name ?kp_is_name ?a1_is_ascending ?l_is_ascending ?c_is_ascending ?kp_is_ascending ?a1_is_rate ?l_is_rate ?c_is_rate ?kp_is_rate ?a1_is_money ?l_is_money ?c_is_money ?kp_is_money ?a1_rate_on ?l_rate_on ?c_rate_on ?kp_rate_on ?a1_worth_of ?l_worth_of ?c_worth_of ?kp_worth_of ?a1_check_money ?l_check_money ?c_check_money ?kp_check_money ?a1_check_amount ?l_check_amount ?c_check_amount ?kp_check_amount ?a1_check_day ?l_check_day ?c_check_day ?kp_check_day ?a1_worth ?l_worth ?c_worth ?kp_worth ?a1__law_well ?l__law_well ?c__law_well ?kp__law_well ?a1__law_draw ?l__law_draw ?c__law_draw ?kp__law_draw ?a1__law_of ?l__law_of ?c__law_of ?kp__law_of ?a1__law_unlike ?l__law_unlike ?c__law_unlike ?kp__law_unlike ?a1__law_is ?l__law_is ?c__law_is ?kp__law_is ?a1__law_words ?l__law_words ?c__law_words ?kp__law_words ?a1__law_names ?l__law_names ?c__law_names ?kp__law_names ?a1__law_money ?l__law_money ?c__law_money ?kp__law_money ?a1__law_force ?l__law_force ?c__law_force ?kp__law_force ?a1__law_none ?l__law_none ?c__law_none ?kp__law_none ?a1__law_right ?l__law_right ?c__law_right ?kp__law_right ?a1_law ?l_law ?c_law ?kp_law) (fun _ T => LW.ok_law T) hmg
    (case k_SMALL_LETTERS => k_is)
    (case k_MOST_IN_NAME => k_is)
    (case k_WORDS => k_is)
    (case l_WORDS => k_is)
    (case v_WORDS => exact GX.tupO_by rfl rfl rfl (by repeat first | exact .nil | refine .cons ⟨_, rfl⟩ ?_))
    (case k_MOST_AMOUNT => exact GX.loose_int xp.2 (by repeat first | exact List.mem_cons_self | apply List.mem_cons_of_mem))
    (case k_LAST_DAY => k_is)
    (case k_MOST_RATES => k_is)
    (case k_MOST_TERM => exact GX.loose_int xp.2 (by repeat first | exact List.mem_cons_self | apply List.mem_cons_of_mem))
    (case m_abs => k_is)
    (case m_all => k_is)
    (case m_bool => k_is)
    (case m_divmod => k_is)
    (case m_int => k_is)
    (case m_isinstance => k_is)
    (case m_len => k_is)
    (case m_list => k_is)
    (case m_max => k_is)
    (case m_min => k_is)
    (case m_range => k_is)
    (case m_repr => k_is)
    (case m_str => k_is)
    (case m_tuple => k_is)
    (case m_zip => k_is)
    (case a1_is_whole => k_is)
    (case l_is_whole => k_is)
    (case c_is_whole => k_is)
    (case kp_is_whole => k_is)
    (case a1_is_number => k_is)
    (case l_is_number => k_is)
    (case c_is_number => k_is)
    (case kp_is_number => k_is)
    (case a1_is_tuple_of => k_is)
    (case l_is_tuple_of => k_is)
    (case c_is_tuple_of => k_is)
    (case kp_is_tuple_of => k_is)
    (case a1_is_letters => k_is)
    (case l_is_letters => k_is)
    (case c_is_letters => k_is)
    (case kp_is_letters => k_is)
    (case a1_is_name => k_is)
    (case l_is_name => k_is)
    (case c_is_name => k_is)
    (case kp_is_name => k_is)
    (case a1_is_ascending => k_is)
    (case l_is_ascending => k_is)
    (case c_is_ascending => k_is)
    (case kp_is_ascending => k_is)
    (case a1_is_rate => k_is)
    (case l_is_rate => k_is)
    (case c_is_rate => k_is)
    (case kp_is_rate => k_is)
    (case a1_is_money => k_is)
    (case l_is_money => k_is)
    (case c_is_money => k_is)
    (case kp_is_money => k_is)
    (case a1_rate_on => k_is)
    (case l_rate_on => k_is)
    (case c_rate_on => k_is)
    (case kp_rate_on => k_is)
    (case a1_worth_of => k_is)
    (case l_worth_of => k_is)
    (case c_worth_of => k_is)
    (case kp_worth_of => k_is)
    (case a1_check_money => k_is)
    (case l_check_money => k_is)
    (case c_check_money => k_is)
    (case kp_check_money => k_is)
    (case a1_check_amount => k_is)
    (case l_check_amount => k_is)
    (case c_check_amount => k_is)
    (case kp_check_amount => k_is)
    (case a1_check_day => k_is)
    (case l_check_day => k_is)
    (case c_check_day => k_is)
    (case kp_check_day => k_is)
    (case a1_worth => k_is)
    (case l_worth => k_is)
    (case c_worth => k_is)
    (case kp_worth => k_is)
    (case a1__law_well => k_is)
    (case l__law_well => k_is)
    (case c__law_well => k_is)
    (case kp__law_well => k_is)
    (case a1__law_draw => k_is)
    (case l__law_draw => k_is)
    (case c__law_draw => k_is)
    (case kp__law_draw => k_is)
    (case a1__law_of => k_is)
    (case l__law_of => k_is)
    (case c__law_of => k_is)
    (case kp__law_of => k_is)
    (case a1__law_unlike => k_is)
    (case l__law_unlike => k_is)
    (case c__law_unlike => k_is)
    (case kp__law_unlike => k_is)
    (case a1__law_is => k_is)
    (case l__law_is => k_is)
    (case c__law_is => k_is)
    (case kp__law_is => k_is)
    (case a1__law_words => k_is)
    (case l__law_words => k_is)
    (case c__law_words => k_is)
    (case kp__law_words => k_is)
    (case a1__law_names => k_is)
    (case l__law_names => k_is)
    (case c__law_names => k_is)
    (case kp__law_names => k_is)
    (case a1__law_money => k_is)
    (case l__law_money => k_is)
    (case c__law_money => k_is)
    (case kp__law_money => k_is)
    (case a1__law_force => k_is)
    (case l__law_force => k_is)
    (case c__law_force => k_is)
    (case kp__law_force => k_is)
    (case a1__law_none => k_is)
    (case l__law_none => k_is)
    (case c__law_none => k_is)
    (case kp__law_none => k_is)
    (case a1__law_right => k_is)
    (case l__law_right => k_is)
    (case c__law_right => k_is)
    (case kp__law_right => k_is)
    (case a1_law => k_is)
    (case l_law => k_is)
    (case c_law => k_is)
    (case kp_law => k_is)



