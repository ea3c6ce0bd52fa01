import PyProof.Rows.All
import Wide.All
import OpenK.AllK
import Wide.FinOn
import HandS.ForMost
import HandS.TupAny
import HandS.TupLe
import HandS.Wide
import HandS.Defaults
import KE.KTupSum
import HandS.IsInst
import KE.DataMinMax
import HandS.Style
import HandS.Zip
import KE.GoesMore
import KE.GoesEnum
import HandS.Head0
import HandS.Head1
import HandS.Head2
import HandS.HeadEnd
import HandS.HeadHook1
import HandS.HeadHook2
import HandS.WordsDict
import HandS.Lambda
import HandS.TryOnly
import HandS.TupMul
import KE.SortData
import PyProof.Transfer
import HandS.More
import HandS.Iter
import KE.KDictPairs
import HandS.ExcOwn
import HandS.WordsExc
import HandS.ExcIs
import HandS.ExcValue
import HandS.Walk
import HandS.HeadHook4
import HandS.EndTab
import HandS.HeadWalk
import KE.KStateDown
import Lean
import HandS.Base
import HandS.Call
import HandS.Ends
import HandS.Words
import PySem.Challenge.RW_momentyard_k45_whole_clocks
set_option Elab.async false
set_option linter.all false
set_option maxRecDepth 100000
set_option maxHeartbeats 4000000
/-! The data layer: what a piece of Python does, told over plain data; heaps and addresses stay below. -/
namespace Pu
open PySem PySem.Spec PyProof.Rows L2

abbrev D := PyData
abbrev St := L2.St

/-! ### the weakest readings -/
@[irreducible] def wpE (X : Cx) (e : Expr) : TE := fun σ H Q => ∀ (pins : List (Addr × Obj)) (s : Shared), Inv X pins σ H s → wpAny (model X.prog X.w) X.A (eval e X.env) (EP X pins σ Q) X.xe s
theorem pe_w {X : Cx} {e : Expr} : PE X e (wpE X e) := ⟨fun pins s _ _ _ I h => by unfold wpE at h; exact h pins s I⟩
theorem wpE_of {X : Cx} {e : Expr} {t : TE} (h : PE X e t) {σ : St} {H : Hp} {Q : VK} (q : t σ H Q) : wpE X e σ H Q := by
  unfold wpE
  exact fun pins s I => h.run pins s σ H Q I q
@[irreducible] def wpT (X : Cx) (e : Expr) : TT := fun σ H Q => ∀ (pins : List (Addr × Obj)) (s : Shared), Inv X pins σ H s → wpAny (model X.prog X.w) X.A (isTrue e X.env (eval e X.env)) (TP X pins σ Q) X.xe s
theorem pt_w {X : Cx} {e : Expr} : PT X e (wpT X e) := ⟨fun pins s _ _ _ I h => by unfold wpT at h; exact h pins s I⟩
theorem wpT_of {X : Cx} {e : Expr} {t : TT} (h : PT X e t) {σ : St} {H : Hp} {Q : Bool → Hp → Prop} (q : t σ H Q) : wpT X e σ H Q := by
  unfold wpT
  exact fun pins s I => h.run pins s σ H Q I q
@[irreducible] def wpW (X : Cx) (e : Expr) : TT := fun σ H Q => ∀ (wh : Sem Value) (pins : List (Addr × Obj)) (s : Shared), Inv X pins σ H s → wpAny (model X.prog X.w) X.A (isTrue e X.env wh) (TP X pins σ Q) X.xe s
theorem pw_w {X : Cx} {e : Expr} : PW X e (wpW X e) := ⟨fun wh pins s _ _ _ I h => by unfold wpW at h; exact h wh pins s I⟩
theorem wpW_of {X : Cx} {e : Expr} {t : TT} (h : PW X e t) {σ : St} {H : Hp} {Q : Bool → Hp → Prop} (q : t σ H Q) : wpW X e σ H Q := by
  unfold wpW
  exact fun wh pins s I => h.run wh pins s σ H Q I q
@[irreducible] def wpA (X : Cx) (es : List Expr) : TA := fun σ H Q => ∀ (pos : Pos) (pins : List (Addr × Obj)) (s : Shared), Inv X pins σ H s → wpAny (model X.prog X.w) X.A (spliced (backTo pos (starEach es X.env))) (AP X pins σ Q) X.xe s
theorem pa_w {X : Cx} {es : List Expr} : PA X es (wpA X es) := ⟨fun pos pins s _ _ _ I h => by unfold wpA at h; exact h pos pins s I⟩
theorem wpA_of {X : Cx} {es : List Expr} {t : TA} (h : PA X es t) {σ : St} {H : Hp} {Q : List V → Hp → Prop} (q : t σ H Q) : wpA X es σ H Q := by
  unfold wpA
  exact fun pos pins s I => h.run pos pins s σ H Q I q
@[irreducible] def wpS (X : Cx) (st : Stmt) : TS := fun D σ H => ∀ (pins : List (Addr × Obj)) (s : Shared), Inv X pins σ H s → wpAny (model X.prog X.w) X.A (exec st X.env) (SP X pins D) X.xe s
theorem ps_w {X : Cx} {st : Stmt} : PS X st (wpS X st) := ⟨fun pins s _ _ _ I h => by unfold wpS at h; exact h pins s I⟩
theorem wpS_of {X : Cx} {st : Stmt} {t : TS} (h : PS X st t) {σ : St} {H : Hp} {D : Ends} (q : t D σ H) : wpS X st D σ H := by
  unfold wpS
  exact fun pins s I => h.run pins s σ H D I q
@[irreducible] def wpSs (X : Cx) (st : List Stmt) : TS := fun D σ H => ∀ (pins : List (Addr × Obj)) (s : Shared), Inv X pins σ H s → wpAny (model X.prog X.w) X.A (execs st X.env) (SP X pins D) X.xe s
theorem pss_w {X : Cx} {st : List Stmt} : PSs X st (wpSs X st) := ⟨fun pins s _ _ _ I h => by unfold wpSs at h; exact h pins s I⟩
theorem wpSs_of {X : Cx} {st : List Stmt} {t : TS} (h : PSs X st t) {σ : St} {H : Hp} {D : Ends} (q : t D σ H) : wpSs X st D σ H := by
  unfold wpSs
  exact fun pins s I => h.run pins s σ H D I q
@[irreducible] def wpG (X : Cx) (tg : Expr) : TG := fun v σ H Q => ∀ (pins : List (Addr × Obj)) (s : Shared) (u : Value), Inv X pins σ H s → RelV v u → wpAny (model X.prog X.w) X.A (assign tg X.env u) (fun _ s' => ∃ σ' H', Inv X pins σ' H' s' ∧ Q σ' H') X.xe s
theorem pg_w {X : Cx} {tg : Expr} : PG X tg (wpG X tg) := ⟨fun pins s _ _ _ u _ I r h => by unfold wpG at h; exact h pins s u I r⟩
theorem wpG_of {X : Cx} {tg : Expr} {t : TG} (h : PG X tg t) {v : V} {σ : St} {H : Hp} {Q : St → Hp → Prop} (q : t v σ H Q) : wpG X tg v σ H Q := by
  unfold wpG
  exact fun pins s u I r => h.run pins s σ H v u Q I r q
@[irreducible] def wpGs (X : Cx) (ts : List Expr) : TGs := fun vs σ H Q => ∀ (pins : List (Addr × Obj)) (s : Shared) (us : List Value), Inv X pins σ H s → Vals vs us → wpAny (model X.prog X.w) X.A (assignInOrder ((assignEach ts X.env).map (·.2)) us) (fun _ s' => ∃ σ' H', Inv X pins σ' H' s' ∧ Q σ' H') X.xe s
theorem pgs_w {X : Cx} {ts : List Expr} : PGs X ts (wpGs X ts) := ⟨fun pins s _ _ _ us _ I r h => by unfold wpGs at h; exact h pins s us I r⟩
theorem wpGs_of {X : Cx} {ts : List Expr} {t : TGs} (h : PGs X ts t) {vs : List V} {σ : St} {H : Hp} {Q : St → Hp → Prop} (q : t vs σ H Q) : wpGs X ts vs σ H Q := by
  unfold wpGs
  exact fun pins s us I r => h.run pins s σ H vs us Q I r q
@[irreducible] def wpI (X : Cx) (tg iter : Expr) : TI := fun σ H R => ∀ (pins : List (Addr × Obj)) (s : Shared), Inv X pins σ H s →
    wpAny (model X.prog X.w) X.A (eval iter X.env) (fun v s1 => wpAny (model X.prog X.w) X.A (pyIter v) (PIE X pins σ tg R) X.xe s1) X.xe s
theorem pi_w {X : Cx} {tg iter : Expr} : PI X tg iter (wpI X tg iter) := ⟨fun pins s _ _ _ I h => by unfold wpI at h; exact h pins s I⟩
theorem wpI_of {X : Cx} {tg iter : Expr} {t : TI} (h : PI X tg iter t) {σ : St} {H : Hp} {R : It → Hp → Prop} (q : t σ H R) : wpI X tg iter σ H R := by
  unfold wpI
  exact fun pins s I => h.run pins s σ H R I q

/-! ### data in a heap -/
/-- a tuple is known to be plain, or begins with no object -/
def NPh (xs : List V) : Prop := ∃ x, xs.head? = some x ∧ ∀ b : Addr, x ≠ .ref b
def okT : HO → Prop
  | .tup xs => NPh xs
  | .frz o (.tup _) => o.dict = none
  | _ => True
open Classical in
noncomputable def res (H : Hp) (ow : Addr → Prop) : Hp := fun a => if ow a ∨ ∃ o, H a = some o ∧ ¬ okT o then none else H a
theorem res_some {H : Hp} {ow : Addr → Prop} {a : Addr} {o : HO} : res H ow a = some o ↔ ¬ ow a ∧ H a = some o ∧ okT o := by
  unfold res
  by_cases h : ow a ∨ ∃ o, H a = some o ∧ ¬ okT o
  · rw [if_pos h]
    refine ⟨fun z => (nomatch z), fun z => ?_⟩
    rcases h with h | ⟨u, h1, h2⟩
    · exact absurd h z.1
    · rw [z.2.1] at h1; cases h1
      exact absurd z.2.2 h2
  · rw [if_neg h]
    refine ⟨fun z => ⟨fun y => h (.inl y), z, Classical.byContradiction fun y => h (.inr ⟨o, z, y⟩)⟩, fun z => z.2.1⟩
theorem res_put {H : Hp} {ow : Addr → Prop} {a : Addr} {o : HO} (n : ¬ ow a) (e : H a = some o) (k : okT o := by trivial) : res H ow a = some o := res_some.mpr ⟨n, e, k⟩
theorem res_at {H : Hp} {ow : Addr → Prop} {a : Addr} {o : HO} (h : res H ow a = some o) : H a = some o := (res_some.mp h).2.1
theorem res_ok {H : Hp} {ow : Addr → Prop} {a : Addr} {o : HO} (h : res H ow a = some o) : okT o := (res_some.mp h).2.2
theorem res_none {H : Hp} {ow : Addr → Prop} {a : Addr} (h : H a = none) : res H ow a = none := by
  unfold res
  split
  · rfl
  · exact h
theorem res_le {H : Hp} {ow : Addr → Prop} : Same (res H ow) H := fun _ _ e => res_at e
theorem res_mono {H H' : Hp} {ow ow' : Addr → Prop} (h : ∀ a o, ¬ ow a → H a = some o → ¬ ow' a ∧ H' a = some o) : Same (res H ow) (res H' ow') := fun a o e => by
  obtain ⟨n, e, k⟩ := res_some.mp e
  exact res_put (h a o n e).1 (h a o n e).2 k

variable {K : PySem.W.Frag}
theorem rd_same {H H' : Hp} {a : Addr} {u : HO} (e : Same H H') (h : Rd H a u) : Rd H' a u := by
  rcases h with h | ⟨o, h⟩
  · exact .inl (e _ _ h)
  · exact .inr ⟨o, e _ _ h⟩
theorem sqL_same {H H' : Hp} {a : Addr} {xs : List V} (e : Same H H') (h : SqL K H a xs) : SqL K H' a xs := by
  rcases h with h | h
  · exact .inl (rd_same e h)
  · exact .inr h
theorem sqT_same {H H' : Hp} {a : Addr} {xs : List V} (e : Same H H') (h : SqT K H a xs) : SqT K H' a xs := by
  rcases h with h | h
  · exact .inl (rd_same e h)
  · exact .inr h
mutual
theorem dp_same {H H' : Hp} (e : Same H H') : ∀ (d : D) (v : V), Dp K H v d → Dp K H' v d
  | .none, _, h => by cases h; exact .non
  | .bool b, _, h => by cases h; exact .bl b
  | .int i, _, h => by cases h; exact .int i
  | .str x, _, h => by cases h; exact .str x
  | .list ds, _, h => by
    cases h with
    | lst hs ha => exact .lst (sqL_same e hs) (dpAll_same e ds _ ha)
  | .tuple ds, _, h => by
    cases h with
    | tup hs ha => exact .tup (sqT_same e hs) (dpAll_same e ds _ ha)
  | .dict _, _, h => by cases h
theorem dpAll_same {H H' : Hp} (e : Same H H') : ∀ (ds : List D) (vs : List V), DpAll K H vs ds → DpAll K H' vs ds
  | [], _, h => by cases h; exact .nil
  | d :: ds, _, h => by
    cases h with
    | cons h1 h2 => exact .cons (dp_same e d _ h1) (dpAll_same e ds _ h2)
end
/-! data without lists -/
mutual
def lf : D → Bool
  | .none => true
  | .bool _ => true
  | .int _ => true
  | .str _ => true
  | .list _ => false
  | .tuple ds => lfAll ds
  | .dict _ => false
def lfAll : List D → Bool
  | [] => true
  | d :: ds => lf d && lfAll ds
end
theorem lfAll_iff : ∀ {ds : List D}, lfAll ds = true ↔ ∀ d ∈ ds, lf d = true
  | [] => by simp [lfAll]
  | d :: ds => by
    rw [lfAll, Bool.and_eq_true, lfAll_iff]
    simp
mutual
theorem dp_lf {H H' : Hp} (e : ∀ a xs, Rd H a (.tup xs) → Rd H' a (.tup xs)) : ∀ (d : D) (v : V), lf d = true → Dp K H v d → Dp K H' v d
  | .none, _, _, h => by cases h; exact .non
  | .bool b, _, _, h => by cases h; exact .bl b
  | .int i, _, _, h => by cases h; exact .int i
  | .str x, _, _, h => by cases h; exact .str x
  | .list ds, _, l, h => by simp [lf] at l
  | .tuple ds, _, l, h => by
    cases h with
    | tup hs ha =>
      refine .tup ?_ (dpAll_lf e ds _ (by simpa [lf] using l) ha)
      rcases hs with hs | hs
      · exact .inl (e _ _ hs)
      · exact .inr hs
  | .dict _, _, _, h => by cases h
theorem dpAll_lf {H H' : Hp} (e : ∀ a xs, Rd H a (.tup xs) → Rd H' a (.tup xs)) : ∀ (ds : List D) (vs : List V), lfAll ds = true → DpAll K H vs ds → DpAll K H' vs ds
  | [], _, _, h => by cases h; exact .nil
  | d :: ds, _, l, h => by
    cases h with
    | cons h1 h2 =>
      rw [lfAll, Bool.and_eq_true] at l
      exact .cons (dp_lf e d _ l.1 h1) (dpAll_lf e ds _ l.2 h2)
end
theorem dpAll_len {H : Hp} : ∀ {vs : List V} {ds : List D}, DpAll K H vs ds → vs.length = ds.length
  | _, [], h => by cases h; rfl
  | _, _ :: _, h => by
    cases h with
    | cons _ h2 => simp [dpAll_len h2]
theorem dpAll_get {H : Hp} : ∀ {vs : List V} {ds : List D} {i : Nat} {d : D}, DpAll K H vs ds → ds[i]? = some d → ∃ v, vs[i]? = some v ∧ Dp K H v d
  | _, [], _, _, _, e => by simp at e
  | _, _ :: _, 0, _, .cons h1 _, e => ⟨_, rfl, by
    have e' := Option.some.inj e
    exact e' ▸ h1⟩
  | _, _ :: ds, i + 1, d, .cons _ h2, e => by
    obtain ⟨v, a, b⟩ := dpAll_get (i := i) (d := d) h2 (by simpa using e)
    exact ⟨v, by simpa using a, b⟩
theorem dpAll_at {H : Hp} : ∀ {vs : List V} {ds : List D} {i : Nat} {v : V}, DpAll K H vs ds → vs[i]? = some v → ∃ d, ds[i]? = some d ∧ Dp K H v d
  | _, [], _, _, h, e => by cases h; simp at e
  | _, _ :: _, 0, _, .cons h1 _, e => ⟨_, rfl, by
    have e' := Option.some.inj e
    exact e' ▸ h1⟩
  | _, _ :: ds, i + 1, v, .cons _ h2, e => by
    obtain ⟨d, a, b⟩ := dpAll_at (i := i) (v := v) h2 (by simpa using e)
    exact ⟨d, by simpa using a, b⟩
theorem dpAll_append {H : Hp} : ∀ {vs ws : List V} {ds es : List D}, DpAll K H vs ds → DpAll K H ws es → DpAll K H (vs ++ ws) (ds ++ es)
  | _, _, [], _, .nil, h => h
  | _, _, _ :: _, _, .cons h1 h2, h => .cons h1 (dpAll_append h2 h)
theorem dpAll_take {H : Hp} : ∀ {vs : List V} {ds : List D} (n : Nat), DpAll K H vs ds → DpAll K H (vs.take n) (ds.take n)
  | _, _, 0, _ => .nil
  | _, _, _ + 1, .nil => .nil
  | _, _, n + 1, .cons h1 h2 => .cons h1 (dpAll_take n h2)
theorem dpAll_drop {H : Hp} : ∀ {vs : List V} {ds : List D} (n : Nat), DpAll K H vs ds → DpAll K H (vs.drop n) (ds.drop n)
  | _, _, 0, h => h
  | _, _, _ + 1, .nil => .nil
  | _, _, n + 1, .cons _ h2 => dpAll_drop n h2

/-! ### what draws change -/
/-- not a tuple | a list or a dict -/
def Mv : HO → Prop
  | .tup _ => False
  | .frz _ _ => False
  | _ => True
def Lk : HO → Prop
  | .lst _ => True
  | .dK _ => True
  | .dT _ => True
  | .set _ _ => True
  | .frz _ _ => True
  | _ => False
structure Tn where
  ad : Addr → Prop
  inv : Hp → Prop
  val : V
  tr : ∀ {H : Hp} {a : Addr}, inv H → ad a → ∃ o, H a = some o ∧ Mv o
  dep : ∀ {H H' : Hp}, (∀ a o, H a = some o → ad a ∨ ¬ Lk o → H' a = some o) → inv H → inv H'
  /-- what is known of the heap at the def's beginning -/
  z : Hp → Prop
/-- none -/
def tn0 : Tn := ⟨fun _ => False, fun _ => True, .non, fun _ h => h.elim, fun _ h => h, fun _ => True⟩

/-! ### the state over data -/
inductive Sl where
  | un
  | dat (d : D)
  | lst (ds : List D)
  | dic (kds : List (Key × D))
  | town
  /-- a dict that is walked: read, not written -/
  | ldc (kds : List (Key × D))
  /-- a dict whose keys are tuples -/
  | dtc (kds : List (List Key × D))
def Sl.isOwn : Sl → Bool
  | .lst _ => true
  | .dic _ => true
  | .dtc _ => true
  | _ => false
abbrev En := List Sl
/-- the addresses that may change -/
def own (τ : Tn) (σ : St) (ρ : En) (a : Addr) : Prop := τ.ad a ∨ ∃ (i : Nat) (s : Sl), ρ[i]? = some s ∧ s.isOwn = true ∧ σ[i]? = some (some (.ref a))
def KvOk {α : Type} (K : PySem.W.Frag) (H : Hp) : List (α × V) → List (α × D) → Prop := Paired fun p q => p.1 = q.1 ∧ Dp K H p.2 q.2
def SlOk (K : PySem.W.Frag) (τ : Tn) (H0 H R : Hp) (ov : Option (Option V)) : Sl → Prop
  | .un => True
  | .dat d => ∃ v, ov = some (some v) ∧ Dp K R v d
  | .lst ds => ∃ a vs, ov = some (some (.ref a)) ∧ H0 a = none ∧ ¬ τ.ad a ∧ H a = some (.lst vs) ∧ DpAll K R vs ds
  | .dic kds => ∃ a kvs, ov = some (some (.ref a)) ∧ H0 a = none ∧ ¬ τ.ad a ∧ H a = some (.dK kvs) ∧ KvOk K R kvs kds
  | .town => ov = some (some τ.val)
  | .ldc kds => ∃ a od kvs, ov = some (some (.ref a)) ∧ R a = some (.frz od (.dK kvs)) ∧ KvOk K R kvs kds
  | .dtc kds => ∃ a kvs, ov = some (some (.ref a)) ∧ H0 a = none ∧ ¬ τ.ad a ∧ H a = some (.dT kvs) ∧ KvOk K R kvs kds
theorem KvOk.same {α : Type} {H H' : Hp} (e : Same H H') : ∀ {kvs : List (α × V)} {kds : List (α × D)}, KvOk K H kvs kds → KvOk K H' kvs kds
  | _, _, .nil => .nil
  | _, _, .cons h t => .cons ⟨h.1, dp_same e _ _ h.2⟩ (KvOk.same e t)
theorem SlOk.mono {τ : Tn} {H0 H H' R R' : Hp} {ov : Option (Option V)} (e : Same R R') : ∀ {s : Sl}, (s.isOwn = true → ∀ a o, ov = some (some (.ref a)) → ¬ τ.ad a → H a = some o → H' a = some o) → SlOk K τ H0 H R ov s → SlOk K τ H0 H' R' ov s
  | .un, _, _ => trivial
  | .dat d, _, ⟨v, a, b⟩ => ⟨v, a, dp_same e d v b⟩
  | .lst ds, k, ⟨a, vs, h1, h2, h3, h4, h5⟩ => ⟨a, vs, h1, h2, h3, k rfl a _ h1 h3 h4, dpAll_same e ds vs h5⟩
  | .dic kds, k, ⟨a, vs, h1, h2, h3, h4, h5⟩ => ⟨a, vs, h1, h2, h3, k rfl a _ h1 h3 h4, KvOk.same e h5⟩
  | .town, _, h => h
  | .ldc kds, _, ⟨a, od, kvs, h1, h2, h3⟩ => ⟨a, od, kvs, h1, e _ _ h2, KvOk.same e h3⟩
  | .dtc kds, k, ⟨a, vs, h1, h2, h3, h4, h5⟩ => ⟨a, vs, h1, h2, h3, k rfl a _ h1 h3 h4, KvOk.same e h5⟩
structure Rep (K : PySem.W.Frag) (τ : Tn) (H0 : Hp) (γ : List (V × D)) (H : Hp) (σ : St) (ρ : En) : Prop where
  len : σ.length = ρ.length
  ext : ∀ a o, H0 a = some o → ¬ τ.ad a → H a = some o
  inv : τ.inv H
  sl : ∀ (i : Nat) (s : Sl), ρ[i]? = some s → SlOk K τ H0 H (res H (own τ σ ρ)) σ[i]? s
  sep : ∀ (i j : Nat) (s t : Sl) (a : Addr), ρ[i]? = some s → ρ[j]? = some t → s.isOwn = true → t.isOwn = true → σ[i]? = some (some (.ref a)) → σ[j]? = some (some (.ref a)) → i = j
  gh : ∀ p ∈ γ, Dp K (res H (own τ σ ρ)) p.1 p.2
  zz : τ.z H0
/-- all stays but what draws change -/
structure Ext (τ : Tn) (H H' : Hp) : Prop where
  kp : ∀ a o, H a = some o → ¬ τ.ad a → H' a = some o
  inv : τ.inv H → τ.inv H'
theorem Ext.refl {τ : Tn} {H : Hp} : Ext τ H H := ⟨fun _ _ h _ => h, fun h => h⟩
theorem Ext.trans {τ : Tn} {H H1 H2 : Hp} (a : Ext τ H H1) (b : Ext τ H1 H2) : Ext τ H H2 := ⟨fun x o h n => b.kp x o (a.kp x o h n) n, fun h => b.inv (a.inv h)⟩
theorem Ext.of_same {τ : Tn} {H H' : Hp} (h : Same H H') : Ext τ H H' := ⟨fun a o e _ => h a o e, fun i => τ.dep (fun a o e _ => h a o e) i⟩
theorem Ext.fresh {τ : Tn} {H H' : Hp} (e : Ext τ H H') (i : τ.inv H) {a : Addr} (h : H' a = none) : H a = none := by
  cases q : H a with
  | none => rfl
  | some o =>
    by_cases ha : τ.ad a
    · obtain ⟨o', e', _⟩ := τ.tr (e.inv i) ha
      rw [h] at e'; cases e'
    · rw [e.kp a o q ha] at h; cases h
theorem Ext.new {τ : Tn} {H : Hp} {p : Addr} {o : HO} (h : H p = none) : Ext τ H (upd H p o) := .of_same fun b u e => by
  rw [upd_ne (ne_of_none e h)]
  exact e
section
variable {τ : Tn} {H0 H H' : Hp} {γ : List (V × D)} {σ : St} {ρ : En}
theorem own_ad {a : Addr} (h : τ.ad a) : own τ σ ρ a := .inl h
theorem Rep.ownMut (r : Rep K τ H0 γ H σ ρ) {a : Addr} (h : own τ σ ρ a) : ∃ o, H a = some o ∧ Mv o := by
  rcases h with h | ⟨i, s, h1, h2, h3⟩
  · exact τ.tr r.inv h
  · have q := r.sl i s h1
    cases s with
    | lst ds =>
      obtain ⟨b, vs, e, _, _, e2, _⟩ := q
      rw [h3] at e; cases e
      exact ⟨_, e2, trivial⟩
    | dic kds =>
      obtain ⟨b, vs, e, _, _, e2, _⟩ := q
      rw [h3] at e; cases e
      exact ⟨_, e2, trivial⟩
    | un => cases h2
    | dat d => cases h2
    | town => cases h2
    | ldc kds => cases h2
    | dtc kds =>
      obtain ⟨b, vs, e, _, _, e2, _⟩ := q
      rw [h3] at e; cases e
      exact ⟨_, e2, trivial⟩
theorem Rep.notOwn (r : Rep K τ H0 γ H σ ρ) {a : Addr} (h : H a = none) : ¬ own τ σ ρ a := fun z => by
  obtain ⟨o, e, _⟩ := r.ownMut z
  rw [h] at e; cases e
theorem res_ext (e : Ext τ H H') {ow : Addr → Prop} (h : ∀ a, τ.ad a → ow a) : Same (res H ow) (res H' ow) := res_mono fun a o n q => ⟨n, e.kp a o q fun z => n (h a z)⟩
theorem Rep.after (r : Rep K τ H0 γ H σ ρ) (e : Ext τ H H') : Rep K τ H0 γ H' σ ρ where
  len := r.len
  ext := fun a o h n => e.kp a o (r.ext a o h n) n
  inv := e.inv r.inv
  sl := fun i s h => SlOk.mono (res_ext e fun a => own_ad) (fun _ a o _ n q => e.kp a o q n) (r.sl i s h)
  sep := r.sep
  gh := fun p hp => dp_same (res_ext e fun a => own_ad) _ _ (r.gh p hp)
  zz := r.zz
/-- what is told of an object without lists is true beside all that may change -/
theorem Rep.lfRes (r : Rep K τ H0 γ H σ ρ) {ow : Addr → Prop} {v : V} {d : D} (hm : ∀ a, ow a → ∃ o, H a = some o ∧ Mv o) {R : Hp} (hR : Same R H) (hO : ∀ a o, R a = some o → okT o) (l : lf d = true) (h : Dp K R v d) : Dp K (res H ow) v d :=
  dp_lf (fun a xs h => by
    have nm : ∀ u : HO, H a = some u → ¬ Mv u → ¬ ow a := fun u e n z => by
      obtain ⟨o, e', m⟩ := hm a z
      rw [e] at e'; cases e'
      exact n m
    rcases h with h | ⟨o, h⟩
    · exact .inl (res_put (nm _ (hR _ _ h) fun z => z) (hR _ _ h) (hO _ _ h))
    · exact .inr ⟨o, res_put (nm _ (hR _ _ h) fun z => z) (hR _ _ h) (hO _ _ h)⟩) d v l h
/-- the object of a tuple that was laid anew -/
def plT (its : List Value) : Obj := { cls := .type "tuple", data := .seq its.toArray }
theorem objOk_plT {P : Program} {w : World} {H : Hp} {h : Heap} {xs : List V} {its : List Value} (hz : xs.length ≤ sizeLine) (r : Vals xs its) : ObjOk P w (upd H h.objs.size (.frz (plT its) (.tup xs))) (h.push (plT its)) h.objs.size (.frz (plT its) (.tup xs)) :=
  ⟨Heap.get?_push_size _ rfl, hz, its, r, IsTup.new _ _⟩
theorem inv_plT {X : Cx} {pins : List (Addr × Obj)} {σ : St} {H : Hp} {s : Shared} {t' : Nat} {xs : List V} {its : List Value} (I : Inv X pins σ H s) (hz : xs.length ≤ sizeLine) (r : Vals xs its) :
    Inv X pins σ (upd H s.heap.objs.size (.frz (plT its) (.tup xs))) { s with heap := s.heap.push (plT its), toks := t' } :=
  I.laid (fun _ _ e => Heap.get?_push_of_some _ e) (Nat.le_refl _) (objOk_plT hz r)
end
end Pu
namespace Pu
open PySem PySem.Spec PyProof.Rows L2

/-! ### tuples laid plainly -/
def tTupP (t : TA) : TE := fun σ H Q => t σ H fun xs H1 => xs.length ≤ sizeLine ∧ ∀ p o, o.dict = none → H1 p = none → Q (.ref p) (upd H1 p (.frz o (.tup xs)))
theorem pe_tupP {X : Cx} {es : List Expr} {t : TA} {pos : Pos} {n : Nat} (h : PA X es t) : PE X (.Tuple es n pos) (tTupP t) := by
  refine ⟨fun pins s σ H Q I hq => wpAny_Tuple_spliced (thn (h.run pos pins s σ H _ I hq) fun us s1 ⟨xs, H1, I1, r, z, q⟩ => ?_)⟩
  refine ⟨by rw [← r.length]; exact z, .ref s1.heap.objs.size, _, inv_plT (t' := s1.toks) I1 z r, rfl, q _ _ rfl (I1.hok.fresh (Nat.le_refl _))⟩

/-! ### where one stands -/
structure Gx where
  P : Program
  w : World
  K : PySem.W.Frag
  mg : Str → Option Value
  base : Heap
structure Ok (cp : List Str) (G : Gx) (N : List Str) (sc : Scope) (k : Nat) (X : Cx) : Prop where
  eP : X.prog = G.P
  ew : X.w = G.w
  eK : X.K = G.K
  em : X.mg = G.mg
  eb : X.base = G.base
  eN : X.N = N
  nd : N.Nodup
  es : X.env.scope = sc
  kd : sc.kind = .function
  calm : X.calm = true
  room : Room k X.A
  fn : ∀ x, sc.names.lookup x = some .cell → cp.contains x = false → X.fn x = true
  po : PassesOwn (model X.prog X.w) X.A X.env X.xe

/-- x may be stored -/
def LocC (cp : List Str) (sc : Scope) (x : Str) : Prop := sc.names.lookup x = some .local ∨ (sc.names.lookup x = some .cell ∧ cp.contains x = false)

/-! ### results -/
inductive Rs where
  | dat (d : D)
  | lst (ds : List D)
  | dic (kds : List (Key × D))
def RsOk (K : PySem.W.Frag) (τ : Tn) (Hs H : Hp) (σ : St) (ρ : En) (v : V) : Rs → Prop
  | .dat d => Dp K (res H (own τ σ ρ)) v d
  | .lst ds => ∃ a vs, v = .ref a ∧ Hs a = none ∧ H a = some (.lst vs) ∧ DpAll K (res H (fun b => own τ σ ρ b ∨ b = a)) vs ds
  | .dic kds => ∃ a kvs, v = .ref a ∧ Hs a = none ∧ H a = some (.dK kvs) ∧ KvOk K (res H (fun b => own τ σ ρ b ∨ b = a)) kvs kds
/-- a thing that is looked at -/
def Bo (K : PySem.W.Frag) (τ : Tn) (H R : Hp) (v : V) : D → Prop
  | .list ds => ∃ a vs, v = .ref a ∧ SqL K (res H τ.ad) a vs ∧ DpAll K R vs ds
  | .tuple ds => ∃ a vs, v = .ref a ∧ SqT K (res H τ.ad) a vs ∧ DpAll K R vs ds
  | .none => v = .non
  | .bool b => v = .bl b
  | .int i => v = .int i
  | .str x => v = .str x
  | .dict _ => False
section
variable {K : PySem.W.Frag} {τ : Tn} {H0 H H' : Hp} {γ : List (V × D)} {σ : St} {ρ : En} {v : V} {d : D}
theorem res_own_ad : Same (res H (own τ σ ρ)) (res H τ.ad) := res_mono fun a o n e => ⟨fun z => n (own_ad z), e⟩
theorem bo_of {R : Hp} (hR : Same R (res H τ.ad)) (h : Dp K R v d) : Bo K τ H R v d := by
  cases h with
  | non => rfl
  | bl b => rfl
  | int i => rfl
  | str x => rfl
  | lst hs ha => exact ⟨_, _, rfl, sqL_same hR hs, ha⟩
  | tup hs ha => exact ⟨_, _, rfl, sqT_same hR hs, ha⟩
theorem Bo.dp {R : Hp} (hR : Same R (res H τ.ad)) (h : Bo K τ H R v d) : Dp K (res H τ.ad) v d := by
  cases d with
  | none => cases h; exact .non
  | bool b => cases h; exact .bl b
  | int i => cases h; exact .int i
  | str x => cases h; exact .str x
  | list ds =>
    obtain ⟨a, vs, rfl, hs, ha⟩ := h
    exact .lst hs (dpAll_same hR _ _ ha)
  | tuple ds =>
    obtain ⟨a, vs, rfl, hs, ha⟩ := h
    exact .tup hs (dpAll_same hR _ _ ha)
  | dict _ => exact h.elim
theorem Bo.after (e : Ext τ H H') (h : Bo K τ H (res H (own τ σ ρ)) v d) : Bo K τ H' (res H' (own τ σ ρ)) v d := by
  have e1 : Same (res H τ.ad) (res H' τ.ad) := res_ext e fun _ z => z
  have e2 : Same (res H (own τ σ ρ)) (res H' (own τ σ ρ)) := res_ext e fun _ => own_ad
  cases d with
  | none => exact h
  | bool b => exact h
  | int i => exact h
  | str x => exact h
  | list ds =>
    obtain ⟨a, vs, rfl, hs, ha⟩ := h
    exact ⟨a, vs, rfl, sqL_same e1 hs, dpAll_same e2 _ _ ha⟩
  | tuple ds =>
    obtain ⟨a, vs, rfl, hs, ha⟩ := h
    exact ⟨a, vs, rfl, sqT_same e1 hs, dpAll_same e2 _ _ ha⟩
  | dict _ => exact h
theorem dp_after (e : Ext τ H H') (h : Dp K (res H (own τ σ ρ)) v d) : Dp K (res H' (own τ σ ρ)) v d := dp_same (res_ext e fun _ => own_ad) _ _ h
theorem dpAll_after {vs : List V} {ds : List D} (e : Ext τ H H') (h : DpAll K (res H (own τ σ ρ)) vs ds) : DpAll K (res H' (own τ σ ρ)) vs ds := dpAll_same (res_ext e fun _ => own_ad) _ _ h
/-- a result laid still -/
def Rs.cold : Rs → (D → Prop) → Prop
  | .dat d, C => C d
  | .lst ds, C => C (.list ds)
  | .dic _, _ => False
theorem RsOk.cold {Hs : Hp} (r0 : Rep K τ H0 γ Hs σ ρ) {r : Rs} {C : D → Prop} (h : RsOk K τ Hs H σ ρ v r) (c : r.cold C) : ∃ d, C d ∧ Dp K (res H (own τ σ ρ)) v d := by
  cases r with
  | dat d => exact ⟨d, c, h⟩
  | lst ds =>
    obtain ⟨a, vs, rfl, hn, he, ha⟩ := h
    exact ⟨_, c, .lst (.inl (.inl (res_put (r0.notOwn hn) he))) (dpAll_same (res_mono fun b o n e => ⟨fun z => n (.inl z), e⟩) _ _ ha)⟩
  | dic kds => exact c.elim
theorem RsOk.after {Hs : Hp} (r0 : Rep K τ H0 γ Hs σ ρ) {r : Rs} (e : Ext τ H H') (h : RsOk K τ Hs H σ ρ v r) : RsOk K τ Hs H' σ ρ v r := by
  cases r with
  | dat d => exact dp_after e h
  | lst ds =>
    obtain ⟨a, vs, rfl, hn, he, ha⟩ := h
    exact ⟨a, vs, rfl, hn, e.kp _ _ he fun z => r0.notOwn hn (own_ad z), dpAll_same (res_ext e fun b z => .inl (own_ad z)) _ _ ha⟩
  | dic kds =>
    obtain ⟨a, vs, rfl, hn, he, ha⟩ := h
    exact ⟨a, vs, rfl, hn, e.kp _ _ he fun z => r0.notOwn hn (own_ad z), KvOk.same (res_ext e fun b z => .inl (own_ad z)) ha⟩
end

/-! ### the judgements -/
abbrev UE := En → (Rs → Prop) → Prop
abbrev UV := En → (D → Prop) → Prop
abbrev UT := En → (Bool → Prop) → Prop
abbrev UL := En → (List D → Prop) → Prop
def JE (τ : Tn) (X : Cx) (e : Expr) (t : UE) : Prop := ∀ (ρ : En) (C : Rs → Prop), t ρ C → ∀ (H0 : Hp) (γ : List (V × D)) (σ : St) (H : Hp), Rep X.K τ H0 γ H σ ρ → ∀ Q : VK,
  (∀ r v H2, C r → Ext τ H H2 → RsOk X.K τ H H2 σ ρ v r → Q v H2) → wpE X e σ H Q
def JD (τ : Tn) (X : Cx) (e : Expr) (t : UV) : Prop := ∀ (ρ : En) (C : D → Prop), t ρ C → ∀ (H0 : Hp) (γ : List (V × D)) (σ : St) (H : Hp), Rep X.K τ H0 γ H σ ρ → ∀ Q : VK,
  (∀ d v H2, C d → Ext τ H H2 → Dp X.K (res H2 (own τ σ ρ)) v d → Q v H2) → wpE X e σ H Q
def JV (τ : Tn) (X : Cx) (e : Expr) (t : UV) : Prop := ∀ (ρ : En) (C : D → Prop), t ρ C → ∀ (H0 : Hp) (γ : List (V × D)) (σ : St) (H : Hp), Rep X.K τ H0 γ H σ ρ → ∀ Q : VK,
  (∀ d v H2, C d → Ext τ H H2 → Bo X.K τ H2 (res H2 (own τ σ ρ)) v d → Q v H2) → wpE X e σ H Q
def JT (τ : Tn) (X : Cx) (e : Expr) (t : UT) : Prop := ∀ (ρ : En) (C : Bool → Prop), t ρ C → ∀ (H0 : Hp) (γ : List (V × D)) (σ : St) (H : Hp), Rep X.K τ H0 γ H σ ρ → ∀ Q : Bool → Hp → Prop,
  (∀ b H2, C b → Ext τ H H2 → Q b H2) → wpT X e σ H Q
def JW (τ : Tn) (X : Cx) (e : Expr) (t : UT) : Prop := ∀ (ρ : En) (C : Bool → Prop), t ρ C → ∀ (H0 : Hp) (γ : List (V × D)) (σ : St) (H : Hp), Rep X.K τ H0 γ H σ ρ → ∀ Q : Bool → Hp → Prop,
  (∀ b H2, C b → Ext τ H H2 → Q b H2) → wpW X e σ H Q
/-- several things, strong | looked at -/
def JDs (τ : Tn) (X : Cx) (es : List Expr) (t : UL) : Prop := ∀ (ρ : En) (C : List D → Prop), t ρ C → ∀ (H0 : Hp) (γ : List (V × D)) (σ : St) (H : Hp), Rep X.K τ H0 γ H σ ρ → ∀ Q : List V → Hp → Prop,
  (∀ ds vs H2, ds.length = es.length → C ds → Ext τ H H2 → DpAll X.K (res H2 (own τ σ ρ)) vs ds → Q vs H2) → wpA X es σ H Q

section
variable {τ : Tn} {G : Gx} {cp : List Str} {N : List Str} {sc : Scope} {k : Nat} {X : Cx} {e e1 e2 e3 : Expr} {es : List Expr} {t u : UV} {te ue : UE} {pos : Pos}
theorem jv_d (h : JD τ X e t) : JV τ X e t := fun ρ C c H0 γ σ H r Q q => h ρ C c H0 γ σ H r Q fun d v H2 c e b => q d v H2 c e (bo_of res_own_ad b)
def eD (t : UV) : UE := fun ρ C => t ρ fun d => C (.dat d)
theorem je_d (h : JD τ X e t) : JE τ X e (eD t) := fun ρ C c H0 γ σ H r Q q => h ρ _ c H0 γ σ H r Q fun d v H2 c e b => q (.dat d) v H2 c e b
def dE (t : UE) : UV := fun ρ C => t ρ fun r => r.cold C
theorem jd_e (h : JE τ X e te) : JD τ X e (dE te) := fun ρ C c H0 γ σ H r Q q => h ρ _ c H0 γ σ H r Q fun rs v H2 c e b => by
  obtain ⟨d, cd, hd⟩ := b.cold r c
  exact q d v H2 cd e hd
theorem jv_e (h : JE τ X e te) : JV τ X e (dE te) := jv_d (jd_e h)
theorem jds_nil : JDs τ X [] fun _ C => C [] := fun ρ C c H0 γ σ H r Q q => wpA_of pa_nil (q [] [] H rfl c .refl .nil)
def lCons (t : UV) (ts : UL) : UL := fun ρ C => t ρ fun d => ts ρ fun ds => C (d :: ds)
theorem jds_cons {ts : UL} (h : JD τ X e t) (hs : JDs τ X es ts) (hst : starEach (e :: es) X.env = (false, eval e X.env) :: starEach es X.env := by rfl) : JDs τ X (e :: es) (lCons t ts) := fun ρ C c H0 γ σ H r Q q =>
  wpA_of (pa_cons pe_w pa_w hst) (h ρ _ c H0 γ σ H r _ fun d v H2 c e b => hs ρ _ c H0 γ σ H2 (r.after e) _ fun ds vs H3 hl c e2 b2 => q (d :: ds) (v :: vs) H3 (by simp [hl]) c (e.trans e2) (.cons (dp_after e2 b) b2))

/-! ### names, constants, displays -/
def dVar (i : Nat) : UV := fun ρ C => match ρ[i]? with
  | some (.dat d) => C d
  | _ => False
def vVar (i : Nat) : UV := fun ρ C => match ρ[i]? with
  | some (.dat d) => C d
  | some (.lst ds) => C (.list ds)
  | _ => False
theorem jd_var (S : Ok cp G N sc k X) (i : Nat) {x : Str} (hN : N[i]? = some x := by rfl) (hv : Vis sc x := by first | exact Or.inl rfl | exact Or.inr (Or.inl rfl) | exact Or.inr (Or.inr rfl)) (hd : (x == ("__debug__" : Str)) = false := by decide) (hcd : (x == ("__classdict__" : Str)) = false := by decide) :
    JD τ X (.Name x pos) (dVar i) := fun ρ C c H0 γ σ H r Q q => by
  refine wpE_of (pe_var (i := i) (by rw [S.eN]; exact hN) (by rw [S.es]; exact hv) hd hcd) ?_
  unfold dVar at c
  split at c
  · rename_i d hi
    obtain ⟨v, e, h⟩ := r.sl i _ hi
    exact ⟨v, e, q d v H c .refl h⟩
  · exact c.elim
theorem jv_var (S : Ok cp G N sc k X) (i : Nat) {x : Str} (hN : N[i]? = some x := by rfl) (hv : Vis sc x := by first | exact Or.inl rfl | exact Or.inr (Or.inl rfl) | exact Or.inr (Or.inr rfl)) (hd : (x == ("__debug__" : Str)) = false := by decide) (hcd : (x == ("__classdict__" : Str)) = false := by decide) :
    JV τ X (.Name x pos) (vVar i) := fun ρ C c H0 γ σ H r Q q => by
  refine wpE_of (pe_var (i := i) (by rw [S.eN]; exact hN) (by rw [S.es]; exact hv) hd hcd) ?_
  unfold vVar at c
  split at c
  · rename_i d hi
    obtain ⟨v, e, h⟩ := r.sl i _ hi
    exact ⟨v, e, q d v H c .refl (bo_of res_own_ad h)⟩
  · rename_i ds hi
    obtain ⟨a, vs, e, _, hn, h, h'⟩ := r.sl i _ hi
    exact ⟨_, e, q _ _ H c .refl ⟨a, vs, rfl, .inl (.inl (res_put hn h)), h'⟩⟩
  · exact c.elim
def dC (d : D) : UV := fun _ C => C d
theorem jd_c {v : V} {d : D} (h : PE X e (tC v)) (hd : ∀ H : Hp, Dp X.K H v d) : JD τ X e (dC d) := fun ρ C c H0 γ σ H r Q q => wpE_of h (q d v H c .refl (hd _))
theorem jd_int {i : Int} {j : Nat} : JD τ X (.Constant (.int i) j pos) (dC (.int i)) := jd_c pe_int fun _ => .int i
theorem jd_bl {b : Bool} {j : Nat} : JD τ X (.Constant (.bool b) j pos) (dC (.bool b)) := jd_c pe_bl fun _ => .bl b
theorem jd_non {j : Nat} : JD τ X (.Constant .none j pos) (dC .none) := jd_c pe_non fun _ => .non
theorem jd_str {x : Str} {j : Nat} : JD τ X (.Constant (.str x) j pos) (dC (.str x)) := jd_c pe_str fun _ => .str x
/-- a constant of the module -/
structure GC (G : Gx) (x : Str) (d : D) : Prop where
  ex : ∃ (v : V) (u : Value), G.mg x = some u ∧ RelV v u ∧ ∀ H : Hp, Dp G.K H v d
theorem jd_glob (S : Ok cp G N sc k X) {x : Str} {d : D} (h : GC G x d) (hg : sc.names.lookup x = some .globalImplicit := by rfl) (hd : (x == ("__debug__" : Str)) = false := by decide) : JD τ X (.Name x pos) (dC d) := by
  obtain ⟨v, u, h1, h2, h3⟩ := h.ex
  exact jd_c (pe_glob (by show X.env.scope.names.lookup x = _; rw [S.es]; exact hg) (by rw [S.em]; exact h1) h2 hd) (by rw [S.eK]; exact h3)
theorem small_line {n : Nat} (h : n ≤ 1000000) : n ≤ sizeLine := Nat.le_trans h (by decide)
def dTup (ts : UL) : UV := fun ρ C => ts ρ fun ds => C (.tuple ds)
theorem jd_tup {ts : UL} {x1 : Nat} (h : JDs τ X es ts) (hl : es.length ≤ 1000 := by decide) : JD τ X (.Tuple es x1 pos) (dTup ts) := fun ρ C c H0 γ σ H r Q q =>
  wpE_of (pe_tupP pa_w) (h ρ _ c H0 γ σ H r _ fun ds vs H2 el c e b => ⟨by rw [dpAll_len b, el]; exact small_line (by omega), fun p o ho hp =>
    q _ _ _ c (e.trans (.new hp)) (.tup (.inl (.inr ⟨o, res_put ((r.after e).notOwn hp) upd_same ho⟩)) (dpAll_after (.new hp) b))⟩)
def eLst (ts : UL) : UE := fun ρ C => ts ρ fun ds => C (.lst ds)
theorem je_lst {ts : UL} (h : JDs τ X es ts) (hl : es.length ≤ 1000 := by decide) : JE τ X (.List es pos) (eLst ts) := fun ρ C c H0 γ σ H r Q q =>
  wpE_of (pe_lst pa_w) (h ρ _ c H0 γ σ H r _ fun ds vs H2 el c e b => ⟨by rw [dpAll_len b, el]; exact small_line (by omega), fun p hp =>
    q _ _ _ c (e.trans (.new hp)) ⟨p, vs, rfl, e.fresh r.inv hp, upd_same, dpAll_same (res_mono fun a o n ea => by
      have hne : a ≠ p := ne_of_none ea hp
      exact ⟨fun z => z.elim n hne, by rw [upd_ne hne]; exact ea⟩) _ _ b⟩⟩)
end
end Pu
namespace Pu
open PySem PySem.Spec PyProof.Rows L2

/-! ### data that may be compared -/
mutual
def sh : Nat → D → Bool
  | _, .none => true
  | _, .bool _ => true
  | _, .int _ => true
  | _, .str x => PyData.canLay0 (.str x)
  | 0, .list _ => false
  | n + 1, .list ds => shAll n ds
  | 0, .tuple _ => false
  | n + 1, .tuple ds => shAll n ds
  | _, .dict _ => false
def shAll : Nat → List D → Bool
  | _, [] => true
  | n, d :: ds => sh n d && shAll n ds
end
theorem shAll_iff {n : Nat} : ∀ {ds : List D}, shAll n ds = true ↔ ∀ d ∈ ds, sh n d = true
  | [] => by simp [shAll]
  | d :: ds => by
    rw [shAll, Bool.and_eq_true, shAll_iff]
    simp
mutual
theorem sh_lay : ∀ (n : Nat) (d : D), sh n d = true → d.canLay0 = true ∧ d.depth ≤ n
  | _, .none, _ => ⟨by simp [PyData.canLay0], by simp [PyData.depth]⟩
  | _, .bool _, _ => ⟨by simp [PyData.canLay0], by simp [PyData.depth]⟩
  | _, .int _, _ => ⟨by simp [PyData.canLay0], by simp [PyData.depth]⟩
  | _, .str x, h => ⟨by simpa [sh] using h, by simp [PyData.depth]⟩
  | 0, .list _, h => by simp [sh] at h
  | n + 1, .list ds, h => by
    obtain ⟨a, b⟩ := shAll_lay n ds (by simpa [sh] using h)
    exact ⟨by simpa [PyData.canLay0] using a, by simp only [PyData.depth]; omega⟩
  | 0, .tuple _, h => by simp [sh] at h
  | n + 1, .tuple ds, h => by
    obtain ⟨a, b⟩ := shAll_lay n ds (by simpa [sh] using h)
    exact ⟨by simpa [PyData.canLay0] using a, by simp only [PyData.depth]; omega⟩
  | _, .dict _, h => by simp [sh] at h
theorem shAll_lay : ∀ (n : Nat) (ds : List D), shAll n ds = true → PyData.canLayAll0 ds = true ∧ PyData.depthAll ds ≤ n
  | _, [], _ => ⟨by simp [PyData.canLayAll0], by simp [PyData.depthAll]⟩
  | n, d :: ds, h => by
    rw [shAll, Bool.and_eq_true] at h
    obtain ⟨a, b⟩ := sh_lay n d h.1
    obtain ⟨a2, b2⟩ := shAll_lay n ds h.2
    exact ⟨by simp [PyData.canLayAll0, a, a2], by simp only [PyData.depthAll]; omega⟩
end
theorem sh_shaped {n : Nat} {d : D} (hn : n ≤ 64) (h : sh n d = true) : SeqAt.shaped d = true := by
  obtain ⟨a, b⟩ := sh_lay n d h
  show (d.canLay0 && decide (d.depth ≤ 64)) = true
  rw [Bool.and_eq_true]
  exact ⟨a, decide_eq_true (by omega)⟩

section
variable {τ : Tn} {G : Gx} {cp : List Str} {N : List Str} {sc : Scope} {k : Nat} {X : Cx} {a b c : Expr} {es : List Expr} {t u s : UV} {te ue : UE} {pos : Pos}
/-! ### operators -/
def Op2 (X : Cx) (r : R2) (f : D → D → (D → Prop) → Prop) : Prop := ∀ (τ : Tn) (H0 H : Hp) (γ : List (V × D)) (σ : St) (ρ : En) (v1 v2 : V) (d1 d2 : D) (C : D → Prop), Rep X.K τ H0 γ H σ ρ →
  Bo X.K τ H (res H (own τ σ ρ)) v1 d1 → Bo X.K τ H (res H (own τ σ ρ)) v2 d2 → f d1 d2 C → ∀ Q : VK, (∀ d v H2, C d → Ext τ H H2 → Dp X.K (res H2 (own τ σ ρ)) v d → Q v H2) → r v1 v2 H Q
def d2 (f : D → D → (D → Prop) → Prop) (t u : UV) : UV := fun ρ C => t ρ fun x => u ρ fun y => f x y C
theorem jd_op {op : Operator} {r : R2} {f : D → D → (D → Prop) → Prop} (ho : OpR X (binaryOp op) r) (hf : Op2 X r f) (ha : JV τ X a t) (hb : JV τ X b u) : JD τ X (.BinOp a op b pos) (d2 f t u) := fun ρ C c H0 γ σ H r Q q =>
  wpE_of (pe_op ho pe_w pe_w) (ha ρ _ c H0 γ σ H r _ fun d1 v1 H2 c e b1 => hb ρ _ c H0 γ σ H2 (r.after e) _ fun d2 v2 H3 c e2 b2 =>
    hf _ _ _ _ _ _ _ _ _ _ _ ((r.after e).after e2) (b1.after e2) b2 c Q fun d v H4 c e4 h => q d v H4 c ((e.trans e2).trans e4) h)
theorem sqT_of_mut {τ : Tn} {H0 H : Hp} {γ : List (V × D)} {σ : St} {ρ : En} {a : Addr} {vs : List V} (r : Rep X.K τ H0 γ H σ ρ) (h : SqT X.K (res H τ.ad) a vs) : SqT X.K (res H (own τ σ ρ)) a vs := by
  have nm : ∀ u : HO, H a = some u → ¬ Mv u → ¬ own τ σ ρ a := fun u e n z => by
    obtain ⟨o, e', m⟩ := r.ownMut z
    rw [e] at e'; cases e'
    exact n m
  rcases h with (h | ⟨o, h⟩) | h
  · have h' := res_at h
    exact .inl (.inl (res_put (nm _ h' fun z => z) h' (res_ok h)))
  · have h' := res_at h
    exact .inl (.inr ⟨o, res_put (nm _ h' fun z => z) h' (res_ok h)⟩)
  · exact .inr h
def fAdd : D → D → (D → Prop) → Prop
  | .int i, .int j, C => C (.int (i + j))
  | .str x, .str y, C => x.length + y.length ≤ 1000000 ∧ C (.str (x ++ y))
  | .tuple xs, .tuple ys, C => xs.length + ys.length ≤ 1000000 ∧ C (.tuple (xs ++ ys))
  | .list xs, .list ys, C => xs.length + ys.length ≤ 1000000 ∧ C (.list (xs ++ ys))
  | _, _, _ => False
/-- list + list, each of them any list -/
def rCatL (K : PySem.W.Frag) : R2 := fun x y H Q => ∃ a b xs ys, x = .ref a ∧ y = .ref b ∧ SqL K H a xs ∧ SqL K H b ys ∧ xs.length + ys.length ≤ sizeLine ∧ ∀ p, H p = none → Q (.ref p) (upd H p (.lst (xs ++ ys)))
theorem op_catL : OpR X (binaryOp .Add) (rCatL X.K) := by
  intro pins s σ H x y v u Q I rx ry h
  obtain ⟨l, b, xs, zs, rfl, rfl, hH, hB, hz, q⟩ := h
  cases rx
  cases ry
  obtain ⟨its, r, ⟨⟨cls, dd, data, sls⟩, n, ho, hc, hdn, hdt⟩, hl⟩ := I.list hH
  obtain ⟨its2, r2, ⟨⟨cls2, dd2, data2, sls2⟩, n2, ho2, hc2, hdn2, hdt2⟩, hl2⟩ := I.list hB
  simp only at hc hdt hc2 hdt2
  subst hc hdt hc2 hdt2
  have e1 := r.length
  have e2 := r2.length
  refine concat_meets ⟨_, ho, rfl⟩ ⟨_, ho2, rfl⟩ noFill_list_add seq_list_add PySem.F.slot_list_add PySem.F.entry_list_add (PySem.F.args_list_add_2 _ _) (list_addW l b its.toArray its2.toArray n n2 dd dd2 sls sls2 (by simp; omega)) ⟨ho, ho2, ?_⟩
  have ea : its.toArray ++ its2.toArray = (its ++ its2).toArray := by simp
  rw [ea]
  exact ⟨.ref _, _, I.lnew (t' := s.toks) (r.append r2) (by rw [List.length_append]; omega), rfl, q _ I.fresh⟩
/-- tuple + tuple, laid plainly -/
def rCatP (K : PySem.W.Frag) : R2 := fun x y H Q => ∃ a b xs ys, x = .ref a ∧ y = .ref b ∧ SqT K H a xs ∧ SqT K H b ys ∧ xs.length + ys.length ≤ sizeLine ∧
  (xs = [] → Q (.ref b) H) ∧ (ys = [] → Q (.ref a) H) ∧ ∀ p o, o.dict = none → H p = none → Q (.ref p) (upd H p (.frz o (.tup (xs ++ ys))))
theorem op_catP : OpR X (binaryOp .Add) (rCatP X.K) := by
  intro pins s σ H x y v u Q I rx ry h
  obtain ⟨a, b, xs, ys, rfl, rfl, ha, hb, hz, q0, q1, q2⟩ := h
  cases rx
  cases ry
  obtain ⟨us, r1, t1, _⟩ := I.tuple ha
  obtain ⟨ws, r2, t2, _⟩ := I.tuple hb
  by_cases hx : us = []
  · subst hx
    cases r1
    exact cat_tup0 t1 t2 ⟨.ref b, H, I, rfl, q0 rfl⟩
  · have l1 := r1.length
    have l2 := r2.length
    have I2 := inv_plT (t' := s.toks) I (xs := xs ++ ys) (by rw [List.length_append]; exact hz) (r1.append r2)
    exact HT.cat_tup t1 t2 hx (fun e => ⟨.ref a, H, I, rfl, q1 (List.eq_nil_of_length_eq_zero (by rw [e] at l2; exact l2))⟩) (fun _ => ⟨.ref s.heap.objs.size, _, I2, rfl, q2 _ _ rfl (I.hok.fresh (Nat.le_refl _))⟩) (by omega)
def rAddU (K : PySem.W.Frag) : R2 := fun x y H Q => rI0 (fun i j => .int (i + j)) x y H Q ∨ (∃ i j, x = .str i ∧ y = .str j ∧ i.length + j.length ≤ sizeLine ∧ Q (.str (i ++ j)) H) ∨ rCatP K x y H Q ∨ rCatL K x y H Q
theorem op_addU : OpR X (binaryOp .Add) (rAddU X.K) := op_add.or (op_add_str.or (op_catP.or op_catL))
theorem fAdd_ok : Op2 X (rAddU X.K) fAdd := fun τ H0 H γ σ ρ v1 v2 d1 d2 C r b1 b2 h Q q => by
  cases d1 <;> cases d2 <;> first | exact h.elim | skip
  · cases b1; cases b2
    exact .inl ⟨_, _, rfl, rfl, q _ _ H h .refl (.int _)⟩
  · cases b1; cases b2
    exact .inr (.inl ⟨_, _, rfl, rfl, small_line h.1, q _ _ H h.2 .refl (.str _)⟩)
  · obtain ⟨a, vs, rfl, hs, ha⟩ := b1
    obtain ⟨b, ws, rfl, ht, hb⟩ := b2
    refine .inr (.inr (.inr ⟨a, b, vs, ws, rfl, rfl, sqL_same res_le hs, sqL_same res_le ht, by rw [dpAll_len ha, dpAll_len hb]; exact small_line h.1, fun p hp => ?_⟩))
    exact q _ _ _ h.2 (.new hp) (.lst (.inl (.inl (res_put (r.notOwn hp) upd_same))) (dpAll_after (.new hp) (dpAll_append ha hb)))
  · obtain ⟨a, vs, rfl, hs, ha⟩ := b1
    obtain ⟨b, ws, rfl, ht, hb⟩ := b2
    refine .inr (.inr (.inl ⟨a, b, vs, ws, rfl, rfl, sqT_same res_le hs, sqT_same res_le ht, by rw [dpAll_len ha, dpAll_len hb]; exact small_line h.1, fun e => ?_, fun e2 => ?_, fun p o ho hp => ?_⟩))
    · subst e
      cases ha
      refine q _ _ H h.2 .refl ?_
      exact .tup (sqT_of_mut r ht) hb
    · subst e2
      cases hb
      refine q _ _ H (by simpa using h.2) .refl ?_
      exact .tup (sqT_of_mut r hs) ha
    · exact q _ _ _ h.2 (.new hp) (.tup (.inl (.inr ⟨o, res_put (r.notOwn hp) upd_same ho⟩)) (dpAll_after (.new hp) (dpAll_append ha hb)))
def fInt (P : Int → Int → Prop) (f : Int → Int → Int) : D → D → (D → Prop) → Prop
  | .int i, .int j, C => P i j ∧ C (.int (f i j))
  | _, _, _ => False
theorem fInt_ok {P P' : Int → Int → Prop} {f : Int → Int → Int} (hp : ∀ i j, P i j → P' i j) : Op2 X (rI P' fun i j => .int (f i j)) (fInt P f) := fun τ H0 H γ σ ρ v1 v2 d1 d2 C r b1 b2 h Q q => by
  cases d1 <;> cases d2 <;> first | exact h.elim | skip
  cases b1; cases b2
  exact ⟨_, _, rfl, rfl, hp _ _ h.1, q _ _ H h.2 .refl (.int _)⟩
def fSub : D → D → (D → Prop) → Prop
  | .int i, .int j, C => C (.int (i - j))
  | _, _, _ => False
theorem fSub_ok : Op2 X (rI0 fun i j => .int (i - j)) fSub := fun τ H0 H γ σ ρ v1 v2 d1 d2 C r b1 b2 h Q q => by
  cases d1 <;> cases d2 <;> first | exact h.elim | skip
  cases b1; cases b2
  exact ⟨_, _, rfl, rfl, q _ _ H h .refl (.int _)⟩
abbrev fMul := fInt CMul fun i j => i * j
abbrev fDiv := fInt CDiv fun i j => i / j
abbrev fMod := fInt (fun _ j => 0 < j) fun i j => i % j
abbrev fPow := fInt CPow fun i j => i ^ j.toNat
theorem jd_add (ha : JV τ X a t) (hb : JV τ X b u) : JD τ X (.BinOp a .Add b pos) (d2 fAdd t u) := jd_op op_addU fAdd_ok ha hb
theorem jd_sub (ha : JV τ X a t) (hb : JV τ X b u) : JD τ X (.BinOp a .Sub b pos) (d2 fSub t u) := jd_op op_sub fSub_ok ha hb
theorem jd_mul (ha : JV τ X a t) (hb : JV τ X b u) : JD τ X (.BinOp a .Mult b pos) (d2 fMul t u) := jd_op op_mul (fInt_ok fun _ _ h => h) ha hb
theorem jd_div (ha : JV τ X a t) (hb : JV τ X b u) : JD τ X (.BinOp a .FloorDiv b pos) (d2 fDiv t u) := jd_op op_fdiv (fInt_ok fun _ _ h => h) ha hb
theorem jd_mod (ha : JV τ X a t) (hb : JV τ X b u) : JD τ X (.BinOp a .Mod b pos) (d2 fMod t u) := jd_op op_mod (fInt_ok fun _ _ h => h) ha hb
theorem jd_pow (ha : JV τ X a t) (hb : JV τ X b u) : JD τ X (.BinOp a .Pow b pos) (d2 fPow t u) := jd_op op_pow (fInt_ok fun _ _ h => h) ha hb
def fNeg : D → (D → Prop) → Prop
  | .int i, C => C (.int (-i))
  | _, _ => False
def d1 (f : D → (D → Prop) → Prop) (t : UV) : UV := fun ρ C => t ρ fun x => f x C
theorem jd_neg (ha : JV τ X a t) : JD τ X (.UnaryOp .USub a pos) (d1 fNeg t) := fun ρ C c H0 γ σ H r Q q =>
  wpE_of (pe_un un_neg pe_w) (ha ρ _ c H0 γ σ H r _ fun d v H2 c e b => by
    cases d <;> first | exact c.elim | skip
    cases b
    exact ⟨_, rfl, q _ _ H2 c e (.int _)⟩)
/-! ### comparisons -/
def Cm2 (X : Cx) (r : R2) (f : D → D → (Bool → Prop) → Prop) : Prop := ∀ (τ : Tn) (H0 H : Hp) (γ : List (V × D)) (σ : St) (ρ : En) (v1 v2 : V) (d1 d2 : D) (C : Bool → Prop), Rep X.K τ H0 γ H σ ρ →
  Bo X.K τ H (res H (own τ σ ρ)) v1 d1 → Bo X.K τ H (res H (own τ σ ρ)) v2 d2 → f d1 d2 C → ∀ Q : VK, (∀ z, C z → Q (.bl z) H) → r v1 v2 H Q
def b2 (f : D → D → (Bool → Prop) → Prop) (t u : UV) : UT := fun ρ C => t ρ fun x => u ρ fun y => f x y C
def dB (t : UT) : UV := fun ρ C => t ρ fun z => C (.bool z)
theorem jd_cmp {op : CmpOp} {r : R2} {f : D → D → (Bool → Prop) → Prop} (ho : OpR X (compareOp op) r) (hf : Cm2 X r f) (ha : JV τ X a t) (hb : JV τ X b u) (hm : behindInMarks op b = false) : JD τ X (.Compare a [op] [b] pos) (dB (b2 f t u)) := fun ρ C c H0 γ σ H r Q q =>
  wpE_of (pe_cmpR ho pe_w pe_w hm) (ha ρ _ c H0 γ σ H r _ fun d1 v1 H2 c e b1 => hb ρ _ c H0 γ σ H2 (r.after e) _ fun d2 v2 H3 c e2 b2 =>
    hf _ _ _ _ _ _ _ _ _ _ _ ((r.after e).after e2) (b1.after e2) b2 c Q fun z c => q _ _ H3 c (e.trans e2) (.bl z))
theorem jt_cmp {op : CmpOp} {r : R2} {f : D → D → (Bool → Prop) → Prop} (ho : OpR X (compareOp op) r) (hf : Cm2 X r f) (ha : JV τ X a t) (hb : JV τ X b u) (hm : behindInMarks op b = false) : JT τ X (.Compare a [op] [b] pos) (b2 f t u) := fun ρ C c H0 γ σ H r Q q =>
  wpT_of (pt_cmpR ho pe_w pe_w hm) (ha ρ _ c H0 γ σ H r _ fun d1 v1 H2 c e b1 => hb ρ _ c H0 γ σ H2 (r.after e) _ fun d2 v2 H3 c e2 b2 =>
    hf _ _ _ _ _ _ _ _ _ _ _ ((r.after e).after e2) (b1.after e2) b2 c _ fun z c => ⟨z, rfl, q z H3 c (e.trans e2)⟩)
def b3 (f g : D → D → (Bool → Prop) → Prop) (t u s : UV) : UT := fun ρ C => t ρ fun x => u ρ fun y => f x y fun z => (z = true → s ρ fun w => g y w C) ∧ (z = false → C false)
theorem jd_chain {op op' : CmpOp} {r r' : R2} {f g : D → D → (Bool → Prop) → Prop} (ho : OpR X (compareOp op) r) (ho' : OpR X (compareOp op') r') (hf : Cm2 X r f) (hg : Cm2 X r' g) (ha : JV τ X a t) (hb : JV τ X b u) (hc : JV τ X c s)
    (hm : lastMarks [op, op'] [b, c] = false := by with_unfolding_all rfl) : JD τ X (.Compare a [op, op'] [b, c] pos) (dB (b3 f g t u s)) := fun ρ C c H0 γ σ H r Q q =>
  wpE_of (pe_chain ho ho' pe_w pe_w pe_w hm) (ha ρ _ c H0 γ σ H r _ fun d1 v1 H2 c e b1 => hb ρ _ c H0 γ σ H2 (r.after e) _ fun d2 v2 H3 c e2 b2 =>
    hf _ _ _ _ _ _ _ _ _ _ _ ((r.after e).after e2) (b1.after e2) b2 c _ fun z c => ⟨z, rfl, by
      cases z with
      | true => exact iteT (hc ρ _ (c.1 rfl) H0 γ σ H3 ((r.after e).after e2) _ fun d3 v3 H4 c e3 b3 => hg _ _ _ _ _ _ _ _ _ _ _ (((r.after e).after e2).after e3) (b2.after e3) b3 c Q fun z c => q _ _ H4 c ((e.trans e2).trans e3) (.bl z))
      | false => exact iteF (q _ _ H3 (c.2 rfl) (e.trans e2) (.bl false))⟩)
theorem jt_chain {op op' : CmpOp} {r r' : R2} {f g : D → D → (Bool → Prop) → Prop} (ho : OpR X (compareOp op) r) (ho' : OpR X (compareOp op') r') (hf : Cm2 X r f) (hg : Cm2 X r' g) (ha : JV τ X a t) (hb : JV τ X b u) (hc : JV τ X c s)
    (hm : lastMarks [op, op'] [b, c] = false := by with_unfolding_all rfl) : JT τ X (.Compare a [op, op'] [b, c] pos) (b3 f g t u s) := fun ρ C c H0 γ σ H r Q q =>
  wpT_of (pt_chain ho ho' pe_w pe_w pe_w hm) (ha ρ _ c H0 γ σ H r _ fun d1 v1 H2 c e b1 => hb ρ _ c H0 γ σ H2 (r.after e) _ fun d2 v2 H3 c e2 b2 =>
    hf _ _ _ _ _ _ _ _ _ _ _ ((r.after e).after e2) (b1.after e2) b2 c _ fun z c => ⟨z, rfl, by
      cases z with
      | true => exact iteT (hc ρ _ (c.1 rfl) H0 γ σ H3 ((r.after e).after e2) _ fun d3 v3 H4 c e3 b3 => hg _ _ _ _ _ _ _ _ _ _ _ (((r.after e).after e2).after e3) (b2.after e3) b3 c _ fun z c => ⟨z, rfl, q z H4 c ((e.trans e2).trans e3)⟩)
      | false => exact iteF ⟨false, rfl, q _ H3 (c.2 rfl) (e.trans e2)⟩⟩)
def fEq (neg : Bool) : D → D → (Bool → Prop) → Prop := fun x y C => sh 32 x = true ∧ sh 32 y = true ∧ C (if neg then !PyData.eqv x y else PyData.eqv x y)
theorem res_ad_le {H : Hp} : Same (res H τ.ad) H := res_le
theorem fEq_ok : Cm2 X (rEqD X.K) (fEq false) := fun τ H0 H γ σ ρ v1 v2 d1 d2 C r b1 b2 h Q q =>
  ⟨d1, d2, dp_same res_le _ _ (b1.dp res_own_ad), dp_same res_le _ _ (b2.dp res_own_ad), sh_shaped (by decide) h.1, sh_shaped (by decide) h.2.1, q _ h.2.2⟩
theorem fNe_ok : Cm2 X (rNeD X.K) (fEq true) := fun τ H0 H γ σ ρ v1 v2 d1 d2 C r b1 b2 h Q q =>
  ⟨d1, d2, dp_same res_le _ _ (b1.dp res_own_ad), dp_same res_le _ _ (b2.dp res_own_ad), sh_shaped (by decide) h.1, sh_shaped (by decide) h.2.1, q _ h.2.2⟩
/-- ints | tuples of ints -/
def intsOf : List D → Option (List Int)
  | [] => some []
  | .int i :: ds => (intsOf ds).map (i :: ·)
  | _ :: _ => none
theorem intsOf_dp {K : PySem.W.Frag} {H : Hp} : ∀ {ds : List D} {ns : List Int} {vs : List V}, intsOf ds = some ns → DpAll K H vs ds → vs = ns.map V.int
  | [], ns, vs, h, a => by
    cases a
    cases h
    rfl
  | .int i :: ds, ns, _, h, .cons h1 h2 => by
    simp only [intsOf, Option.map_eq_some_iff] at h
    obtain ⟨ms, e, rfl⟩ := h
    cases h1
    rw [intsOf_dp e h2]
    rfl
  | .none :: _, _, _, h, _ => by simp [intsOf] at h
  | .bool _ :: _, _, _, h, _ => by simp [intsOf] at h
  | .str _ :: _, _, _, h, _ => by simp [intsOf] at h
  | .list _ :: _, _, _, h, _ => by simp [intsOf] at h
  | .tuple _ :: _, _, _, h, _ => by simp [intsOf] at h
  | .dict _ :: _, _, _, h, _ => by simp [intsOf] at h
def fLt : D → D → (Bool → Prop) → Prop
  | .int i, .int j, C => C (decide (i < j))
  | .str x, .str y, C => C (decide (x.cps.toList < y.cps.toList))
  | .tuple xs, .tuple ys, C => ∃ ns ms, intsOf xs = some ns ∧ intsOf ys = some ms ∧ C (HT.lexLt ns ms)
  | _, _, _ => False
def rLtU (K : PySem.W.Frag) : R2 := fun x y H Q => rI0 (fun i j => .bl (decide (i < j))) x y H Q ∨ (∃ i j, x = .str i ∧ y = .str j ∧ Q (.bl (decide (i.cps.toList < j.cps.toList))) H) ∨ rLtT K x y H Q
theorem op_ltU (S : Ok cp G N sc k X) : OpR X (compareOp .Lt) (rLtU X.K) := op_lt.or (op_lt_str.or (op_ltT S.room.units0))
theorem fLt_ok : Cm2 X (rLtU X.K) fLt := fun τ H0 H γ σ ρ v1 v2 d1 d2 C r b1 b2 h Q q => by
  cases d1 <;> cases d2 <;> first | exact h.elim | skip
  · cases b1; cases b2
    exact .inl ⟨_, _, rfl, rfl, q _ h⟩
  · cases b1; cases b2
    exact .inr (.inl ⟨_, _, rfl, rfl, q _ h⟩)
  · obtain ⟨a, vs, rfl, hs, ha⟩ := b1
    obtain ⟨b, ws, rfl, ht, hb⟩ := b2
    obtain ⟨ns, ms, h1, h2, h3⟩ := h
    have e1 := intsOf_dp h1 ha
    have e2 := intsOf_dp h2 hb
    subst e1 e2
    exact .inr (.inr ⟨a, b, ns, ms, rfl, rfl, sqT_same res_le hs, sqT_same res_le ht, q _ h3⟩)
def fOrd (f : Int → Int → Bool) : D → D → (Bool → Prop) → Prop
  | .int i, .int j, C => C (f i j)
  | _, _, _ => False
theorem fOrd_ok {f : Int → Int → Bool} : Cm2 X (rI0 fun i j => .bl (f i j)) (fOrd f) := fun τ H0 H γ σ ρ v1 v2 d1 d2 C r b1 b2 h Q q => by
  cases d1 <;> cases d2 <;> first | exact h.elim | skip
  cases b1; cases b2
  exact ⟨_, _, rfl, rfl, q _ h⟩
abbrev fLe := fOrd fun i j => decide (i ≤ j)
abbrev fGt := fOrd fun i j => decide (j < i)
abbrev fGe := fOrd fun i j => decide (j ≤ i)
/-! x > y of ints or of tuples of ints -/
theorem lexAt_gt : ∀ (ns ms pn pm : List Int), pn.length = pm.length →
    Ob.lexAt (fun j => decide ((pn ++ ns).getD j 0 = (pm ++ ms).getD j 0)) (fun j => decide ((pm ++ ms).getD j 0 < (pn ++ ns).getD j 0)) (decide (ms.length < ns.length)) pn.length (min ns.length ms.length) = HT.lexLt ms ns
  | [], [], pn, pm, h => rfl
  | [], m :: ms, pn, pm, h => by simp [Ob.lexAt, HT.lexLt]
  | n :: ns, [], pn, pm, h => by simp [Ob.lexAt, HT.lexLt]
  | n :: ns, m :: ms, pn, pm, h => by
    have ih := lexAt_gt ns ms (pn ++ [n]) (pm ++ [m]) (by simp [h])
    have e1 : (pn ++ n :: ns).getD pn.length 0 = n := by simp
    have e2 : (pm ++ m :: ms).getD pn.length 0 = m := by rw [h]; simp
    have e3 : decide ((m :: ms).length < (n :: ns).length) = decide (ms.length < ns.length) := by simp
    have e4 : min (n :: ns).length (m :: ms).length = min ns.length ms.length + 1 := by simp only [List.length_cons]; omega
    rw [e3, e4, Ob.lexAt_succ]
    simp only [e1, e2, decide_eq_true_eq]
    rw [HT.lexLt_cons]
    simp only [List.append_assoc, List.cons_append, List.nil_append, List.length_append, List.length_cons, List.length_nil] at ih
    by_cases e : n = m
    · rw [if_pos e, if_pos e.symm]
      exact ih
    · rw [if_neg e, if_neg fun z => e z.symm]
def rGtT (K : PySem.W.Frag) : R2 := fun x y H Q => ∃ (a b : Addr) (ns ms : List Int), x = .ref a ∧ y = .ref b ∧ SqT K H a (ns.map V.int) ∧ SqT K H b (ms.map V.int) ∧ Q (.bl (HT.lexLt ms ns)) H
theorem op_gtT (hu : X.A.units < cLine) : OpR X (compareOp .Gt) (rGtT X.K) := by
  intro pins s σ H x y v u Q I rx ry ⟨a, b, ns, ms, ex, ey, ha, hb, q⟩
  subst ex ey
  cases rx; cases ry
  obtain ⟨is1, w1, t1, _⟩ := I.tuple ha
  obtain ⟨is2, w2, t2, _⟩ := I.tuple hb
  have i1 : IntsAre is1 ns := Vals.ints w1
  have i2 : IntsAre is2 ms := Vals.ints w2
  have g1 : ∀ j (h : j < is1.toArray.size), ∃ t, is1.toArray[j] = .int (ns.getD j 0) t := fun j h => IntsAre.int_at i1 _ _ (by simp at h; simp [h])
  have g2 : ∀ j (h : j < is2.toArray.size), ∃ t, is2.toArray[j] = .int (ms.getD j 0) t := fun j h => IntsAre.int_at i2 _ _ (by simp at h; simp [h])
  have R := Ob.RcOp.tuples_gt (A := X.A) (s := s) (e := fun j => decide (ns.getD j 0 = ms.getD j 0)) (r := fun j => decide (ms.getD j 0 < ns.getD j 0)) t1 t2 hu
    (fun j h1 h2 => by
      obtain ⟨u1, f1⟩ := g1 j h1
      obtain ⟨u2, f2⟩ := g2 j h2
      rw [f1, f2, show decide (ns.getD j 0 = ms.getD j 0) = (ns.getD j 0 == ms.getD j 0) from (by rw [Bool.eq_iff_iff, beq_iff_eq, decide_eq_true_eq])]
      exact SeqAt.EqAt.int_int _ _ _ _)
    (fun j h1 h2 _ => by
      obtain ⟨u1, f1⟩ := g1 j h1
      obtain ⟨u2, f2⟩ := g2 j h2
      rw [f1, f2]
      exact Ob.RcOp.gt_int _ _ _ _)
  have l1 : is1.toArray.size = ns.length := by rw [List.size_toArray]; exact i1.length
  have l2 : is2.toArray.size = ms.length := by rw [List.size_toArray]; exact i2.length
  rw [l1, l2] at R
  have e := lexAt_gt ns ms [] [] rfl
  simp only [List.nil_append, List.length_nil] at e
  have e' : decide (ns.length > ms.length) = decide (ms.length < ns.length) := rfl
  rw [e', e] at R
  exact R X.prog X.w X.xe (EP X pins σ Q) ⟨.bl _, H, I, rfl, q⟩
def fGtU : D → D → (Bool → Prop) → Prop
  | .int i, .int j, C => C (decide (j < i))
  | .tuple xs, .tuple ys, C => ∃ ns ms, intsOf xs = some ns ∧ intsOf ys = some ms ∧ C (HT.lexLt ms ns)
  | _, _, _ => False
def rGtU (K : PySem.W.Frag) : R2 := fun x y H Q => rI0 (fun i j => .bl (decide (j < i))) x y H Q ∨ rGtT K x y H Q
theorem op_gtU (S : Ok cp G N sc k X) : OpR X (compareOp .Gt) (rGtU X.K) := op_gt.or (op_gtT S.room.units0)
theorem fGtU_ok : Cm2 X (rGtU X.K) fGtU := fun τ H0 H γ σ ρ v1 v2 d1 d2 C r b1 b2 h Q q => by
  cases d1 <;> cases d2 <;> first | exact h.elim | skip
  · cases b1; cases b2
    exact .inl ⟨_, _, rfl, rfl, q _ h⟩
  · obtain ⟨a, vs, rfl, hs, ha⟩ := b1
    obtain ⟨b, ws, rfl, ht, hb⟩ := b2
    obtain ⟨ns, ms, h1, h2, h3⟩ := h
    have e1 := intsOf_dp h1 ha
    have e2 := intsOf_dp h2 hb
    subst e1 e2
    exact .inr ⟨a, b, ns, ms, rfl, rfl, sqT_same res_le hs, sqT_same res_le ht, q _ h3⟩
def fIs (neg : Bool) : D → D → (Bool → Prop) → Prop
  | .none, .none, C => C (!neg)
  | .bool a, .bool b, C => C (if neg then !decide (a = b) else decide (a = b))
  | .dict _, .none, _ => False
  | .list _, .none, C => C neg
  | .tuple _, .none, C => C neg
  | .int _, .none, C => C neg
  | .str _, .none, C => C neg
  | .bool _, .none, C => C neg
  | _, _, _ => False
def rIsU : R2 := fun x y H Q => (y = .non ∧ Q (.bl (decide (x = .non))) H) ∨ ∃ a b, x = .bl a ∧ y = .bl b ∧ Q (.bl (decide (a = b))) H
def rIsnU : R2 := fun x y H Q => (y = .non ∧ Q (.bl (!decide (x = .non))) H) ∨ ∃ a b, x = .bl a ∧ y = .bl b ∧ Q (.bl (!decide (a = b))) H
theorem op_isU : OpR X (compareOp .Is) rIsU := op_isN.or op_is_bl
theorem op_isnU : OpR X (compareOp .IsNot) rIsnU := op_notN.or op_isnot_bl
theorem fIs_ok : Cm2 X rIsU (fIs false) := fun τ H0 H γ σ ρ v1 v2 d1 d2 C r b1 b2 h Q q => by
  cases d1 <;> cases d2 <;> first | exact h.elim | skip
  · cases b1; cases b2; exact .inl ⟨rfl, q _ h⟩
  · cases b1; cases b2; exact .inl ⟨rfl, q _ h⟩
  · cases b1; cases b2; exact .inr ⟨_, _, rfl, rfl, q _ h⟩
  · cases b1; cases b2; exact .inl ⟨rfl, q _ h⟩
  · cases b1; cases b2; exact .inl ⟨rfl, q _ h⟩
  · obtain ⟨a, vs, rfl, _⟩ := b1; cases b2; exact .inl ⟨rfl, q _ h⟩
  · obtain ⟨a, vs, rfl, _⟩ := b1; cases b2; exact .inl ⟨rfl, q _ h⟩
theorem fIsn_ok : Cm2 X rIsnU (fIs true) := fun τ H0 H γ σ ρ v1 v2 d1 d2 C r b1 b2 h Q q => by
  cases d1 <;> cases d2 <;> first | exact h.elim | skip
  · cases b1; cases b2; exact .inl ⟨rfl, q _ h⟩
  · cases b1; cases b2; exact .inl ⟨rfl, q _ h⟩
  · cases b1; cases b2; exact .inr ⟨_, _, rfl, rfl, q _ h⟩
  · cases b1; cases b2; exact .inl ⟨rfl, q _ h⟩
  · cases b1; cases b2; exact .inl ⟨rfl, q _ h⟩
  · obtain ⟨a, vs, rfl, _⟩ := b1; cases b2; exact .inl ⟨rfl, q _ h⟩
  · obtain ⟨a, vs, rfl, _⟩ := b1; cases b2; exact .inl ⟨rfl, q _ h⟩
/-! x in (a list or tuple of flat things) -/
def flatD : D → Bool
  | .none => true
  | .bool _ => true
  | .int _ => true
  | .str _ => true
  | _ => false
def fIn (neg : Bool) : D → D → (Bool → Prop) → Prop
  | x, .tuple ds, C => (flatD x = true ∧ ds.all flatD = true ∨ sh 32 x = true ∧ shAll 31 ds = true) ∧ C (if neg then !ds.any (fun y => PyData.eqv y x) else ds.any fun y => PyData.eqv y x)
  | x, .list ds, C => (flatD x = true ∧ ds.all flatD = true ∨ sh 32 x = true ∧ shAll 31 ds = true) ∧ C (if neg then !ds.any (fun y => PyData.eqv y x) else ds.any fun y => PyData.eqv y x)
  | .str x, .str z, C => ∃ c, x = ⟨#[c]⟩ ∧ C (if neg then !decide (c ∈ z.cps.toList) else decide (c ∈ z.cps.toList))
  | _, _, _ => False
/-- x in a list or tuple of data of any depth -/
def rInA (K : PySem.W.Frag) (neg : Bool) : R2 := fun x y H Q => ∃ d c ds, Dp K H x d ∧ Dp K H y c ∧ (c = .list ds ∨ c = .tuple ds) ∧ SeqAt.shaped d = true ∧ SeqAt.shaped c = true ∧ Q (.bl (if neg then !ds.any (fun z => PyData.eqv z d) else ds.any fun z => PyData.eqv z d)) H
/-- a sign in a text -/
def rInSg (neg : Bool) : R2 := fun x y H Q => ∃ (c : Nat) (z : Str), x = .str ⟨#[c]⟩ ∧ y = .str z ∧ Q (.bl (if neg then !decide (c ∈ z.cps.toList) else decide (c ∈ z.cps.toList))) H
def rInU (K : PySem.W.Frag) (neg : Bool) : R2 := fun x y H Q => rIn K neg x y H Q ∨ rInA K neg x y H Q ∨ rInSg neg x y H Q
theorem op_inA (hu : X.A.units + 65 < cLine) : OpR X (compareOp .In) (rInA X.K false) := by
  intro pins s σ H x y v u Q I rx ry h
  obtain ⟨d, c, ds, hd, he, hc, sd, se, q⟩ := h
  obtain ⟨as, r1⟩ := Dp.reads I d x v hd rx
  obtain ⟨bs, r2⟩ := Dp.reads I c y u he ry
  rcases hc with rfl | rfl
  · exact SeqAt.in_list_reads r2 r1 (SeqAt.canLay_of_shaped se) (SeqAt.canLay_of_shaped sd) (room_in_shaped sd hu) ⟨.bl _, H, I, rfl, q⟩
  · exact SeqAt.in_tuple_reads r2 r1 (SeqAt.canLay_of_shaped se) (SeqAt.canLay_of_shaped sd) (room_in_shaped sd hu) ⟨.bl _, H, I, rfl, q⟩
theorem op_notInA (hu : X.A.units + 65 < cLine) : OpR X (compareOp .NotIn) (rInA X.K true) := by
  intro pins s σ H x y v u Q I rx ry h
  obtain ⟨d, c, ds, hd, he, hc, sd, se, q⟩ := h
  obtain ⟨as, r1⟩ := Dp.reads I d x v hd rx
  obtain ⟨bs, r2⟩ := Dp.reads I c y u he ry
  rcases hc with rfl | rfl
  · exact SeqAt.notIn_list_reads r2 r1 (SeqAt.canLay_of_shaped se) (SeqAt.canLay_of_shaped sd) (room_in_shaped sd hu) ⟨.bl _, H, I, rfl, q⟩
  · exact SeqAt.notIn_tuple_reads r2 r1 (SeqAt.canLay_of_shaped se) (SeqAt.canLay_of_shaped sd) (room_in_shaped sd hu) ⟨.bl _, H, I, rfl, q⟩
theorem op_inU (hu : X.A.units + 65 < cLine) : OpR X (compareOp .In) (rInU X.K false) := op_in_seq.or ((op_inA hu).or (r := rInA X.K false) op_in_sign)
theorem op_notInU (hu : X.A.units + 65 < cLine) : OpR X (compareOp .NotIn) (rInU X.K true) := op_notIn_seq.or ((op_notInA hu).or (r := rInA X.K true) op_notIn_sign)
theorem flat_dp {K : PySem.W.Frag} {H : Hp} {v : V} {d : D} (f : flatD d = true) (h : Dp K H v d) : flatV v = true := by
  cases h <;> first | rfl | (simp [flatD] at f)
theorem flat_bo {K : PySem.W.Frag} {τ : Tn} {H R : Hp} {v : V} {d : D} (f : flatD d = true) (h : Bo K τ H R v d) : Dp K R v d := by
  cases d <;> first | (simp [flatD] at f; done) | skip
  · cases h; exact .non
  · cases h; exact .bl _
  · cases h; exact .int _
  · cases h; exact .str _
theorem eqV_dp {K : PySem.W.Frag} {H H' : Hp} {v w : V} {d e : D} (fd : flatD d = true) (fe : flatD e = true) (h : Dp K H v d) (g : Dp K H' w e) : eqV v w = PyData.eqv d e := by
  cases h <;> cases g <;> first | (simp [flatD] at fd; done) | (simp [flatD] at fe; done) | (simp [eqV, PyData.eqv]; done) | (simp [eqV, PyData.eqv]; split <;> simp_all)
theorem all_flat {K : PySem.W.Frag} {H : Hp} : ∀ {vs : List V} {ds : List D}, ds.all flatD = true → DpAll K H vs ds → vs.all flatV = true
  | _, [], _, .nil => rfl
  | _, d :: ds, f, .cons h1 h2 => by
    simp only [List.all_cons, Bool.and_eq_true] at f ⊢
    exact ⟨flat_dp f.1 h1, all_flat f.2 h2⟩
theorem any_flat {K : PySem.W.Frag} {H H' : Hp} {w : V} {x : D} (fx : flatD x = true) (g : Dp K H' w x) : ∀ {vs : List V} {ds : List D}, ds.all flatD = true → DpAll K H vs ds → inV w vs = ds.any fun y => PyData.eqv y x
  | _, [], _, .nil => rfl
  | _, d :: ds, f, .cons h1 h2 => by
    simp only [List.all_cons, Bool.and_eq_true] at f
    have ih := any_flat fx g f.2 h2
    unfold inV at ih ⊢
    rw [List.any_cons, List.any_cons, ih, eqV_dp f.1 fx h1 g]
theorem fIn_ok {neg : Bool} : Cm2 X (rInU X.K neg) (fIn neg) := fun τ H0 H γ σ ρ v1 v2 d1 d2 C r b1 b2 h Q q => by
  cases d2 with
  | tuple ds =>
    obtain ⟨h1 | h1, h3⟩ := h
    · obtain ⟨a, vs, rfl, hs, ha⟩ := b2
      have g := flat_bo h1.1 b1
      refine .inl ⟨a, vs, rfl, .inr (sqT_same res_le hs), flat_dp h1.1 g, all_flat h1.2 ha, ?_⟩
      rw [any_flat h1.1 g h1.2 ha]
      exact q _ h3
    · exact .inr (.inl ⟨d1, _, ds, dp_same res_le _ _ (b1.dp res_own_ad), dp_same res_le _ _ (b2.dp res_own_ad), .inr rfl, sh_shaped (by decide) h1.1, sh_shaped (n := 32) (by decide) (by show shAll 31 ds = true; exact h1.2), q _ h3⟩)
  | list ds =>
    obtain ⟨h1 | h1, h3⟩ := h
    · obtain ⟨a, vs, rfl, hs, ha⟩ := b2
      have g := flat_bo h1.1 b1
      refine .inl ⟨a, vs, rfl, .inl (sqL_same res_le hs), flat_dp h1.1 g, all_flat h1.2 ha, ?_⟩
      rw [any_flat h1.1 g h1.2 ha]
      exact q _ h3
    · exact .inr (.inl ⟨d1, _, ds, dp_same res_le _ _ (b1.dp res_own_ad), dp_same res_le _ _ (b2.dp res_own_ad), .inl rfl, sh_shaped (by decide) h1.1, sh_shaped (n := 32) (by decide) (by show shAll 31 ds = true; exact h1.2), q _ h3⟩)
  | none => exact h.elim
  | bool _ => exact h.elim
  | int _ => exact h.elim
  | str z =>
    cases d1 <;> first | exact h.elim | skip
    obtain ⟨c, rfl, h3⟩ := h
    cases b1; cases b2
    exact .inr (.inr ⟨c, z, rfl, rfl, q _ h3⟩)
  | dict _ => exact h.elim
end
end Pu
namespace Pu
open PySem PySem.Spec PyProof.Rows L2
section
variable {τ : Tn} {G : Gx} {cp : List Str} {N : List Str} {sc : Scope} {k : Nat} {X : Cx} {a b c : Expr} {es rest : List Expr} {t u s : UV} {te ue : UE} {tt tu : UT} {pos : Pos}
/-! ### truth, and, or, not, if -/
def fTru : D → (Bool → Prop) → Prop
  | .none, C => C false
  | .bool b, C => C b
  | .int i, C => C (i != 0)
  | .str x, C => x.length ≤ 1000000 ∧ C ((x.length : Int) != 0)
  | .list ds, C => C (!ds.isEmpty)
  | .tuple ds, C => C (!ds.isEmpty)
  | .dict _, _ => False
def bTru (t : UV) : UT := fun ρ C => t ρ fun d => fTru d C
theorem empty_dp {K : PySem.W.Frag} {H : Hp} {vs : List V} {ds : List D} (h : DpAll K H vs ds) : vs.isEmpty = ds.isEmpty := by
  cases h <;> rfl
theorem jt_tru (ha : JV τ X a t) (he : ∀ whole, isTrue a X.env whole = (do let v ← whole; standAt a.pos; holding [v] (truthy v)) := by intro _; rfl) : JT τ X a (bTru t) := fun ρ C c H0 γ σ H r Q q =>
  wpT_of (pt_truth pe_w he) (ha ρ _ c H0 γ σ H r _ fun d v H2 c e b => by
    cases d with
    | none => cases b; exact ⟨_, rfl, q _ H2 c e⟩
    | bool _ => cases b; exact ⟨_, rfl, q _ H2 c e⟩
    | int _ => cases b; exact ⟨_, rfl, q _ H2 c e⟩
    | str _ => cases b; exact ⟨_, ⟨small_line c.1, rfl⟩, q _ H2 c.2 e⟩
    | list ds =>
      obtain ⟨p, vs, rfl, hs, ha⟩ := b
      exact ⟨_, .inl ⟨vs, sqL_same res_le hs, rfl⟩, q _ H2 (by rw [empty_dp ha]; exact c) e⟩
    | tuple ds =>
      obtain ⟨p, vs, rfl, hs, ha⟩ := b
      exact ⟨_, .inr (.inl ⟨vs, sqT_same res_le hs, rfl⟩), q _ H2 (by rw [empty_dp ha]; exact c) e⟩
    | dict _ => exact c.elim)
def bAnd (t u : UT) : UT := fun ρ C => t ρ fun z => (z = true → u ρ C) ∧ (z = false → C false)
def bOr (t u : UT) : UT := fun ρ C => t ρ fun z => (z = true → C true) ∧ (z = false → u ρ C)
def bNot (t : UT) : UT := fun ρ C => t ρ fun z => C (!z)
theorem jw_and1 (ha : JT τ X a tt) : JW τ X (.BoolOp .And [a] pos) tt := fun ρ C c H0 γ σ H r Q q => wpW_of (pw_and1 pt_w) (ha ρ C c H0 γ σ H r Q q)
theorem jw_or1 (ha : JT τ X a tt) : JW τ X (.BoolOp .Or [a] pos) tt := fun ρ C c H0 γ σ H r Q q => wpW_of (pw_or1 pt_w) (ha ρ C c H0 γ σ H r Q q)
theorem jw_and (ha : JT τ X a tt) (hb : JW τ X (.BoolOp .And (b :: rest) pos) tu) : JW τ X (.BoolOp .And (a :: b :: rest) pos) (bAnd tt tu) := fun ρ C c H0 γ σ H r Q q =>
  wpW_of (pw_and pt_w pw_w) (ha ρ _ c H0 γ σ H r _ fun z H2 c e => by
    cases z with
    | true => exact iteT (hb ρ C (c.1 rfl) H0 γ σ H2 (r.after e) Q fun b H3 c e2 => q b H3 c (e.trans e2))
    | false => exact iteF (q _ H2 (c.2 rfl) e))
theorem jw_or (ha : JT τ X a tt) (hb : JW τ X (.BoolOp .Or (b :: rest) pos) tu) : JW τ X (.BoolOp .Or (a :: b :: rest) pos) (bOr tt tu) := fun ρ C c H0 γ σ H r Q q =>
  wpW_of (pw_or pt_w pw_w) (ha ρ _ c H0 γ σ H r _ fun z H2 c e => by
    cases z with
    | true => exact iteT (q _ H2 (c.1 rfl) e)
    | false => exact iteF (hb ρ C (c.2 rfl) H0 γ σ H2 (r.after e) Q fun b H3 c e2 => q b H3 c (e.trans e2)))
theorem jt_w (h : JW τ X a tt) : JT τ X a tt := fun ρ C c H0 γ σ H r Q q => by
  unfold wpT
  exact fun pins s I => pw_w.run _ pins s σ H Q I (h ρ C c H0 γ σ H r Q q)
theorem jt_not (ha : JT τ X a tt) : JT τ X (.UnaryOp .Not a pos) (bNot tt) := fun ρ C c H0 γ σ H r Q q => wpT_of (pt_not pt_w) (ha ρ _ c H0 γ σ H r _ fun z H2 c e => q _ H2 c e)
/-- values that are truths -/
def fBoolK : D → (Bool → Prop) → Prop
  | .bool b, C => C b
  | _, _ => False
def dAnd (t u : UV) : UV := fun ρ C => t ρ fun d => fBoolK d fun z => (z = true → u ρ C) ∧ (z = false → C (.bool false))
def dOr (t u : UV) : UV := fun ρ C => t ρ fun d => fBoolK d fun z => (z = true → C (.bool true)) ∧ (z = false → u ρ C)
def dNot (t : UV) : UV := fun ρ C => t ρ fun d => fBoolK d fun z => C (.bool (!z))
theorem jd_one {op : BoolOp} (ha : JD τ X a t) : JD τ X (.BoolOp op [a] pos) t := fun ρ C c H0 γ σ H r Q q => wpE_of (pe_one pe_w) (ha ρ C c H0 γ σ H r Q q)
theorem jd_and (ha : JV τ X a t) (hb : JD τ X (.BoolOp .And (b :: rest) pos) u) : JD τ X (.BoolOp .And (a :: b :: rest) pos) (dAnd t u) := fun ρ C c H0 γ σ H r Q q =>
  wpE_of (pe_and pe_w pe_w) (ha ρ _ c H0 γ σ H r _ fun d v H2 c e bo => by
    cases d <;> first | exact c.elim | skip
    cases bo
    refine ⟨_, rfl, ?_⟩
    rename_i z
    cases z with
    | true => exact iteT (hb ρ C (c.1 rfl) H0 γ σ H2 (r.after e) Q fun d v H3 c e2 h => q d v H3 c (e.trans e2) h)
    | false => exact iteF (q _ _ H2 (c.2 rfl) e (.bl _)))
theorem jd_or (ha : JV τ X a t) (hb : JD τ X (.BoolOp .Or (b :: rest) pos) u) : JD τ X (.BoolOp .Or (a :: b :: rest) pos) (dOr t u) := fun ρ C c H0 γ σ H r Q q =>
  wpE_of (pe_or pe_w pe_w) (ha ρ _ c H0 γ σ H r _ fun d v H2 c e bo => by
    cases d <;> first | exact c.elim | skip
    cases bo
    refine ⟨_, rfl, ?_⟩
    rename_i z
    cases z with
    | true => exact iteT (q _ _ H2 (c.1 rfl) e (.bl _))
    | false => exact iteF (hb ρ C (c.2 rfl) H0 γ σ H2 (r.after e) Q fun d v H3 c e2 h => q d v H3 c (e.trans e2) h))
theorem jd_not (ha : JV τ X a t) : JD τ X (.UnaryOp .Not a pos) (dNot t) := fun ρ C c H0 γ σ H r Q q =>
  wpE_of (pe_not pe_w) (ha ρ _ c H0 γ σ H r _ fun d v H2 c e bo => by
    cases d <;> first | exact c.elim | skip
    cases bo
    exact ⟨_, rfl, q _ _ H2 c e (.bl _)⟩)
def eIf (tt : UT) (t u : UE) : UE := fun ρ C => tt ρ fun z => (z = true → t ρ C) ∧ (z = false → u ρ C)
theorem je_if (hc : JT τ X c tt) (ha : JE τ X a te) (hb : JE τ X b ue) : JE τ X (.IfExp c a b pos) (eIf tt te ue) := fun ρ C cc H0 γ σ H r Q q =>
  wpE_of (pe_ifExp pt_w pe_w pe_w) (hc ρ _ cc H0 γ σ H r _ fun z H2 c e => by
    have fin : ∀ rs v H3, C rs → Ext τ H2 H3 → RsOk X.K τ H2 H3 σ ρ v rs → Q v H3 := fun rs v H3 c e2 h => q rs v H3 c (e.trans e2) (by
      cases rs with
      | dat d => exact h
      | lst ds =>
        obtain ⟨p, vs, h1, h2, h3⟩ := h
        exact ⟨p, vs, h1, e.fresh r.inv h2, h3⟩
      | dic ds =>
        obtain ⟨p, vs, h1, h2, h3⟩ := h
        exact ⟨p, vs, h1, e.fresh r.inv h2, h3⟩)
    cases z with
    | true => exact iteT (ha ρ C (c.1 rfl) H0 γ σ H2 (r.after e) Q fin)
    | false => exact iteF (hb ρ C (c.2 rfl) H0 γ σ H2 (r.after e) Q fin))
def dIf (tt : UT) (t u : UV) : UV := fun ρ C => tt ρ fun z => (z = true → t ρ C) ∧ (z = false → u ρ C)
theorem jd_if (hc : JT τ X c tt) (ha : JD τ X a t) (hb : JD τ X b u) : JD τ X (.IfExp c a b pos) (dIf tt t u) := fun ρ C cc H0 γ σ H r Q q =>
  wpE_of (pe_ifExp pt_w pe_w pe_w) (hc ρ _ cc H0 γ σ H r _ fun z H2 c e => by
    cases z with
    | true => exact iteT (ha ρ C (c.1 rfl) H0 γ σ H2 (r.after e) Q fun d v H3 c e2 h => q d v H3 c (e.trans e2) h)
    | false => exact iteF (hb ρ C (c.2 rfl) H0 γ σ H2 (r.after e) Q fun d v H3 c e2 h => q d v H3 c (e.trans e2) h))
/-! ### items, slices -/
def fIx : D → D → (D → Prop) → Prop
  | .list ds, .int i, C => ∃ d, atI ds i = some d ∧ C d
  | .tuple ds, .int i, C => ∃ d, atI ds i = some d ∧ C d
  | .str x, .int i, C => x.length ≤ 1000000 ∧ ∃ c, atI x.cps.toList i = some c ∧ C (.str ⟨#[c]⟩)
  | _, _, _ => False
theorem atI_dp {K : PySem.W.Frag} {H : Hp} {vs : List V} {ds : List D} {i : Int} {d : D} (h : DpAll K H vs ds) (e : atI ds i = some d) : ∃ v, atI vs i = some v ∧ Dp K H v d := by
  unfold atI at e ⊢
  rw [dpAll_len h]
  cases q : ixN ds.length i with
  | none => rw [q] at e; cases e
  | some j =>
    rw [q] at e
    obtain ⟨v, e1, e2⟩ := dpAll_get h (show ds[j]? = some d from e)
    exact ⟨v, e1, e2⟩
theorem jd_ix (ha : JV τ X a t) (hb : JV τ X b u) (hs : PlainIx b := by exact fun _ _ => rfl) : JD τ X (.Subscript a b pos) (d2 fIx t u) := fun ρ C c H0 γ σ H r Q q =>
  wpE_of (pe_ix ix_seq pe_w pe_w hs) (ha ρ _ c H0 γ σ H r _ fun d1 v1 H2 c e b1 => hb ρ _ c H0 γ σ H2 (r.after e) _ fun d2 v2 H3 c e2 b2 => by
    have b1 := b1.after e2
    cases d1 with
    | list ds =>
      cases d2 <;> first | exact c.elim | skip
      cases b2
      obtain ⟨d, hd, c⟩ := c
      obtain ⟨p, vs, rfl, hs, ha⟩ := b1
      obtain ⟨v, hv, hdp⟩ := atI_dp ha hd
      exact .inl ⟨p, vs, _, v, rfl, rfl, sqL_same res_le hs, hv, q d v H3 c (e.trans e2) hdp⟩
    | tuple ds =>
      cases d2 <;> first | exact c.elim | skip
      cases b2
      obtain ⟨d, hd, c⟩ := c
      obtain ⟨p, vs, rfl, hs, ha⟩ := b1
      obtain ⟨v, hv, hdp⟩ := atI_dp ha hd
      exact .inr (.inl ⟨p, vs, _, v, rfl, rfl, sqT_same res_le hs, hv, q d v H3 c (e.trans e2) hdp⟩)
    | str x =>
      cases d2 <;> first | exact c.elim | skip
      cases b2
      cases b1
      obtain ⟨hl, d, hd, c⟩ := c
      exact .inr (.inr ⟨x, _, d, rfl, rfl, small_line hl, hd, q _ _ H3 c (e.trans e2) (.str _)⟩)
    | none => cases d2 <;> exact c.elim
    | bool _ => cases d2 <;> exact c.elim
    | int _ => cases d2 <;> exact c.elim
    | dict _ => cases d2 <;> exact c.elim)
abbrev UO := En → (Option Int → Prop) → Prop
def wpO (X : Cx) (e : Option Expr) : TO := fun σ H Q => ∀ t : TO, t σ H Q → True → True
def JO (τ : Tn) (X : Cx) (e : Option Expr) (t : UO) : Prop := ∃ to : TO, PO X e to ∧ ∀ (ρ : En) (C : Option Int → Prop), t ρ C → ∀ (H0 : Hp) (γ : List (V × D)) (σ : St) (H : Hp), Rep X.K τ H0 γ H σ ρ → ∀ Q : Option Int → Hp → Prop,
  (∀ o H2, C o → Ext τ H H2 → Q o H2) → to σ H Q
def oNone : UO := fun _ C => C none
def oSome (t : UV) : UO := fun ρ C => t ρ fun d => ∃ i, d = .int i ∧ C (some i)
theorem jo_none : JO τ X none oNone := ⟨_, po_none, fun ρ C c H0 γ σ H r Q q => q none H c .refl⟩
theorem jo_some (ha : JV τ X a t) : JO τ X (some a) (oSome t) := ⟨_, po_some pe_w, fun ρ C c H0 γ σ H r Q q => ha ρ _ c H0 γ σ H r _ fun d v H2 c e b => by
  obtain ⟨i, rfl, c⟩ := c
  cases b
  exact ⟨i, rfl, q _ H2 c e⟩⟩
def cut {α : Type} (xs : List α) (lo hi : Option Int) : List α := (xs.drop (HT.sIx xs.length 0 lo)).take (HT.sIx xs.length xs.length hi - HT.sIx xs.length 0 lo)
theorem cut_dp {K : PySem.W.Frag} {H : Hp} {vs : List V} {ds : List D} (lo hi : Option Int) (h : DpAll K H vs ds) : DpAll K H (cutV vs lo hi) (cut ds lo hi) := by
  unfold cutV cut
  rw [dpAll_len h]
  exact dpAll_take _ (dpAll_drop _ h)
def fCut : D → Option Int → Option Int → (Rs → Prop) → Prop
  | .list ds, lo, hi, C => C (.lst (cut ds lo hi))
  | .tuple ds, lo, hi, C => C (.dat (.tuple (cut ds lo hi)))
  | .str x, lo, hi, C => x.length ≤ 1000000 ∧ C (.dat (.str (cutS x lo hi)))
  | _, _, _, _ => False
def eCut (t : UV) (tl th : UO) : UE := fun ρ C => t ρ fun d => tl ρ fun l => th ρ fun h => fCut d l h C
/-- t[lo:hi], laid plainly; the whole of it is t itself -/
def rSlP (K : PySem.W.Frag) : V → Option Int → Option Int → Hp → VK → Prop := fun x lo hi H Q => ∃ a xs, x = .ref a ∧ SqT K H a xs ∧
  (HT.sIx xs.length 0 lo = 0 ∧ HT.sIx xs.length xs.length hi = xs.length → Q (.ref a) H) ∧ ∀ p o, o.dict = none → H p = none → Q (.ref p) (upd H p (.frz o (.tup (cutV xs lo hi))))
theorem sl_tupP : SlR X (rSlP X.K) := by
  intro pins s σ H x v vl vu lo hi sl Q I rx hs pl pu h
  obtain ⟨a, xs, rfl, hx, q1, q2⟩ := h
  cases rx
  obtain ⟨us, r, t1, hz⟩ := I.tuple hx
  have hl : us.toArray.size = xs.length := by rw [List.size_toArray]; exact r.length.symm
  refine ⟨"tuple", _, PyProof.Rows.slot_tuple_getitem.lookup, t1.typeIs, ?_⟩
  by_cases hw : HT.sIx xs.length 0 lo = 0 ∧ HT.sIx xs.length xs.length hi = xs.length
  · exact getItem_tuple_whole t1 hs pl pu (by rw [hl]; exact hw) ⟨.ref a, H, I, rfl, q1 hw⟩
  · refine HT.getItem_tuple_cut t1 hs pl pu (by rw [hl]; exact hw) ?_ (by rw [hl]; exact hz)
    rw [hl]
    have I2 := inv_plT (t' := s.toks) I (xs := cutV xs lo hi) (Nat.le_trans (cutV_length xs lo hi) hz) ((r.drop (HT.sIx xs.length 0 lo)).take (HT.sIx xs.length xs.length hi - HT.sIx xs.length 0 lo))
    exact ⟨.ref s.heap.objs.size, _, I2, rfl, q2 _ _ rfl (I.hok.fresh (Nat.le_refl _))⟩
def rSlU (K : PySem.W.Frag) : V → Option Int → Option Int → Hp → VK → Prop := fun x lo hi H Q => rSlL K x lo hi H Q ∨ rSlP K x lo hi H Q ∨ rSlS x lo hi H Q
theorem sl_U : SlR X (rSlU X.K) := sl_list.or (sl_tupP.or sl_str)
theorem cut_whole {α : Type} {xs : List α} {lo hi : Option Int} (h : HT.sIx xs.length 0 lo = 0 ∧ HT.sIx xs.length xs.length hi = xs.length) : cut xs lo hi = xs := by
  unfold cut
  rw [h.1, h.2]
  simp
theorem je_cut {lo hi : Option Expr} {tl th : UO} {p2 : Pos} (ha : JV τ X a t) (hl : JO τ X lo tl) (hh : JO τ X hi th) : JE τ X (.Subscript a (.Slice lo hi none p2) pos) (eCut t tl th) := by
  obtain ⟨tlo, pl, hl⟩ := hl
  obtain ⟨thi, ph, hh⟩ := hh
  intro ρ C c H0 γ σ H r Q q
  refine wpE_of (pe_slice sl_U pe_w pl ph) (ha ρ _ c H0 γ σ H r _ fun d v H2 c e b => hl ρ _ c H0 γ σ H2 (r.after e) _ fun l H3 c e2 => hh ρ _ c H0 γ σ H3 ((r.after e).after e2) _ fun h H4 c e3 => ?_)
  have b4 := (b.after e2).after e3
  have r4 := ((r.after e).after e2).after e3
  have e4 := (e.trans e2).trans e3
  cases d with
  | list ds =>
    obtain ⟨p, vs, rfl, hs, ha⟩ := b4
    refine .inl ⟨p, vs, rfl, sqL_same res_le hs, fun p' hp => q _ _ _ c (e4.trans (.new hp)) ⟨p', _, rfl, e4.fresh r.inv hp, upd_same, dpAll_same (res_mono fun a o n ea => ?_) _ _ (cut_dp l h ha)⟩⟩
    have hne : a ≠ p' := ne_of_none ea hp
    exact ⟨fun z => z.elim n hne, by rw [upd_ne hne]; exact ea⟩
  | tuple ds =>
    obtain ⟨p, vs, rfl, hs, ha⟩ := b4
    refine .inr (.inl ⟨p, vs, rfl, sqT_same res_le hs, fun hw => ?_, fun p' o ho hp => ?_⟩)
    · refine q _ _ _ c e4 ?_
      rw [dpAll_len ha] at hw
      rw [cut_whole hw]
      exact .tup (sqT_of_mut r4 hs) ha
    · exact q _ _ _ c (e4.trans (.new hp)) (.tup (.inl (.inr ⟨o, res_put (r4.notOwn hp) upd_same ho⟩)) (dpAll_after (.new hp) (cut_dp l h ha)))
  | str x =>
    cases b4
    exact .inr (.inr ⟨x, rfl, small_line c.1, q _ _ _ c.2 e4 (.str _)⟩)
  | none => exact c.elim
  | bool _ => exact c.elim
  | int _ => exact c.elim
  | dict _ => exact c.elim
end
end Pu
namespace Pu
open PySem PySem.Spec PyProof.Rows L2
/-! ### what a def is handed, what it hands back -/
inductive Ar where
  | dat (d : D)
  | town
def ArOk (K : PySem.W.Frag) (τ : Tn) (H : Hp) (v : V) : Ar → Prop
  | .dat d => Dp K (res H τ.ad) v d
  | .town => v = τ.val
abbrev ArsOk (K : PySem.W.Frag) (τ : Tn) (H : Hp) : List V → List Ar → Prop := Paired (ArOk K τ H)
def Rs.lf : Rs → Bool
  | .dat d => Pu.lf d
  | .lst ds => lfAll ds
  | .dic kds => lfAll (kds.map (·.2))
def RtV (K : PySem.W.Frag) (τ : Tn) (H0 H : Hp) (v : V) : Rs → Prop
  | .dat d => Dp K (res H τ.ad) v d
  | .lst ds => ∃ a vs, v = .ref a ∧ H0 a = none ∧ H a = some (.lst vs) ∧ DpAll K (res H (fun b => τ.ad b ∨ b = a)) vs ds
  | .dic kds => ∃ a kvs, v = .ref a ∧ H0 a = none ∧ H a = some (.dK kvs) ∧ KvOk K (res H (fun b => τ.ad b ∨ b = a)) kvs kds
abbrev Sf := List Ar → (Rs → Prop) → Prop
def spD (G : Gx) (τ : Tn) (S : Sf) : Sp := fun vs H Q _ => ∃ as C, ArsOk G.K τ H vs as ∧ τ.inv H ∧ S as C ∧ ∀ r v H', r.lf = true → C r → Ext τ H H' → RtV G.K τ H H' v r → Q v H'
/-- the def x keeps the word S -/
structure FnD (G : Gx) (τ : Tn) (k : Nat) (x : Str) (ps : List Str) (S : Sf) : Prop where
  ex : ∃ (f : Addr) (fd : FuncData), FnOk G.P G.w G.K G.mg G.base CX0 k f fd ps (spD G τ S) ∧ G.mg x = some (.ref f) ∧ PySem.W.keepIn G.K (.ref f) = true ∧ Binds G.K fd ps []
/-- the same, called with n values and the keywords ks -/
structure FnK (G : Gx) (τ : Tn) (k : Nat) (x : Str) (ps : List Str) (S : Sf) (n : Nat) (ks : List Str) (g : List Ar → List Ar → List Ar) : Prop where
  ex : ∃ (f : Addr) (fd : FuncData) (gU : List Value → List Value → List Value) (gV : List V → List V → List V), FnOk G.P G.w G.K G.mg G.base CX0 k f fd ps (spD G τ S) ∧ G.mg x = some (.ref f) ∧ PySem.W.keepIn G.K (.ref f) = true ∧ KBn G.K fd ps n ks gU gV ∧
    ∀ (K : PySem.W.Frag) (H : Hp) (vs zs : List V) (as bs : List Ar), ArsOk K τ H vs as → ArsOk K τ H zs bs → ArsOk K τ H (gV vs zs) (g as bs)
abbrev UA := En → (List Ar → Prop) → Prop
def JA (τ : Tn) (X : Cx) (es : List Expr) (t : UA) : Prop := ∀ (ρ : En) (C : List Ar → Prop), t ρ C → ∀ (H0 : Hp) (γ : List (V × D)) (σ : St) (H : Hp), Rep X.K τ H0 γ H σ ρ → ∀ Q : List V → Hp → Prop,
  (∀ as vs H2, C as → Ext τ H H2 → ArsOk X.K τ H2 vs as → vs.length = es.length → Q vs H2) → wpA X es σ H Q
@[irreducible] def wpK (X : Cx) (kws : List Keyword) : TA := fun σ H Q => ∀ (pos : Pos) (pins : List (Addr × Obj)) (s : Shared), Inv X pins σ H s → wpAny (model X.prog X.w) X.A (evalAll ((backToKw pos (keywordEach kws X.env)).map (·.2))) (AP X pins σ Q) X.xe s
theorem pk_w {X : Cx} {kws : List Keyword} : PK X kws (wpK X kws) := ⟨fun pos pins s _ _ _ I h => by unfold wpK at h; exact h pos pins s I⟩
theorem wpK_of {X : Cx} {kws : List Keyword} {t : TA} (h : PK X kws t) {σ : St} {H : Hp} {Q : List V → Hp → Prop} (q : t σ H Q) : wpK X kws σ H Q := by
  unfold wpK
  exact fun pos pins s I => h.run pos pins s σ H Q I q
def JK (τ : Tn) (X : Cx) (kws : List Keyword) (t : UA) : Prop := ∀ (ρ : En) (C : List Ar → Prop), t ρ C → ∀ (H0 : Hp) (γ : List (V × D)) (σ : St) (H : Hp), Rep X.K τ H0 γ H σ ρ → ∀ Q : List V → Hp → Prop,
  (∀ as vs H2, C as → Ext τ H H2 → ArsOk X.K τ H2 vs as → vs.length = kws.length → Q vs H2) → wpK X kws σ H Q
/-- several things looked at -/
def JVs (τ : Tn) (X : Cx) (es : List Expr) (t : UL) : Prop := ∀ (ρ : En) (C : List D → Prop), t ρ C → ∀ (H0 : Hp) (γ : List (V × D)) (σ : St) (H : Hp), Rep X.K τ H0 γ H σ ρ → ∀ Q : List V → Hp → Prop,
  (∀ ds vs H2, C ds → Ext τ H H2 → Paired (fun v d => Bo X.K τ H2 (res H2 (own τ σ ρ)) v d) vs ds → Q vs H2) → wpA X es σ H Q
section
variable {τ : Tn} {G : Gx} {cp : List Str} {N : List Str} {sc : Scope} {k j n : Nat} {X : Cx} {a b c e : Expr} {es rest : List Expr} {t u s : UV} {te ue : UE} {ta tk : UA} {pos p kpos : Pos} {x : Str} {ps ks : List Str} {S : Sf} {kws : List Keyword}
theorem arOk_after {K : PySem.W.Frag} {H H' : Hp} {v : V} {a : Ar} (e : Ext τ H H') (h : ArOk K τ H v a) : ArOk K τ H' v a := by
  cases a with
  | dat d => exact dp_same (res_ext e fun _ z => z) _ _ h
  | town => exact h
theorem arsOk_after {K : PySem.W.Frag} {H H' : Hp} (e : Ext τ H H') : ∀ {vs : List V} {as : List Ar}, ArsOk K τ H vs as → ArsOk K τ H' vs as
  | _, _, .nil => .nil
  | _, _, .cons h t => .cons (arOk_after e h) (arsOk_after e t)
def aNil : UA := fun _ C => C []
def aCons (t : UV) (ts : UA) : UA := fun ρ C => t ρ fun d => ts ρ fun as => C (.dat d :: as)
def aTown (i : Nat) (ts : UA) : UA := fun ρ C => match ρ[i]? with
  | some .town => ts ρ fun as => C (.town :: as)
  | _ => False
theorem ja_nil : JA τ X [] aNil := fun ρ C c H0 γ σ H r Q q => wpA_of pa_nil (q [] [] H c .refl .nil rfl)
theorem ja_cons (h : JV τ X e t) (hs : JA τ X es ta) (hst : starEach (e :: es) X.env = (false, eval e X.env) :: starEach es X.env := by rfl) : JA τ X (e :: es) (aCons t ta) := fun ρ C c H0 γ σ H r Q q =>
  wpA_of (pa_cons pe_w pa_w hst) (h ρ _ c H0 γ σ H r _ fun d v H2 c e b => hs ρ _ c H0 γ σ H2 (r.after e) _ fun as vs H3 c e2 b2 hl => q (.dat d :: as) (v :: vs) H3 c (e.trans e2) (.cons (arOk_after e2 (b.dp res_own_ad)) b2) (by simp [hl]))
theorem ja_town (S : Ok cp G N sc k X) (i : Nat) (hs : JA τ X es ta) (hN : N[i]? = some x := by rfl) (hv : Vis sc x := by first | exact Or.inl rfl | exact Or.inr (Or.inl rfl) | exact Or.inr (Or.inr rfl)) (hd : (x == ("__debug__" : Str)) = false := by decide) (hcd : (x == ("__classdict__" : Str)) = false := by decide)
    (hst : starEach (.Name x pos :: es) X.env = (false, eval (.Name x pos) X.env) :: starEach es X.env := by rfl) : JA τ X (.Name x pos :: es) (aTown i ta) := fun ρ C c H0 γ σ H r Q q => by
  refine wpA_of (pa_cons (pe_var (i := i) (by rw [S.eN]; exact hN) (by rw [S.es]; exact hv) hd hcd) pa_w hst) ?_
  unfold aTown at c
  split at c
  · rename_i hi
    exact ⟨τ.val, r.sl i _ hi, hs ρ _ c H0 γ σ H r _ fun as vs H3 c e2 b2 hl => q (.town :: as) (τ.val :: vs) H3 c e2 (.cons rfl b2) (by simp [hl])⟩
  · exact c.elim
theorem jk_nil : JK τ X [] aNil := fun ρ C c H0 γ σ H r Q q => wpK_of pk_nil (q [] [] H c .refl .nil rfl)
theorem jk_cons {nm : Option Str} (h : JV τ X e t) (hs : JK τ X kws ta) : JK τ X (⟨nm, e, kpos⟩ :: kws) (aCons t ta) := fun ρ C c H0 γ σ H r Q q =>
  wpK_of (pk_cons pe_w pk_w) (h ρ _ c H0 γ σ H r _ fun d v H2 c e b => hs ρ _ c H0 γ σ H2 (r.after e) _ fun as vs H3 c e2 b2 hl => q (.dat d :: as) (v :: vs) H3 c (e.trans e2) (.cons (arOk_after e2 (b.dp res_own_ad)) b2) (by simp [hl]))
theorem jvs_nil : JVs τ X [] fun _ C => C [] := fun ρ C c H0 γ σ H r Q q => wpA_of pa_nil (q [] [] H c .refl .nil)
theorem bos_after {K : PySem.W.Frag} {H H' : Hp} {σ : St} {ρ : En} (e : Ext τ H H') : ∀ {vs : List V} {ds : List D}, Paired (fun v d => Bo K τ H (res H (own τ σ ρ)) v d) vs ds → Paired (fun v d => Bo K τ H' (res H' (own τ σ ρ)) v d) vs ds
  | _, _, .nil => .nil
  | _, _, .cons h t => .cons (h.after e) (bos_after e t)
theorem jvs_cons {ts : UL} (h : JV τ X e t) (hs : JVs τ X es ts) (hst : starEach (e :: es) X.env = (false, eval e X.env) :: starEach es X.env := by rfl) : JVs τ X (e :: es) (lCons t ts) := fun ρ C c H0 γ σ H r Q q =>
  wpA_of (pa_cons pe_w pa_w hst) (h ρ _ c H0 γ σ H r _ fun d v H2 c e b => hs ρ _ c H0 γ σ H2 (r.after e) _ fun ds vs H3 c e2 b2 => q (d :: ds) (v :: vs) H3 c (e.trans e2) (.cons (b.after e2) b2))
/-! ### a def's call -/
theorem RtV.rs {H0 H1 H2 H' : Hp} {γ : List (V × D)} {σ : St} {ρ : En} {v : V} {r : Rs} (r0 : Rep X.K τ H0 γ H1 σ ρ) (e : Ext τ H1 H2) (e2 : Ext τ H2 H') (l : r.lf = true) (h : RtV X.K τ H2 H' v r) : RsOk X.K τ H1 H' σ ρ v r := by
  have r' := (r0.after e).after e2
  cases r with
  | dat d => exact r'.lfRes (fun a z => r'.ownMut z) res_le (fun _ _ => res_ok) l h
  | lst ds =>
    obtain ⟨a, vs, rfl, hn, he, ha⟩ := h
    refine ⟨a, vs, rfl, e.fresh r0.inv hn, he, ?_⟩
    exact dpAll_lf (fun b xs h => by
      have nm : ∀ u : HO, H' b = some u → ¬ Mv u → ¬ (own τ σ ρ b ∨ b = a) := fun u e n z => by
        rcases z with z | z
        · obtain ⟨o, e', m⟩ := r'.ownMut z
          rw [e] at e'; cases e'
          exact n m
        · rw [z, he] at e; cases e
          exact n trivial
      rcases h with h | ⟨o, h⟩
      · exact .inl (res_put (nm _ (res_at h) fun z => z) (res_at h) (res_ok h))
      · exact .inr ⟨o, res_put (nm _ (res_at h) fun z => z) (res_at h) (res_ok h)⟩) ds vs l ha
  | dic kds =>
    obtain ⟨a, kvs, rfl, hn, he, ha⟩ := h
    refine ⟨a, kvs, rfl, e.fresh r0.inv hn, he, ?_⟩
    have nm : ∀ (b : Addr) (u : HO), H' b = some u → ¬ Mv u → ¬ (own τ σ ρ b ∨ b = a) := fun b u e n z => by
      rcases z with z | z
      · obtain ⟨o, e', m⟩ := r'.ownMut z
        rw [e] at e'; cases e'
        exact n m
      · rw [z, he] at e; cases e
        exact n trivial
    have go : ∀ {kvs : List (Key × V)} {kds : List (Key × D)}, lfAll (kds.map (·.2)) = true → KvOk X.K (res H' (fun b => τ.ad b ∨ b = a)) kvs kds → KvOk X.K (res H' (fun b => own τ σ ρ b ∨ b = a)) kvs kds := by
      intro kvs kds l ha
      induction ha with
      | nil => exact .nil
      | cons h1 h2 ih =>
        simp only [List.map_cons, lfAll, Bool.and_eq_true] at l
        refine .cons ⟨h1.1, dp_lf (fun b xs h => ?_) _ _ l.1 h1.2⟩ (ih l.2)
        rcases h with h | ⟨o, h⟩
        · exact .inl (res_put (nm b _ (res_at h) fun z => z) (res_at h) (res_ok h))
        · exact .inr ⟨o, res_put (nm b _ (res_at h) fun z => z) (res_at h) (res_ok h)⟩
    exact go l ha
def eCall (S : Sf) (t : UA) : UE := fun ρ C => t ρ fun as => S as C
theorem je_call (O : Ok cp G N sc k X) (F : FnD G τ j x ps S) (ha : JA τ X (e :: es) ta) (hj : j ≤ k := by decide) (hg : sc.names.lookup x = some .globalImplicit := by rfl) (hdb : (x == ("__debug__" : Str)) = false := by decide)
    (he : starEach (e :: es) X.env = (false, eval e X.env) :: starEach es X.env := by rfl) (hpl : (backTo pos (starEach es X.env)).any (·.1) = false := by rfl) : JE τ X (.Call (.Name x p) (e :: es) [] pos) (eCall S ta) := by
  obtain ⟨f, fd, F, hm, hk, hb⟩ := F.ex
  intro ρ C c H0 γ σ H r Q q
  refine wpE_of (pe_call (CX := CX0) (k := j) (sp := spD G τ S) (E := E0) (dvs := []) (ds := []) (by rw [O.eP, O.ew, O.eK, O.em, O.eb]; exact F) (O.room.mono hj) (by show X.env.scope.names.lookup x = _; rw [O.es]; exact hg) (by rw [O.em]; exact hm) (by rw [O.eK]; exact hk) (by rw [O.eK]; exact hb) .nil pass0 pa_w hdb he hpl) ?_
  refine ha ρ _ c H0 γ σ H r _ fun as vs H2 c e1 h2 _ => ?_
  rw [List.append_nil]
  refine ⟨as, C, by rw [← O.eK]; exact h2, (r.after e1).inv, c, fun rs v H' l c e2 h => q rs v H' c (e1.trans e2) ?_⟩
  rw [← O.eK] at h
  exact RtV.rs r e1 e2 l h
theorem je_call0 (O : Ok cp G N sc k X) (F : FnD G τ j x ps S) (hj : j ≤ k := by decide) (hg : sc.names.lookup x = some .globalImplicit := by rfl) (hdb : (x == ("__debug__" : Str)) = false := by decide) : JE τ X (.Call (.Name x p) [] [] pos) (eCall S aNil) := by
  obtain ⟨f, fd, F, hm, hk, hb⟩ := F.ex
  intro ρ C c H0 γ σ H r Q q
  refine wpE_of (pe_call0 (CX := CX0) (k := j) (sp := spD G τ S) (E := E0) (dvs := []) (ds := []) (by rw [O.eP, O.ew, O.eK, O.em, O.eb]; exact F) (O.room.mono hj) (by show X.env.scope.names.lookup x = _; rw [O.es]; exact hg) (by rw [O.em]; exact hm) (by rw [O.eK]; exact hk) (by rw [O.eK]; exact hb) .nil pass0 hdb) ?_
  refine ⟨[], C, .nil, r.inv, c, fun rs v H' l c e2 h => q rs v H' c e2 ?_⟩
  rw [← O.eK] at h
  exact RtV.rs r .refl e2 l h
def eCallK (S : Sf) (g : List Ar → List Ar → List Ar) (t u : UA) : UE := fun ρ C => t ρ fun as => u ρ fun bs => S (g as bs) C
theorem je_callK {g : List Ar → List Ar → List Ar} (O : Ok cp G N sc k X) (F : FnK G τ j x ps S n ks g) (ha : JA τ X (e :: es) ta) (hkw : JK τ X kws tk) (hn : (e :: es).length = n := by rfl) (hn2 : kws.length = ks.length := by rfl) (hj : j ≤ k := by decide) (hg : sc.names.lookup x = some .globalImplicit := by rfl)
    (hall : (backToKw pos (keywordEach kws X.env)).all (·.1.isSome) = true := by rfl) (hks : (backToKw pos (keywordEach kws X.env)).filterMap (·.1) = ks := by rfl)
    (hdb : (x == ("__debug__" : Str)) = false := by decide) (he : starEach (e :: es) X.env = (false, eval e X.env) :: starEach es X.env := by rfl)
    (hpl : ((backTo pos (starEach (e :: es) X.env)).any (·.1) || (backToKw pos (keywordEach kws X.env)).any (·.1.isNone)) = false := by rfl) : JE τ X (.Call (.Name x p) (e :: es) kws pos) (eCallK S g ta tk) := by
  obtain ⟨f, fd, gU, gV, F, hm, hk, hb, hrel⟩ := F.ex
  intro ρ C c H0 γ σ H r Q q
  refine wpE_of (pe_callN (CX := CX0) (k := j) (sp := spD G τ S) (E := E0) (by rw [O.eP, O.ew, O.eK, O.em, O.eb]; exact F) (O.room.mono hj) (by show X.env.scope.names.lookup x = _; rw [O.es]; exact hg) (by rw [O.em]; exact hm) (by rw [O.eK]; exact hk) (by rw [O.eK]; exact hb) pass0 pa_w pk_w hall hks hdb he hpl) ?_
  refine ha ρ _ c H0 γ σ H r _ fun as vs H2 c e1 h2 l1 => hkw ρ _ c H0 γ σ H2 (r.after e1) _ fun bs zs H3 c e2 h3 l2 => ⟨l1.trans hn, l2.trans hn2, ?_⟩
  refine ⟨_, C, ?_, ((r.after e1).after e2).inv, c, fun rs v H' l c e3 h => q rs v H' c ((e1.trans e2).trans e3) ?_⟩
  · have h4 := hrel X.K H3 vs zs as bs (arsOk_after e2 h2) h3
    rw [O.eK] at h4
    exact h4
  · rw [← O.eK] at h
    exact RtV.rs r (e1.trans e2) e3 l h
/-! f(k = v, ..) with no place-wise value -/
def tCallN0 (m : Nat) (sp : Sp) (gV : List V → List V → List V) (E : XK) (tk : TA) : TE := fun σ H Q => tk σ H fun zs H2 => zs.length = m ∧ sp (gV [] zs) H2 Q E
theorem pe_callN0 {X : Cx} {CX : CXT} {k : Nat} {f : Addr} {fd : FuncData} {ps ks : List Str} {sp : Sp} {E : XK} {x : Str} {p pos : Pos} {kws : List Keyword} {tk : TA} {g : List Value → List Value → List Value} {gV : List V → List V → List V}
    (F : FnOk X.prog X.w X.K X.mg X.base CX k f fd ps sp) (hr : Room k X.A) (hg : Gl X x) (hm : X.mg x = some (.ref f)) (hk : PySem.W.keepIn X.K (.ref f) = true) (hb : KBn X.K fd ps 0 ks g gV) (hx : Passes CX X E)
    (hkw : PK X kws tk) (hall : (backToKw pos (keywordEach kws X.env)).all (·.1.isSome) = true := by rfl) (hks : (backToKw pos (keywordEach kws X.env)).filterMap (·.1) = ks := by rfl)
    (hdb : (x == ("__debug__" : Str)) = false := by decide)
    (hpl : ((backTo pos (starEach [] X.env)).any (·.1) || (backToKw pos (keywordEach kws X.env)).any (·.1.isNone)) = false := by rfl) :
    PE X (.Call (.Name x p) [] kws pos) (tCallN0 ks.length sp gV E tk) := by
  refine ⟨fun pins s σ H Q I h => ?_⟩
  refine wpAny_Call_Name_kw (ld_glob I hg hm ?_ hdb)
  refine PySem.W.callWith_KW0 (h₀ := X.base) I.ok.mod.kin hk hall ?_ hpl
  refine thn (hkw.run pos pins s σ H _ I h) fun ws s2 ⟨zs, H2, I2, rz, l2, q2⟩ => ⟨I2.kIn, ?_⟩
  rw [hks]
  exact run_fnN F hr hb hx I2 .nil rz rfl l2 q2
theorem je_callK0 {g : List Ar → List Ar → List Ar} (O : Ok cp G N sc k X) (F : FnK G τ j x ps S 0 ks g) (hkw : JK τ X kws tk) (hn2 : kws.length = ks.length := by rfl) (hj : j ≤ k := by decide) (hg : sc.names.lookup x = some .globalImplicit := by rfl)
    (hall : (backToKw pos (keywordEach kws X.env)).all (·.1.isSome) = true := by rfl) (hks : (backToKw pos (keywordEach kws X.env)).filterMap (·.1) = ks := by rfl)
    (hdb : (x == ("__debug__" : Str)) = false := by decide)
    (hpl : ((backTo pos (starEach [] X.env)).any (·.1) || (backToKw pos (keywordEach kws X.env)).any (·.1.isNone)) = false := by rfl) : JE τ X (.Call (.Name x p) [] kws pos) (eCallK S g aNil tk) := by
  obtain ⟨f, fd, gU, gV, F, hm, hk, hb, hrel⟩ := F.ex
  intro ρ C c H0 γ σ H r Q q
  refine wpE_of (pe_callN0 (CX := CX0) (k := j) (sp := spD G τ S) (E := E0) (by rw [O.eP, O.ew, O.eK, O.em, O.eb]; exact F) (O.room.mono hj) (by show X.env.scope.names.lookup x = _; rw [O.es]; exact hg) (by rw [O.em]; exact hm) (by rw [O.eK]; exact hk) (by rw [O.eK]; exact hb) pass0 pk_w hall hks hdb hpl) ?_
  refine hkw ρ _ c H0 γ σ H r _ fun bs zs H3 c e2 h3 l2 => ⟨l2.trans hn2, ?_⟩
  refine ⟨_, C, ?_, (r.after e2).inv, c, fun rs v H' l c e3 h => q rs v H' c (e2.trans e3) ?_⟩
  · have h4 := hrel X.K H3 [] zs [] bs .nil h3
    rw [O.eK] at h4
    exact h4
  · rw [← O.eK] at h
    exact RtV.rs r e2 e3 l h
/-! ### built-ins -/
def Cb (X : Cx) (r : List V → Hp → VK → Prop) (f : List D → (Rs → Prop) → Prop) : Prop := ∀ (τ : Tn) (H0 H : Hp) (γ : List (V × D)) (σ : St) (ρ : En) (vs : List V) (ds : List D) (C : Rs → Prop), Rep X.K τ H0 γ H σ ρ →
  Paired (fun v d => Bo X.K τ H (res H (own τ σ ρ)) v d) vs ds → f ds C → ∀ Q : VK, (∀ rs v H2, C rs → Ext τ H H2 → RsOk X.K τ H H2 σ ρ v rs → Q v H2) → r vs H Q
def eB (f : List D → (Rs → Prop) → Prop) (t : UL) : UE := fun ρ C => t ρ fun ds => f ds C
/-- the name x is the built-in's still -/
def Free (G : Gx) (x : Str) : Prop := G.mg x = none
theorem rs_back {H1 H2 H' : Hp} {H0 : Hp} {γ : List (V × D)} {σ : St} {ρ : En} {v : V} {r : Rs} (r0 : Rep X.K τ H0 γ H1 σ ρ) (e : Ext τ H1 H2) (h : RsOk X.K τ H2 H' σ ρ v r) : RsOk X.K τ H1 H' σ ρ v r := by
  cases r with
  | dat d => exact h
  | lst ds =>
    obtain ⟨p, vs, h1, h2, h3⟩ := h
    exact ⟨p, vs, h1, e.fresh r0.inv h2, h3⟩
  | dic ds =>
    obtain ⟨p, vs, h1, h2, h3⟩ := h
    exact ⟨p, vs, h1, e.fresh r0.inv h2, h3⟩
theorem je_blt {id : String} {r : List V → Hp → VK → Prop} {f : List D → (Rs → Prop) → Prop} {ts : UL} (O : Ok cp G N sc k X) (hc : CallR X (.builtin id) r) (hf : Cb X r f) (hm : Free G x) (ha : JVs τ X (e :: es) ts) (hv : bootBuiltins x = some (.builtin id)) (hg : sc.names.lookup x = some .globalImplicit := by rfl)
    (hn : x ≠ "__name__" := by decide) (hdb : (x == ("__debug__" : Str)) = false := by decide) (he : starEach (e :: es) X.env = (false, eval e X.env) :: starEach es X.env := by rfl) (hpl : (backTo pos (starEach es X.env)).any (·.1) = false := by rfl) :
    JE τ X (.Call (.Name x p) (e :: es) [] pos) (eB f ts) := fun ρ C c H0 γ σ H r Q q =>
  wpE_of (pe_callB hc (by show X.env.scope.names.lookup x = _; rw [O.es]; exact hg) (by rw [O.em]; exact hm) hv pa_w hn hdb he hpl) (ha ρ _ c H0 γ σ H r _ fun ds vs H2 c e1 b => hf τ H0 H2 γ σ ρ vs ds C (r.after e1) b c Q fun rs v H3 c e2 h => q rs v H3 c (e1.trans e2) (rs_back r e1 h))
theorem je_bty {T : String} {r : List V → Hp → VK → Prop} {f : List D → (Rs → Prop) → Prop} {ts : UL} (O : Ok cp G N sc k X) (hc : CallR X (.type T) r) (hf : Cb X r f) (hm : Free G x) (ha : JVs τ X (e :: es) ts) (hv : bootBuiltins x = some (.type T)) (hg : sc.names.lookup x = some .globalImplicit := by rfl)
    (hn : x ≠ "__name__" := by decide) (hdb : (x == ("__debug__" : Str)) = false := by decide) (he : starEach (e :: es) X.env = (false, eval e X.env) :: starEach es X.env := by rfl) (hpl : (backTo pos (starEach es X.env)).any (·.1) = false := by rfl) :
    JE τ X (.Call (.Name x p) (e :: es) [] pos) (eB f ts) := fun ρ C c H0 γ σ H r Q q =>
  wpE_of (pe_callTy hc (by show X.env.scope.names.lookup x = _; rw [O.es]; exact hg) (by rw [O.em]; exact hm) hv pa_w hn hdb he hpl) (ha ρ _ c H0 γ σ H r _ fun ds vs H2 c e1 b => hf τ H0 H2 γ σ ρ vs ds C (r.after e1) b c Q fun rs v H3 c e2 h => q rs v H3 c (e1.trans e2) (rs_back r e1 h))
end
end Pu
namespace Pu
open PySem PySem.Spec PyProof.Rows L2
section
variable {X : Cx}
theorem paired1 {R : V → D → Prop} {vs : List V} {d : D} (h : Paired R vs [d]) : ∃ v, vs = [v] ∧ R v d := by
  cases h with
  | cons h t => cases t; exact ⟨_, rfl, h⟩
theorem paired2 {R : V → D → Prop} {vs : List V} {d e : D} (h : Paired R vs [d, e]) : ∃ v w, vs = [v, w] ∧ R v d ∧ R w e := by
  cases h with
  | cons h t =>
    cases t with
    | cons h2 t => cases t; exact ⟨_, _, rfl, h, h2⟩
def fLen : List D → (Rs → Prop) → Prop
  | [.list ds], C => C (.dat (.int ds.length))
  | [.tuple ds], C => C (.dat (.int ds.length))
  | [.str x], C => x.length ≤ 1000000 ∧ C (.dat (.int x.length))
  | _, _ => False
theorem fLen_ok : Cb X (fun xs H Q => ∃ x n, xs = [x] ∧ LenV X.K x H n ∧ Q (.int n) H) fLen := fun τ H0 H γ σ ρ vs ds C r b f Q q => by
  unfold fLen at f
  split at f
  · obtain ⟨v, rfl, p, ws, rfl, hs, ha⟩ := paired1 b
    exact ⟨_, _, rfl, .inl ⟨ws, sqL_same res_le hs, rfl⟩, by rw [dpAll_len ha]; exact q _ _ H f .refl (.int _)⟩
  · obtain ⟨v, rfl, p, ws, rfl, hs, ha⟩ := paired1 b
    exact ⟨_, _, rfl, .inr ⟨ws, sqT_same res_le hs, rfl⟩, by rw [dpAll_len ha]; exact q _ _ H f .refl (.int _)⟩
  · obtain ⟨v, rfl, e⟩ := paired1 b
    cases e
    exact ⟨_, _, rfl, ⟨small_line f.1, rfl⟩, q _ _ H f.2 .refl (.int _)⟩
  · exact f.elim
def fI1 (g : Int → Int) : List D → (Rs → Prop) → Prop
  | [.int i], C => C (.dat (.int (g i)))
  | _, _ => False
def fI2 (g : Int → Int → Int) : List D → (Rs → Prop) → Prop
  | [.int i, .int j], C => C (.dat (.int (g i j)))
  | _, _ => False
abbrev fAbs := fI1 fun i => if i < 0 then -i else i
theorem fAbs_ok : Cb X (fun xs H Q => ∃ i, xs = [.int i] ∧ Q (.int (if i < 0 then -i else i)) H) fAbs := fun τ H0 H γ σ ρ vs ds C r b f Q q => by
  unfold fAbs fI1 at f
  split at f
  · obtain ⟨v, rfl, e⟩ := paired1 b
    cases e
    exact ⟨_, rfl, q _ _ H f .refl (.int _)⟩
  · exact f.elim
theorem fI2_ok {g : Int → Int → Int} : Cb X (fun xs H Q => ∃ i j, xs = [.int i, .int j] ∧ Q (.int (g i j)) H) (fI2 g) := fun τ H0 H γ σ ρ vs ds C r b f Q q => by
  unfold fI2 at f
  split at f
  · obtain ⟨v, w, rfl, e1, e2⟩ := paired2 b
    cases e1; cases e2
    exact ⟨_, _, rfl, q _ _ H f .refl (.int _)⟩
  · exact f.elim
abbrev fMax2 := fI2 fun i j => if j > i then j else i
abbrev fMin2 := fI2 fun i j => if j < i then j else i
/-! the least, the greatest of a tuple of ints -/
def rMaxT (K : PySem.W.Frag) : List V → Hp → VK → Prop := fun vs H Q => ∃ (a : Addr) (ns : List Int), vs = [V.ref a] ∧ SqT K H a (ns.map V.int) ∧ 0 < ns.length ∧ ∀ m, m ∈ ns → (∀ y, y ∈ ns → y ≤ m) → Q (.int m) H
def rMinT (K : PySem.W.Frag) : List V → Hp → VK → Prop := fun vs H Q => ∃ (a : Addr) (ns : List Int), vs = [V.ref a] ∧ SqT K H a (ns.map V.int) ∧ 0 < ns.length ∧ ∀ m, m ∈ ns → (∀ y, y ∈ ns → m ≤ y) → Q (.int m) H
theorem dp_ints {K : PySem.W.Frag} {H : Hp} : ∀ ns : List Int, DpAll K H (ns.map V.int) (ns.map PyData.int)
  | [] => .nil
  | _ :: ns => .cons (.int _) (dp_ints ns)
theorem min_fold : ∀ (ns : List Int) (n : Int), ns.foldl min n ∈ n :: ns ∧ ∀ y ∈ n :: ns, ns.foldl min n ≤ y
  | [], n => by simp
  | k :: ns, n => by
    obtain ⟨h1, h2⟩ := min_fold ns (min n k)
    have h0 := h2 _ (List.mem_cons_self ..)
    rw [List.foldl_cons]
    refine ⟨?_, fun y hy => ?_⟩
    · rcases List.mem_cons.mp h1 with h | h
      · rw [h]
        rcases Int.le_total n k with c | c
        · rw [Int.min_eq_left c]; simp
        · rw [Int.min_eq_right c]; simp
      · simp [h]
    · rcases List.mem_cons.mp hy with rfl | hy
      · omega
      · rcases List.mem_cons.mp hy with rfl | hy
        · omega
        · exact h2 y (List.mem_cons_of_mem _ hy)
theorem max_fold : ∀ (ns : List Int) (n : Int), ns.foldl max n ∈ n :: ns ∧ ∀ y ∈ n :: ns, y ≤ ns.foldl max n
  | [], n => by simp
  | k :: ns, n => by
    obtain ⟨h1, h2⟩ := max_fold ns (max n k)
    have h0 := h2 _ (List.mem_cons_self ..)
    rw [List.foldl_cons]
    refine ⟨?_, fun y hy => ?_⟩
    · rcases List.mem_cons.mp h1 with h | h
      · rw [h]
        rcases Int.le_total n k with c | c
        · rw [Int.max_eq_right c]; simp
        · rw [Int.max_eq_left c]; simp
      · simp [h]
    · rcases List.mem_cons.mp hy with rfl | hy
      · omega
      · rcases List.mem_cons.mp hy with rfl | hy
        · omega
        · exact h2 y (List.mem_cons_of_mem _ hy)
theorem min_ints (ns : List Int) (n : Int) : ∃ m, PySem.W.minD (.int n) (ns.map PyData.int) = .int m ∧ m ∈ n :: ns ∧ ∀ y ∈ n :: ns, m ≤ y := ⟨_, PySem.W.minD_ints n ns, min_fold ns n⟩
theorem max_ints (ns : List Int) (n : Int) : ∃ m, PySem.W.maxD (.int n) (ns.map PyData.int) = .int m ∧ m ∈ n :: ns ∧ ∀ y ∈ n :: ns, y ≤ m := ⟨_, PySem.W.maxD_ints n ns, max_fold ns n⟩
theorem alike_ints (ns : List Int) : PySem.W.AlikeAll (ns.map PyData.int) := by
  refine ⟨fun x hx y hy => ?_, fun x hx => ?_⟩
  · obtain ⟨a, _, rfl⟩ := List.mem_map.mp hx
    obtain ⟨b, _, rfl⟩ := List.mem_map.mp hy
    rfl
  · obtain ⟨a, _, rfl⟩ := List.mem_map.mp hx
    simp
theorem depth_ints : ∀ ns : List Int, PyData.depthAll (ns.map PyData.int) = 0
  | [] => rfl
  | _ :: ns => by simp [PyData.depthAll, PyData.depth, depth_ints ns]
theorem reads_int {h : Heap} {v : Value} {m : Int} {bs : List Addr} (r : Reads h v (.int m) bs) : ∃ t, v = .int m t := by
  cases r; exact ⟨_, rfl⟩
theorem cr_minT (hc : X.calm = true) (hu : X.A.units + 65 < cLine) : CallR X (.builtin "min") (rMinT X.K) := by
  intro pins s σ H vs us Q I r h
  obtain ⟨a, ns, rfl, hs, hne, q⟩ := h
  obtain ⟨its, rv, hl, _⟩ := I.tuple hs
  rw [Vals.ref1 r]
  cases ns with
  | nil => exact absurd hne (by simp)
  | cons n ns =>
    obtain ⟨as, hr⟩ := Dp.readsAll I ((n :: ns).map PyData.int) _ its (dp_ints _) rv
    obtain ⟨m, em, h1, h2⟩ := min_ints ns n
    refine PySem.W.min_tuple_data (x := .int n) (xs := ns.map PyData.int) (I.ok.hd hc) hl hr (alike_ints (n :: ns)) (by have := depth_ints (n :: ns); rw [List.map_cons] at this; rw [this]; omega) fun i v h' tk bs hv rd hk => ?_
    rw [em] at rd
    obtain ⟨t, rfl⟩ := reads_int rd
    exact ⟨.int _, H, I.kept hk, ⟨_, rfl⟩, q m h1 h2⟩
theorem cr_maxT (hc : X.calm = true) (hu : X.A.units + 65 < cLine) : CallR X (.builtin "max") (rMaxT X.K) := by
  intro pins s σ H vs us Q I r h
  obtain ⟨a, ns, rfl, hs, hne, q⟩ := h
  obtain ⟨its, rv, hl, _⟩ := I.tuple hs
  rw [Vals.ref1 r]
  cases ns with
  | nil => exact absurd hne (by simp)
  | cons n ns =>
    obtain ⟨as, hr⟩ := Dp.readsAll I ((n :: ns).map PyData.int) _ its (dp_ints _) rv
    obtain ⟨m, em, h1, h2⟩ := max_ints ns n
    refine PySem.W.max_tuple_data (x := .int n) (xs := ns.map PyData.int) (I.ok.hd hc) hl hr (alike_ints (n :: ns)) (by have := depth_ints (n :: ns); rw [List.map_cons] at this; rw [this]; omega) fun i v h' tk bs hv rd hk => ?_
    rw [em] at rd
    obtain ⟨t, rfl⟩ := reads_int rd
    exact ⟨.int _, H, I.kept hk, ⟨_, rfl⟩, q m h1 h2⟩
/-- the greatest, the least of a list, of a tuple of ints -/
def fMaxL : List D → (Rs → Prop) → Prop
  | [.list ds], C => ∃ ns, intsOf ds = some ns ∧ 0 < ns.length ∧ ∀ m, m ∈ ns → (∀ y, y ∈ ns → y ≤ m) → C (.dat (.int m))
  | [.tuple ds], C => ∃ ns, intsOf ds = some ns ∧ 0 < ns.length ∧ ∀ m, m ∈ ns → (∀ y, y ∈ ns → y ≤ m) → C (.dat (.int m))
  | _, _ => False
def fMinL : List D → (Rs → Prop) → Prop
  | [.list ds], C => ∃ ns, intsOf ds = some ns ∧ 0 < ns.length ∧ ∀ m, m ∈ ns → (∀ y, y ∈ ns → m ≤ y) → C (.dat (.int m))
  | [.tuple ds], C => ∃ ns, intsOf ds = some ns ∧ 0 < ns.length ∧ ∀ m, m ∈ ns → (∀ y, y ∈ ns → m ≤ y) → C (.dat (.int m))
  | _, _ => False
theorem fMaxL_ok : Cb X (fun vs H Q => rMax X.K vs H Q ∨ rMaxT X.K vs H Q) fMaxL := fun τ H0 H γ σ ρ vs ds C r b f Q q => by
  unfold fMaxL at f
  split at f
  · obtain ⟨v, rfl, p, ws, rfl, hs, ha⟩ := paired1 b
    obtain ⟨ns, h1, h2, h3⟩ := f
    have e := intsOf_dp h1 ha
    subst e
    exact .inl ⟨p, ns, rfl, sqL_same res_le hs, h2, fun m hm hy => q _ _ H (h3 m hm hy) .refl (.int _)⟩
  · obtain ⟨v, rfl, p, ws, rfl, hs, ha⟩ := paired1 b
    obtain ⟨ns, h1, h2, h3⟩ := f
    have e := intsOf_dp h1 ha
    subst e
    exact .inr ⟨p, ns, rfl, sqT_same res_le hs, h2, fun m hm hy => q _ _ H (h3 m hm hy) .refl (.int _)⟩
  · exact f.elim
theorem fMinL_ok : Cb X (fun vs H Q => rMin X.K vs H Q ∨ rMinT X.K vs H Q) fMinL := fun τ H0 H γ σ ρ vs ds C r b f Q q => by
  unfold fMinL at f
  split at f
  · obtain ⟨v, rfl, p, ws, rfl, hs, ha⟩ := paired1 b
    obtain ⟨ns, h1, h2, h3⟩ := f
    have e := intsOf_dp h1 ha
    subst e
    exact .inl ⟨p, ns, rfl, sqL_same res_le hs, h2, fun m hm hy => q _ _ H (h3 m hm hy) .refl (.int _)⟩
  · obtain ⟨v, rfl, p, ws, rfl, hs, ha⟩ := paired1 b
    obtain ⟨ns, h1, h2, h3⟩ := f
    have e := intsOf_dp h1 ha
    subst e
    exact .inr ⟨p, ns, rfl, sqT_same res_le hs, h2, fun m hm hy => q _ _ H (h3 m hm hy) .refl (.int _)⟩
  · exact f.elim
/-! sum of a list, of a tuple -/
def rSumT (K : PySem.W.Frag) : List V → Hp → VK → Prop := fun vs H Q => ∃ (a : Addr) (ns : List Int), vs = [V.ref a] ∧ SqT K H a (ns.map V.int) ∧ Q (.int ns.sum) H
theorem cr_sumT (hc : X.calm = true) : CallR X (.builtin "sum") (rSumT X.K) := by
  intro pins s σ H vs us Q I r h
  obtain ⟨a, ns, rfl, hs, q⟩ := h
  obtain ⟨its, rv, hl, _⟩ := I.tuple hs
  rw [Vals.ref1 r]
  have hi : IntsAre its ns := rv.ints
  obtain ⟨xs, hx⟩ := hi.allInts.items
  have hn : numsOf its.toArray.toList = ns := by rw [show its.toArray.toList = its from rfl, hi.numsOf]
  have hl' : s.heap.IsTuple a its.toArray := hl
  rw [hx] at hl' hn
  rw [nums_intItems] at hn
  refine PySem.W.ktm_sumG (I.ok.hd hc) hl' fun h' tk t' hk => ?_
  rw [preSum_eq, List.take_of_length_le (by simp), hn]
  exact ⟨.int _, H, I.kept hk, ⟨_, rfl⟩, q⟩
def fSum : List D → (Rs → Prop) → Prop
  | [.list ds], C => ∃ ns, intsOf ds = some ns ∧ C (.dat (.int ns.sum))
  | [.tuple ds], C => ∃ ns, intsOf ds = some ns ∧ C (.dat (.int ns.sum))
  | _, _ => False
theorem fSum_ok : Cb X (fun vs H Q => rSum X.K vs H Q ∨ rSumT X.K vs H Q) fSum := fun τ H0 H γ σ ρ vs ds C r b f Q q => by
  unfold fSum at f
  split at f
  · obtain ⟨v, rfl, p, ws, rfl, hs, ha⟩ := paired1 b
    obtain ⟨ns, h1, h2⟩ := f
    have e := intsOf_dp h1 ha
    subst e
    exact .inl ⟨p, ns, rfl, sqL_same res_le hs, q _ _ H h2 .refl (.int _)⟩
  · obtain ⟨v, rfl, p, ws, rfl, hs, ha⟩ := paired1 b
    obtain ⟨ns, h1, h2⟩ := f
    have e := intsOf_dp h1 ha
    subst e
    exact .inr ⟨p, ns, rfl, sqT_same res_le hs, q _ _ H h2 .refl (.int _)⟩
  · exact f.elim
def fTuple : List D → (Rs → Prop) → Prop
  | [.list ds], C => C (.dat (.tuple ds))
  | [.tuple ds], C => C (.dat (.tuple ds))
  | _, _ => False
/-- tuple(x), laid plainly -/
def rTupP (K : PySem.W.Frag) : List V → Hp → VK → Prop := fun xs H Q => ∃ p ys, xs = [.ref p] ∧ ((SqL K H p ys ∧ ∀ l o, o.dict = none → H l = none → Q (.ref l) (upd H l (.frz o (.tup ys)))) ∨ (SqT K H p ys ∧ Q (.ref p) H))
theorem call_tupP : CallR X (.type "tuple") (rTupP X.K) := by
  intro pins s σ H xs us Q I r h
  obtain ⟨p, ys, rfl, h⟩ := h
  obtain ⟨u, rfl, rx⟩ := vals1 r
  cases rx
  rcases h with ⟨hq, q⟩ | ⟨hq, q⟩
  · obtain ⟨us, r', pl, hz⟩ := I.list hq
    have hl := r'.length
    refine call_tuple_list pl.isList (fun h' kp => ?_) (by simp only [List.size_toArray]; omega)
    have I1 : Inv X pins σ H { s with heap := h' } := I.kept (t' := s.toks) kp
    exact ⟨.ref h'.objs.size, _, inv_plT (t' := s.toks) I1 hz r', rfl, q _ _ rfl (I1.hok.fresh (Nat.le_refl _))⟩
  · obtain ⟨us, r', pl, _⟩ := I.tuple hq
    exact call_tuple_same pl ⟨.ref p, H, I, rfl, q⟩
theorem fTuple_ok : Cb X (rTupP X.K) fTuple := fun τ H0 H γ σ ρ vs ds C r b f Q q => by
  unfold fTuple at f
  split at f
  · obtain ⟨v, rfl, p, ws, rfl, hs, ha⟩ := paired1 b
    exact ⟨p, ws, rfl, .inl ⟨sqL_same res_le hs, fun l o ho hl => q _ _ _ f (.new hl) (.tup (.inl (.inr ⟨o, res_put (r.notOwn hl) upd_same ho⟩)) (dpAll_after (.new hl) ha))⟩⟩
  · obtain ⟨v, rfl, p, ws, rfl, hs, ha⟩ := paired1 b
    exact ⟨p, ws, rfl, .inr ⟨sqT_same res_le hs, q _ _ _ f .refl (.tup (sqT_of_mut r hs) ha)⟩⟩
  · exact f.elim
def fList : List D → (Rs → Prop) → Prop
  | [.list ds], C => C (.lst ds)
  | [.tuple ds], C => C (.lst ds)
  | _, _ => False
theorem new_lst {τ : Tn} {H0 H : Hp} {γ : List (V × D)} {σ : St} {ρ : En} {vs : List V} {ds : List D} {l : Addr} (r : Rep X.K τ H0 γ H σ ρ) (hl : H l = none) (h : DpAll X.K (res H (own τ σ ρ)) vs ds) : RsOk X.K τ H (upd H l (.lst vs)) σ ρ (.ref l) (.lst ds) :=
  ⟨l, vs, rfl, hl, upd_same, dpAll_same (res_mono fun a o n ea => by
      have hne : a ≠ l := ne_of_none ea hl
      exact ⟨fun z => z.elim n hne, by rw [upd_ne hne]; exact ea⟩) _ _ h⟩
/-! x + y, as a thing of its own -/
def fAddE : D → D → (Rs → Prop) → Prop
  | .list xs, .list ys, C => xs.length + ys.length ≤ 1000000 ∧ C (.lst (xs ++ ys))
  | x, y, C => fAdd x y fun d => C (.dat d)
def eAdd (t u : UV) : UE := fun ρ C => t ρ fun x => u ρ fun y => fAddE x y C
theorem je_add {τ : Tn} {a b : Expr} {t u : UV} {pos : Pos} (ha : JV τ X a t) (hb : JV τ X b u) : JE τ X (.BinOp a .Add b pos) (eAdd t u) := fun ρ C c H0 γ σ H r Q q =>
  wpE_of (pe_op op_addU pe_w pe_w) (ha ρ _ c H0 γ σ H r _ fun d1 v1 H2 c e b1 => hb ρ _ c H0 γ σ H2 (r.after e) _ fun d2 v2 H3 c e2 b2 => by
    have r3 := (r.after e).after e2
    have b1' := b1.after e2
    by_cases hl : ∃ xs ys, d1 = .list xs ∧ d2 = .list ys
    · obtain ⟨xs, ys, rfl, rfl⟩ := hl
      obtain ⟨a, vs, rfl, hs, ha⟩ := b1'
      obtain ⟨b, ws, rfl, ht, hb⟩ := b2
      refine .inr (.inr (.inr ⟨a, b, vs, ws, rfl, rfl, sqL_same res_le hs, sqL_same res_le ht, by rw [dpAll_len ha, dpAll_len hb]; exact small_line c.1, fun p hp => ?_⟩))
      exact q _ _ _ c.2 ((e.trans e2).trans (.new hp)) (rs_back r (e.trans e2) (new_lst r3 hp (dpAll_append ha hb)))
    · have c' : fAdd d1 d2 fun d => C (.dat d) := by
        unfold fAddE at c
        split at c
        · exact absurd ⟨_, _, rfl, rfl⟩ hl
        · exact c
      exact fAdd_ok _ _ _ _ _ _ _ _ _ _ _ r3 b1' b2 c' Q fun d v H4 c e4 h => q _ v H4 c ((e.trans e2).trans e4) h)
theorem fList_ok : Cb X (fun xs H Q => ∃ p ys, xs = [.ref p] ∧ (SqL X.K H p ys ∨ SqT X.K H p ys) ∧ ∀ l, H l = none → Q (.ref l) (upd H l (.lst ys))) fList := fun τ H0 H γ σ ρ vs ds C r b f Q q => by
  unfold fList at f
  split at f
  · obtain ⟨v, rfl, p, ws, rfl, hs, ha⟩ := paired1 b
    exact ⟨p, ws, rfl, .inl (sqL_same res_le hs), fun l hl => q _ _ _ f (.new hl) (new_lst r hl ha)⟩
  · obtain ⟨v, rfl, p, ws, rfl, hs, ha⟩ := paired1 b
    exact ⟨p, ws, rfl, .inr (sqT_same res_le hs), fun l hl => q _ _ _ f (.new hl) (new_lst r hl ha)⟩
  · exact f.elim
def fDivmod : List D → (Rs → Prop) → Prop
  | [.int i, .int j], C => CDiv i j ∧ C (.dat (.tuple [.int (i / j), .int (i % j)]))
  | _, _ => False
theorem fDivmod_ok : Cb X (fun xs H Q => ∃ i j, xs = [.int i, .int j] ∧ CDiv i j ∧ ∀ p, H p = none → Q (.ref p) (upd H p (.tup [.int (i / j), .int (i % j)]))) fDivmod := fun τ H0 H γ σ ρ vs ds C r b f Q q => by
  unfold fDivmod at f
  split at f
  · obtain ⟨v, w, rfl, e1, e2⟩ := paired2 b
    cases e1; cases e2
    exact ⟨_, _, rfl, f.1, fun l hl => q _ _ _ f.2 (.new hl) (.tup (.inl (.inl (res_put (r.notOwn hl) upd_same ⟨_, rfl, fun _ z => nomatch z⟩))) (.cons (.int _) (.cons (.int _) .nil)))⟩
  · exact f.elim
def fInt1 : List D → (Rs → Prop) → Prop
  | [.int i], C => C (.dat (.int i))
  | [.bool b], C => C (.dat (.int (if b then 1 else 0)))
  | _, _ => False
theorem fInt1_ok : Cb X (fun xs H Q => (∃ i, xs = [.int i] ∧ Q (.int i) H) ∨ ∃ k, xs = [.bl k] ∧ Q (.int (if k then 1 else 0)) H) fInt1 := fun τ H0 H γ σ ρ vs ds C r b f Q q => by
  unfold fInt1 at f
  split at f
  · obtain ⟨v, rfl, e⟩ := paired1 b
    cases e
    exact .inl ⟨_, rfl, q _ _ H f .refl (.int _)⟩
  · obtain ⟨v, rfl, e⟩ := paired1 b
    cases e
    exact .inr ⟨_, rfl, q _ _ H f .refl (.int _)⟩
  · exact f.elim
/-! all, any of a list of truths -/
def boolsOf : List D → Option (List Bool)
  | [] => some []
  | .bool b :: ds => (boolsOf ds).map (b :: ·)
  | _ :: _ => none
theorem boolsOf_dp {K : PySem.W.Frag} {H : Hp} : ∀ {ds : List D} {bs : List Bool} {vs : List V}, boolsOf ds = some bs → DpAll K H vs ds → vs = bs.map V.bl
  | [], ns, vs, h, a => by
    cases a
    cases h
    rfl
  | .bool i :: ds, ns, _, h, .cons h1 h2 => by
    simp only [boolsOf, Option.map_eq_some_iff] at h
    obtain ⟨ms, e, rfl⟩ := h
    cases h1
    rw [boolsOf_dp e h2]
    rfl
  | .none :: _, _, _, h, _ => by simp [boolsOf] at h
  | .int _ :: _, _, _, h, _ => by simp [boolsOf] at h
  | .str _ :: _, _, _, h, _ => by simp [boolsOf] at h
  | .list _ :: _, _, _, h, _ => by simp [boolsOf] at h
  | .tuple _ :: _, _, _, h, _ => by simp [boolsOf] at h
  | .dict _ :: _, _, _, h, _ => by simp [boolsOf] at h
def fAllB (g : List Bool → Bool) : List D → (Rs → Prop) → Prop
  | [.list ds], C => ∃ bs, boolsOf ds = some bs ∧ C (.dat (.bool (g bs)))
  | _, _ => False
theorem fAll_ok : Cb X (rAll X.K) (fAllB fun bs => bs.all id) := fun τ H0 H γ σ ρ vs ds C r b f Q q => by
  unfold fAllB at f
  split at f
  · obtain ⟨v, rfl, p, ws, rfl, hs, ha⟩ := paired1 b
    obtain ⟨ns, h1, h2⟩ := f
    have e := boolsOf_dp h1 ha
    subst e
    exact ⟨p, ns, rfl, sqL_same res_le hs, q _ _ H h2 .refl (.bl _)⟩
  · exact f.elim
theorem fAny_ok : Cb X (rAny X.K) (fAllB fun bs => bs.any id) := fun τ H0 H γ σ ρ vs ds C r b f Q q => by
  unfold fAllB at f
  split at f
  · obtain ⟨v, rfl, p, ws, rfl, hs, ha⟩ := paired1 b
    obtain ⟨ns, h1, h2⟩ := f
    have e := boolsOf_dp h1 ha
    subst e
    exact ⟨p, ns, rfl, sqL_same res_le hs, q _ _ H h2 .refl (.bl _)⟩
  · exact f.elim
/-! isinstance(x, a built-in type) -/
def tyName : D → String
  | .none => "NoneType"
  | .bool _ => "bool"
  | .int _ => "int"
  | .str _ => "str"
  | .list _ => "list"
  | .tuple _ => "tuple"
  | .dict _ => "dict"
def fIsi (T : String) : D → (D → Prop) → Prop := fun d C => ∃ b, kitB (tyName d) T = some b ∧ C (.bool b)
theorem bo_ty {K : PySem.W.Frag} {τ : Tn} {H R : Hp} {v : V} {d : D} (h : Bo K τ H R v d) : TyX K H v (.type (tyName d)) := by
  cases d with
  | none => cases h; exact .base .non
  | bool _ => cases h; exact .base (.bl _)
  | int _ => cases h; exact .base (.int _)
  | str _ => cases h; exact .base (.str _)
  | list ds =>
    obtain ⟨a, vs, rfl, hs, _⟩ := h
    rcases sqL_same res_le hs with (h | ⟨o, h⟩) | ⟨o, its, n, h1, h2, _⟩
    · exact .base (.lst h)
    · exact .base (.frz h)
    · exact .kList h1 h2
  | tuple ds =>
    obtain ⟨a, vs, rfl, hs, _⟩ := h
    rcases sqT_same res_le hs with (h | ⟨o, h⟩) | ⟨o, its, n, h1, h2, _⟩
    · exact .base (.tup h)
    · exact .fTuple h
    · exact .kTuple h1 h2
  | dict _ => exact h.elim
variable {τ : Tn} {G : Gx} {cp : List Str} {N : List Str} {sc : Scope} {k : Nat} {a : Expr} {t : UV} {pos p p2 : Pos}
theorem jd_isi {y : Str} {T : String} (O : Ok cp G N sc k X) (hm : Free G "isinstance") (hm2 : Free G y) (ha : JV τ X a t) (hv2 : bootBuiltins y = some (.type T)) (hg : sc.names.lookup ("isinstance" : Str) = some .globalImplicit := by rfl) (hg2 : sc.names.lookup y = some .globalImplicit := by rfl)
    (hn2 : y ≠ "__name__" := by decide) (hd2 : (y == ("__debug__" : Str)) = false := by decide)
    (he : starEach (a :: [.Name y p2]) X.env = (false, eval a X.env) :: starEach [.Name y p2] X.env := by rfl) (hpl : (backTo pos (starEach [.Name y p2] X.env)).any (·.1) = false := by rfl) (hs2 : starEach [.Name y p2] X.env = [(false, eval (.Name y p2) X.env)] := by rfl) :
    JD τ X (.Call (.Name "isinstance" p) [a, .Name y p2] [] pos) (d1 (fIsi T) t) := fun ρ C c H0 γ σ H r Q q =>
  wpE_of (pe_callB call_isi (by show X.env.scope.names.lookup _ = _; rw [O.es]; exact hg) (by rw [O.em]; exact hm) (by decide +kernel) (pa_cons pe_w (pa_cons (pe_bltn (v := .ty T) (by show X.env.scope.names.lookup _ = _; rw [O.es]; exact hg2) (by rw [O.em]; exact hm2) hv2 rfl hn2 hd2) pa_nil hs2) he) (by decide) (by decide) he hpl)
    (ha ρ _ c H0 γ σ H r _ fun d v H2 c e b => by
      obtain ⟨z, h1, h2⟩ := c
      exact ⟨v, .ty T, _, _, z, rfl, .ty T, bo_ty b, kit_ty h1, q _ _ H2 h2 e (.bl z)⟩)
end
end Pu
namespace Pu
open PySem PySem.Spec PyProof.Rows L2
/-! ### statements -/
structure Ed where
  nx : En → Prop
  rt : Rs → Prop
  bk : En → Prop := fun _ => False
  ct : En → Prop := fun _ => False
abbrev US := Ed → En → Prop
structure EdOk (K : PySem.W.Frag) (τ : Tn) (H0 : Hp) (γ : List (V × D)) (E : Ed) (Dn : Ends) : Prop where
  nx : ∀ (ρ : En) (σ : St) (H : Hp), E.nx ρ → Rep K τ H0 γ H σ ρ → Dn.nx σ H
  bk : ∀ (ρ : En) (σ : St) (H : Hp), E.bk ρ → Rep K τ H0 γ H σ ρ → Dn.bk σ H
  ct : ∀ (ρ : En) (σ : St) (H : Hp), E.ct ρ → Rep K τ H0 γ H σ ρ → Dn.ct σ H
  rt : ∀ (r : Rs) (v : V) (H : Hp), E.rt r → (∀ a o, H0 a = some o → ¬ τ.ad a → H a = some o) → τ.inv H → RtV K τ H0 H v r → Dn.rt v H
def JS (τ : Tn) (X : Cx) (st : Stmt) (t : US) : Prop := ∀ (ρ : En) (E : Ed), t E ρ → ∀ (H0 : Hp) (γ : List (V × D)) (σ : St) (H : Hp), Rep X.K τ H0 γ H σ ρ → ∀ Dn : Ends, EdOk X.K τ H0 γ E Dn → wpS X st Dn σ H
def JSs (τ : Tn) (X : Cx) (st : List Stmt) (t : US) : Prop := ∀ (ρ : En) (E : Ed), t E ρ → ∀ (H0 : Hp) (γ : List (V × D)) (σ : St) (H : Hp), Rep X.K τ H0 γ H σ ρ → ∀ Dn : Ends, EdOk X.K τ H0 γ E Dn → wpSs X st Dn σ H
abbrev UG := D → En → (En → Prop) → Prop
abbrev UGs := List D → En → (En → Prop) → Prop
def JG (τ : Tn) (X : Cx) (tg : Expr) (g : UG) : Prop := ∀ (d : D) (ρ : En) (C : En → Prop), g d ρ C → ∀ (H0 : Hp) (γ : List (V × D)) (σ : St) (H : Hp) (v : V), Rep X.K τ H0 γ H σ ρ → Dp X.K (res H (own τ σ ρ)) v d → ∀ Q : St → Hp → Prop,
  (∀ ρ' σ', C ρ' → Rep X.K τ H0 γ H σ' ρ' → (∀ a, own τ σ' ρ' a → own τ σ ρ a) → Q σ' H) → wpG X tg v σ H Q
def JGs (τ : Tn) (X : Cx) (ts : List Expr) (g : UGs) : Prop := ∀ (ds : List D) (ρ : En) (C : En → Prop), g ds ρ C → ∀ (H0 : Hp) (γ : List (V × D)) (σ : St) (H : Hp) (vs : List V), Rep X.K τ H0 γ H σ ρ → DpAll X.K (res H (own τ σ ρ)) vs ds → ∀ Q : St → Hp → Prop,
  (∀ ρ' σ', C ρ' → Rep X.K τ H0 γ H σ' ρ' → (∀ a, own τ σ' ρ' a → own τ σ ρ a) → Q σ' H) → wpGs X ts vs σ H Q
/-! ### storing -/
def Rs.sl : Rs → Sl
  | .dat d => .dat d
  | .lst ds => .lst ds
  | .dic kds => .dic kds
section
variable {K : PySem.W.Frag} {τ : Tn} {H0 H H' : Hp} {γ : List (V × D)} {σ : St} {ρ : En} {v : V} {d : D} {i : Nat}
theorem own_set {s : Sl} {a : Addr} (h : own τ (σ.set i (some v)) (ρ.set i s) a) : own τ σ ρ a ∨ (s.isOwn = true ∧ v = .ref a) := by
  rcases h with h | ⟨j, u, h1, h2, h3⟩
  · exact .inl (.inl h)
  · by_cases e : i = j
    · subst e
      by_cases hi : i < ρ.length
      · rw [List.getElem?_set_self hi] at h1
        cases h1
        by_cases hi2 : i < σ.length
        · rw [List.getElem?_set_self hi2] at h3
          cases h3
          exact .inr ⟨h2, rfl⟩
        · rw [List.getElem?_eq_none (by simpa using hi2)] at h3; cases h3
      · rw [List.getElem?_eq_none (by simpa using hi)] at h1; cases h1
    · rw [List.getElem?_set_ne e] at h1 h3
      exact .inl (.inr ⟨j, u, h1, h2, h3⟩)
theorem set_other {s : Sl} {j : Nat} {u : Sl} (e : i ≠ j) (h : (ρ.set i s)[j]? = some u) : ρ[j]? = some u := by
  rw [List.getElem?_set_ne e] at h
  exact h
theorem set_here {s u : Sl} (h : (ρ.set i s)[i]? = some u) : u = s ∧ i < ρ.length := by
  by_cases hi : i < ρ.length
  · rw [List.getElem?_set_self hi] at h
    exact ⟨(Option.some.inj h).symm, hi⟩
  · rw [List.getElem?_eq_none (by simpa using hi)] at h; cases h
/-- data is stored -/
theorem Rep.setDat (r : Rep K τ H0 γ H σ ρ) (h : Dp K (res H (own τ σ ρ)) v d) : Rep K τ H0 γ H (σ.set i (some v)) (ρ.set i (.dat d)) := by
  have sub : ∀ a, own τ (σ.set i (some v)) (ρ.set i (.dat d)) a → own τ σ ρ a := fun a z => (own_set z).elim id fun q => by cases q.1
  have le : Same (res H (own τ σ ρ)) (res H (own τ (σ.set i (some v)) (ρ.set i (.dat d)))) := res_mono fun a o n e => ⟨fun z => n (sub a z), e⟩
  refine ⟨by simp [r.len], r.ext, r.inv, fun j u hu => ?_, fun j k u w a h1 h2 h3 h4 h5 h6 => ?_, fun p hp => dp_same le _ _ (r.gh p hp), r.zz⟩
  · by_cases e : i = j
    · subst e
      obtain ⟨rfl, hi⟩ := set_here hu
      exact ⟨v, List.getElem?_set_self (by rw [r.len]; exact hi), dp_same le _ _ h⟩
    · rw [List.getElem?_set_ne e]
      exact SlOk.mono le (fun _ _ _ _ _ q => q) (r.sl j u (set_other e hu))
  · have n1 : i ≠ j := fun e => by subst e; rw [(set_here h1).1] at h3; cases h3
    have n2 : i ≠ k := fun e => by subst e; rw [(set_here h2).1] at h4; cases h4
    rw [List.getElem?_set_ne n1] at h5
    rw [List.getElem?_set_ne n2] at h6
    exact r.sep j k u w a (set_other n1 h1) (set_other n2 h2) h3 h4 h5 h6
/-- a new object is stored: a the address, s its slot, told at H with all that may change and a left out -/
theorem Rep.setNew {a : Addr} {s : Sl} (r0 : Rep K τ H0 γ H σ ρ) (e : Ext τ H H') (hn : H a = none) (hs : s.isOwn = true)
    (h : ∀ R : Hp, Same (res H' (fun b => own τ σ ρ b ∨ b = a)) R → SlOk K τ H0 H' R (some (some (.ref a))) s) : Rep K τ H0 γ H' (σ.set i (some (.ref a))) (ρ.set i s) := by
  have r := r0.after e
  have nown : ¬ own τ σ ρ a := r0.notOwn hn
  have nad : ¬ τ.ad a := fun z => nown (own_ad z)
  have sub : ∀ b, own τ (σ.set i (some (.ref a))) (ρ.set i s) b → own τ σ ρ b ∨ b = a := fun b z => (own_set z).elim .inl fun q => .inr (V.ref.inj q.2).symm
  have le1 : Same (res H' (fun b => own τ σ ρ b ∨ b = a)) (res H' (own τ (σ.set i (some (.ref a))) (ρ.set i s))) := res_mono fun b o n q => ⟨fun z => n (sub b z), q⟩
  have le0 : Same (res H (own τ σ ρ)) (res H' (own τ (σ.set i (some (.ref a))) (ρ.set i s))) := res_mono fun b o n q => by
    have hb : b ≠ a := ne_of_none q hn
    exact ⟨fun z => (sub b z).elim n hb, e.kp b o q fun z => n (own_ad z)⟩
  refine ⟨by simp [r.len], r.ext, r.inv, fun j u hu => ?_, fun j k u w b h1 h2 h3 h4 h5 h6 => ?_, fun p hp => dp_same le0 _ _ (r0.gh p hp), r.zz⟩
  · by_cases ej : i = j
    · subst ej
      obtain ⟨rfl, hi⟩ := set_here hu
      rw [List.getElem?_set_self (by rw [r.len]; exact hi)]
      exact h _ le1
    · rw [List.getElem?_set_ne ej]
      exact SlOk.mono le0 (fun _ b o _ nb q => e.kp b o q nb) (r0.sl j u (set_other ej hu))
  · have other : ∀ (k : Nat) (w : Sl), i ≠ k → (ρ.set i s)[k]? = some w → w.isOwn = true → (σ.set i (some (.ref a)))[k]? = some (some (.ref b)) → b ≠ a := fun k w n hk ho hv z => by
      rw [List.getElem?_set_ne n] at hv
      exact nown (.inr ⟨k, w, set_other n hk, ho, by rw [z] at hv; exact hv⟩)
    have here : ∀ (w : Sl), (ρ.set i s)[i]? = some w → (σ.set i (some (.ref a)))[i]? = some (some (.ref b)) → b = a := fun w hk hv => by
      rw [List.getElem?_set_self (by rw [r.len]; exact (set_here hk).2)] at hv
      exact (V.ref.inj (Option.some.inj (Option.some.inj hv))).symm
    by_cases e1 : i = j
    · by_cases e2 : i = k
      · omega
      · subst e1
        exact absurd (here u h1 h5) (other k w e2 h2 h4 h6)
    · by_cases e2 : i = k
      · subst e2
        exact absurd (here w h2 h6) (other j u e1 h1 h3 h5)
      · rw [List.getElem?_set_ne e1] at h5
        rw [List.getElem?_set_ne e2] at h6
        exact r.sep j k u w b (set_other e1 h1) (set_other e2 h2) h3 h4 h5 h6
theorem Rep.fresh0 (r : Rep K τ H0 γ H σ ρ) {a : Addr} (h : H a = none) : H0 a = none ∧ ¬ τ.ad a := by
  have nad : ¬ τ.ad a := fun z => r.notOwn h (own_ad z)
  refine ⟨?_, nad⟩
  cases q : H0 a with
  | none => rfl
  | some o => rw [r.ext a o q nad] at h; cases h
/-- any result is stored -/
theorem Rep.set {rs : Rs} (r : Rep K τ H0 γ H σ ρ) (e : Ext τ H H') (h : RsOk K τ H H' σ ρ v rs) : Rep K τ H0 γ H' (σ.set i (some v)) (ρ.set i rs.sl) := by
  cases rs with
  | dat d => exact (r.after e).setDat h
  | lst ds =>
    obtain ⟨a, vs, rfl, hn, he, ha⟩ := h
    obtain ⟨f1, f2⟩ := r.fresh0 hn
    exact r.setNew e hn rfl fun R le => ⟨a, vs, rfl, f1, f2, he, dpAll_same le _ _ ha⟩
  | dic kds =>
    obtain ⟨a, vs, rfl, hn, he, ha⟩ := h
    obtain ⟨f1, f2⟩ := r.fresh0 hn
    exact r.setNew e hn rfl fun R le => ⟨a, vs, rfl, f1, f2, he, KvOk.same le ha⟩
/-- a result leaves the def -/
theorem RsOk.rt {rs : Rs} (r : Rep K τ H0 γ H σ ρ) (e : Ext τ H H') (h : RsOk K τ H H' σ ρ v rs) : RtV K τ H0 H' v rs := by
  cases rs with
  | dat d => exact dp_same res_own_ad _ _ h
  | lst ds =>
    obtain ⟨a, vs, rfl, hn, he, ha⟩ := h
    exact ⟨a, vs, rfl, (r.fresh0 hn).1, he, dpAll_same (res_mono fun b o n q => ⟨fun z => n (z.imp own_ad id), q⟩) _ _ ha⟩
  | dic kds =>
    obtain ⟨a, vs, rfl, hn, he, ha⟩ := h
    exact ⟨a, vs, rfl, (r.fresh0 hn).1, he, KvOk.same (res_mono fun b o n q => ⟨fun z => n (z.imp own_ad id), q⟩) ha⟩
/-- a result without lists stays one when another new object is stored -/
theorem RsOk.beside {rs rs' : Rs} {v' : V} {Hm : Hp} (r : Rep K τ H0 γ H σ ρ) (e1 : Ext τ H Hm) (e2 : Ext τ Hm H') (h1 : RsOk K τ H Hm σ ρ v' rs') (l : rs.lf = true) (h : RsOk K τ Hm H' σ ρ v rs) : RsOk K τ Hm H' (σ.set i (some v')) (ρ.set i rs'.sl) v rs := by
  have rm := r.set (i := i) e1 h1
  have r' := rm.after e2
  have nm : ∀ (b : Addr) (u : HO), H' b = some u → ¬ Mv u → ¬ own τ (σ.set i (some v')) (ρ.set i rs'.sl) b := fun b u e n z => by
    obtain ⟨o, e', m⟩ := r'.ownMut z
    rw [e] at e'; cases e'
    exact n m
  cases rs with
  | dat d => exact r'.lfRes (fun a z => r'.ownMut z) res_le (fun _ _ => res_ok) l h
  | lst ds =>
    obtain ⟨a, vs, rfl, hn, he, ha⟩ := h
    refine ⟨a, vs, rfl, hn, he, dpAll_lf (fun b xs h => ?_) ds vs l ha⟩
    have na : ∀ u : HO, H' b = some u → ¬ Mv u → b ≠ a := fun u e n z => by
      rw [z, he] at e; cases e
      exact n trivial
    rcases h with h | ⟨o, h⟩
    · exact .inl (res_put (fun z => z.elim (nm b _ (res_at h) fun z => z) (na _ (res_at h) fun z => z)) (res_at h) (res_ok h))
    · exact .inr ⟨o, res_put (fun z => z.elim (nm b _ (res_at h) fun z => z) (na _ (res_at h) fun z => z)) (res_at h) (res_ok h)⟩
  | dic kds =>
    obtain ⟨a, kvs, rfl, hn, he, ha⟩ := h
    refine ⟨a, kvs, rfl, hn, he, ?_⟩
    have na : ∀ (b : Addr) (u : HO), H' b = some u → ¬ Mv u → b ≠ a := fun b u e n z => by
      rw [z, he] at e; cases e
      exact n trivial
    have l' : lfAll (kds.map (·.2)) = true := l
    clear l he
    induction ha with
    | nil => exact .nil
    | cons h1 h2 ih =>
      simp only [List.map_cons, lfAll, Bool.and_eq_true] at l'
      refine .cons ⟨h1.1, dp_lf (fun b xs h => ?_) _ _ l'.1 h1.2⟩ (ih l'.2)
      rcases h with h | ⟨o, h⟩
      · exact .inl (res_put (fun z => z.elim (nm b _ (res_at h) fun z => z) (na b _ (res_at h) fun z => z)) (res_at h) (res_ok h))
      · exact .inr ⟨o, res_put (fun z => z.elim (nm b _ (res_at h) fun z => z) (na b _ (res_at h) fun z => z)) (res_at h) (res_ok h)⟩
end
end Pu
namespace Pu
open PySem PySem.Spec PyProof.Rows L2
section
variable {τ : Tn} {G : Gx} {cp : List Str} {N : List Str} {sc : Scope} {k : Nat} {X : Cx} {e e2 e3 tg : Expr} {es : List Expr} {st : Stmt} {rest a b body : List Stmt} {t u : US} {tv : UV} {te ue we : UE} {tt : UT} {g : UG} {gs : UGs} {pos p2 : Pos} {x y z : Str}
def sNext : US := fun E ρ => E.nx ρ
def sSeq (t u : US) : US := fun E ρ => t { E with nx := u E } ρ
theorem jss_nil : JSs τ X [] sNext := fun ρ E c H0 γ σ H r Dn d => wpSs_of pss_nil (d.nx ρ σ H c r)
theorem jss_cons (h1 : JS τ X st t) (h2 : JSs τ X rest u) : JSs τ X (st :: rest) (sSeq t u) := fun ρ E c H0 γ σ H r Dn d =>
  wpSs_of (pss_cons ps_w pss_w) (h1 ρ _ c H0 γ σ H r _ ⟨fun ρ' σ' H' c r' => h2 ρ' E c H0 γ σ' H' r' Dn d, d.bk, d.ct, d.rt⟩)
theorem jss_one (h1 : JS τ X st t) : JSs τ X [st] t := fun ρ E c H0 γ σ H r Dn d => wpSs_of (pss_one ps_w) (h1 ρ E c H0 γ σ H r Dn d)
def sNever : US := fun _ _ => False
theorem js_never : JS τ X st sNever := fun _ _ c => c.elim
theorem jss_never : JSs τ X a sNever := fun _ _ c => c.elim
theorem js_pass : JS τ X (.Pass pos) sNext := fun ρ E c H0 γ σ H r Dn d => wpS_of ps_pass (d.nx ρ σ H c r)
def sBreak : US := fun E ρ => E.bk ρ
theorem js_break : JS τ X (.Break pos) sBreak := fun ρ E c H0 γ σ H r Dn d => wpS_of ps_break (d.bk ρ σ H c r)
def sCont : US := fun E ρ => E.ct ρ
theorem js_cont : JS τ X (.Continue pos) sCont := fun ρ E c H0 γ σ H r Dn d => wpS_of ps_continue (d.ct ρ σ H c r)
def sDrop (te : UE) : US := fun E ρ => te ρ fun _ => E.nx ρ
theorem js_expr (he : JE τ X e te) (hs : swapsWith e none pos.line X.env = pure false := by rfl) : JS τ X (.Expr e pos) (sDrop te) := fun ρ E c H0 γ σ H r Dn d =>
  wpS_of (ps_expr pe_w hs) (he ρ _ c H0 γ σ H r _ fun rs v H2 c e1 h => d.nx ρ σ H2 c (r.after e1))
def sRet (te : UE) : US := fun _E ρ => te ρ _E.rt
theorem js_ret (he : JE τ X e te) : JS τ X (.Return (some e) pos) (sRet te) := fun ρ E c H0 γ σ H r Dn d =>
  wpS_of (ps_ret pe_w) (he ρ _ c H0 γ σ H r _ fun rs v H2 c e1 h => d.rt rs v H2 c (r.after e1).ext (r.after e1).inv (h.rt r e1))
def sRetN : US := fun E _ => E.rt (.dat .none)
theorem js_retN : JS τ X (.Return none pos) sRetN := fun ρ E c H0 γ σ H r Dn d => wpS_of ps_retN (d.rt _ _ H c r.ext r.inv .non)
/-- return x, x perhaps a list of one's own -/
def sRetV (i : Nat) : US := fun E ρ => match ρ[i]? with
  | some (.dat d) => E.rt (.dat d)
  | some (.lst ds) => E.rt (.lst ds)
  | some (.dic ds) => E.rt (.dic ds)
  | _ => False
theorem js_retV (S : Ok cp G N sc k X) (i : Nat) (hN : N[i]? = some x := by rfl) (hv : Vis sc x := by first | exact Or.inl rfl | exact Or.inr (Or.inl rfl) | exact Or.inr (Or.inr rfl)) (hd : (x == ("__debug__" : Str)) = false := by decide) (hcd : (x == ("__classdict__" : Str)) = false := by decide) :
    JS τ X (.Return (some (.Name x p2)) pos) (sRetV i) := fun ρ E c H0 γ σ H r Dn d => by
  refine wpS_of (ps_ret (pe_var (i := i) (by rw [S.eN]; exact hN) (by rw [S.es]; exact hv) hd hcd)) ?_
  have le : ∀ a : Addr, own τ σ ρ a → Same (res H (own τ σ ρ)) (res H (fun b => τ.ad b ∨ b = a)) := fun a ha => res_mono fun b o n q => ⟨fun z => n (z.elim own_ad fun z => by rw [z]; exact ha), q⟩
  unfold sRetV at c
  split at c
  · rename_i dd hi
    obtain ⟨v, e, h⟩ := r.sl i _ hi
    exact ⟨v, e, d.rt _ _ H c r.ext r.inv (dp_same res_own_ad _ _ h)⟩
  · rename_i ds hi
    obtain ⟨a, vs, e, h0, hn, h, h'⟩ := r.sl i _ hi
    exact ⟨_, e, d.rt _ _ H c r.ext r.inv ⟨a, vs, rfl, h0, h, dpAll_same (le a (.inr ⟨i, _, hi, rfl, e⟩)) _ _ h'⟩⟩
  · rename_i ds hi
    obtain ⟨a, vs, e, h0, hn, h, h'⟩ := r.sl i _ hi
    exact ⟨_, e, d.rt _ _ H c r.ext r.inv ⟨a, vs, rfl, h0, h, KvOk.same (le a (.inr ⟨i, _, hi, rfl, e⟩)) h'⟩⟩
  · exact c.elim
def sIf (tt : UT) (t u : US) : US := fun E ρ => tt ρ fun z => (z = true → t E ρ) ∧ (z = false → u E ρ)
theorem js_if (hc : JT τ X e tt) (ha : JSs τ X a t) (hb : JSs τ X b u) : JS τ X (.If e a b pos) (sIf tt t u) := fun ρ E c H0 γ σ H r Dn d =>
  wpS_of (ps_if pt_w pss_w pss_w) (hc ρ _ c H0 γ σ H r _ fun z H2 c e1 => by
    cases z with
    | true => exact iteT (ha ρ E (c.1 rfl) H0 γ σ H2 (r.after e1) Dn d)
    | false => exact iteF (hb ρ E (c.2 rfl) H0 γ σ H2 (r.after e1) Dn d))
/-! ### assignments -/
theorem loc_of (S : Ok cp G N sc k X) (h : LocC cp sc x) : Loc X.env.scope x := by
  rw [S.es]
  exact h.imp id And.left
theorem fn_of_loc (S : Ok cp G N sc k X) (h : LocC cp sc x) : X.fn x = true ∨ X.env.scope.names.lookup x = some .local := by
  rcases h with h | h
  · exact .inr (by rw [S.es]; exact h)
  · exact .inl (S.fn x h.1 h.2)
def sSet (i : Nat) (te : UE) : US := fun E ρ => te ρ fun r => E.nx (ρ.set i r.sl)
theorem js_set (S : Ok cp G N sc k X) (i : Nat) (he : JE τ X e te) (hN : N[i]? = some x := by rfl) (hx : LocC cp sc x := by first | exact Or.inl rfl | exact Or.inr ⟨rfl, rfl⟩) (hs : swapsWith e (some (.Name x p2)) pos.line X.env = pure false := by rfl) : JS τ X (.Assign [.Name x p2] e pos) (sSet i te) := fun ρ E c H0 γ σ H r Dn d =>
  wpS_of (ps_set (i := i) (by rw [S.eN]; exact S.nd) (by rw [S.eN]; exact hN) (loc_of S hx) pe_w hs (fn_of_loc S hx)) (he ρ _ c H0 γ σ H r _ fun rs v H2 c e1 h => d.nx _ _ H2 c (r.set e1 h))
def gNam (i : Nat) : UG := fun d ρ C => C (ρ.set i (.dat d))
theorem jg_name (S : Ok cp G N sc k X) (i : Nat) (hN : N[i]? = some x := by rfl) (hx : LocC cp sc x := by first | exact Or.inl rfl | exact Or.inr ⟨rfl, rfl⟩) : JG τ X (.Name x p2) (gNam i) := fun d ρ C c H0 γ σ H v r h Q q =>
  wpG_of (pg_name (i := i) (by rw [S.eN]; exact S.nd) (by rw [S.eN]; exact hN) (loc_of S hx) (fn_of_loc S hx)) (q _ _ c (r.setDat h) fun a z => (own_set z).elim id fun q => by cases q.1)
def gsNil : UGs := fun ds ρ C => match ds with
  | [] => C ρ
  | _ => False
def gsCons (g : UG) (gs : UGs) : UGs := fun ds ρ C => match ds with
  | d :: ds => g d ρ fun ρ' => gs ds ρ' C
  | [] => False
theorem jgs_nil : JGs τ X [] gsNil := fun ds ρ C c H0 γ σ H vs r h Q q => by
  cases ds with
  | nil =>
    cases h
    exact wpGs_of pgs_nil ⟨rfl, q ρ σ c r fun _ z => z⟩
  | cons d ds => exact c.elim
theorem jgs_cons {ts : List Expr} (h1 : JG τ X tg g) (h2 : JGs τ X ts gs) (hs : (assignEach (tg :: ts) X.env).map (·.2) = assign tg X.env :: (assignEach ts X.env).map (·.2) := by rfl) : JGs τ X (tg :: ts) (gsCons g gs) := fun ds ρ C c H0 γ σ H vs r h Q q => by
  cases ds with
  | nil => exact c.elim
  | cons d ds =>
    cases h with
    | cons hd ht =>
      exact wpGs_of (pgs_cons pg_w pgs_w hs) ⟨_, _, rfl, h1 d ρ _ c H0 γ σ H _ r hd _ fun ρ' σ' c r' sub => h2 ds ρ' C c H0 γ σ' H _ r' (dpAll_same (res_mono fun a o n e => ⟨fun z => n (sub a z), e⟩) _ _ ht) Q fun ρ2 σ2 c r2 sub2 => q ρ2 σ2 c r2 fun a z => sub a (sub2 a z)⟩
def gTupl (n : Nat) (gs : UGs) : UG := fun d ρ C => match d with
  | .tuple ds => ds.length = n ∧ gs ds ρ C
  | _ => False
theorem jg_tup {kk n : Nat} (S : Ok cp G N sc k X) (h : JGs τ X es gs) (hn : (assignEach es X.env).length = n := by rfl) (hst : (assignEach es X.env).findIdx? (·.1) = none := by rfl) : JG τ X (.Tuple es kk pos) (gTupl n gs) := fun d ρ C c H0 γ σ H v r hd Q q => by
  unfold gTupl at c
  split at c
  · rename_i ds
    cases hd with
    | tup hs ha =>
      exact wpG_of (pg_tup S.calm pgs_w hn hst) ⟨_, _, rfl, sqT_same res_le hs, (dpAll_len ha).trans c.1, h ds ρ C c.2 H0 γ σ H _ r ha Q q⟩
  · exact c.elim
def sAsg (tv : UV) (g : UG) : US := fun E ρ => tv ρ fun d => g d ρ E.nx
theorem js_asg (he : JD τ X e tv) (hg : JG τ X tg g) (hs : swapsWithSole [tg] e pos.line X.env = pure false := by rfl) (hw : swappedStores [tg] e X.env = pure none := by rfl)
    (h1 : (assignEach [tg] X.env).map (·.2) = [assign tg X.env] := by rfl) : JS τ X (.Assign [tg] e pos) (sAsg tv g) := fun ρ E c H0 γ σ H r Dn d =>
  wpS_of (ps_asg pe_w pg_w hs hw h1) (he ρ _ c H0 γ σ H r _ fun dd v H2 c e1 h => hg dd ρ _ c H0 γ σ H2 v (r.after e1) h _ fun ρ' σ' c r' _ => d.nx ρ' σ' H2 c r')
theorem swapped_env {ts : List Expr} {v : Expr} {env : Env} (h : env.scope = sc) : swappedStores ts v env = swappedStores ts v { (default : Env) with scope := sc } := by
  obtain ⟨s, l, gl, cl, q, f, cd, fr, bu⟩ := env
  simp only at h
  subst h
  rfl
def sPar2 (i j : Nat) (te ue : UE) : US := fun E ρ => te ρ fun r1 => ue ρ fun r2 => r1.lf = true ∧ r2.lf = true ∧ E.nx ((ρ.set i r1.sl).set j r2.sl)
theorem js_par2 {px py pt pt2 : Pos} {kt k2 : Nat} (S : Ok cp G N sc k X) (i j : Nat) (ha : JE τ X e te) (hb : JE τ X e2 ue) (hi : N[i]? = some x := by rfl) (hj : N[j]? = some y := by rfl) (hij : i ≠ j := by decide)
    (hx : sc.names.lookup x = some .local := by rfl) (hy : sc.names.lookup y = some .local := by rfl)
    (hw : swappedStores [.Tuple [.Name x px, .Name y py] kt pt] (.Tuple [e, e2] k2 pt2) { (default : Env) with scope := sc } = pure (some [x, y]) := by rfl)
    (hs : swapsWithSole [.Tuple [.Name x px, .Name y py] kt pt] (.Tuple [e, e2] k2 pt2) pos.line X.env = pure false := by rfl) (hst : starEach [e, e2] X.env = (false, eval e X.env) :: starEach [e2] X.env := by rfl) (hst2 : starEach [e2] X.env = (false, eval e2 X.env) :: starEach [] X.env := by rfl) :
    JS τ X (.Assign [.Tuple [.Name x px, .Name y py] kt pt] (.Tuple [e, e2] k2 pt2) pos) (sPar2 i j te ue) := fun ρ E c H0 γ σ H r Dn d =>
  wpS_of (ps_par (i := i) (j := j) S.calm (by rw [S.eN]; exact S.nd) (by rw [S.eN]; exact hi) (by rw [S.eN]; exact hj) hij (by rw [S.es]; exact hx) (by rw [S.es]; exact hy) (pa_cons pe_w (pa_cons pe_w pa_nil hst2) hst) ((swapped_env S.es).trans hw) hs)
    (ha ρ _ c H0 γ σ H r _ fun r1 v1 H2 c e1 h1 => hb ρ _ c H0 γ σ H2 (r.after e1) _ fun r2 v2 H3 c e2 h2 => ⟨v1, v2, rfl, d.nx _ _ H3 c.2.2 ((r.set e1 h1).set e2 (RsOk.beside r e1 e2 h1 c.2.1 h2))⟩)
def sPar3 (i j l : Nat) (te ue we : UE) : US := fun E ρ => te ρ fun r1 => ue ρ fun r2 => we ρ fun r3 => r1.lf = true ∧ r2.lf = true ∧ r3.lf = true ∧ E.nx (((ρ.set i r1.sl).set j r2.sl).set l r3.sl)
theorem js_par3 {px py pz pt pt2 : Pos} {kt k2 : Nat} (S : Ok cp G N sc k X) (i j l : Nat) (ha : JE τ X e te) (hb : JE τ X e2 ue) (hc : JE τ X e3 we) (hi : N[i]? = some x := by rfl) (hj : N[j]? = some y := by rfl) (hl : N[l]? = some z := by rfl) (hij : i ≠ j := by decide) (hil : i ≠ l := by decide) (hjl : j ≠ l := by decide)
    (hx : sc.names.lookup x = some .local := by rfl) (hy : sc.names.lookup y = some .local := by rfl) (hz : sc.names.lookup z = some .local := by rfl)
    (hw : swappedStores [.Tuple [.Name x px, .Name y py, .Name z pz] kt pt] (.Tuple [e, e2, e3] k2 pt2) { (default : Env) with scope := sc } = pure (some [x, y, z]) := by rfl)
    (hs : swapsWithSole [.Tuple [.Name x px, .Name y py, .Name z pz] kt pt] (.Tuple [e, e2, e3] k2 pt2) pos.line X.env = pure false := by rfl) (hst : starEach [e, e2, e3] X.env = (false, eval e X.env) :: starEach [e2, e3] X.env := by rfl) (hst2 : starEach [e2, e3] X.env = (false, eval e2 X.env) :: starEach [e3] X.env := by rfl) (hst3 : starEach [e3] X.env = (false, eval e3 X.env) :: starEach [] X.env := by rfl) :
    JS τ X (.Assign [.Tuple [.Name x px, .Name y py, .Name z pz] kt pt] (.Tuple [e, e2, e3] k2 pt2) pos) (sPar3 i j l te ue we) := fun ρ E c H0 γ σ H r Dn d =>
  wpS_of (ps_par3 (i := i) (j := j) (l := l) S.calm (by rw [S.eN]; exact S.nd) (by rw [S.eN]; exact hi) (by rw [S.eN]; exact hj) (by rw [S.eN]; exact hl) hij hil hjl (by rw [S.es]; exact hx) (by rw [S.es]; exact hy) (by rw [S.es]; exact hz) (pa_cons pe_w (pa_cons pe_w (pa_cons pe_w pa_nil hst3) hst2) hst) ((swapped_env S.es).trans hw) hs)
    (ha ρ _ c H0 γ σ H r _ fun r1 v1 H2 c e1 h1 => hb ρ _ c H0 γ σ H2 (r.after e1) _ fun r2 v2 H3 c e2 h2 => hc ρ _ c H0 γ σ H3 ((r.after e1).after e2) _ fun r3 v3 H4 c e3 h3 => ⟨v1, v2, v3, rfl, d.nx _ _ H4 c.2.2.2 (by
      have s1 := r.set (i := i) e1 h1
      have g2 := RsOk.beside (i := i) r e1 e2 h1 c.2.1 h2
      have s2 := s1.set (i := j) e2 g2
      have g3 := RsOk.beside (i := i) r (e1.trans e2) e3 (h1.after r e2) c.2.2.1 h3
      exact s2.set e3 (RsOk.beside (i := j) s1 e2 e3 g2 c.2.2.1 g3))⟩)
def sAug (i : Nat) (f : D → D → (D → Prop) → Prop) (tv : UV) : US := fun E ρ => match ρ[i]? with
  | some (.dat x) => tv ρ fun y => f x y fun z => E.nx (ρ.set i (.dat z))
  | _ => False
theorem js_aug {op : Operator} {ti : TIp} {f : D → D → (D → Prop) → Prop} (S : Ok cp G N sc k X) (i : Nat) (ho : PIp X op ti) (hf : Op2 X ti f) (he : JV τ X e tv) (hN : N[i]? = some x := by rfl) (hx : LocC cp sc x := by first | exact Or.inl rfl | exact Or.inr ⟨rfl, rfl⟩) :
    JS τ X (.AugAssign (.Name x p2) op e pos) (sAug i f tv) := fun ρ E c H0 γ σ H r Dn d => by
  refine wpS_of (ps_aug (i := i) (by rw [S.eN]; exact S.nd) (by rw [S.eN]; exact hN) (loc_of S hx) pe_w ho (fn_of_loc S hx)) ?_
  unfold sAug at c
  split at c
  · rename_i dd hi
    obtain ⟨v, e, h⟩ := r.sl i _ hi
    refine ⟨v, e, he ρ _ c H0 γ σ H r _ fun dy vy H2 c e1 h1 => hf _ _ _ _ _ _ _ _ _ _ _ (r.after e1) ((bo_of res_own_ad h).after e1) h1 c _ fun dz vz H3 c e2 h2 => d.nx _ _ H3 c (((r.after e1).after e2).setDat h2)⟩
  · exact c.elim
theorem pip_of {op : Operator} {r : R2} (h : OpR X (inplaceOp op) r) : PIp X op r := fun pins s σ H x y v u Q I r1 r2 q => h pins s σ H x y v u Q I r1 r2 q
abbrev rI0i (g : Int → Int → Int) : R2 := rI0 fun i j => .int (g i j)
def fI0 (g : Int → Int → Int) : D → D → (D → Prop) → Prop
  | .int i, .int j, C => C (.int (g i j))
  | _, _, _ => False
theorem fI0_ok {g : Int → Int → Int} : Op2 X (rI0i g) (fI0 g) := fun τ H0 H γ σ ρ v1 v2 d1 d2 C r b1 b2 h Q q => by
  cases d1 <;> cases d2 <;> first | exact h.elim | skip
  cases b1; cases b2
  exact ⟨_, _, rfl, rfl, q _ _ H h .refl (.int _)⟩
theorem js_iadd (S : Ok cp G N sc k X) (i : Nat) (he : JV τ X e tv) (hN : N[i]? = some x := by rfl) (hx : LocC cp sc x := by first | exact Or.inl rfl | exact Or.inr ⟨rfl, rfl⟩) : JS τ X (.AugAssign (.Name x p2) .Add e pos) (sAug i (fI0 fun i j => i + j) tv) := js_aug S i (pip_of iop_add) fI0_ok he hN hx
theorem js_isub (S : Ok cp G N sc k X) (i : Nat) (he : JV τ X e tv) (hN : N[i]? = some x := by rfl) (hx : LocC cp sc x := by first | exact Or.inl rfl | exact Or.inr ⟨rfl, rfl⟩) : JS τ X (.AugAssign (.Name x p2) .Sub e pos) (sAug i (fI0 fun i j => i - j) tv) := js_aug S i (pip_of iop_sub) fI0_ok he hN hx
theorem js_imul (S : Ok cp G N sc k X) (i : Nat) (he : JV τ X e tv) (hN : N[i]? = some x := by rfl) (hx : LocC cp sc x := by first | exact Or.inl rfl | exact Or.inr ⟨rfl, rfl⟩) : JS τ X (.AugAssign (.Name x p2) .Mult e pos) (sAug i fMul tv) := js_aug S i (pip_of iop_mul) (fInt_ok fun _ _ h => h) he hN hx
/-! ### a list of one's own, changed -/
theorem Rep.change {K : PySem.W.Frag} {H0 H : Hp} {γ : List (V × D)} {σ : St} {ρ : En} {i : Nat} {p : Addr} {o : HO} {s s' : Sl} (r : Rep K τ H0 γ H σ ρ) (hi : ρ[i]? = some s) (hs : s.isOwn = true) (hs' : s'.isOwn = true) (hv : σ[i]? = some (some (.ref p))) (hn : ¬ τ.ad p)
    (h0 : H0 p = none) (h : SlOk K τ H0 (upd H p o) (res H (own τ σ ρ)) (some (some (.ref p))) s') : Rep K τ H0 γ (upd H p o) σ (ρ.set i s') := by
  have hil : i < ρ.length := (List.getElem?_eq_some_iff.mp hi).1
  have so : ∀ a, own τ σ (ρ.set i s') a ↔ own τ σ ρ a := fun a => by
    constructor
    · rintro (z | ⟨j, u, h1, h2, h3⟩)
      · exact .inl z
      · by_cases e : i = j
        · subst e
          exact .inr ⟨i, s, hi, hs, h3⟩
        · exact .inr ⟨j, u, set_other e h1, h2, h3⟩
    · rintro (z | ⟨j, u, h1, h2, h3⟩)
      · exact .inl z
      · by_cases e : i = j
        · subst e
          exact .inr ⟨i, s', List.getElem?_set_self hil, hs', h3⟩
        · exact .inr ⟨j, u, by rw [List.getElem?_set_ne e]; exact h1, h2, h3⟩
  have op : own τ σ ρ p := .inr ⟨i, s, hi, hs, hv⟩
  have le : Same (res H (own τ σ ρ)) (res (upd H p o) (own τ σ (ρ.set i s'))) := res_mono fun a u n e => by
    have hne : a ≠ p := fun z => n (by rw [z]; exact op)
    exact ⟨fun z => n ((so a).mp z), by rw [upd_ne hne]; exact e⟩
  refine ⟨by simp [r.len], fun a u e n => ?_, ?_, fun j u hu => ?_, fun j l u w b h1 h2 h3 h4 h5 h6 => ?_, fun q hq => dp_same le _ _ (r.gh q hq), r.zz⟩
  · rw [upd_ne (ne_of_none e h0)]
    exact r.ext a u e n
  · refine τ.dep (fun a u ea ha => ?_) r.inv
    rw [upd_ne fun z => ?_]
    · exact ea
    · rcases ha with ha | ha
      · exact hn (by rw [← z]; exact ha)
      · have q := r.sl i s hi
        rw [hv] at q
        cases s with
        | lst ds =>
          obtain ⟨b, vs, e, _, _, e2, _⟩ := q
          cases e
          rw [z, e2] at ea; cases ea
          exact ha trivial
        | dic kds =>
          obtain ⟨b, vs, e, _, _, e2, _⟩ := q
          cases e
          rw [z, e2] at ea; cases ea
          exact ha trivial
        | un => cases hs
        | dat d => cases hs
        | town => cases hs
        | ldc kds => cases hs
        | dtc kds =>
          obtain ⟨b, vs, e, _, _, e2, _⟩ := q
          cases e
          rw [z, e2] at ea; cases ea
          exact ha trivial
  · by_cases e : i = j
    · subst e
      obtain ⟨rfl, _⟩ := set_here hu
      rw [hv]
      exact SlOk.mono le (fun _ _ _ _ _ q => q) h
    · have hu' := set_other e hu
      refine SlOk.mono le (fun hou a u2 ea na q => ?_) (r.sl j u hu')
      have hne : a ≠ p := fun z => e (r.sep i j s u p hi hu' hs hou hv (by rw [ea, z]))
      rw [upd_ne hne]; exact q
  · have back : ∀ (j : Nat) (u : Sl), (ρ.set i s')[j]? = some u → u.isOwn = true → ∃ u', ρ[j]? = some u' ∧ u'.isOwn = true := fun j u hu ho => by
      by_cases e : i = j
      · subst e; exact ⟨s, hi, hs⟩
      · exact ⟨u, set_other e hu, ho⟩
    obtain ⟨u', g1, g2⟩ := back j u h1 h3
    obtain ⟨w', g3, g4⟩ := back l w h2 h4
    exact r.sep j l u' w' b g1 g3 g2 g4 h5 h6
end
end Pu
namespace Pu
open PySem PySem.Spec PyProof.Rows L2
theorem slice_line {n : Nat} (h : n ≤ 1000000) : n < sizeLine := Nat.lt_of_le_of_lt h (by decide)
section
variable {τ : Tn} {G : Gx} {cp : List Str} {N : List Str} {sc : Scope} {k : Nat} {X : Cx} {e e2 e3 tg iter : Expr} {es : List Expr} {st : Stmt} {rest a b body : List Stmt} {t u : US} {tv tw : UV} {te ue we : UE} {tt : UT} {g : UG} {gs : UGs} {pos p2 p3 apos : Pos} {x y z : Str}
/-! ### append, extend, pop -/
def sAppend (i : Nat) (tv : UV) : US := fun E ρ => match ρ[i]? with
  | some (.lst ds) => tv ρ fun d => ds.length ≤ 1000000 ∧ E.nx (ρ.set i (.lst (ds ++ [d])))
  | _ => False
theorem js_append (S : Ok cp G N sc k X) (i : Nat) (he : JD τ X e tv) (hN : N[i]? = some x := by rfl) (hv : Vis sc x := by first | exact Or.inl rfl | exact Or.inr (Or.inl rfl) | exact Or.inr (Or.inr rfl)) (hd : (x == ("__debug__" : Str)) = false := by decide) (hcd : (x == ("__classdict__" : Str)) = false := by decide)
    (hfew : ((backTo p3 (starEach [e] X.env)).all (fun x => !x.1) && (backToKw p3 (keywordEach [] X.env)).all (fun x => x.1.isSome) && decide ([e].length + ([] : List Keyword).length + (if ([] : List Keyword).isEmpty then 0 else 1) < 30)) = true := by rfl)
    (hline : (apos.endLine == p3.line) = true := by rfl) (hst : starEach [e] X.env = (false, eval e X.env) :: starEach [] X.env := by rfl) :
    JS τ X (.Expr (.Call (.Attribute (.Name x p2) "append" apos) [e] [] p3) pos) (sAppend i tv) := fun ρ E c H0 γ σ H r Dn d => by
  refine wpS_of (ps_expr (pe_bm PySem.F.plainAttrs_list PySem.F.slot_list_append PySem.F.type_list_append mt_append (pe_var (i := i) (by rw [S.eN]; exact hN) (by rw [S.es]; exact hv) hd hcd) (pa_cons pe_w pa_nil hst) rfl hfew hline hst rfl)) ?_
  unfold sAppend at c
  split at c
  · rename_i ds hi
    obtain ⟨p, vs, e0, h0, hn, h, h'⟩ := r.sl i _ hi
    refine ⟨_, e0, .inl ⟨rfl, vs, .inl (.inl h)⟩, he ρ _ c H0 γ σ H r _ fun dd v H2 c e1 h1 => ?_⟩
    refine ⟨p, vs, v, rfl, rfl, e1.kp p _ h hn, ?_, d.nx _ _ _ c.2 ?_⟩
    · rw [dpAll_len h']; exact slice_line c.1
    · exact (r.after e1).change hi rfl rfl e0 hn h0 ⟨p, _, rfl, h0, hn, upd_same, dpAll_append (dpAll_after e1 h') (.cons h1 .nil)⟩
  · exact c.elim
/-- x.extend(a new list) -/
def sExtend (i : Nat) (te : UE) : US := fun E ρ => match ρ[i]? with
  | some (.lst ds) => te ρ fun r => match r with
    | .lst es => ds.length + es.length ≤ 1000000 ∧ E.nx (ρ.set i (.lst (ds ++ es)))
    | _ => False
  | _ => False
theorem js_extend (S : Ok cp G N sc k X) (i : Nat) (he : JE τ X e te) (hN : N[i]? = some x := by rfl) (hv : Vis sc x := by first | exact Or.inl rfl | exact Or.inr (Or.inl rfl) | exact Or.inr (Or.inr rfl)) (hd : (x == ("__debug__" : Str)) = false := by decide) (hcd : (x == ("__classdict__" : Str)) = false := by decide)
    (hfew : ((backTo p3 (starEach [e] X.env)).all (fun x => !x.1) && (backToKw p3 (keywordEach [] X.env)).all (fun x => x.1.isSome) && decide ([e].length + ([] : List Keyword).length + (if ([] : List Keyword).isEmpty then 0 else 1) < 30)) = true := by rfl)
    (hline : (apos.endLine == p3.line) = true := by rfl) (hst : starEach [e] X.env = (false, eval e X.env) :: starEach [] X.env := by rfl) :
    JS τ X (.Expr (.Call (.Attribute (.Name x p2) "extend" apos) [e] [] p3) pos) (sExtend i te) := fun ρ E c H0 γ σ H r Dn d => by
  refine wpS_of (ps_expr (pe_bm PySem.F.plainAttrs_list PySem.F.slot_list_extend PySem.F.type_list_extend mt_extend (pe_var (i := i) (by rw [S.eN]; exact hN) (by rw [S.es]; exact hv) hd hcd) (pa_cons pe_w pa_nil hst) rfl hfew hline hst rfl)) ?_
  unfold sExtend at c
  split at c
  · rename_i ds hi
    obtain ⟨p, vs, e0, h0, hn, h, h'⟩ := r.sl i _ hi
    refine ⟨_, e0, .inl ⟨rfl, vs, .inl (.inl h)⟩, he ρ _ c H0 γ σ H r _ fun rs v H2 c e1 h1 => ?_⟩
    cases rs with
    | dat _ => exact c.elim
    | dic _ => exact c.elim
    | lst es =>
      obtain ⟨q, ws, rfl, hq, hq2, ha⟩ := h1
      refine ⟨p, q, vs, ws, rfl, rfl, e1.kp p _ h hn, hq2, ?_, d.nx _ _ _ c.2 ?_⟩
      · rw [dpAll_len h', dpAll_len ha]; exact small_line c.1
      · exact (r.after e1).change hi rfl rfl e0 hn h0 ⟨p, _, rfl, h0, hn, upd_same, dpAll_append (dpAll_after e1 h') (dpAll_same (res_mono fun b o n eb => ⟨fun z => n (.inl z), eb⟩) _ _ ha)⟩
  · exact c.elim
/-- target = x.pop() -/
def sPop (i : Nat) (g : UG) : US := fun E ρ => match ρ[i]? with
  | some (.lst ds) => ∃ d, ds[ds.length - 1]? = some d ∧ g d (ρ.set i (.lst ds.dropLast)) E.nx
  | _ => False
theorem dpAll_dropLast {K : PySem.W.Frag} {H : Hp} {vs : List V} {ds : List D} (h : DpAll K H vs ds) : DpAll K H vs.dropLast ds.dropLast := by
  rw [List.dropLast_eq_take, List.dropLast_eq_take, dpAll_len h]
  exact dpAll_take _ h
theorem js_pop (S : Ok cp G N sc k X) (i : Nat) (hg : JG τ X tg g) (hN : N[i]? = some x := by rfl) (hv : Vis sc x := by first | exact Or.inl rfl | exact Or.inr (Or.inl rfl) | exact Or.inr (Or.inr rfl)) (hd : (x == ("__debug__" : Str)) = false := by decide) (hcd : (x == ("__classdict__" : Str)) = false := by decide)
    (hline : (apos.endLine == p3.line) = true := by rfl)
    (hs : swapsWithSole [tg] (.Call (.Attribute (.Name x p2) "pop" apos) [] [] p3) pos.line X.env = pure false := by rfl) (hw : swappedStores [tg] (.Call (.Attribute (.Name x p2) "pop" apos) [] [] p3) X.env = pure none := by rfl)
    (h1 : (assignEach [tg] X.env).map (·.2) = [assign tg X.env] := by rfl) :
    JS τ X (.Assign [tg] (.Call (.Attribute (.Name x p2) "pop" apos) [] [] p3) pos) (sPop i g) := fun ρ E c H0 γ σ H r Dn d => by
  refine wpS_of (ps_asg (pe_bm0 PySem.F.plainAttrs_list PySem.F.slot_list_pop PySem.F.type_list_pop mt_pop (pe_var (i := i) (by rw [S.eN]; exact hN) (by rw [S.es]; exact hv) hd hcd) rfl hline) pg_w hs hw h1) ?_
  unfold sPop at c
  split at c
  · rename_i ds hi
    obtain ⟨p, vs, e0, h0, hn, h, h'⟩ := r.sl i _ hi
    obtain ⟨dd, hd1, c⟩ := c
    obtain ⟨v, hv1, hdp⟩ := dpAll_get h' hd1
    have r2 := r.change (o := .lst vs.dropLast) (s' := .lst ds.dropLast) hi rfl rfl e0 hn h0 ⟨p, _, rfl, h0, hn, upd_same, dpAll_dropLast h'⟩
    refine ⟨_, e0, .inl ⟨rfl, vs, .inl (.inl h)⟩, p, vs, v, rfl, rfl, h, by rw [dpAll_len h']; exact hv1, ?_⟩
    refine hg dd _ _ c H0 γ σ _ v r2 ?_ _ fun ρ' σ' c r' _ => d.nx ρ' σ' _ c r'
    have op : own τ σ ρ p := .inr ⟨i, _, hi, rfl, e0⟩
    refine dp_same (res_mono fun b o n q => ?_) _ _ hdp
    have hb : b ≠ p := fun z => n (by rw [z]; exact op)
    refine ⟨fun z => n ?_, by rw [upd_ne hb]; exact q⟩
    rcases z with z | ⟨j, u, g1, g2, g3⟩
    · exact .inl z
    · by_cases ej : i = j
      · subst ej; exact .inr ⟨i, _, hi, rfl, g3⟩
      · exact .inr ⟨j, u, set_other ej g1, g2, g3⟩
  · exact c.elim
/-! ### while -/
def whC (tt : UT) (tb : US) (E : Ed) : Nat → En → Prop
  | 0, _ => False
  | n + 1, ρ => tt ρ fun z => (z = true → tb { E with nx := whC tt tb E n, ct := whC tt tb E n, bk := E.nx } ρ) ∧ (z = false → E.nx ρ)
def sWhile (tt : UT) (tb : US) : US := fun E ρ => ∃ n, whC tt tb E n ρ
theorem js_while (S : Ok cp G N sc k X) (hc : JT τ X e tt) (hb : JSs τ X body t) : JS τ X (.While e body [] pos) (sWhile tt t) := fun ρ E c H0 γ σ H r Dn d => by
  obtain ⟨n, c⟩ := c
  refine wpS_of (ps_while S.po pt_w pss_w) ⟨fun m σ' H' => ∃ ρ', Rep X.K τ H0 γ H' σ' ρ' ∧ whC tt t E m ρ', ⟨n, ρ, r, c⟩, fun m σ' H' ⟨ρ', r', c⟩ => ?_⟩
  cases m with
  | zero => exact c.elim
  | succ m =>
    refine hc ρ' _ c H0 γ σ' H' r' _ fun z H2 c e1 => ?_
    cases z with
    | false => exact iteF (d.nx ρ' σ' H2 (c.2 rfl) (r'.after e1))
    | true =>
      refine iteT ⟨fun σ2 H3 => ∃ ρ2, Rep X.K τ H0 γ H3 σ2 ρ2 ∧ whC tt t E m ρ2, fun σ2 H3 h => ⟨m, Nat.lt_succ_self m, h⟩, ?_⟩
      exact hb ρ' _ (c.1 rfl) H0 γ σ' H2 (r'.after e1) _ ⟨fun ρ2 σ2 H3 c r2 => ⟨ρ2, r2, c⟩, d.nx, fun ρ2 σ2 H3 c r2 => ⟨ρ2, r2, c⟩, d.rt⟩
/-! ### what is walked -/
structure ItOk (K : PySem.W.Frag) (τ : Tn) (J : It) (γ' : List (V × D)) (ds : List D) : Prop where
  go : ∀ (H : Hp) (ow : Addr → Prop), (∀ p ∈ γ', Bo K τ H (res H ow) p.1 p.2) → ∀ i, i < ds.length → J.go i H
  yld : ∀ (H : Hp) (ow : Addr → Prop), (∀ p ∈ γ', Bo K τ H (res H ow) p.1 p.2) → (∀ a, H a = none → ¬ ow a) → ∀ (i : Nat) (d : D), ds[i]? = some d → ∀ x H4, J.yld i H x H4 → Same H H4 ∧ Dp K (res H4 ow) x d
  stop : ∀ (H : Hp) (ow : Addr → Prop), (∀ p ∈ γ', Bo K τ H (res H ow) p.1 p.2) → ∀ i, ds.length ≤ i → J.stop i H
/-- for a loop (what is walked must stay) | for a comprehension -/
def JI (τ : Tn) (X : Cx) (tg iter : Expr) (t : UL) : Prop := ∀ (ρ : En) (C : List D → Prop), t ρ C → ∀ (H0 : Hp) (γ : List (V × D)) (σ : St) (H : Hp), Rep X.K τ H0 γ H σ ρ → ∀ R : It → Hp → Prop,
  (∀ J γ' ds H2, C ds → Ext τ H H2 → (∀ p ∈ γ', Dp X.K (res H2 (own τ σ ρ)) p.1 p.2) → ItOk X.K τ J γ' ds → ds.length ≤ sizeLine → R J H2) → wpI X tg iter σ H R
def JIx (τ : Tn) (X : Cx) (tg iter : Expr) (t : UL) : Prop := ∀ (ρ : En) (C : List D → Prop), t ρ C → ∀ (H0 : Hp) (γ : List (V × D)) (σ : St) (H : Hp), Rep X.K τ H0 γ H σ ρ → ∀ R : It → Hp → Prop,
  (∀ J γ' ds H2, C ds → Ext τ H H2 → (∀ p ∈ γ', Bo X.K τ H2 (res H2 (own τ σ ρ)) p.1 p.2) → ItOk X.K τ J γ' ds → ds.length ≤ sizeLine → R J H2) → wpI X tg iter σ H R
theorem jix_of {tl : UL} (h : JI τ X tg iter tl) : JIx τ X tg iter tl := fun ρ C c H0 γ σ H r R q => h ρ C c H0 γ σ H r R fun J γ' ds H2 c e g o l => q J γ' ds H2 c e (fun p hp => bo_of res_own_ad (g p hp)) o l
theorem wpI_size {σ : St} {H : Hp} {R : It → Hp → Prop} (h : wpI X tg iter σ H fun J H2 => (∀ a xs, SqL X.K H2 a xs → xs.length ≤ sizeLine) → (∀ a xs, SqT X.K H2 a xs → xs.length ≤ sizeLine) → R J H2) : wpI X tg iter σ H R := by
  unfold wpI at h ⊢
  exact fun pins s I => thn (h pins s I) fun v s1 h1 => thn h1 fun itv s2 ⟨it, fp, tn, J, H', e, I', T, st, f, q⟩ => ⟨it, fp, tn, J, H', e, I', T, st, f, q (fun a xs hs => let ⟨_, _, _, z⟩ := I'.list hs; z) fun a xs hs => let ⟨_, _, _, z⟩ := I'.tuple hs; z⟩
/-- the signs of a text -/
def signsD (x : Str) : List D := x.cps.toList.map fun c => .str ⟨#[c]⟩
theorem signsD_len {x : Str} : (signsD x).length = x.cps.size := by simp [signsD]
/-- over a list, a tuple or a text -/
def iSeqU (K : PySem.W.Frag) (tl : TE) : TI := fun σ H R => tl σ H fun x H1 => (∃ a, x = .ref a ∧ (∃ xs, SqL K H1 a xs) ∧ R (Itl K a) H1) ∨ (∃ a, x = .ref a ∧ (∃ xs, SqT K H1 a xs) ∧ R (Itt K a) H1) ∨ ∃ y, x = .str y ∧ R (Its y) H1
theorem pi_seqU {l : Expr} {tl : TE} (hl : PE X l tl) : PI X tg l (iSeqU X.K tl) := by
  refine ⟨fun pins s σ H R I h => ?_⟩
  refine thn (hl.run pins s σ H _ I h) fun v s1 ⟨x, H1, I1, r1, q1⟩ => ?_
  have fresh : ∀ b ∈ [s1.heap.objs.size], FpOk X pins H1 b := fun b hb => by
    have e : b = s1.heap.objs.size := by simpa using hb
    subst e
    exact I1.fpOk (Nat.le_refl _) (I1.hok.fresh (Nat.le_refl _))
  rcases q1 with ⟨a, e, ⟨xs, hq⟩, q⟩ | ⟨a, e, ⟨xs, hq⟩, q⟩ | ⟨y, e, q⟩
  · subst e
    cases r1
    obtain ⟨its, rv, p, hz⟩ := I1.list hq
    exact wpAny_pyIter_list p.isList ⟨s1.heap.objs.size, [s1.heap.objs.size], _, _, H1, rfl, I1.kept (t' := s1.toks) fun b o e => Heap.get?_push_of_some _ e, turn_list a _, ⟨_, Heap.get?_push_size _ rfl, rfl, rfl⟩, fresh, q⟩
  · subst e
    cases r1
    obtain ⟨its, rv, p, hz⟩ := I1.tuple hq
    exact wpAny_pyIter_tuple (show s1.heap.IsTuple a its.toArray from p) ⟨s1.heap.objs.size, [s1.heap.objs.size], _, _, H1, rfl, I1.kept (t' := s1.toks) fun b o e => Heap.get?_push_of_some _ e, turn_tuple a _, ⟨_, Heap.get?_push_size _ rfl, rfl, rfl⟩, fresh, q⟩
  · subst e
    obtain ⟨t, rfl⟩ := r1
    cases hw : y.cps.all (· < 128)
    · exact wpAny_pyIter_wide hw (pi_one (tk := s1.toks) I1 _ (turn_str _ y t "str_iterator" (.inr rfl)) ⟨_, Heap.get?_push_size _ rfl, rfl, rfl⟩ q)
    · exact wpAny_pyIter_ascii hw (pi_one (tk := s1.toks) I1 _ (turn_str _ y t "str_ascii_iterator" (.inl rfl)) ⟨_, Heap.get?_push_size _ rfl, rfl, rfl⟩ q)
theorem itOk_list {K : PySem.W.Frag} {a : Addr} {ds : List D} : ItOk K τ (Itl K a) [(.ref a, .list ds)] ds where
  go := fun H ow g i hi => by
    obtain ⟨p, vs, e, hs, ha⟩ := g _ (List.mem_singleton.mpr rfl)
    cases e
    obtain ⟨v, hv, _⟩ := dpAll_get ha (List.getElem?_eq_getElem hi)
    exact ⟨vs, v, sqL_same res_le hs, hv⟩
  yld := fun H ow g hn i d hd x H4 hy => by
    obtain ⟨p, vs, e, hs, ha⟩ := g _ (List.mem_singleton.mpr rfl)
    cases e
    obtain ⟨rfl, hy⟩ := hy
    obtain ⟨v, hv, hdp⟩ := dpAll_get ha hd
    have := (hy vs (sqL_same res_le hs)).symm.trans hv
    cases this
    exact ⟨Same.refl _, hdp⟩
  stop := fun H ow g i hi => by
    obtain ⟨p, vs, e, hs, ha⟩ := g _ (List.mem_singleton.mpr rfl)
    cases e
    exact ⟨vs, sqL_same res_le hs, by rw [dpAll_len ha]; exact hi⟩
theorem itOk_tup {K : PySem.W.Frag} {a : Addr} {ds : List D} : ItOk K τ (Itt K a) [(.ref a, .tuple ds)] ds where
  go := fun H ow g i hi => by
    obtain ⟨p, vs, e, hs, ha⟩ := g _ (List.mem_singleton.mpr rfl)
    cases e
    obtain ⟨v, hv, _⟩ := dpAll_get ha (List.getElem?_eq_getElem hi)
    exact ⟨vs, v, sqT_same res_le hs, hv⟩
  yld := fun H ow g hn i d hd x H4 hy => by
    obtain ⟨p, vs, e, hs, ha⟩ := g _ (List.mem_singleton.mpr rfl)
    cases e
    obtain ⟨rfl, hy⟩ := hy
    obtain ⟨v, hv, hdp⟩ := dpAll_get ha hd
    have := (hy vs (sqT_same res_le hs)).symm.trans hv
    cases this
    exact ⟨Same.refl _, hdp⟩
  stop := fun H ow g i hi => by
    obtain ⟨p, vs, e, hs, ha⟩ := g _ (List.mem_singleton.mpr rfl)
    cases e
    exact ⟨vs, sqT_same res_le hs, by rw [dpAll_len ha]; exact hi⟩
theorem itOk_str {K : PySem.W.Frag} {x : Str} {g : List (V × D)} : ItOk K τ (Its x) g (signsD x) where
  go := fun H ow _ i hi => by
    rw [signsD_len] at hi
    exact hi
  yld := fun H ow _ hn i d hd v H4 hy => by
    obtain ⟨rfl, c, hc, rfl⟩ := hy
    unfold signsD at hd
    rw [List.getElem?_map, Array.getElem?_toList, hc] at hd
    cases hd
    exact ⟨fun _ _ e => e, .str _⟩
  stop := fun H ow _ i hi => by
    rw [signsD_len] at hi
    exact hi
def fSeq0 : D → (List D → Prop) → Prop
  | .list ds, C => C ds
  | .tuple ds, C => C ds
  | _, _ => False
def fSeq : D → (List D → Prop) → Prop
  | .list ds, C => C ds
  | .tuple ds, C => C ds
  | .str x, C => x.cps.size ≤ 1000000 ∧ C (signsD x)
  | _, _ => False
def iSeq (tv : UV) : UL := fun ρ C => tv ρ fun d => fSeq d C
theorem ji_seq (he : JD τ X iter tv) : JI τ X tg iter (iSeq tv) := fun ρ C c H0 γ σ H r R q =>
  wpI_size (wpI_of (pi_seqU pe_w) (he ρ _ c H0 γ σ H r _ fun d v H2 c e1 h => by
    cases h with
    | lst hs ha => exact .inl ⟨_, rfl, ⟨_, sqL_same res_le hs⟩, fun z1 z2 => q _ [(_, _)] _ H2 c e1 (fun p hp => by rw [List.mem_singleton.mp hp]; exact .lst hs ha) itOk_list (by rw [← dpAll_len ha]; exact z1 _ _ (sqL_same res_le hs))⟩
    | tup hs ha => exact .inr (.inl ⟨_, rfl, ⟨_, sqT_same res_le hs⟩, fun z1 z2 => q _ [(_, _)] _ H2 c e1 (fun p hp => by rw [List.mem_singleton.mp hp]; exact .tup hs ha) itOk_tup (by rw [← dpAll_len ha]; exact z2 _ _ (sqT_same res_le hs))⟩)
    | non => exact c.elim
    | bl _ => exact c.elim
    | int _ => exact c.elim
    | str x => exact .inr (.inr ⟨x, rfl, fun _ _ => q _ [] _ H2 c.2 e1 (fun p hp => by cases hp) itOk_str (by rw [signsD_len]; exact Nat.le_of_lt (slice_line c.1))⟩)))
theorem jix_seq (he : JV τ X iter tv) : JIx τ X tg iter (iSeq tv) := fun ρ C c H0 γ σ H r R q =>
  wpI_size (wpI_of (pi_seqU pe_w) (he ρ _ c H0 γ σ H r _ fun d v H2 c e1 h => by
    cases d with
    | list ds =>
      obtain ⟨p, vs, rfl, hs, ha⟩ := id h
      exact .inl ⟨_, rfl, ⟨_, sqL_same res_le hs⟩, fun z1 z2 => q _ [(_, _)] _ H2 c e1 (fun p hp => by rw [List.mem_singleton.mp hp]; exact h) itOk_list (by rw [← dpAll_len ha]; exact z1 _ _ (sqL_same res_le hs))⟩
    | tuple ds =>
      obtain ⟨p, vs, rfl, hs, ha⟩ := id h
      exact .inr (.inl ⟨_, rfl, ⟨_, sqT_same res_le hs⟩, fun z1 z2 => q _ [(_, _)] _ H2 c e1 (fun p hp => by rw [List.mem_singleton.mp hp]; exact h) itOk_tup (by rw [← dpAll_len ha]; exact z2 _ _ (sqT_same res_le hs))⟩)
    | none => exact c.elim
    | bool _ => exact c.elim
    | int _ => exact c.elim
    | str x =>
      cases h
      exact .inr (.inr ⟨x, rfl, fun _ _ => q _ [] _ H2 c.2 e1 (fun p hp => by cases hp) itOk_str (by rw [signsD_len]; exact Nat.le_of_lt (slice_line c.1))⟩)
    | dict _ => exact c.elim))
/-! ranges -/
def rngD (lo : Int) (n : Nat) : List D := (List.range n).map fun (i : Nat) => .int (lo + (i : Int))
theorem rngD_get {lo : Int} {n i : Nat} {d : D} (h : (rngD lo n)[i]? = some d) : i < n ∧ d = .int (lo + (i : Int)) := by
  unfold rngD at h
  rw [List.getElem?_map] at h
  cases q : (List.range n)[i]? with
  | none => rw [q] at h; cases h
  | some j =>
    rw [q] at h
    obtain ⟨h1, h2⟩ := List.getElem?_eq_some_iff.mp q
    rw [List.getElem_range] at h2
    subst h2
    exact ⟨by simpa using h1, (Option.some.inj h).symm⟩
theorem rngD_len {lo : Int} {n : Nat} : (rngD lo n).length = n := by simp [rngD]
theorem itOk_rng {K : PySem.W.Frag} {lo : Int} {n : Nat} : ItOk K τ (Itr lo n) [] (rngD lo n) where
  go := fun H ow g i hi => by rw [rngD_len] at hi; exact hi
  yld := fun H ow g hn i d hd x H4 hy => by
    obtain ⟨_, rfl⟩ := rngD_get hd
    obtain ⟨rfl, rfl⟩ := hy
    exact ⟨Same.refl _, .int _⟩
  stop := fun H ow g i hi => by rw [rngD_len] at hi; exact hi
def iRange1 (tv : UV) : UL := fun ρ C => tv ρ fun d => ∃ n, d = .int n ∧ n ≤ 1000000 ∧ -1000000000 ≤ n ∧ C (rngD 0 n.toNat)
theorem pow62 {n : Int} (h : n ≤ 1000000000000) (h2 : -1000000000000 ≤ n) : -(2 ^ 62) ≤ n ∧ n < 2 ^ 62 := by
  constructor <;> omega
theorem ji_range1 {p : Pos} (S : Ok cp G N sc k X) (hm : Free G "range") (he : JV τ X e tv) (hg : sc.names.lookup ("range" : Str) = some .globalImplicit := by rfl) (hs : starEach [e] X.env = [(false, eval e X.env)] := by rfl) : JI τ X tg (.Call (.Name "range" p) [e] [] pos) (iRange1 tv) := fun ρ C c H0 γ σ H r R q =>
  wpI_of (pi_range1 (by show X.env.scope.names.lookup _ = _; rw [S.es]; exact hg) (by rw [S.em]; exact hm) (pa_cons pe_w pa_nil (by rw [hs]; rfl)) hs) (he ρ _ c H0 γ σ H r _ fun d v H2 c e1 h => by
    obtain ⟨n, rfl, h1, h2, c⟩ := c
    cases h
    obtain ⟨a, b⟩ := pow62 (n := n) (by omega) (by omega)
    exact ⟨n, rfl, a, b, q _ [] _ H2 c e1 (fun p hp => by cases hp) itOk_rng (by rw [rngD_len]; exact small_line (by omega))⟩)
def iRange2 (tv tw : UV) : UL := fun ρ C => tv ρ fun d => tw ρ fun d2 => ∃ m n, d = .int m ∧ d2 = .int n ∧ n - m ≤ 1000000 ∧ -1000000000000 ≤ m ∧ m ≤ 1000000000000 ∧ -1000000000000 ≤ n ∧ n ≤ 1000000000000 ∧ C (rngD m (n - m).toNat)
theorem ji_range2 {p : Pos} (S : Ok cp G N sc k X) (hm : Free G "range") (he : JV τ X e tv) (he2 : JV τ X e2 tw) (hg : sc.names.lookup ("range" : Str) = some .globalImplicit := by rfl) (hs : starEach [e, e2] X.env = [(false, eval e X.env), (false, eval e2 X.env)] := by rfl) (hs2 : starEach [e2] X.env = [(false, eval e2 X.env)] := by rfl) :
    JI τ X tg (.Call (.Name "range" p) [e, e2] [] pos) (iRange2 tv tw) := fun ρ C c H0 γ σ H r R q =>
  wpI_of (pi_range2 (by show X.env.scope.names.lookup _ = _; rw [S.es]; exact hg) (by rw [S.em]; exact hm) (pa_cons pe_w (pa_cons pe_w pa_nil (by rw [hs2]; rfl)) (by rw [hs, hs2])) hs hs2) (he ρ _ c H0 γ σ H r _ fun d v H2 c e1 h => he2 ρ _ c H0 γ σ H2 (r.after e1) _ fun d2 v2 H3 c e2 h2 => by
    obtain ⟨m, n, rfl, rfl, h3, h4, h5, h6, h7, c⟩ := c
    cases h; cases h2
    obtain ⟨a1, b1⟩ := pow62 (n := m) (by omega) (by omega)
    obtain ⟨a2, b2⟩ := pow62 (n := n) (by omega) (by omega)
    exact ⟨m, n, rfl, ⟨a1, b1, a2, b2⟩, q _ [] _ H3 c (e1.trans e2) (fun p hp => by cases hp) itOk_rng (by rw [rngD_len]; exact small_line (by omega))⟩)
/-! ### for -/
def forC (g : UG) (tb : US) (E : Ed) : List D → En → Prop
  | [], ρ => E.nx ρ
  | d :: ds, ρ => g d ρ fun ρ' => tb { E with nx := forC g tb E ds, ct := forC g tb E ds, bk := E.nx } ρ'
def sFor (ti : UL) (g : UG) (tb : US) : US := fun E ρ => ti ρ fun ds => forC g tb E ds ρ
theorem Rep.less {K : PySem.W.Frag} {H0 H : Hp} {γ γ' : List (V × D)} {σ : St} {ρ : En} (r : Rep K τ H0 (γ' ++ γ) H σ ρ) : Rep K τ H0 γ H σ ρ := ⟨r.len, r.ext, r.inv, r.sl, r.sep, fun p hp => r.gh p (List.mem_append_right _ hp), r.zz⟩
theorem js_for {ti : UL} (S : Ok cp G N sc k X) (hi : JI τ X tg iter ti) (hg : JG τ X tg g) (hb : JSs τ X body t) (hs : ∀ x, foldedSetIterable iter X.env x = pure x := by intro _; rfl) : JS τ X (.For tg iter body [] pos) (sFor ti g t) := fun ρ E c H0 γ σ H r Dn d => by
  refine wpS_of (ps_for S.po S.calm pi_w pg_w pss_w hs) (hi ρ _ c H0 γ σ H r _ fun J γ' ds H2 c e1 hγ hJ _ => ?_)
  have r2 := r.after e1
  have R2 : Rep X.K τ H0 (γ' ++ γ) H2 σ ρ := ⟨r2.len, r2.ext, r2.inv, r2.sl, r2.sep, fun p hp => (List.mem_append.mp hp).elim (hγ p) (r2.gh p), r2.zz⟩
  refine ⟨fun i m σ' H' => m = ds.length - i ∧ ∃ ρ', Rep X.K τ H0 (γ' ++ γ) H' σ' ρ' ∧ forC g t E (ds.drop i) ρ', ⟨_, rfl, ρ, R2, c⟩, fun i m σ' H' ⟨hm, ρ', r', c⟩ => ?_⟩
  have bo : ∀ p ∈ γ', Bo X.K τ H' (res H' (own τ σ' ρ')) p.1 p.2 := fun p hp => bo_of res_own_ad (r'.gh p (List.mem_append_left _ hp))
  by_cases hlt : i < ds.length
  · rw [List.drop_eq_getElem_cons hlt] at c
    refine .inr ⟨hJ.go H' _ bo i hlt, fun σ2 H3 => ∃ ρ2, Rep X.K τ H0 (γ' ++ γ) H3 σ2 ρ2 ∧ forC g t E (ds.drop (i + 1)) ρ2, fun σ2 H3 h => ⟨ds.length - (i + 1), by omega, rfl, h⟩, fun x H4 hy => ?_⟩
    obtain ⟨sm, hdp⟩ := hJ.yld H' _ bo (fun a ha => r'.notOwn ha) i _ (List.getElem?_eq_getElem hlt) x H4 hy
    refine hg _ ρ' _ c H0 (γ' ++ γ) σ' H4 x (r'.after (.of_same sm)) hdp _ fun ρ2 σ2 c r3 _ => ?_
    exact hb ρ2 _ c H0 (γ' ++ γ) σ2 H4 r3 _ ⟨fun ρ3 σ3 H5 c r4 => ⟨ρ3, r4, c⟩, fun ρ3 σ3 H5 c r4 => d.nx ρ3 σ3 H5 c r4.less, fun ρ3 σ3 H5 c r4 => ⟨ρ3, r4, c⟩, d.rt⟩
  · rw [List.drop_of_length_le (by omega)] at c
    exact .inl ⟨hJ.stop H' _ bo i (by omega), d.nx ρ' σ' H' c r'.less⟩
/-- a list of one's own laid still -/
def sFrz (i : Nat) (t : US) : US := fun E ρ => match ρ[i]? with
  | some (.lst ds) => t E (ρ.set i (.dat (.list ds)))
  | _ => t E ρ
theorem js_frz (i : Nat) (h : JS τ X st t) : JS τ X st (sFrz i t) := fun ρ E c H0 γ σ H r Dn d => by
  unfold sFrz at c
  split at c
  · rename_i ds hi
    refine h _ E c H0 γ σ H ?_ Dn d
    obtain ⟨p, vs, e0, h0, hn, hp, ha⟩ := r.sl i _ hi
    have hil : i < σ.length := by rw [r.len]; exact (List.getElem?_eq_some_iff.mp hi).1
    have es : σ.set i (some (.ref p)) = σ := by
      apply List.ext_getElem?
      intro j
      by_cases ej : i = j
      · subst ej; rw [List.getElem?_set_self hil]; exact e0.symm
      · rw [List.getElem?_set_ne ej]
    have sub : ∀ b, own τ σ (ρ.set i (.dat (.list ds))) b → own τ σ ρ b ∧ b ≠ p := by
      rintro b (z | ⟨j, u, g1, g2, g3⟩)
      · exact ⟨.inl z, fun q => hn (by rw [← q]; exact z)⟩
      · have ne : i ≠ j := fun q => by subst q; rw [(set_here g1).1] at g2; cases g2
        exact ⟨.inr ⟨j, u, set_other ne g1, g2, g3⟩, fun q => ne (r.sep i j _ u p hi (set_other ne g1) rfl g2 e0 (by rw [← q]; exact g3))⟩
    have le : Same (res H (own τ σ ρ)) (res H (own τ σ (ρ.set i (.dat (.list ds))))) := res_mono fun a o n q => ⟨fun z => n (sub a z).1, q⟩
    refine ⟨by simp [r.len], r.ext, r.inv, fun j u hu => ?_, fun j l u w b g1 g2 g3 g4 g5 g6 => ?_, fun q hq => dp_same le _ _ (r.gh q hq), r.zz⟩
    · by_cases ej : i = j
      · subst ej
        obtain ⟨rfl, _⟩ := set_here hu
        exact ⟨_, e0, .lst (.inl (.inl (res_put (fun z => (sub p z).2 rfl) hp))) (dpAll_same le _ _ ha)⟩
      · exact SlOk.mono le (fun _ _ _ _ _ q => q) (r.sl j u (set_other ej hu))
    · have n1 : i ≠ j := fun e => by subst e; rw [(set_here g1).1] at g3; cases g3
      have n2 : i ≠ l := fun e => by subst e; rw [(set_here g2).1] at g4; cases g4
      exact r.sep j l u w b (set_other n1 g1) (set_other n2 g2) g3 g4 g5 g6
  · exact h ρ E c H0 γ σ H r Dn d
end
end Pu
namespace Pu
open PySem PySem.Spec PyProof.Rows L2
/-! ### a list out of sight -/
def unT (H : Hp) (p : Addr) : Hp := fun b => if b = p then none else H b
theorem unT_same {H : Hp} {p : Addr} : unT H p p = none := if_pos rfl
theorem unT_ne {H : Hp} {p b : Addr} (h : b ≠ p) : unT H p b = H b := if_neg h
theorem unT_le {H : Hp} {p : Addr} : Same (unT H p) H := fun b o e => by
  by_cases h : b = p
  · subst h; rw [unT_same] at e; cases e
  · rw [unT_ne h] at e; exact e
theorem upd_unT {H : Hp} {p : Addr} {o : HO} (h : H p = some o) : upd (unT H p) p o = H := by
  funext b
  by_cases hb : b = p
  · subst hb; rw [upd_same, h]
  · rw [upd_ne hb, unT_ne hb]
theorem unT_upd {H : Hp} {p : Addr} {o : HO} (h : H p = none) : unT (upd H p o) p = H := by
  funext b
  by_cases hb : b = p
  · subst hb; rw [unT_same, h]
  · rw [unT_ne hb, upd_ne hb]
section
variable {X : Cx} {pins : List (Addr × Obj)} {σ : St} {H : Hp} {s : Shared} {p : Addr} {xs : List V}
theorem inv_untrack (I : Inv X pins σ H s) (h : H p = some (.lst xs)) : ∃ o, s.heap.get? p = some o ∧ Inv X ((p, o) :: pins) σ (unT H p) s := by
  obtain ⟨hz, its, n, rv, ho⟩ := I.hok p _ h
  refine ⟨_, ho, I.ok, I.os, I.bare, ⟨I.base.keep, I.base.slot, fun b o e n hx => ?_, I.base.there, fun b ys e => ?_, fun b o u e => ?_, fun b ps e => ?_⟩, I.loc, I.cell, ?_, fun x c e => ?_, fun q hq => ?_, fun b u e => ?_, I.len⟩
  · by_cases hb : b = p
    · subst hb; exact unT_same
    · rw [unT_ne hb]; exact I.base.free b o e n hx
  · have e' := I.base.tups b ys e
    have hb : b ≠ p := fun z => by rw [z, h] at e'; cases e'
    rw [unT_ne hb]; exact e'
  · have e' := I.base.frzs b o u e
    have hb : b ≠ p := fun z => by rw [z, h] at e'; cases e'
    rw [unT_ne hb]; exact e'
  · obtain ⟨m, e'⟩ := I.base.tbls b ps e
    have hb : b ≠ p := fun z => by rw [z, h] at e'; cases e'
    exact ⟨m, by rw [unT_ne hb]; exact e'⟩
  · by_cases hb : X.env.locals = p
    · rw [hb]; exact unT_same
    · rw [unT_ne hb]; exact I.free
  · by_cases hb : c = p
    · rw [hb]; exact unT_same
    · rw [unT_ne hb]; exact I.freeC x c e
  · have old : q ∈ X.pn ++ pins → s.heap.get? q.1 = some q.2 ∧ unT H p q.1 = none ∧ q.1 ≠ X.env.locals ∧ q.1 ∉ X.fs ∧ ∀ v, q.2.data ≠ .cell v := fun hq => by
      obtain ⟨a1, a2, a3, a4, a5⟩ := I.pin q hq
      refine ⟨a1, ?_, a3, a4, a5⟩
      by_cases hb : q.1 = p
      · rw [hb]; exact unT_same
      · rw [unT_ne hb]; exact a2
    rcases List.mem_append.mp hq with hq | hq
    · exact old (List.mem_append_left _ hq)
    · rcases List.mem_cons.mp hq with rfl | hq
      · refine ⟨ho, unT_same, fun z => ?_, fun z => ?_, fun v q => by cases q⟩
        · have f := I.free
          rw [← z] at f
          rw [f] at h; cases h
        · obtain ⟨_, o, ho', _⟩ := I.ok.funs.mem z
          have f := I.base.free p o ho' (I.ok.frf p z) fun y => I.ok.exfs p y z
          rw [f] at h; cases h
      · exact old (List.mem_append_right _ hq)
  · have e' := unT_le b u e
    refine (I.hok b u e').stay (fun _ _ _ q => q) (fun c q => ?_) fun c ys q => ?_
    · have hc : c ≠ p := fun z => by rw [z, h] at q; cases q
      rw [unT_ne hc]; exact q
    · have hc : c ≠ p := fun z => by rw [z, h] at q; cases q
      rw [unT_ne hc]; exact q
theorem inv_retrack {σ' : St} {H2 : Hp} {s2 : Shared} {o : Obj} (I : Inv X pins σ H s) (h : H p = some (.lst xs)) (ho : s.heap.get? p = some o) (I2 : Inv X ((p, o) :: pins) σ' H2 s2) : H2 p = none ∧ Inv X pins σ' (upd H2 p (.lst xs)) s2 := by
  obtain ⟨g1, g2, g3, g4, g5⟩ := I2.pin (p, o) (List.mem_append_right _ (List.mem_cons_self ..))
  simp only at g1 g2 g3 g4
  have ne0 : ∀ b u, X.H_0 b = some u → (∀ ys, u ≠ .lst ys) → (∀ b ys, X.H_0 b = some (.tup ys) → H b = some (.tup ys)) → True := fun _ _ _ _ _ => trivial
  obtain ⟨hz, its, n, rv, ho'⟩ := I.hok p _ h
  rw [ho] at ho'
  cases ho'
  refine ⟨g2, I2.ok, I2.os, I2.bare, ⟨I2.base.keep, I2.base.slot, fun b o e n hx => ?_, I2.base.there, fun b ys e => ?_, fun b o u e => ?_, fun b ps e => ?_⟩, I2.loc, I2.cell, ?_, fun x c e => ?_, fun q hq => ?_, fun b u e => ?_, I2.len⟩
  · have hb : b ≠ p := fun z => by
      rw [z] at e n hx
      rw [I.base.free p o e n hx] at h; cases h
    rw [upd_ne hb]; exact I2.base.free b o e n hx
  · have hb : b ≠ p := fun z => by
      rw [z] at e
      rw [I.base.tups p ys e] at h; cases h
    rw [upd_ne hb]; exact I2.base.tups b ys e
  · have hb : b ≠ p := fun z => by
      rw [z] at e
      rw [I.base.frzs p o u e] at h; cases h
    rw [upd_ne hb]; exact I2.base.frzs b o u e
  · have hb : b ≠ p := fun z => by
      rw [z] at e
      obtain ⟨m, e'⟩ := I.base.tbls p ps e
      rw [e'] at h; cases h
    rw [upd_ne hb]; exact I2.base.tbls b ps e
  · rw [upd_ne (fun z => g3 z.symm)]; exact I2.free
  · have hb : c ≠ p := fun z => by
      have f := I.freeC x c e
      rw [z, h] at f; cases f
    rw [upd_ne hb]; exact I2.freeC x c e
  · obtain ⟨a1, a2, a3, a4, a5⟩ := I2.pin q (by
      rcases List.mem_append.mp hq with hq | hq
      · exact List.mem_append_left _ hq
      · exact List.mem_append_right _ (List.mem_cons_of_mem _ hq))
    have hb : q.1 ≠ p := fun z => by
      have f := (I.pin q hq).2.1
      rw [z, h] at f; cases f
    exact ⟨a1, by rw [upd_ne hb]; exact a2, a3, a4, a5⟩
  · by_cases hb : b = p
    · subst hb
      rw [upd_same] at e
      cases e
      exact ⟨hz, its, n, rv, g1⟩
    · rw [upd_ne hb] at e
      refine (I2.hok b u e).stay (fun _ _ _ q => q) (fun c q => ?_) fun c ys q => ?_
      · have hc : c ≠ p := fun z => by rw [z, g2] at q; cases q
        rw [upd_ne hc]; exact q
      · have hc : c ≠ p := fun z => by rw [z, g2] at q; cases q
        rw [upd_ne hc]; exact q
end
section
variable {X : Cx} {σ : St} {H : Hp} {p : Addr} {xs : List V} {e tg : Expr}
theorem wpE_hide {Q Q' : VK} (h : H p = some (.lst xs)) (q : wpE X e σ (unT H p) Q') (k : ∀ v H2, H2 p = none → Q' v H2 → Q v (upd H2 p (.lst xs))) : wpE X e σ H Q := by
  unfold wpE at q ⊢
  intro pins s I
  obtain ⟨o, ho, I'⟩ := inv_untrack I h
  refine thn (q _ s I') fun u s2 ⟨v, H2, I2, rv, qq⟩ => ?_
  obtain ⟨hn, I3⟩ := inv_retrack I h ho I2
  exact ⟨v, _, I3, rv, k v H2 hn qq⟩
theorem wpG_hide {v : V} {Q Q' : St → Hp → Prop} (h : H p = some (.lst xs)) (q : wpG X tg v σ (unT H p) Q') (k : ∀ σ2 H2, H2 p = none → Q' σ2 H2 → Q σ2 (upd H2 p (.lst xs))) : wpG X tg v σ H Q := by
  unfold wpG at q ⊢
  intro pins s u I rv
  obtain ⟨o, ho, I'⟩ := inv_untrack I h
  refine thn (q _ s u I' rv) fun u s2 ⟨σ2, H2, I2, qq⟩ => ?_
  obtain ⟨hn, I3⟩ := inv_retrack I h ho I2
  exact ⟨σ2, _, I3, k σ2 H2 hn qq⟩
def wpTs (X : Cx) (ifs : List Expr) : TT := fun σ H Q => ∀ t : TT, PTs X ifs t → True → ∃ t : TT, PTs X ifs t ∧ t σ H Q
end
/-! ### tests of a comprehension -/
def JTs (τ : Tn) (X : Cx) (ifs : List Expr) (t : UT) : Prop := match ifs with
  | [] => ∀ (ρ : En) (C : Bool → Prop), t ρ C → C true
  | [c] => JT τ X c t
  | _ => False
def bYes : UT := fun _ C => C true
theorem jts_nil {τ : Tn} {X : Cx} : JTs τ X [] bYes := fun _ _ c => c
theorem jts_one {τ : Tn} {X : Cx} {c : Expr} {t : UT} (h : JT τ X c t) : JTs τ X [c] t := h
theorem wpT_hide {X : Cx} {σ : St} {H : Hp} {p : Addr} {xs : List V} {e : Expr} {Q Q' : Bool → Hp → Prop} (h : H p = some (.lst xs)) (q : wpT X e σ (unT H p) Q') (k : ∀ b H2, H2 p = none → Q' b H2 → Q b (upd H2 p (.lst xs))) : wpT X e σ H Q := by
  unfold wpT at q ⊢
  intro pins s I
  obtain ⟨o, ho, I'⟩ := inv_untrack I h
  refine thn (q _ s I') fun b s2 ⟨H2, I2, qq⟩ => ?_
  obtain ⟨hn, I3⟩ := inv_retrack I h ho I2
  exact ⟨_, I3, k b H2 hn qq⟩
/-! ### list comprehensions -/
def lcC (g : UG) (tt : UT) (te : UV) (C : List D → Prop) (ρ : En) : List D → List D → Prop
  | [], acc => C acc
  | d :: ds, acc => g d ρ fun ρ2 => tt ρ2 fun z => (z = true → te ρ2 fun y => lcC g tt te C ρ ds (acc ++ [y])) ∧ (z = false → lcC g tt te C ρ ds acc)
def wipeS (ρ : En) : List Nat → En
  | [] => ρ
  | v :: vs => (wipeS ρ vs).set v .un
def noOwn (ρ : En) (vs : List Nat) : Prop := ∀ i ∈ vs, ∀ s, ρ[i]? = some s → s.isOwn = false
def eLc (ti : UL) (g : UG) (tt : UT) (te : UV) (vs : List Nat) : UE := fun ρ C => noOwn ρ vs ∧ ti ρ fun ds => lcC g tt te (fun acc => C (.lst acc)) (wipeS ρ vs) ds []
theorem wipeS_len (ρ : En) : ∀ vs : List Nat, (wipeS ρ vs).length = ρ.length
  | [] => rfl
  | v :: vs => by unfold wipeS; rw [List.length_set, wipeS_len ρ vs]
theorem wipeS_get {ρ : En} {i : Nat} {s : Sl} : ∀ {vs : List Nat}, (wipeS ρ vs)[i]? = some s → s = .un ∨ (ρ[i]? = some s ∧ i ∉ vs)
  | [], h => .inr ⟨h, by simp⟩
  | v :: vs, h => by
    unfold wipeS at h
    by_cases hi : v = i
    · subst hi
      exact .inl (set_here h).1
    · rcases wipeS_get (set_other hi h) with q | ⟨q1, q2⟩
      · exact .inl q
      · exact .inr ⟨q1, by simp only [List.mem_cons, not_or]; exact ⟨fun z => hi z.symm, q2⟩⟩
theorem wipeS_out {ρ : En} {i : Nat} : ∀ {vs : List Nat}, i ∉ vs → (wipeS ρ vs)[i]? = ρ[i]?
  | [], _ => rfl
  | v :: vs, h => by
    simp only [List.mem_cons, not_or] at h
    unfold wipeS
    rw [List.getElem?_set_ne (fun z => h.1 z.symm), wipeS_out h.2]
section
variable {τ : Tn} {K : PySem.W.Frag} {H0 H : Hp} {γ : List (V × D)} {σ : St} {ρ : En} {vs : List Nat}
theorem own_wipe (hn : noOwn ρ vs) (a : Addr) : own τ (wipe σ vs) (wipeS ρ vs) a ↔ own τ σ ρ a := by
  constructor
  · rintro (z | ⟨i, s, h1, h2, h3⟩)
    · exact .inl z
    · rcases wipeS_get h1 with rfl | ⟨q1, q2⟩
      · cases h2
      · rw [wipe_out q2] at h3
        exact .inr ⟨i, s, q1, h2, h3⟩
  · rintro (z | ⟨i, s, h1, h2, h3⟩)
    · exact .inl z
    · have hi : i ∉ vs := fun z => by rw [hn i z s h1] at h2; cases h2
      exact .inr ⟨i, s, by rw [wipeS_out hi]; exact h1, h2, by rw [wipe_out hi]; exact h3⟩
theorem own_wipe_eq (hn : noOwn ρ vs) : own τ (wipe σ vs) (wipeS ρ vs) = own τ σ ρ := funext fun a => propext (own_wipe hn a)
theorem Rep.wiped (hn : noOwn ρ vs) (r : Rep K τ H0 γ H σ ρ) : Rep K τ H0 γ H (wipe σ vs) (wipeS ρ vs) := by
  refine ⟨by rw [wipe_length, wipeS_len, r.len], r.ext, r.inv, fun i s h => ?_, fun i j s t a h1 h2 h3 h4 h5 h6 => ?_, by rw [own_wipe_eq hn]; exact r.gh, r.zz⟩
  · rw [own_wipe_eq hn]
    rcases wipeS_get h with rfl | ⟨q1, q2⟩
    · trivial
    · rw [wipe_out q2]
      exact r.sl i s q1
  · rcases wipeS_get h1 with rfl | ⟨q1, q2⟩
    · cases h3
    · rcases wipeS_get h2 with rfl | ⟨q3, q4⟩
      · cases h4
      · rw [wipe_out q2] at h5
        rw [wipe_out q4] at h6
        exact r.sep i j s t a q1 q3 h3 h4 h5 h6
end
/-! targets of a comprehension: their names are the block's own -/
theorem wipe_in {σ : St} {j : Nat} : ∀ {vs : List Nat}, j ∈ vs → (wipe σ vs)[j]? = if j < σ.length then some none else none
  | v :: vs, h => by
    unfold wipe
    by_cases hv : v = j
    · subst hv
      by_cases hl : v < σ.length
      · rw [List.getElem?_set_self (by rw [wipe_length]; exact hl), if_pos hl]
      · rw [List.getElem?_eq_none (by rw [List.length_set, wipe_length]; omega), if_neg hl]
    · rw [List.getElem?_set_ne hv]
      exact wipe_in ((List.mem_cons.mp h).resolve_left fun z => hv z.symm)
theorem wipe_set {σ : St} {i : Nat} {v : Option V} {vs : List Nat} (h : i ∈ vs) : wipe (σ.set i v) vs = wipe σ vs := by
  apply List.ext_getElem?
  intro j
  by_cases hj : j ∈ vs
  · rw [wipe_in hj, wipe_in hj, List.length_set]
  · rw [wipe_out hj, wipe_out hj, List.getElem?_set_ne (fun z => hj (by rw [← z]; exact h))]
def JGc (vs : List Nat) (τ : Tn) (X : Cx) (tg : Expr) (g : UG) : Prop := ∀ (d : D) (ρ : En) (C : En → Prop), g d ρ C → noOwn ρ vs → ∀ (H0 : Hp) (γ : List (V × D)) (σ : St) (H : Hp) (v : V), Rep X.K τ H0 γ H σ ρ → Dp X.K (res H (own τ σ ρ)) v d → ∀ Q : St → Hp → Prop,
  (∀ ρ' σ', C ρ' → Rep X.K τ H0 γ H σ' ρ' → noOwn ρ' vs → own τ σ' ρ' = own τ σ ρ → wipe σ' vs = wipe σ vs → Q σ' H) → wpG X tg v σ H Q
def JGcs (vs : List Nat) (τ : Tn) (X : Cx) (ts : List Expr) (g : UGs) : Prop := ∀ (ds : List D) (ρ : En) (C : En → Prop), g ds ρ C → noOwn ρ vs → ∀ (H0 : Hp) (γ : List (V × D)) (σ : St) (H : Hp) (ws : List V), Rep X.K τ H0 γ H σ ρ → DpAll X.K (res H (own τ σ ρ)) ws ds → ∀ Q : St → Hp → Prop,
  (∀ ρ' σ', C ρ' → Rep X.K τ H0 γ H σ' ρ' → noOwn ρ' vs → own τ σ' ρ' = own τ σ ρ → wipe σ' vs = wipe σ vs → Q σ' H) → wpGs X ts ws σ H Q
section
variable {τ : Tn} {G : Gx} {cp : List Str} {N : List Str} {sc : Scope} {k : Nat} {X : Cx} {tg : Expr} {es ts : List Expr} {g : UG} {gs : UGs} {pos p2 : Pos} {x : Str} {vs : List Nat}
theorem jgc_name (S : Ok cp G N sc k X) (i : Nat) (hv : i ∈ vs := by decide) (hN : N[i]? = some x := by rfl) (hx : LocC cp sc x := by first | exact Or.inl rfl | exact Or.inr ⟨rfl, rfl⟩) : JGc vs τ X (.Name x p2) (gNam i) := fun d ρ C c hno H0 γ σ H v r h Q q => by
  refine wpG_of (pg_name (i := i) (by rw [S.eN]; exact S.nd) (by rw [S.eN]; exact hN) (loc_of S hx) (fn_of_loc S hx)) ?_
  refine q _ _ c (r.setDat h) (fun j hj s hs => ?_) ?_ (wipe_set hv)
  · by_cases e : i = j
    · subst e; rw [(set_here hs).1]; rfl
    · exact hno j hj s (set_other e hs)
  · funext a
    refine propext ⟨fun z => (own_set z).elim id fun q => (by cases q.1), ?_⟩
    rintro (z | ⟨j, s, h1, h2, h3⟩)
    · exact .inl z
    · have e : i ≠ j := fun e => by subst e; rw [hno i hv s h1] at h2; cases h2
      exact .inr ⟨j, s, by rw [List.getElem?_set_ne e]; exact h1, h2, by rw [List.getElem?_set_ne e]; exact h3⟩
theorem jgcs_nil : JGcs vs τ X [] gsNil := fun ds ρ C c hno H0 γ σ H ws r h Q q => by
  cases ds with
  | nil =>
    cases h
    exact wpGs_of pgs_nil ⟨rfl, q ρ σ c r hno rfl rfl⟩
  | cons d ds => exact c.elim
theorem jgcs_cons (h1 : JGc vs τ X tg g) (h2 : JGcs vs τ X ts gs) (hs : (assignEach (tg :: ts) X.env).map (·.2) = assign tg X.env :: (assignEach ts X.env).map (·.2) := by rfl) : JGcs vs τ X (tg :: ts) (gsCons g gs) := fun ds ρ C c hno H0 γ σ H ws r h Q q => by
  cases ds with
  | nil => exact c.elim
  | cons d ds =>
    cases h with
    | cons hd ht =>
      exact wpGs_of (pgs_cons pg_w pgs_w hs) ⟨_, _, rfl, h1 d ρ _ c hno H0 γ σ H _ r hd _ fun ρ' σ' c r' no' eo ew => h2 ds ρ' C c no' H0 γ σ' H _ r' (by rw [eo]; exact ht) Q fun ρ2 σ2 c r2 no2 eo2 ew2 => q ρ2 σ2 c r2 no2 (eo2.trans eo) (ew2.trans ew)⟩
theorem jgc_tup {kk n : Nat} (S : Ok cp G N sc k X) (h : JGcs vs τ X es gs) (hn : (assignEach es X.env).length = n := by rfl) (hst : (assignEach es X.env).findIdx? (·.1) = none := by rfl) : JGc vs τ X (.Tuple es kk pos) (gTupl n gs) := fun d ρ C c hno H0 γ σ H v r hd Q q => by
  unfold gTupl at c
  split at c
  · rename_i ds
    cases hd with
    | tup hs ha =>
      exact wpG_of (pg_tup S.calm pgs_w hn hst) ⟨_, _, rfl, sqT_same res_le hs, (dpAll_len ha).trans c.1, h ds ρ C c.2 hno H0 γ σ H _ r ha Q q⟩
  · exact c.elim
end
/-! ### the comprehension -/
def IsBlk (X : Cx) (scope : Scope) (X' : Cx) : Prop := ∃ (s : Shared) (H : Hp) (C : Addr) (cl : List (Str × Addr)) (fp : List Addr), X' = X.blk s H scope (compEnvC scope cl C X.env) fp
/-- the names that a block captures -/
def capt (scope : Scope) : List Str := (scope.names.filter fun p => p.2 == .free).map (·.1)
theorem lookup_mem {α : Type} {x : Str} {v : α} : ∀ {l : List (Str × α)}, l.lookup x = some v → (x, v) ∈ l
  | (y, w) :: l, h => by
    rw [List.lookup_cons] at h
    split at h
    · rename_i e
      have : x = y := by simpa using e
      cases h
      rw [this]
      exact List.mem_cons_self ..
    · exact List.mem_cons_of_mem _ (lookup_mem h)
theorem relS_cell {scope sc : Scope} {x : Str} (h : (relS scope sc).names.lookup x = some .cell) (hc : (capt scope).contains x = false) : scope.names.lookup x = some .cell := by
  have go : ∀ l : List (Str × NameKind), (l.map fun (n, k) => if (k == .free && sc.kind == .function && sc.names.lookup n == some .cell) then (n, NameKind.cell) else (n, k)).lookup x = some .cell → ((l.filter fun p => p.2 == .free).map (·.1)).contains x = false → l.lookup x = some .cell := by
    intro l
    induction l with
    | nil => intro h; simp at h
    | cons p l ih =>
      obtain ⟨n, kk⟩ := p
      intro h hc
      have e1 : ((fun (p : Str × NameKind) => match p with | (n, k) => if (k == .free && sc.kind == .function && sc.names.lookup n == some .cell) then (n, NameKind.cell) else (n, k)) (n, kk)) = (n, if (kk == .free && sc.kind == .function && sc.names.lookup n == some .cell) then NameKind.cell else kk) := by
        show (if (kk == .free && sc.kind == .function && sc.names.lookup n == some .cell) = true then (n, NameKind.cell) else (n, kk)) = _
        split <;> rfl
      rw [List.map_cons] at h
      dsimp only at h e1
      rw [e1, List.lookup_cons] at h
      by_cases hn : x = n
      · subst hn
        rw [List.lookup_cons]
        simp only [beq_self_eq_true]
        by_cases hk : kk = .free
        · subst hk
          rw [List.filter_cons] at hc
          simp at hc
        · have hk' : (kk == NameKind.free) = false := by cases kk <;> first | rfl | exact absurd rfl hk
          simp only [hk', Bool.false_and, Bool.false_eq_true, if_false, beq_self_eq_true] at h
          exact h
      · have hn' : (x == n) = false := by simpa using hn
        have h' : (l.map fun (n, k) => if (k == .free && sc.kind == .function && sc.names.lookup n == some .cell) then (n, NameKind.cell) else (n, k)).lookup x = some .cell := by
          rw [hn'] at h; exact h
        rw [List.lookup_cons, hn']
        refine ih h' ?_
        rw [List.filter_cons] at hc
        split at hc
        · rw [List.map_cons, List.contains_cons, hn', Bool.false_or] at hc
          exact hc
        · exact hc
  exact go scope.names h hc
theorem isBlk_ok {G : Gx} {cp : List Str} {N : List Str} {sc scope : Scope} {k : Nat} {X X' : Cx} (S : Ok cp G N sc k X) (hk : scope.kind = .function) (h : IsBlk X scope X') : Ok (capt scope) G N (relS scope sc) k X' := by
  obtain ⟨s, H, C, cl, fp, rfl⟩ := h
  have hs : (compEnvC scope cl C X.env).scope = relS scope sc := by
    rw [← S.es] <;> rfl
  exact ⟨S.eP, S.ew, S.eK, S.em, S.eb, S.eN, S.nd, hs, hk, S.calm, S.room, fun x h1 h2 => by show (scope.names.lookup x == some .cell) = true; rw [relS_cell h1 h2]; rfl, PassesOwn.never⟩
section
variable {τ : Tn} {G : Gx} {cp : List Str} {N : List Str} {sc scope : Scope} {k : Nat} {X : Cx} {tg iter elt : Expr} {ifs : List Expr} {g : UG} {tt : UT} {te : UV} {ti : UL} {pos : Pos}
def wgB (X : Cx) (scope : Scope) (tg : Expr) : TG := fun v σ H Q => ∀ X', IsBlk X scope X' → wpG X' tg v σ H Q
def weB (X : Cx) (scope : Scope) (e : Expr) : TE := fun σ H Q => ∀ X', IsBlk X scope X' → wpE X' e σ H Q
def wtB (X : Cx) (scope : Scope) : List Expr → TT
  | [] => tYes
  | [c] => fun σ H Q => ∀ X', IsBlk X scope X' → wpT X' c σ H Q
  | _ => fun _ _ _ => False
theorem isBlk_K {X X' : Cx} (h : IsBlk X scope X') : X'.K = X.K := by
  obtain ⟨s, H, C, cl, fp, rfl⟩ := h
  rfl
theorem pts_B (s : Shared) (H : Hp) (C : Addr) (cl : List (Str × Addr)) (fp : List Addr) : PTs (X.blk s H scope (compEnvC scope cl C X.env) fp) ifs (wtB X scope ifs) := by
    cases ifs with
    | nil => exact pts_nil
    | cons c r =>
      cases r with
      | nil => exact pts_one ⟨fun pins s' σ H' Q I h => pt_w.run pins s' σ H' Q I (h _ ⟨s, H, C, cl, fp, rfl⟩)⟩
      | cons _ _ => exact ⟨fun _ _ _ _ _ _ h => h.elim⟩
theorem lc_read (own_ : List (Str × Nat)) (S : Ok cp G N sc k X) (hi : JIx τ X tg iter ti) (hg : ∀ X', Ok (capt scope) G N (relS scope sc) k X' → JGc (own_.map (·.2)) τ X' tg g) (ht : ∀ X', Ok (capt scope) G N (relS scope sc) k X' → JTs τ X' ifs tt) (he : ∀ X', Ok (capt scope) G N (relS scope sc) k X' → JD τ X' elt te)
    (ok : BlkOk N sc scope own_) (ρ : En) (C : Rs → Prop) (c : eLc ti g tt te (own_.map (·.2)) ρ C) (H0 : Hp) (γ : List (V × D)) (σ : St) (H : Hp) (r : Rep X.K τ H0 γ H σ ρ) (Q : VK)
    (q : ∀ r v H2, C r → Ext τ H H2 → RsOk X.K τ H H2 σ ρ v r → Q v H2) : tLc (wpI X tg iter) (wgB X scope tg) (wtB X scope ifs) (weB X scope elt) (own_.map (·.2)) σ H Q := by
  obtain ⟨hno, c⟩ := c
  have hkd := ok.kind
  refine hi ρ _ c H0 γ σ H r _ fun J γ' ds H1 c e1 hγ hJ hlen D hD => ?_
  have R1 := r.after e1
  have nownD : ¬ own τ σ ρ D := R1.notOwn hD
  refine ⟨fun i m H' => m = ds.length - i ∧ ∃ acc ws, H' D = some (.lst ws) ∧ Ext τ H1 (unT H' D) ∧ DpAll X.K (res (unT H' D) (own τ σ ρ)) ws acc ∧ acc.length ≤ i ∧ lcC g tt te (fun acc => C (.lst acc)) (wipeS ρ (own_.map (·.2))) (ds.drop i) acc, ⟨_, rfl, [], [], upd_same, ?_, .nil, Nat.le_refl _, c⟩, fun i m H' ⟨hm, acc, ws, h1, h2, h3, h4, c⟩ => ?_⟩
  · rw [unT_upd hD]; exact .refl
  have R2 := R1.after h2
  have bo : ∀ p ∈ γ', Bo X.K τ H' (res H' (fun b => own τ σ ρ b ∨ b = D)) p.1 p.2 := fun p hp => by
    have b := (hγ p hp).after h2
    have l1 : Same (res (unT H' D) τ.ad) (res H' τ.ad) := res_mono fun b o n e => ⟨n, unT_le b o e⟩
    have l2 : Same (res (unT H' D) (own τ σ ρ)) (res H' (fun b => own τ σ ρ b ∨ b = D)) := res_mono fun b o n e => by
      have hb : b ≠ D := fun z => by rw [z, unT_same] at e; cases e
      exact ⟨fun z => z.elim n hb, unT_le b o e⟩
    obtain ⟨v, d⟩ := p
    cases d with
    | list ds => obtain ⟨a, vs, e, hs, ha⟩ := b; exact ⟨a, vs, e, sqL_same l1 hs, dpAll_same l2 _ _ ha⟩
    | tuple ds => obtain ⟨a, vs, e, hs, ha⟩ := b; exact ⟨a, vs, e, sqT_same l1 hs, dpAll_same l2 _ _ ha⟩
    | none => exact b
    | bool _ => exact b
    | int _ => exact b
    | str _ => exact b
    | dict _ => exact b
  by_cases hlt : i < ds.length
  · rw [List.drop_eq_getElem_cons hlt, lcC] at c
    refine .inr ⟨hJ.go H' _ bo i hlt, fun H'' => ∃ acc ws, H'' D = some (.lst ws) ∧ Ext τ H1 (unT H'' D) ∧ DpAll X.K (res (unT H'' D) (own τ σ ρ)) ws acc ∧ acc.length ≤ i + 1 ∧ lcC g tt te (fun acc => C (.lst acc)) (wipeS ρ (own_.map (·.2))) (ds.drop (i + 1)) acc,
      fun H'' h => ⟨ds.length - (i + 1), by omega, rfl, h⟩, fun x H4 hy X' hX' => ?_⟩
    obtain ⟨sm, hdp⟩ := hJ.yld H' _ bo (fun a ha z => z.elim (fun z => by
      obtain ⟨o, e, _⟩ := R2.ownMut z
      rw [unT_le a o e] at ha; cases ha) fun z => by rw [z, h1] at ha; cases ha) i _ (List.getElem?_eq_getElem hlt) x H4 hy
    have h4D : H4 D = some (.lst ws) := sm D _ h1
    have smU : Same (unT H' D) (unT H4 D) := fun b o e => by
      have hb : b ≠ D := fun z => by rw [z, unT_same] at e; cases e
      rw [unT_ne hb] at e ⊢
      exact sm b o e
    have R4 := R2.after (.of_same smU)
    have dp4 : Dp X.K (res (unT H4 D) (own τ σ ρ)) x ds[i] := dp_same (res_mono fun b o n e => ⟨fun z => n (.inl z), by rw [unT_ne fun z => n (.inr z)]; exact e⟩) _ _ hdp
    have dpw4 := dpAll_after (.of_same smU) h3
    have eK := isBlk_K hX'
    have SX' := isBlk_ok S hkd hX'
    refine wpG_hide h4D (hg X' SX' _ (wipeS ρ (own_.map (·.2))) _ c (fun j hj s hs => ?_) H0 γ (wipe σ (own_.map (·.2))) (unT H4 D) x (by rw [eK]; exact R4.wiped hno) (by rw [eK, own_wipe_eq hno]; exact dp4) (fun σ2 H2 => H2 = unT H4 D ∧ ∃ ρ2, Rep X.K τ H0 γ (unT H4 D) σ2 ρ2 ∧ own τ σ2 ρ2 = own τ σ ρ ∧ wipe σ2 (own_.map (·.2)) = wipe σ (own_.map (·.2)) ∧ tt ρ2 fun z => (z = true → te ρ2 fun y => lcC g tt te (fun acc => C (.lst acc)) (wipeS ρ (own_.map (·.2))) (ds.drop (i + 1)) (acc ++ [y])) ∧ (z = false → lcC g tt te (fun acc => C (.lst acc)) (wipeS ρ (own_.map (·.2))) (ds.drop (i + 1)) acc)) fun ρ2 σ2 c r2 no2 eo ew => ⟨rfl, ρ2, by rw [← eK]; exact r2, by rw [eo, own_wipe_eq hno], ?_, c⟩) fun σ2 H2 hn ⟨eH, ρ2, r2, eo, ew, c⟩ => ?_
    · rcases wipeS_get hs with rfl | ⟨q1, q2⟩
      · rfl
      · exact hno j hj s q1
    · rw [ew]
      apply List.ext_getElem?
      intro j
      by_cases hj : j ∈ own_.map (·.2)
      · rw [wipe_in hj, wipe_in hj, wipe_length]
      · simp only [wipe_out hj]
    · subst eH
      rw [upd_unT h4D]
      have ew' : wipe σ2 (own_.map (·.2)) = wipe σ (own_.map (·.2)) := ew
      refine ⟨ew', ?_⟩
      -- the tests
      have tests : ∀ (Q : Bool → Hp → Prop), (∀ z H5, H5 D = none → Ext τ (unT H4 D) H5 → ((z = true → te ρ2 fun y => lcC g tt te (fun acc => C (.lst acc)) (wipeS ρ (own_.map (·.2))) (ds.drop (i + 1)) (acc ++ [y])) ∧ (z = false → lcC g tt te (fun acc => C (.lst acc)) (wipeS ρ (own_.map (·.2))) (ds.drop (i + 1)) acc)) → Q z (upd H5 D (.lst ws))) → wtB X scope ifs σ2 H4 Q := by
        intro Q k
        cases ifs with
        | nil =>
          have c1 := ht X' SX' ρ2 _ c
          have := k true (unT H4 D) unT_same .refl c1
          rw [upd_unT h4D] at this
          exact this
        | cons cc rr =>
          cases rr with
          | nil =>
            intro X2 hX2
            have eK2 := isBlk_K hX2
            have S2 := isBlk_ok S hkd hX2
            have jt : JT τ X2 cc tt := ht X2 S2
            exact wpT_hide h4D (jt ρ2 _ c H0 γ σ2 (unT H4 D) (by rw [eK2]; exact r2) (fun z H5 => Ext τ (unT H4 D) H5 ∧ _) fun z H5 c e => ⟨e, c⟩) fun z H5 hn ⟨e, c⟩ => k z H5 hn e c
          | cons _ _ => exact (ht X' SX').elim
      refine tests _ fun z H5 hn5 e5 c => ?_
      have h5D : (upd H5 D (.lst ws)) D = some (.lst ws) := upd_same
      cases z with
      | false =>
        refine iteF ⟨acc, ws, h5D, ?_, ?_, by omega, c.2 rfl⟩
        · rw [unT_upd hn5]; exact (h2.trans (.of_same smU)).trans e5
        · rw [unT_upd hn5]; exact dpAll_after e5 dpw4
      | true =>
        refine iteT ?_
        intro X3 hX3
        have eK3 := isBlk_K hX3
        have S3 := isBlk_ok S hkd hX3
        refine wpE_hide h5D ?_ fun v H6 hn6 (h6 : ∃ d, Ext τ H5 H6 ∧ Dp X.K (res H6 (own τ σ ρ)) v d ∧ lcC g tt te (fun acc => C (.lst acc)) (wipeS ρ (own_.map (·.2))) (ds.drop (i + 1)) (acc ++ [d])) => ?_
        · rw [unT_upd hn5]
          refine he X3 S3 ρ2 _ (c.1 rfl) H0 γ σ2 H5 (by rw [eK3]; exact r2.after e5) _ fun d v H6 c e6 h6 => ⟨d, e6, ?_, c⟩
          rw [eK3, eo] at h6
          exact h6
        · obtain ⟨d, e6, d6, c6⟩ := h6
          refine ⟨ws, upd_same, ?_, acc ++ [d], ws ++ [v], upd_same, ?_, ?_, ?_, c6⟩
          · rw [dpAll_len h3]; omega
          · rw [upd_upd, unT_upd hn6]; exact ((h2.trans (.of_same smU)).trans e5).trans e6
          · rw [upd_upd, unT_upd hn6]; exact dpAll_append (dpAll_after e6 (dpAll_after e5 dpw4)) (.cons d6 .nil)
          · rw [List.length_append, List.length_singleton]; omega
  · rw [List.drop_of_length_le (by omega)] at c
    refine .inl ⟨hJ.stop H' _ bo i (by omega), q (.lst acc) _ H' c ?_ ⟨D, ws, rfl, e1.fresh r.inv hD, h1, ?_⟩⟩
    · exact (e1.trans h2).trans (.of_same unT_le)
    · exact dpAll_same (res_mono fun b o n e => by
        have hb : b ≠ D := fun z => by rw [z, unT_same] at e; cases e
        exact ⟨fun z => z.elim n hb, unT_le b o e⟩) _ _ h3
theorem je_lc (own_ : List (Str × Nat)) (S : Ok cp G N sc k X) (hi : JIx τ X tg iter ti) (hg : ∀ X', Ok (capt scope) G N (relS scope sc) k X' → JGc (own_.map (·.2)) τ X' tg g) (ht : ∀ X', Ok (capt scope) G N (relS scope sc) k X' → JTs τ X' ifs tt) (he : ∀ X', Ok (capt scope) G N (relS scope sc) k X' → JD τ X' elt te)
    (hok : blkC N sc scope own_ = true := by decide +kernel) (hs : ∀ x, foldedSetIterable iter X.env x = pure x := by intro _; rfl) : JE τ X (.ListComp elt [⟨tg, iter, ifs, 0⟩] scope pos) (eLc ti g tt te (own_.map (·.2))) := fun ρ C c H0 γ σ H r Q q =>
  wpE_of (pe_lc (own := own_) S.calm (by rw [S.eN]; exact S.nd) pi_w (by rw [S.eN, S.es]; exact blkOk_by hok) (g := wgB X scope tg) (tt := wtB X scope ifs) (te := weB X scope elt) (fun s H C cl fp => ⟨fun pins s' σ H' v u Q I rv h => pg_w.run pins s' σ H' v u Q I rv (h _ ⟨s, H, C, cl, fp, rfl⟩)⟩) pts_B (fun s H C cl fp => ⟨fun pins s' σ H' Q I h => pe_w.run pins s' σ H' Q I (h _ ⟨s, H, C, cl, fp, rfl⟩)⟩) hs)
    (lc_read own_ S hi hg ht he (blkOk_by hok) ρ C c H0 γ σ H r Q q)
/-- y = [..], on one line, y a local -/
theorem js_setLc {y : Str} {py spos : Pos} (own_ : List (Str × Nat)) (S : Ok cp G N sc k X) (i : Nat) (hi : JIx τ X tg iter ti) (hg : ∀ X', Ok (capt scope) G N (relS scope sc) k X' → JGc (own_.map (·.2)) τ X' tg g) (ht : ∀ X', Ok (capt scope) G N (relS scope sc) k X' → JTs τ X' ifs tt) (he : ∀ X', Ok (capt scope) G N (relS scope sc) k X' → JD τ X' elt te)
    (hok : blkC N sc scope own_ = true := by decide +kernel) (hN : N[i]? = some y := by rfl) (hy : sc.names.lookup y = some .local := by rfl) (hl : (py.line == pos.line) = true := by rfl)
    (ha : (scope.names.any fun (n, k) => n == y && (k == .local || k == .cell)) = false := by decide +kernel) (hs : ∀ x, foldedSetIterable iter X.env x = pure x := by intro _; rfl) :
    JS τ X (.Assign [.Name y py] (.ListComp elt [⟨tg, iter, ifs, 0⟩] scope pos) spos) (sSet i (eLc ti g tt te (own_.map (·.2)))) := fun ρ E c H0 γ σ H r Dn d =>
  wpS_of (ps_setLc (i := i) (own := own_) S.calm (by rw [S.eN]; exact S.nd) (by rw [S.eN]; exact hN) (by rw [S.es]; exact hy) (sw_true (by rw [S.es]; exact S.kd) (by rw [S.es]; exact hy) hl ha) pi_w (by rw [S.eN, S.es]; exact blkOk_by hok) (g := wgB X scope tg) (tt := wtB X scope ifs) (te := weB X scope elt) (fun s H C cl fp => ⟨fun pins s' σ H' v u Q I rv h => pg_w.run pins s' σ H' v u Q I rv (h _ ⟨s, H, C, cl, fp, rfl⟩)⟩) pts_B (fun s H C cl fp => ⟨fun pins s' σ H' Q I h => pe_w.run pins s' σ H' Q I (h _ ⟨s, H, C, cl, fp, rfl⟩)⟩) hs)
    (lc_read own_ S hi hg ht he (blkOk_by hok) ρ _ c H0 γ σ H r _ fun rs v H2 c e h => d.nx _ _ H2 c (r.set e h))
end
end Pu
/-! ### enumerate of a tuple, at the library's level -/
namespace PuEn
open PySem
open Sem (wp)
open AutoSeq1 (wpAny_loadPart')
theorem meets_enumerate_newT (l : Addr) (items : Array Value) :
    Meets (Builtin.«enumerate.__new__» ⟨[.type "enumerate", .ref l], []⟩) (fun _ R s => s.heap.IsTuple l items ∧
      R (.ok (.ret (.ref (s.heap.push { cls := .type "tuple_iterator", data := .fields #[.ref l, .int 0 0] }).objs.size)))
        { s with heap := (s.heap.push { cls := .type "tuple_iterator", data := .fields #[.ref l, .int 0 0] }).push { cls := .type "enumerate", data := .fields #[.none, .bool false, .ref s.heap.objs.size, rawInt 0, .none, .none] } }) :=
  .of_wp fun prog w A R s h => by
    obtain ⟨hp, g, d, tk, os⟩ := s; obtain ⟨hl, h⟩ := h
    have hsub := sub_enumerate
    have q1 : ∀ {A' : Around} {E : Value → Shared → Prop} {Q : Value → Shared → Prop}, Q (.ref hp.objs.size) ⟨hp.push { cls := .type "tuple_iterator", data := .fields #[.ref l, .int 0 0] }, g, d, tk, os⟩ → wpAny (model prog w) A' (pyIter (.ref l)) Q E ⟨hp, g, d, tk, os⟩ :=
      fun q => (begins_tuple l items).iter prog w _ _ ⟨hp, g, d, tk, os⟩ _ hl q
    wp_walk using q1
    refine wpAny_stack_any fun st => wpAny_pure ?_
    split
    · rename_i c _ _ _ _ _
      cases (c == Value.type "enumerate")
      · wp_walk using q1
        exact ⟨_, rfl, h⟩
      · wp_walk using q1
        exact ⟨_, rfl, h⟩
    · wp_walk using q1
      exact ⟨_, rfl, h⟩
section
variable {prog : Program} {w : World} {A : Around} {E : Value → Shared → Prop} {s : Shared}
theorem call_enumerate_tuple {l : Addr} {items : Array Value} {Q : Value → Shared → Prop} (hL : s.heap.IsTuple l items)
    (h : ∀ h', IsEnum h' (s.heap.objs.size + 1) s.heap.objs.size 0 .none → h'.IsTupleIter s.heap.objs.size l 0 → h'.objs.size = s.heap.objs.size + 2 →
      (∀ b o, s.heap.get? b = some o → h'.get? b = some o) → Q (.ref (s.heap.objs.size + 1)) { s with heap := h' }) :
    wpAny (model prog w) A (call (.type "enumerate") [.ref l]) Q E s := by
  refine callType_new F.called_enumerate (by decide) (F.typeCall_enumerate_1 _) (F.newCall_enumerate_1 _) (fun obj => F.args_object_init_2 obj _) F.entry_enumerate_new
    (meets_enumerate_newT l items) ⟨hL, ?_⟩
  have hz : (s.heap.push { cls := .type "tuple_iterator", data := .fields #[.ref l, .int 0 0] }).objs.size = s.heap.objs.size + 1 := Heap.size_push ..
  show _ ∧ _
  rw [hz]
  have he : IsEnum ((s.heap.push { cls := .type "tuple_iterator", data := .fields #[.ref l, .int 0 0] }).push
      { cls := .type "enumerate", data := .fields #[.none, .bool false, .ref s.heap.objs.size, rawInt 0, .none, .none] }) (s.heap.objs.size + 1) s.heap.objs.size 0 .none := by
    have := Heap.get?_push_size (s.heap.push { cls := .type "tuple_iterator", data := .fields #[.ref l, .int 0 0] })
      (o := { cls := .type "enumerate", data := .fields #[.none, .bool false, .ref s.heap.objs.size, rawInt 0, .none, .none] }) rfl
    rw [hz] at this; exact this
  refine ⟨⟨_, he, rfl⟩, h _ he ⟨_, Heap.get?_push_of_some _ (Heap.get?_push_size _ rfl), rfl, rfl⟩ (by rw [Heap.size_push, hz]) fun b o x => Heap.get?_push_of_some _ (Heap.get?_push_of_some _ x)⟩
end
end PuEn
namespace Pu
open PySem PySem.Spec PyProof.Rows L2
theorem enum_endT {prog : Program} {w : World} {A : Around} {E : Value → Shared → Prop} {s : Shared} {e it l : Addr} {i : Nat} {items : Array Value} {old : Value} {Q : Option Value → Shared → Prop} (hh : A.handled = none)
    (he : IsEnum s.heap e it i old) (hit : s.heap.IsTupleIter it l i) (hl : s.heap.IsTuple l items) (hx : items[i]? = none)
    (hQ : ∀ h', Heap.ExtBut it s.heap h' → Q none { s with heap := h' }) : wpAny (model prog w) A (pyNext (.ref e)) Q E s := by
  have hT : s.TypeIs (.ref e) "enumerate" := ⟨_, he, rfl⟩
  unfold pyNext
  refine wpAny_bind (wpAny_attempt (wpAny_callSpecial?_slot (name := Str.ofString "__next__") hT PySem.F.slot_enumerate_next
    (wpAny_call_entry PySem.F.slot_enumerate_next hT PySem.F.entry_enumerate_next ?_ (PySem.F.args_enumerate_next_1 _))))
  show wpAny _ _ (field (.ref e) 2 >>= _) _ _ _
  refine wpAny_bind (wpAny_field he rfl (x := .ref it) rfl ?_)
  refine wpAny_bind (wpAny_nextOf_tuple_end hh hit hl hx fun h' x he' hx' => ?_)
  obtain ⟨o, ho, hc⟩ := hx'
  refine wpAny_bind (wpAny_isInstance (T := "StopIteration") (b := true) ⟨o, ho, hc⟩ isSubtype_stop ?_)
  exact wpAny_pure (hQ _ he')
/-- the tuple at a, each item in a new pair -/
def IteT (K : PySem.W.Frag) (a : Addr) : It :=
  ⟨fun i H => ∃ (xs : List V) (x : V), SqT K H a xs ∧ xs[i]? = some x, fun i H v H' => ∃ T x, v = .ref T ∧ H T = none ∧ H' = upd H T (.tup [.int (i : Nat), x]) ∧ ∀ xs, SqT K H a xs → xs[i]? = some x, fun i H => ∃ xs : List V, SqT K H a xs ∧ xs.length ≤ i⟩
theorem turn_enumT {P : Program} {w : World} {K : PySem.W.Frag} {elts : List Expr} {kk : Nat} {tpos : Pos} (a e it : Addr) (hae : e ≠ a) (hai : a ≠ it) :
    Turn P w K (.Tuple elts kk tpos) (IteT K a) [e, it] e (fun i h => (∃ old, IsEnum h e it ((i : Nat) : Int) old) ∧ h.IsTupleIter it a i ∧ e ≠ it) where
  mem := by simp
  obj := fun i h st b hb => by
    obtain ⟨⟨old, he⟩, ⟨o, ho, hc, hd⟩, _⟩ := st
    have e' : b = e ∨ b = it := by simpa using hb
    rcases e' with z | z
    · rw [z]; exact ⟨_, he, fun v q => nomatch q⟩
    · rw [z]; exact ⟨o, ho, fun v q => by rw [hd] at q; cases q⟩
  keep := fun i h h' st k => let ⟨⟨old, he⟩, hi, hne⟩ := st; ⟨⟨old, k e (by simp) _ he⟩, hi.at fun o q => k it (by simp) o q, hne⟩
  item := by
    intro X hP hw hK hc i pins s σ H E I hf st hg
    subst hP hw hK
    obtain ⟨⟨old, he⟩, hit, hne⟩ := st
    obtain ⟨xs, x, hq, hx⟩ := hg
    obtain ⟨its, rv, p, hz⟩ := I.tuple hq
    obtain ⟨u, hu, ru⟩ := rv.get hx
    have hel : e < s.heap.objs.size := Heap.lt_size he
    have hil : it < s.heap.objs.size := by obtain ⟨_, q, _⟩ := hit; exact Heap.lt_size q
    have hlt : i < its.toArray.size := by
      have := (List.getElem?_eq_some_iff.mp hu).1
      simpa using this
    refine wpAny_pyNext_enum_itemD (Draws.tuple (A := X.A.in1) (I.ok.hd hc) it a hai its.toArray) he ⟨hit, p⟩ hlt hne (by
      intro z
      have z' : e = it ∨ e = a := by simpa using z
      rcases z' with z | z
      · exact hne z
      · exact hae z) fun x1 h' tk hx1 ho hst' hT hsz hk => ?_
    have ex1 : x1 = u := by
      have q : its.toArray[i]? = some u := by simpa using hu
      exact Option.some.inj ((show its.toArray[i]? = some x1 from hx1).symm.trans q)
    subst ex1
    refine ⟨_, rfl, wpAny_letOwnedTupleGo_enum (s := { s with heap := h', toks := tk + 1 }) ho fun h'' he' sb => ?_⟩
    have hT2 : h''.get? s.heap.objs.size = some { cls := .type "tuple", data := .seq #[.int i tk, x1] } := (sb.2 _ (Nat.ne_of_gt hel)).trans hT
    have new : ObjOk X.prog X.w (upd H s.heap.objs.size (.tup [.int (i : Nat), x])) h'' s.heap.objs.size (.tup [.int (i : Nat), x]) :=
      ⟨by show 2 ≤ sizeLine; decide, [.int i tk, x1], .cons ⟨_, rfl⟩ (.cons ru .nil), ⟨_, hT2, rfl, _, rfl⟩⟩
    have I1 : Inv X pins σ (upd H s.heap.objs.size (.tup [.int (i : Nat), x])) { s with heap := h'', toks := tk + 1 } :=
      I.turnedNew (ch := [e, it]) (fun b ob hb q => (sb.2 b (fun z => hb (by simp [z]))).trans (hk b ob (fun z => hb (by simp [z])) (fun z => hb (by simp [z])) q)) hf (Nat.le_refl _) new
    refine ⟨.ref s.heap.objs.size, _, I1, rfl, ⟨_, x, rfl, I.hok.fresh (Nat.le_refl _), rfl, fun ys hy => by rw [I.tuple_inj hy hq]; exact hx⟩, ⟨⟨x1, ?_⟩, hst'.1.at fun o q => (sb.2 it (Ne.symm hne)).trans q, hne⟩, fun b hb => ?_⟩
    · have e1 : ((i + 1 : Nat) : Int) = (i : Int) + 1 := by omega
      rw [e1]; exact he'
    · have hb' : b < s.heap.objs.size := by
        have e' : b = e ∨ b = it := by simpa using hb
        rcases e' with z | z
        · rw [z]; exact hel
        · rw [z]; exact hil
      rw [upd_ne (Nat.ne_of_lt hb')]
      exact (hf b hb).1
  done := by
    intro X hP hw hK hc i pins s σ H E I hf st hg
    subst hP hw hK
    obtain ⟨⟨old, he⟩, hit, hne⟩ := st
    obtain ⟨xs, hq, hx⟩ := hg
    obtain ⟨its, rv, p, hz⟩ := I.tuple hq
    obtain ⟨f0, f1, f2, f3, f4, f5⟩ := hf it (by simp)
    have hl := rv.length
    exact enum_endT (I.ok.hd hc) he hit p (by simp; omega) fun h' eb => ⟨rfl, I.turned (t' := s.toks) (fun b o hb q => eb b o hb q) f0 f1 f3 f4 f5⟩
  self := fun A i s Q E st h => let ⟨⟨_, he⟩, _⟩ := st; wpAny_pyIter_enum he h
section
variable {τ : Tn} {G : Gx} {cp : List Str} {N : List Str} {sc : Scope} {k : Nat} {X : Cx} {e e2 : Expr} {elts : List Expr} {kk : Nat} {tv tw : UV} {pos p tpos : Pos}
def iEnumU (K : PySem.W.Frag) (ta : TA) : TI := fun σ H R => ta σ H fun vs H1 => ∃ a xs, vs = [.ref a] ∧ ((SqL K H1 a xs ∧ R (Ite K a) H1) ∨ (SqT K H1 a xs ∧ R (IteT K a) H1))
theorem pi_enumU {ta : TA} (hg : Gl X "enumerate") (hm : X.mg "enumerate" = none) (ha : PA X [e] ta) (hs : starEach [e] X.env = [(false, eval e X.env)] := by rfl) :
    PI X (.Tuple elts kk tpos) (.Call (.Name "enumerate" p) [e] [] pos) (iEnumU X.K ta) := by
  refine ⟨fun pins s σ H R I h => ?_⟩
  refine Call_ (ld_blt I hg hm boot_enumerate (PyProof.Rows.callWith_type1 (thn (ha.run pos pins s σ H _ I h) fun us s1 ⟨vs, H1, I1, r1, q1⟩ => ?_) hs rfl))
  obtain ⟨a, xs, ex, q1⟩ := q1
  subst ex
  have fresh : ∀ b ∈ [s1.heap.objs.size + 1, s1.heap.objs.size], FpOk X pins H1 b := fun b hb => by
    have e' : b = s1.heap.objs.size + 1 ∨ b = s1.heap.objs.size := by simpa using hb
    have hle : s1.heap.objs.size ≤ b := by
      rcases e' with z | z
      · rw [z]; exact Nat.le_add_right _ _
      · rw [z]; exact Nat.le_refl _
    exact I1.fpOk hle (I1.hok.fresh hle)
  cases r1 with
  | cons r rr =>
    cases rr
    cases r
    rcases q1 with ⟨hq, q⟩ | ⟨hq, q⟩
    · obtain ⟨its, rv, p', hz⟩ := I1.list hq
      refine call_enumerate_list p'.isList fun h' he hit hsz hk => wpAny_pyIter_enum he ?_
      have I2 : Inv X pins σ H1 { s1 with heap := h' } := I1.kept (t' := s1.toks) hk
      exact ⟨s1.heap.objs.size + 1, [s1.heap.objs.size + 1, s1.heap.objs.size], _, _, H1, rfl, I2, turn_enum a (s1.heap.objs.size + 1) s1.heap.objs.size, ⟨⟨.none, he⟩, hit, Nat.succ_ne_self _⟩, fresh, q⟩
    · obtain ⟨its, rv, p', hz⟩ := I1.tuple hq
      have hlt : a < s1.heap.objs.size := by
        obtain ⟨o, ho, _⟩ := id p'
        exact Heap.lt_size ho
      refine PuEn.call_enumerate_tuple (show s1.heap.IsTuple a its.toArray from p') fun h' he hit hsz hk => wpAny_pyIter_enum he ?_
      have I2 : Inv X pins σ H1 { s1 with heap := h' } := I1.kept (t' := s1.toks) hk
      exact ⟨s1.heap.objs.size + 1, [s1.heap.objs.size + 1, s1.heap.objs.size], _, _, H1, rfl, I2, turn_enumT a (s1.heap.objs.size + 1) s1.heap.objs.size (Nat.ne_of_gt (Nat.lt_succ_of_lt hlt)) (Nat.ne_of_lt hlt), ⟨⟨.none, he⟩, hit, Nat.succ_ne_self _⟩, fresh, q⟩
def enumD (ds : List D) : List D := (List.range ds.length).zipWith (fun (i : Nat) d => .tuple [.int (i : Int), d]) ds
theorem enumD_len {ds : List D} : (enumD ds).length = ds.length := by simp [enumD]
theorem enumD_get {ds : List D} {i : Nat} {d : D} (h : (enumD ds)[i]? = some d) : ∃ x, ds[i]? = some x ∧ d = .tuple [.int (i : Int), x] := by
  unfold enumD at h
  rw [List.getElem?_zipWith] at h
  cases q : ds[i]? with
  | none => rw [q] at h; cases q2 : (List.range ds.length)[i]? <;> rw [q2] at h <;> cases h
  | some x =>
    have hi : i < ds.length := (List.getElem?_eq_some_iff.mp q).1
    rw [q, List.getElem?_range hi] at h
    exact ⟨x, rfl, (Option.some.inj h).symm⟩
theorem tup_new {K : PySem.W.Frag} {H : Hp} {ow : Addr → Prop} {T : Addr} {vs : List V} {ds : List D} (hn : ∀ a, H a = none → ¬ ow a) (hT : H T = none) (hp : NPh vs) (h : DpAll K (res H ow) vs ds) : Same H (upd H T (.tup vs)) ∧ Dp K (res (upd H T (.tup vs)) ow) (.ref T) (.tuple ds) :=
  have sm : Same H (upd H T (.tup vs)) := fun b o e => by rw [upd_ne (ne_of_none e hT)]; exact e
  ⟨sm, .tup (.inl (.inl (res_put (hn T hT) upd_same hp))) (dpAll_same (res_mono fun b o n e => ⟨n, sm b o e⟩) _ _ h)⟩
theorem itOk_enumL {K : PySem.W.Frag} {a : Addr} {ds : List D} : ItOk K τ (Ite K a) [(.ref a, .list ds)] (enumD ds) where
  go := fun H ow g i hi => by
    rw [enumD_len] at hi
    exact itOk_list.go H ow g i hi
  yld := fun H ow g hn i d hd x H4 hy => by
    obtain ⟨dx, hdx, rfl⟩ := enumD_get hd
    obtain ⟨pp, vs, e, hs, ha⟩ := g _ (List.mem_singleton.mpr rfl)
    cases e
    obtain ⟨T, y, rfl, hT, rfl, hy⟩ := hy
    obtain ⟨v, hv, hdp⟩ := dpAll_get ha hdx
    have := (hy vs (sqL_same res_le hs)).symm.trans hv
    cases this
    exact tup_new hn hT ⟨_, rfl, fun _ z => nomatch z⟩ (.cons (.int _) (.cons hdp .nil))
  stop := fun H ow g i hi => by
    rw [enumD_len] at hi
    exact itOk_list.stop H ow g i hi
theorem itOk_enumT {K : PySem.W.Frag} {a : Addr} {ds : List D} : ItOk K τ (IteT K a) [(.ref a, .tuple ds)] (enumD ds) where
  go := fun H ow g i hi => by
    rw [enumD_len] at hi
    exact itOk_tup.go H ow g i hi
  yld := fun H ow g hn i d hd x H4 hy => by
    obtain ⟨dx, hdx, rfl⟩ := enumD_get hd
    obtain ⟨pp, vs, e, hs, ha⟩ := g _ (List.mem_singleton.mpr rfl)
    cases e
    obtain ⟨T, y, rfl, hT, rfl, hy⟩ := hy
    obtain ⟨v, hv, hdp⟩ := dpAll_get ha hdx
    have := (hy vs (sqT_same res_le hs)).symm.trans hv
    cases this
    exact tup_new hn hT ⟨_, rfl, fun _ z => nomatch z⟩ (.cons (.int _) (.cons hdp .nil))
  stop := fun H ow g i hi => by
    rw [enumD_len] at hi
    exact itOk_tup.stop H ow g i hi
def iEnumS (tv : UV) : UL := fun ρ C => tv ρ fun d => fSeq0 d fun ds => C (enumD ds)
theorem ji_enum (S : Ok cp G N sc k X) (hm : Free G "enumerate") (he : JD τ X e tv) (hg : sc.names.lookup ("enumerate" : Str) = some .globalImplicit := by rfl) (hs : starEach [e] X.env = [(false, eval e X.env)] := by rfl) : JI τ X (.Tuple elts kk tpos) (.Call (.Name "enumerate" p) [e] [] pos) (iEnumS tv) := fun ρ C c H0 γ σ H r R q =>
  wpI_size (wpI_of (pi_enumU (by show X.env.scope.names.lookup _ = _; rw [S.es]; exact hg) (by rw [S.em]; exact hm) (pa_cons pe_w pa_nil (by rw [hs]; rfl)) hs) (he ρ _ c H0 γ σ H r _ fun d v H2 c e1 h => by
    cases h with
    | lst hs ha => exact ⟨_, _, rfl, .inl ⟨sqL_same res_le hs, fun z1 z2 => q _ [(_, _)] _ H2 c e1 (fun p hp => by rw [List.mem_singleton.mp hp]; exact .lst hs ha) itOk_enumL (by rw [enumD_len, ← dpAll_len ha]; exact z1 _ _ (sqL_same res_le hs))⟩⟩
    | tup hs ha => exact ⟨_, _, rfl, .inr ⟨sqT_same res_le hs, fun z1 z2 => q _ [(_, _)] _ H2 c e1 (fun p hp => by rw [List.mem_singleton.mp hp]; exact .tup hs ha) itOk_enumT (by rw [enumD_len, ← dpAll_len ha]; exact z2 _ _ (sqT_same res_le hs))⟩⟩
    | non => exact c.elim
    | bl _ => exact c.elim
    | int _ => exact c.elim
    | str _ => exact c.elim))
theorem jix_enum (S : Ok cp G N sc k X) (hm : Free G "enumerate") (he : JV τ X e tv) (hg : sc.names.lookup ("enumerate" : Str) = some .globalImplicit := by rfl) (hs : starEach [e] X.env = [(false, eval e X.env)] := by rfl) : JIx τ X (.Tuple elts kk tpos) (.Call (.Name "enumerate" p) [e] [] pos) (iEnumS tv) := fun ρ C c H0 γ σ H r R q =>
  wpI_size (wpI_of (pi_enumU (by show X.env.scope.names.lookup _ = _; rw [S.es]; exact hg) (by rw [S.em]; exact hm) (pa_cons pe_w pa_nil (by rw [hs]; rfl)) hs) (he ρ _ c H0 γ σ H r _ fun d v H2 c e1 h => by
    cases d with
    | list ds =>
      obtain ⟨pp, vs, rfl, hs, ha⟩ := id h
      exact ⟨_, _, rfl, .inl ⟨sqL_same res_le hs, fun z1 z2 => q _ [(_, _)] _ H2 c e1 (fun p hp => by rw [List.mem_singleton.mp hp]; exact h) itOk_enumL (by rw [enumD_len, ← dpAll_len ha]; exact z1 _ _ (sqL_same res_le hs))⟩⟩
    | tuple ds =>
      obtain ⟨pp, vs, rfl, hs, ha⟩ := id h
      exact ⟨_, _, rfl, .inr ⟨sqT_same res_le hs, fun z1 z2 => q _ [(_, _)] _ H2 c e1 (fun p hp => by rw [List.mem_singleton.mp hp]; exact h) itOk_enumT (by rw [enumD_len, ← dpAll_len ha]; exact z2 _ _ (sqT_same res_le hs))⟩⟩
    | none => exact c.elim
    | bool _ => exact c.elim
    | int _ => exact c.elim
    | str _ => exact c.elim
    | dict _ => exact c.elim))
/-! ### zip of two -/
def zipD (xs ys : List D) : List D := xs.zipWith (fun x y => .tuple [x, y]) ys
theorem zipD_len {xs ys : List D} : (zipD xs ys).length = min xs.length ys.length := by simp [zipD]
theorem zipD_get {xs ys : List D} {i : Nat} {d : D} (h : (zipD xs ys)[i]? = some d) : ∃ x y, xs[i]? = some x ∧ ys[i]? = some y ∧ d = .tuple [x, y] := by
  unfold zipD at h
  rw [List.getElem?_zipWith] at h
  cases q : xs[i]? with
  | none => rw [q] at h; cases h
  | some x =>
    cases q2 : ys[i]? with
    | none => rw [q, q2] at h; cases h
    | some y => rw [q, q2] at h; exact ⟨x, y, rfl, rfl, (Option.some.inj h).symm⟩
theorem five_mem {c x1 x2 x3 x4 x5 : Addr} (h : c ∈ [x1, x2, x3, x4, x5]) : c = x1 ∨ c = x2 ∨ c = x3 ∨ c = x4 ∨ c = x5 := by simpa using h
theorem tup_newP {K : PySem.W.Frag} {H : Hp} {ow : Addr → Prop} {T : Addr} {o : Obj} {vs : List V} {ds : List D} (hn : ∀ a, H a = none → ¬ ow a) (hT : H T = none) (ho : o.dict = none) (h : DpAll K (res H ow) vs ds) : Same H (upd H T (.frz o (.tup vs))) ∧ Dp K (res (upd H T (.frz o (.tup vs))) ow) (.ref T) (.tuple ds) :=
  have sm : Same H (upd H T (.frz o (.tup vs))) := fun b o e => by rw [upd_ne (ne_of_none e hT)]; exact e
  ⟨sm, .tup (.inl (.inr ⟨o, res_put (hn T hT) upd_same ho⟩)) (dpAll_same (res_mono fun b o n e => ⟨n, sm b o e⟩) _ _ h)⟩
/-- zip of two L: pairs laid plainly -/
def ItzPL (K : PySem.W.Frag) (a b : Addr) : It where
  go := fun i H => ∃ (x y : V) (xs ys : List V), (SqL K H a xs ∧ xs[i]? = some x) ∧ SqL K H b ys ∧ ys[i]? = some y
  yld := fun i H v H' => ∃ (T : Addr) (o : Obj) (x y : V), v = .ref T ∧ H T = none ∧ o.dict = none ∧ H' = upd H T (.frz o (.tup [x, y])) ∧ (∀ l, SqL K H a l → l[i]? = some x) ∧ ∀ l, SqL K H b l → l[i]? = some y
  stop := fun i H => ∃ l r : List V, (SqL K H a l ∧ SqL K H b r) ∧ (l.length ≤ i ∨ r.length ≤ i)
theorem turn_zipPL {P : Program} {w : World} {K : PySem.W.Frag} {es : List Expr} {n : Nat} {tp : Pos} {a b z t1 t2 i1 i2 : Addr} (D : ZipApart z t1 t2 i1 i2 a b) :
    Turn P w K (.Tuple es n tp) (ItzPL K a b) [z, t1, t2, i1, i2] z (fun i h => IsZip h z t1 t2 .none ∧ IsTupOf2 h t1 (.ref i1) (.ref i2) ∧ (∃ x y, IsTupOf2 h t2 x y) ∧ h.IsListIter i1 a i ∧ h.IsListIter i2 b i) where
  mem := List.mem_cons_self ..
  obj := fun i h ⟨g1, g2, ⟨_, _, g3⟩, ⟨o4, g4, _, d4⟩, o5, g5, _, d5⟩ c hc => by
    rcases five_mem hc with rfl | rfl | rfl | rfl | rfl
    · exact ⟨_, g1, fun _ q => nomatch q⟩
    · exact ⟨_, g2, fun _ q => nomatch q⟩
    · exact ⟨_, g3, fun _ q => nomatch q⟩
    · exact ⟨o4, g4, fun _ q => by rw [d4] at q; cases q⟩
    · exact ⟨o5, g5, fun _ q => by rw [d5] at q; cases q⟩
  keep := fun i h h' ⟨g1, g2, ⟨x, y, g3⟩, g4, g5⟩ k => ⟨k z (by simp) _ g1, k t1 (by simp) _ g2, ⟨x, y, k t2 (by simp) _ g3⟩, g4.at fun o q => k i1 (by simp) o q, g5.at fun o q => k i2 (by simp) o q⟩
  item := by
    intro X hP hw hK hc i pins s σ H E I hf ⟨g1, g2, ⟨x0, y0, g3⟩, g4, g5⟩ ⟨x, y, xs, ys, ⟨q1, hx⟩, q2, hy⟩
    subst hP hw hK
    obtain ⟨us, r1, p1, _⟩ := I.list q1
    obtain ⟨ws, r2, p2, _⟩ := I.list q2
    obtain ⟨u, hu, ru⟩ := r1.get hx
    obtain ⟨u', hu', ru'⟩ := r2.get hy
    have zl : z < s.heap.objs.size := Heap.lt_size g1
    refine wpAny_pyNext_zip_item D g1 g2 g3 g4 g5 p1.isList p2.isList (x := u) (y := u') (by simpa using hu) (by simpa using hu') fun h1 e1 e2 e4 e5 hT hsz hk => ?_
    refine ⟨_, rfl, wpAny_letOwnedTupleGo_zip (s := { s with heap := h1 }) e1 fun h2 e6 sb => ?_⟩
    have kp : ∀ c o, c ∉ [z, t1, t2, i1, i2] → s.heap.get? c = some o → h2.get? c = some o := fun c o n q =>
      (sb.2 c (fun e => n (by simp [e]))).trans (hk c o (fun e => n (by simp [e])) (fun e => n (by simp [e])) (fun e => n (by simp [e])) (fun e => n (by simp [e])) q)
    have new : ObjOk X.prog X.w (upd H s.heap.objs.size (.frz (plT [u, u']) (.tup [x, y]))) h2 s.heap.objs.size (.frz (plT [u, u']) (.tup [x, y])) := by
      have hT2 := (sb.2 _ (Nat.ne_of_gt zl)).trans hT
      exact ⟨hT2, (by decide : 2 ≤ sizeLine), [u, u'], .cons ru (.cons ru' .nil), ⟨_, hT2, rfl, _, rfl⟩⟩
    refine ⟨.ref s.heap.objs.size, _, I.turnedNew (t' := s.toks) (ch := [z, t1, t2, i1, i2]) kp hf (Nat.le_refl _) new, rfl, ⟨_, _, x, y, rfl, I.hok.fresh (Nat.le_refl _), rfl, rfl, fun l hl => ?_, fun l hl => ?_⟩, ⟨e6, ?_, ⟨u, u', (sb.2 _ D.TOz).trans e2⟩, e4.at fun o q => (sb.2 _ D.i1z).trans q, e5.at fun o q => (sb.2 _ D.i2z).trans q⟩, fun c hcm => ?_⟩
    · rw [I.list_inj hl q1]; exact hx
    · rw [I.list_inj hl q2]; exact hy
    · exact (sb.2 _ D.TIz).trans (hk _ _ D.TIz D.TITO D.TIi1 D.TIi2 g2)
    · have hlt : c < s.heap.objs.size := by
        rcases five_mem hcm with rfl | rfl | rfl | rfl | rfl
        · exact zl
        · exact Heap.lt_size g2
        · exact Heap.lt_size g3
        · exact Heap.lt_size g4.choose_spec.1
        · exact Heap.lt_size g5.choose_spec.1
      rw [upd_ne (Nat.ne_of_lt hlt)]
      exact (hf c hcm).1
  done := by
    intro X hP hw hK hc i pins s σ H E I hf ⟨g1, g2, ⟨x0, y0, g3⟩, g4, g5⟩ ⟨xs, ys, ⟨q1, q2⟩, hend⟩
    subst hP hw hK
    obtain ⟨us, r1, p1, _⟩ := I.list q1
    obtain ⟨ws, r2, p2, _⟩ := I.list q2
    have l1 := r1.length
    have l2 := r2.length
    refine wpAny_pyNext_zip_end (I.ok.hd hc) D g1 g2 g3 g4 g5 p1.isList p2.isList ?_ fun h1 hk => ⟨rfl, I.turnedL (t' := s.toks) (ch := [z, t1, t2, i1, i2]) (fun c o n q => hk c o (fun e => n (by simp [e])) (fun e => n (by simp [e])) (fun e => n (by simp [e])) (fun e => n (by simp [e])) q) hf⟩
    rcases hend with q | q
    · exact .inl (by simp; omega)
    · exact .inr (by simp; omega)
  self := fun A i s Q E st h => wpAny_pyIter_zip st.1 h
/-- zip of two T: pairs laid plainly -/
def ItzPT (K : PySem.W.Frag) (a b : Addr) : It where
  go := fun i H => ∃ (x y : V) (xs ys : List V), (SqT K H a xs ∧ xs[i]? = some x) ∧ SqT K H b ys ∧ ys[i]? = some y
  yld := fun i H v H' => ∃ (T : Addr) (o : Obj) (x y : V), v = .ref T ∧ H T = none ∧ o.dict = none ∧ H' = upd H T (.frz o (.tup [x, y])) ∧ (∀ l, SqT K H a l → l[i]? = some x) ∧ ∀ l, SqT K H b l → l[i]? = some y
  stop := fun i H => ∃ l r : List V, (SqT K H a l ∧ SqT K H b r) ∧ (l.length ≤ i ∨ r.length ≤ i)
theorem turn_zipPT {P : Program} {w : World} {K : PySem.W.Frag} {es : List Expr} {n : Nat} {tp : Pos} {a b z t1 t2 i1 i2 : Addr} (D : ZipApart z t1 t2 i1 i2 a b) :
    Turn P w K (.Tuple es n tp) (ItzPT K a b) [z, t1, t2, i1, i2] z (fun i h => IsZip h z t1 t2 .none ∧ IsTupOf2 h t1 (.ref i1) (.ref i2) ∧ (∃ x y, IsTupOf2 h t2 x y) ∧ h.IsTupleIter i1 a i ∧ h.IsTupleIter i2 b i) where
  mem := List.mem_cons_self ..
  obj := fun i h ⟨g1, g2, ⟨_, _, g3⟩, ⟨o4, g4, _, d4⟩, o5, g5, _, d5⟩ c hc => by
    rcases five_mem hc with rfl | rfl | rfl | rfl | rfl
    · exact ⟨_, g1, fun _ q => nomatch q⟩
    · exact ⟨_, g2, fun _ q => nomatch q⟩
    · exact ⟨_, g3, fun _ q => nomatch q⟩
    · exact ⟨o4, g4, fun _ q => by rw [d4] at q; cases q⟩
    · exact ⟨o5, g5, fun _ q => by rw [d5] at q; cases q⟩
  keep := fun i h h' ⟨g1, g2, ⟨x, y, g3⟩, g4, g5⟩ k => ⟨k z (by simp) _ g1, k t1 (by simp) _ g2, ⟨x, y, k t2 (by simp) _ g3⟩, g4.at fun o q => k i1 (by simp) o q, g5.at fun o q => k i2 (by simp) o q⟩
  item := by
    intro X hP hw hK hc i pins s σ H E I hf ⟨g1, g2, ⟨x0, y0, g3⟩, g4, g5⟩ ⟨x, y, xs, ys, ⟨q1, hx⟩, q2, hy⟩
    subst hP hw hK
    obtain ⟨us, r1, p1, _⟩ := I.tuple q1
    obtain ⟨ws, r2, p2, _⟩ := I.tuple q2
    obtain ⟨u, hu, ru⟩ := r1.get hx
    obtain ⟨u', hu', ru'⟩ := r2.get hy
    have zl : z < s.heap.objs.size := Heap.lt_size g1
    refine RZ.pyNext_zipT_item D g1 g2 g3 g4 g5 p1 p2 (x := u) (y := u') (by simpa using hu) (by simpa using hu') fun h1 e1 e2 e4 e5 hT hsz hk => ?_
    refine ⟨_, rfl, wpAny_letOwnedTupleGo_zip (s := { s with heap := h1 }) e1 fun h2 e6 sb => ?_⟩
    have kp : ∀ c o, c ∉ [z, t1, t2, i1, i2] → s.heap.get? c = some o → h2.get? c = some o := fun c o n q =>
      (sb.2 c (fun e => n (by simp [e]))).trans (hk c o (fun e => n (by simp [e])) (fun e => n (by simp [e])) (fun e => n (by simp [e])) (fun e => n (by simp [e])) q)
    have new : ObjOk X.prog X.w (upd H s.heap.objs.size (.frz (plT [u, u']) (.tup [x, y]))) h2 s.heap.objs.size (.frz (plT [u, u']) (.tup [x, y])) := by
      have hT2 := (sb.2 _ (Nat.ne_of_gt zl)).trans hT
      exact ⟨hT2, (by decide : 2 ≤ sizeLine), [u, u'], .cons ru (.cons ru' .nil), ⟨_, hT2, rfl, _, rfl⟩⟩
    refine ⟨.ref s.heap.objs.size, _, I.turnedNew (t' := s.toks) (ch := [z, t1, t2, i1, i2]) kp hf (Nat.le_refl _) new, rfl, ⟨_, _, x, y, rfl, I.hok.fresh (Nat.le_refl _), rfl, rfl, fun l hl => ?_, fun l hl => ?_⟩, ⟨e6, ?_, ⟨u, u', (sb.2 _ D.TOz).trans e2⟩, e4.at fun o q => (sb.2 _ D.i1z).trans q, e5.at fun o q => (sb.2 _ D.i2z).trans q⟩, fun c hcm => ?_⟩
    · rw [I.tuple_inj hl q1]; exact hx
    · rw [I.tuple_inj hl q2]; exact hy
    · exact (sb.2 _ D.TIz).trans (hk _ _ D.TIz D.TITO D.TIi1 D.TIi2 g2)
    · have hlt : c < s.heap.objs.size := by
        rcases five_mem hcm with rfl | rfl | rfl | rfl | rfl
        · exact zl
        · exact Heap.lt_size g2
        · exact Heap.lt_size g3
        · exact Heap.lt_size g4.choose_spec.1
        · exact Heap.lt_size g5.choose_spec.1
      rw [upd_ne (Nat.ne_of_lt hlt)]
      exact (hf c hcm).1
  done := by
    intro X hP hw hK hc i pins s σ H E I hf ⟨g1, g2, ⟨x0, y0, g3⟩, g4, g5⟩ ⟨xs, ys, ⟨q1, q2⟩, hend⟩
    subst hP hw hK
    obtain ⟨us, r1, p1, _⟩ := I.tuple q1
    obtain ⟨ws, r2, p2, _⟩ := I.tuple q2
    have l1 := r1.length
    have l2 := r2.length
    refine RZ.pyNext_zipT_end (I.ok.hd hc) D g1 g2 g3 g4 g5 p1 p2 ?_ fun h1 hk => ⟨rfl, I.turnedL (t' := s.toks) (ch := [z, t1, t2, i1, i2]) (fun c o n q => hk c o (fun e => n (by simp [e])) (fun e => n (by simp [e])) (fun e => n (by simp [e])) (fun e => n (by simp [e])) q) hf⟩
    rcases hend with q | q
    · exact .inl (by simp; omega)
    · exact .inr (by simp; omega)
  self := fun A i s Q E st h => wpAny_pyIter_zip st.1 h
theorem itOk_zipL {K : PySem.W.Frag} {a b : Addr} {xs ys : List D} : ItOk K τ (ItzPL K a b) [(.ref a, .list xs), (.ref b, .list ys)] (zipD xs ys) where
  go := fun H ow g i hi => by
    rw [zipD_len] at hi
    obtain ⟨pp, vs, e, hs, ha⟩ := g _ (List.mem_cons_self ..)
    obtain ⟨pq, ws, e2, hs2, hb⟩ := g _ (List.mem_cons_of_mem _ (List.mem_cons_self ..))
    cases e; cases e2
    obtain ⟨v, hv, _⟩ := dpAll_get ha (List.getElem?_eq_getElem (show i < xs.length by omega))
    obtain ⟨w, hw, _⟩ := dpAll_get hb (List.getElem?_eq_getElem (show i < ys.length by omega))
    exact ⟨v, w, vs, ws, ⟨sqL_same res_le hs, hv⟩, sqL_same res_le hs2, hw⟩
  yld := fun H ow g hn i d hd x H4 hy => by
    obtain ⟨dx, dy, hdx, hdy, rfl⟩ := zipD_get hd
    obtain ⟨pp, vs, e, hs, ha⟩ := g _ (List.mem_cons_self ..)
    obtain ⟨pq, ws, e2, hs2, hb⟩ := g _ (List.mem_cons_of_mem _ (List.mem_cons_self ..))
    cases e; cases e2
    obtain ⟨T, o, x1, y1, rfl, hT, ho, rfl, h1, h2⟩ := hy
    obtain ⟨v, hv, hdp⟩ := dpAll_get ha hdx
    obtain ⟨w, hw, hdp2⟩ := dpAll_get hb hdy
    have := (h1 vs (sqL_same res_le hs)).symm.trans hv
    cases this
    have := (h2 ws (sqL_same res_le hs2)).symm.trans hw
    cases this
    exact tup_newP hn hT ho (.cons hdp (.cons hdp2 .nil))
  stop := fun H ow g i hi => by
    rw [zipD_len] at hi
    obtain ⟨pp, vs, e, hs, ha⟩ := g _ (List.mem_cons_self ..)
    obtain ⟨pq, ws, e2, hs2, hb⟩ := g _ (List.mem_cons_of_mem _ (List.mem_cons_self ..))
    cases e; cases e2
    refine ⟨vs, ws, ⟨sqL_same res_le hs, sqL_same res_le hs2⟩, ?_⟩
    rw [dpAll_len ha, dpAll_len hb]
    omega
theorem itOk_zipT {K : PySem.W.Frag} {a b : Addr} {xs ys : List D} : ItOk K τ (ItzPT K a b) [(.ref a, .tuple xs), (.ref b, .tuple ys)] (zipD xs ys) where
  go := fun H ow g i hi => by
    rw [zipD_len] at hi
    obtain ⟨pp, vs, e, hs, ha⟩ := g _ (List.mem_cons_self ..)
    obtain ⟨pq, ws, e2, hs2, hb⟩ := g _ (List.mem_cons_of_mem _ (List.mem_cons_self ..))
    cases e; cases e2
    obtain ⟨v, hv, _⟩ := dpAll_get ha (List.getElem?_eq_getElem (show i < xs.length by omega))
    obtain ⟨w, hw, _⟩ := dpAll_get hb (List.getElem?_eq_getElem (show i < ys.length by omega))
    exact ⟨v, w, vs, ws, ⟨sqT_same res_le hs, hv⟩, sqT_same res_le hs2, hw⟩
  yld := fun H ow g hn i d hd x H4 hy => by
    obtain ⟨dx, dy, hdx, hdy, rfl⟩ := zipD_get hd
    obtain ⟨pp, vs, e, hs, ha⟩ := g _ (List.mem_cons_self ..)
    obtain ⟨pq, ws, e2, hs2, hb⟩ := g _ (List.mem_cons_of_mem _ (List.mem_cons_self ..))
    cases e; cases e2
    obtain ⟨T, o, x1, y1, rfl, hT, ho, rfl, h1, h2⟩ := hy
    obtain ⟨v, hv, hdp⟩ := dpAll_get ha hdx
    obtain ⟨w, hw, hdp2⟩ := dpAll_get hb hdy
    have := (h1 vs (sqT_same res_le hs)).symm.trans hv
    cases this
    have := (h2 ws (sqT_same res_le hs2)).symm.trans hw
    cases this
    exact tup_newP hn hT ho (.cons hdp (.cons hdp2 .nil))
  stop := fun H ow g i hi => by
    rw [zipD_len] at hi
    obtain ⟨pp, vs, e, hs, ha⟩ := g _ (List.mem_cons_self ..)
    obtain ⟨pq, ws, e2, hs2, hb⟩ := g _ (List.mem_cons_of_mem _ (List.mem_cons_self ..))
    cases e; cases e2
    refine ⟨vs, ws, ⟨sqT_same res_le hs, sqT_same res_le hs2⟩, ?_⟩
    rw [dpAll_len ha, dpAll_len hb]
    omega
/-- zip of a list with a tuple: pairs laid plainly -/
def ItzPM (K : PySem.W.Frag) (a b : Addr) (n1 n2 : Nat) : It where
  go := fun i H => ∃ (x y : V) (xs ys : List V), ((SqL K H a xs ∧ xs[i]? = some x) ∧ SqT K H b ys ∧ ys[i]? = some y) ∧ xs.length = n1 ∧ ys.length = n2
  yld := fun i H v H' => ∃ (T : Addr) (o : Obj) (x y : V), v = .ref T ∧ H T = none ∧ o.dict = none ∧ H' = upd H T (.frz o (.tup [x, y])) ∧ (∀ l, SqL K H a l → l[i]? = some x) ∧ ∀ l, SqT K H b l → l[i]? = some y
  stop := fun i H => ∃ l r : List V, (SqL K H a l ∧ SqT K H b r) ∧ (l.length = n1 ∧ r.length = n2) ∧ (n1 ≤ i ∨ n2 ≤ i)
theorem turn_zipPM {P : Program} {w : World} {K : PySem.W.Frag} {es : List Expr} {n n1 n2 : Nat} {tp : Pos} {a b z t1 t2 i1 i2 : Addr} (ha1 : a ≠ i1) (hb2 : b ≠ i2) (D : ZipSep2 z t1 t2 i1 i2 [i1, a] [i2, b]) :
    Turn P w K (.Tuple es n tp) (ItzPM K a b n1 n2) [z, t1, t2, i1, i2] z (fun i h => (i ≤ n1 ∧ i ≤ n2) ∧ IsZip h z t1 t2 .none ∧ IsTupOf2 h t1 (.ref i1) (.ref i2) ∧ (∃ x y, IsTupOf2 h t2 x y) ∧ h.IsListIter i1 a i ∧ h.IsTupleIter i2 b i) where
  mem := List.mem_cons_self ..
  obj := fun i h ⟨_, g1, g2, ⟨_, _, g3⟩, ⟨o4, g4, _, d4⟩, o5, g5, _, d5⟩ c hc => by
    rcases five_mem hc with rfl | rfl | rfl | rfl | rfl
    · exact ⟨_, g1, fun _ q => nomatch q⟩
    · exact ⟨_, g2, fun _ q => nomatch q⟩
    · exact ⟨_, g3, fun _ q => nomatch q⟩
    · exact ⟨o4, g4, fun _ q => by rw [d4] at q; cases q⟩
    · exact ⟨o5, g5, fun _ q => by rw [d5] at q; cases q⟩
  keep := fun i h h' ⟨g0, g1, g2, ⟨x, y, g3⟩, g4, g5⟩ k => ⟨g0, k z (by simp) _ g1, k t1 (by simp) _ g2, ⟨x, y, k t2 (by simp) _ g3⟩, g4.at fun o q => k i1 (by simp) o q, g5.at fun o q => k i2 (by simp) o q⟩
  item := by
    intro X hP hw hK hc i pins s σ H E I hf ⟨g0, g1, g2, ⟨x0, y0, g3⟩, g4, g5⟩ ⟨x, y, xs, ys, ⟨⟨q1, hx⟩, q2, hy⟩, n1e, n2e⟩
    subst hP hw hK
    obtain ⟨us, r1, p1, _⟩ := I.list q1
    obtain ⟨ws, r2, p2, _⟩ := I.tuple q2
    obtain ⟨u, hu, ru⟩ := r1.get hx
    obtain ⟨u', hu', ru'⟩ := r2.get hy
    have zl : z < s.heap.objs.size := Heap.lt_size g1
    have rl1 := r1.length
    have rl2 := r2.length
    have lu : i < us.length := (List.getElem?_eq_some_iff.mp hu).1
    have lw : i < ws.length := (List.getElem?_eq_some_iff.mp hu').1
    refine wpAny_pyNext_zipD2_item D (Draws.list (show X.A.in1.handled = none from I.ok.hd hc) i1 a ha1 us.toArray) (Draws.tuple (show X.A.in1.handled = none from I.ok.hd hc) i2 b hb2 ws.toArray) g1 g2 g3 ⟨g4, p1.isList⟩ ⟨g5, p2⟩ (by simpa using lu) (by simpa using lw) fun x1 x2 h1 tk y1 y2 e1 e2 e4 e5 hT hsz hk => ?_
    have ex1 : x1 = u := by
      have y1 : us.toArray[i]? = some x1 := y1
      rw [List.getElem?_toArray, hu] at y1
      exact (Option.some.inj y1).symm
    have ex2 : x2 = u' := by
      have y2 : ws.toArray[i]? = some x2 := y2
      rw [List.getElem?_toArray, hu'] at y2
      exact (Option.some.inj y2).symm
    subst ex1 ex2
    refine ⟨_, rfl, wpAny_letOwnedTupleGo_zip (s := { s with heap := h1, toks := tk }) e1 fun h2 e6 sb => ?_⟩
    have kp : ∀ c o, c ∉ [z, t1, t2, i1, i2] → s.heap.get? c = some o → h2.get? c = some o := fun c o n q =>
      (sb.2 c (fun e => n (by simp [e]))).trans (hk c o (fun e => n (by simp [e])) (fun e => n (by simp [e])) (fun e => n (by simp [e])) (fun e => n (by simp [e])) q)
    have new : ObjOk X.prog X.w (upd H s.heap.objs.size (.frz (plT [x1, x2]) (.tup [x, y]))) h2 s.heap.objs.size (.frz (plT [x1, x2]) (.tup [x, y])) := by
      have hT2 := (sb.2 _ (Nat.ne_of_gt zl)).trans hT
      exact ⟨hT2, (by decide : 2 ≤ sizeLine), [x1, x2], .cons ru (.cons ru' .nil), ⟨_, hT2, rfl, _, rfl⟩⟩
    refine ⟨.ref s.heap.objs.size, _, I.turnedNew (t' := tk) (ch := [z, t1, t2, i1, i2]) kp hf (Nat.le_refl _) new, rfl, ⟨_, _, x, y, rfl, I.hok.fresh (Nat.le_refl _), rfl, rfl, fun l hl => ?_, fun l hl => ?_⟩, ⟨⟨by omega, by omega⟩, e6, ?_, ⟨x1, x2, (sb.2 _ D.TOz).trans e2⟩, e4.1.at fun o q => (sb.2 _ D.zi1.symm).trans q, e5.1.at fun o q => (sb.2 _ D.zi2.symm).trans q⟩, fun c hcm => ?_⟩
    · rw [I.list_inj hl q1]; exact hx
    · rw [I.tuple_inj hl q2]; exact hy
    · exact (sb.2 _ D.TIz).trans (hk _ _ D.TIz D.TITO D.TIi1 D.TIi2 g2)
    · have hlt : c < s.heap.objs.size := by
        rcases five_mem hcm with rfl | rfl | rfl | rfl | rfl
        · exact zl
        · exact Heap.lt_size g2
        · exact Heap.lt_size g3
        · exact Heap.lt_size g4.choose_spec.1
        · exact Heap.lt_size g5.choose_spec.1
      rw [upd_ne (Nat.ne_of_lt hlt)]
      exact (hf c hcm).1
  done := by
    intro X hP hw hK hc i pins s σ H E I hf ⟨g0, g1, g2, ⟨x0, y0, g3⟩, g4, g5⟩ ⟨xs, ys, ⟨q1, q2⟩, ⟨n1e, n2e⟩, hend⟩
    subst hP hw hK
    obtain ⟨us, r1, p1, _⟩ := I.list q1
    obtain ⟨ws, r2, p2, _⟩ := I.tuple q2
    have l1 := r1.length
    have l2 := r2.length
    refine wpAny_pyNext_zipD2_end D (Draws.list (show X.A.in1.handled = none from I.ok.hd hc) i1 a ha1 us.toArray) (Draws.tuple (show X.A.in1.handled = none from I.ok.hd hc) i2 b hb2 ws.toArray) g1 g2 g3 ⟨g4, p1.isList⟩ ⟨g5, p2⟩ (by simp; omega) (by simp; omega) (by simp; omega) fun h1 tk hk => ⟨rfl, I.turnedL (t' := tk) (ch := [z, t1, t2, i1, i2]) (fun c o n q => hk c o (fun e => n (by simp [e])) (fun e => n (by simp [e])) (fun e => n (by simp [e])) (fun e => n (by simp [e])) q) hf⟩
  self := fun A i s Q E st h => wpAny_pyIter_zip st.2.1 h
theorem itOk_zipM {K : PySem.W.Frag} {a b : Addr} {n1 n2 : Nat} {xs ys : List D} (n1e : n1 = xs.length) (n2e : n2 = ys.length) : ItOk K τ (ItzPM K a b n1 n2) [(.ref a, .list xs), (.ref b, .tuple ys)] (zipD xs ys) where
  go := fun H ow g i hi => by
    rw [zipD_len] at hi
    obtain ⟨pp, vs, e, hs, ha⟩ := g _ (List.mem_cons_self ..)
    obtain ⟨pq, ws, e2, hs2, hb⟩ := g _ (List.mem_cons_of_mem _ (List.mem_cons_self ..))
    cases e; cases e2
    obtain ⟨v, hv, _⟩ := dpAll_get ha (List.getElem?_eq_getElem (show i < xs.length by omega))
    obtain ⟨w, hw, _⟩ := dpAll_get hb (List.getElem?_eq_getElem (show i < ys.length by omega))
    exact ⟨v, w, vs, ws, ⟨⟨sqL_same res_le hs, hv⟩, sqT_same res_le hs2, hw⟩, by rw [← dpAll_len ha] at n1e; exact n1e.symm, by rw [← dpAll_len hb] at n2e; exact n2e.symm⟩
  yld := fun H ow g hn i d hd x H4 hy => by
    obtain ⟨dx, dy, hdx, hdy, rfl⟩ := zipD_get hd
    obtain ⟨pp, vs, e, hs, ha⟩ := g _ (List.mem_cons_self ..)
    obtain ⟨pq, ws, e2, hs2, hb⟩ := g _ (List.mem_cons_of_mem _ (List.mem_cons_self ..))
    cases e; cases e2
    obtain ⟨T, o, x1, y1, rfl, hT, ho, rfl, h1, h2⟩ := hy
    obtain ⟨v, hv, hdp⟩ := dpAll_get ha hdx
    obtain ⟨w, hw, hdp2⟩ := dpAll_get hb hdy
    have := (h1 vs (sqL_same res_le hs)).symm.trans hv
    cases this
    have := (h2 ws (sqT_same res_le hs2)).symm.trans hw
    cases this
    exact tup_newP hn hT ho (.cons hdp (.cons hdp2 .nil))
  stop := fun H ow g i hi => by
    rw [zipD_len] at hi
    obtain ⟨pp, vs, e, hs, ha⟩ := g _ (List.mem_cons_self ..)
    obtain ⟨pq, ws, e2, hs2, hb⟩ := g _ (List.mem_cons_of_mem _ (List.mem_cons_self ..))
    cases e; cases e2
    refine ⟨vs, ws, ⟨sqL_same res_le hs, sqT_same res_le hs2⟩, ?_⟩
    rw [dpAll_len ha, dpAll_len hb]
    omega
def iZipP (K : PySem.W.Frag) (ta : TA) : TI := fun σ H R => ta σ H fun vs H1 => ∃ a b xs ys, vs = [.ref a, .ref b] ∧ ((SqL K H1 a xs ∧ SqL K H1 b ys ∧ R (ItzPL K a b) H1) ∨ (SqT K H1 a xs ∧ SqT K H1 b ys ∧ R (ItzPT K a b) H1) ∨ (SqL K H1 a xs ∧ SqT K H1 b ys ∧ R (ItzPM K a b xs.length ys.length) H1))
theorem pi_zipP {X : Cx} {e e2 : Expr} {ta : TA} {p pos tp : Pos} {es : List Expr} {n : Nat} (hg : Gl X "zip") (hm : X.mg "zip" = none) (ha : PA X [e, e2] ta)
    (hs : starEach [e, e2] X.env = (false, eval e X.env) :: starEach [e2] X.env := by rfl) (hpl : (backTo pos (starEach [e2] X.env)).any (·.1) = false := by rfl) :
    PI X (.Tuple es n tp) (.Call (.Name "zip" p) [e, e2] [] pos) (iZipP X.K ta) := by
  refine ⟨fun pins s σ H R I h => Call_ (ld_blt I hg hm PyProof.Rows.boot_zip (PyProof.Rows.callWith_type1 (thn (ha.run pos pins s σ H _ I h) fun us s1 ⟨vs, H1, I1, r1, a, b, xs, ys, ex, q1⟩ => ?_) hs hpl))⟩
  subst ex
  cases r1 with
  | cons r rr =>
    cases rr with
    | cons r' rr =>
      cases rr
      cases r
      cases r'
      have fr : ∀ c, c ∈ [s1.heap.objs.size + 4, s1.heap.objs.size + 2, s1.heap.objs.size + 3, s1.heap.objs.size, s1.heap.objs.size + 1] → FpOk X pins H1 c := fun c hcm => by
        have hle : s1.heap.objs.size ≤ c := by
          rcases five_mem hcm with z | z | z | z | z <;> rw [z] <;> first | exact Nat.le_add_right _ _ | exact Nat.le_refl _
        exact I1.fpOk hle (I1.hok.fresh hle)
      rcases q1 with ⟨g1, g2, q⟩ | ⟨g1, g2, q⟩ | ⟨g1, g2, q⟩
      · obtain ⟨us, _, p1, _⟩ := I1.list g1
        obtain ⟨ws, _, p2, _⟩ := I1.list g2
        refine call_zip_2 p1.isList p2.isList fun h' hz e1 e2 e3 e4 hsz hk => wpAny_pyIter_zip hz ?_
        exact ⟨_, _, _, _, H1, rfl, I1.kept (t' := s1.toks) hk, turn_zipPL (PySem.W.ktu_apart s1.heap.objs.size a b p1.lt p2.lt), ⟨hz, e1, ⟨_, _, e2⟩, e3, e4⟩, fr, q⟩
      · obtain ⟨us, _, p1, _⟩ := I1.tuple g1
        obtain ⟨ws, _, p2, _⟩ := I1.tuple g2
        refine RZ.call_zipT (show s1.heap.IsTuple a us.toArray from p1) (show s1.heap.IsTuple b ws.toArray from p2) fun h' hz e1 e2 e3 e4 hsz hk => wpAny_pyIter_zip hz ?_
        exact ⟨_, _, _, _, H1, rfl, I1.kept (t' := s1.toks) hk, turn_zipPT (PySem.W.ktu_apart s1.heap.objs.size a b (Heap.lt_size p1.choose_spec.1) (Heap.lt_size p2.choose_spec.1)), ⟨hz, e1, ⟨_, _, e2⟩, e3, e4⟩, fr, q⟩
      · obtain ⟨us, _, p1, _⟩ := I1.list g1
        obtain ⟨ws, _, p2, _⟩ := I1.tuple g2
        have la := p1.lt
        have lb := Heap.lt_size p2.choose_spec.1
        refine zip_begins2 (begins_list a us.toArray) (begins_tuple b ws.toArray) p1.isList p2 fun h' hz e1 e2 e3 e4 hsz hk => wpAny_pyIter_zip hz ?_
        refine ⟨_, _, _, _, H1, rfl, I1.kept (t' := s1.toks) hk, turn_zipPM (Nat.ne_of_lt la) (Nat.ne_of_lt (Nat.lt_succ_of_lt lb)) (zip_sep2 (fp1 := [a]) (fp2 := [b]) (fun c hc => by rw [List.mem_singleton.mp hc]; exact la) (fun c hc => by rw [List.mem_singleton.mp hc]; exact lb)), ⟨⟨Nat.zero_le _, Nat.zero_le _⟩, hz, e1, ⟨_, _, e2⟩, ⟨_, e3, rfl, rfl⟩, ⟨_, e4, rfl, rfl⟩⟩, fr, q⟩
def fZip : D → D → (List D → Prop) → Prop
  | .list xs, .list ys, C => C (zipD xs ys)
  | .tuple xs, .tuple ys, C => C (zipD xs ys)
  | .list xs, .tuple ys, C => C (zipD xs ys)
  | _, _, _ => False
def iZip2 (tv tw : UV) : UL := fun ρ C => tv ρ fun x => tw ρ fun y => fZip x y C
theorem jix_zip (S : Ok cp G N sc k X) (hm : Free G "zip") (he : JV τ X e tv) (he2 : JV τ X e2 tw) (hg : sc.names.lookup ("zip" : Str) = some .globalImplicit := by rfl) (hs : starEach [e, e2] X.env = (false, eval e X.env) :: starEach [e2] X.env := by rfl) (hs2 : starEach [e2] X.env = (false, eval e2 X.env) :: starEach [] X.env := by rfl) (hpl : (backTo pos (starEach [e2] X.env)).any (·.1) = false := by rfl) :
    JIx τ X (.Tuple elts kk tpos) (.Call (.Name "zip" p) [e, e2] [] pos) (iZip2 tv tw) := fun ρ C c H0 γ σ H r R q =>
  wpI_size (wpI_of (pi_zipP (by show X.env.scope.names.lookup _ = _; rw [S.es]; exact hg) (by rw [S.em]; exact hm) (pa_cons pe_w (pa_cons pe_w pa_nil hs2) hs) hs hpl) (he ρ _ c H0 γ σ H r _ fun d1 v1 H2 c e1 h1 => he2 ρ _ c H0 γ σ H2 (r.after e1) _ fun d2 v2 H3 c e2 h2 => by
    have h1 := h1.after e2
    cases d1 with
    | list xs =>
      cases d2 <;> first | exact c.elim | skip
      · obtain ⟨a, vs, rfl, hs, ha⟩ := id h1
        obtain ⟨b, ws, rfl, ht, hb⟩ := id h2
        exact ⟨a, b, vs, ws, rfl, .inl ⟨sqL_same res_le hs, sqL_same res_le ht, fun z1 z2 => q _ [(_, _), (_, _)] _ H3 c (e1.trans e2) (fun p hp => by
          rcases List.mem_cons.mp hp with rfl | hp
          · exact h1
          · rw [List.mem_singleton.mp hp]; exact h2) itOk_zipL (by
            have := z1 _ _ (sqL_same res_le hs)
            rw [zipD_len, ← dpAll_len ha]; omega)⟩⟩
      · obtain ⟨a, vs, rfl, hs, ha⟩ := id h1
        obtain ⟨b, ws, rfl, ht, hb⟩ := id h2
        exact ⟨a, b, vs, ws, rfl, .inr (.inr ⟨sqL_same res_le hs, sqT_same res_le ht, fun z1 z2 => q _ [(_, _), (_, _)] _ H3 c (e1.trans e2) (fun p hp => by
          rcases List.mem_cons.mp hp with rfl | hp
          · exact h1
          · rw [List.mem_singleton.mp hp]; exact h2) (itOk_zipM (dpAll_len ha) (dpAll_len hb)) (by
            have := z1 _ _ (sqL_same res_le hs)
            rw [zipD_len, ← dpAll_len ha]; omega)⟩)⟩
    | tuple xs =>
      cases d2 <;> first | exact c.elim | skip
      obtain ⟨a, vs, rfl, hs, ha⟩ := id h1
      obtain ⟨b, ws, rfl, ht, hb⟩ := id h2
      exact ⟨a, b, vs, ws, rfl, .inr (.inl ⟨sqT_same res_le hs, sqT_same res_le ht, fun z1 z2 => q _ [(_, _), (_, _)] _ H3 c (e1.trans e2) (fun p hp => by
        rcases List.mem_cons.mp hp with rfl | hp
        · exact h1
        · rw [List.mem_singleton.mp hp]; exact h2) itOk_zipT (by
          have := z2 _ _ (sqT_same res_le hs)
          rw [zipD_len, ← dpAll_len ha]; omega)⟩)⟩
    | none => cases d2 <;> exact c.elim
    | bool _ => cases d2 <;> exact c.elim
    | int _ => cases d2 <;> exact c.elim
    | str _ => cases d2 <;> exact c.elim
    | dict _ => cases d2 <;> exact c.elim))
theorem ji_zip (S : Ok cp G N sc k X) (hm : Free G "zip") (he : JD τ X e tv) (he2 : JD τ X e2 tw) (hg : sc.names.lookup ("zip" : Str) = some .globalImplicit := by rfl) (hs : starEach [e, e2] X.env = (false, eval e X.env) :: starEach [e2] X.env := by rfl) (hs2 : starEach [e2] X.env = (false, eval e2 X.env) :: starEach [] X.env := by rfl) (hpl : (backTo pos (starEach [e2] X.env)).any (·.1) = false := by rfl) :
    JI τ X (.Tuple elts kk tpos) (.Call (.Name "zip" p) [e, e2] [] pos) (iZip2 tv tw) := fun ρ C c H0 γ σ H r R q =>
  wpI_size (wpI_of (pi_zipP (by show X.env.scope.names.lookup _ = _; rw [S.es]; exact hg) (by rw [S.em]; exact hm) (pa_cons pe_w (pa_cons pe_w pa_nil hs2) hs) hs hpl) (he ρ _ c H0 γ σ H r _ fun d1 v1 H2 c e1 h1 => he2 ρ _ c H0 γ σ H2 (r.after e1) _ fun d2 v2 H3 c e2 h2 => by
    have h1 := dp_after e2 h1
    cases h1 with
    | lst hs ha =>
      cases h2 <;> first | exact c.elim | skip
      · rename_i ht hb
        exact ⟨_, _, _, _, rfl, .inl ⟨sqL_same res_le hs, sqL_same res_le ht, fun z1 z2 => q _ [(_, _), (_, _)] _ H3 c (e1.trans e2) (fun p hp => by
          rcases List.mem_cons.mp hp with rfl | hp
          · exact .lst hs ha
          · rw [List.mem_singleton.mp hp]; exact .lst ht hb) itOk_zipL (by
            have := z1 _ _ (sqL_same res_le hs)
            rw [zipD_len, ← dpAll_len ha]; omega)⟩⟩
      · rename_i ht hb
        exact ⟨_, _, _, _, rfl, .inr (.inr ⟨sqL_same res_le hs, sqT_same res_le ht, fun z1 z2 => q _ [(_, _), (_, _)] _ H3 c (e1.trans e2) (fun p hp => by
          rcases List.mem_cons.mp hp with rfl | hp
          · exact .lst hs ha
          · rw [List.mem_singleton.mp hp]; exact .tup ht hb) (itOk_zipM (dpAll_len ha) (dpAll_len hb)) (by
            have := z1 _ _ (sqL_same res_le hs)
            rw [zipD_len, ← dpAll_len ha]; omega)⟩)⟩
    | tup hs ha =>
      cases h2 <;> first | exact c.elim | skip
      rename_i ht hb
      exact ⟨_, _, _, _, rfl, .inr (.inl ⟨sqT_same res_le hs, sqT_same res_le ht, fun z1 z2 => q _ [(_, _), (_, _)] _ H3 c (e1.trans e2) (fun p hp => by
        rcases List.mem_cons.mp hp with rfl | hp
        · exact .tup hs ha
        · rw [List.mem_singleton.mp hp]; exact .tup ht hb) itOk_zipT (by
          have := z2 _ _ (sqT_same res_le hs)
          rw [zipD_len, ← dpAll_len ha]; omega)⟩)⟩
    | non => cases d2 <;> exact c.elim
    | bl _ => cases d2 <;> exact c.elim
    | int _ => cases d2 <;> exact c.elim
    | str _ => cases d2 <;> exact c.elim))
end
end Pu
namespace Pu
open PySem PySem.Spec PyProof.Rows L2
/-! ### a def of the text -/
def Ar.sl : Ar → Sl
  | .dat d => .dat d
  | .town => .town
def en0 (N : List Str) (as : List Ar) : En := as.map Ar.sl ++ List.replicate (N.length - as.length) .un
def sfOf (N : List Str) (np : Nat) (t : US) : Sf := fun as C => as.length = np ∧ t { nx := fun _ => C (.dat .none), rt := fun r => r.lf = true ∧ C r } (en0 N as)
section
variable {G : Gx} {τ : Tn}
theorem paired_get {α β : Type} {F : α → β → Prop} : ∀ {l₁ : List α} {l₂ : List β}, Paired F l₁ l₂ → ∀ (i : Nat) (b : β), l₂[i]? = some b → ∃ a, l₁[i]? = some a ∧ F a b
  | _, _, .nil, i, b, h => by simp at h
  | _, _, .cons h t, 0, b, e => by
    simp only [List.getElem?_cons_zero, Option.some.injEq] at e
    subst e
    exact ⟨_, rfl, h⟩
  | _, _, .cons h t, i + 1, b, e => by
    simp only [List.getElem?_cons_succ] at e
    obtain ⟨a, h1, h2⟩ := paired_get t i b e
    exact ⟨a, by simp [h1], h2⟩
theorem en0_own {N : List Str} {as : List Ar} {i : Nat} {s : Sl} (h : (en0 N as)[i]? = some s) : s.isOwn = false := by
  have hm : s ∈ en0 N as := List.mem_of_getElem? h
  unfold en0 at hm
  rcases List.mem_append.mp hm with hm | hm
  · obtain ⟨a, _, rfl⟩ := List.mem_map.mp hm
    cases a <;> rfl
  · rw [(List.mem_replicate.mp hm).2]; rfl
theorem rep_start {K : PySem.W.Frag} {H : Hp} {N : List Str} {vs : List V} {as : List Ar} (hz : τ.z H) (hi : τ.inv H) (h : ArsOk K τ H vs as) : Rep K τ H [] H (L2.start N vs) (en0 N as) := by
  have hl : vs.length = as.length := Paired.length h
  refine ⟨by simp [L2.start, en0, hl], fun _ _ e _ => e, hi, fun i s hs => ?_, fun i j s t a h1 h2 h3 => ?_, (fun p hp => by cases hp), hz⟩
  · have nown : ∀ a, own τ (L2.start N vs) (en0 N as) a → τ.ad a := fun a z => by
      rcases z with z | ⟨j, u, h1, h2, _⟩
      · exact z
      · rw [en0_own h1] at h2; cases h2
    have le : Same (res H τ.ad) (res H (own τ (L2.start N vs) (en0 N as))) := res_mono fun a o n e => ⟨fun z => n (nown a z), e⟩
    by_cases hi : i < as.length
    · have e1 : (en0 N as)[i]? = (as.map Ar.sl)[i]? := List.getElem?_append_left (by simpa using hi)
      rw [e1, List.getElem?_map] at hs
      obtain ⟨a, ea, rfl⟩ := Option.map_eq_some_iff.mp hs
      obtain ⟨v, ev, hv⟩ := paired_get h i a ea
      have e2 : (L2.start N vs)[i]? = some (some v) := by
        unfold L2.start
        rw [List.getElem?_append_left (by simp; omega), List.getElem?_map, ev]; rfl
      cases a with
      | dat d => exact ⟨v, e2, dp_same le _ _ hv⟩
      | town =>
        show (L2.start N vs)[i]? = some (some τ.val)
        rw [e2, show v = τ.val from hv]
    · have e1 : (en0 N as)[i]? = (List.replicate (N.length - as.length) Sl.un)[i - as.length]? := by
        unfold en0
        rw [List.getElem?_append_right (by simp; omega)]; simp
      rw [e1] at hs
      have := List.mem_of_getElem? hs
      rw [(List.mem_replicate.mp this).2]
      trivial
  · rw [en0_own h1] at h3; cases h3
/-- where one stands: the code object, the name that inner defs bear -/
structure AtC (X : Cx) (cd : Value) (q : Str) : Prop where
  code : X.env.code = cd
  qual : X.env.qual = q
def qOf (x : Str) (sc : Scope) : Str := (envOfC x sc 0 0 .none).qual
theorem fnOk_ofC (hz : ∀ H, τ.z H) {x qual : Str} {params : Arguments} {body : List Stmt} {scope : Scope} {dvs : List V} {kws : List (Str × V)} {f : Addr} {fd : FuncData} {N ps : List Str} {k : Nat} {t : US} (F : FunD G.K x qual params body scope dvs kws f fd) (S : FnScope N ps scope)
    (h : ∀ X, Ok [] G N scope k X → AtC X fd.code (qOf qual scope) → JSs τ X body t) : FnOk G.P G.w G.K G.mg G.base CX0 (k + 1) f fd ps (spD G τ (sfOf N ps.length t)) := by
  obtain ⟨oc, od, dV, kV, doc, pm, an, cdv, ct, osl, rfl, lk, hcd, _, _⟩ := F.ex
  refine fn_of lk hcd S (fun vs H Q E h => ?_) (fun A outer s H vs Q E hr h' => ⟨wpSs (cxOf CX0 G.P G.w G.K G.mg G.base N qual scope f cdv A outer s H E).nox body, PSs.nox pss_w, ?_⟩)
  · obtain ⟨as, C, h1, _, h2, _⟩ := h
    exact (Paired.length h1).trans h2.1
  · obtain ⟨as, C, h1, hi, h2, hq⟩ := h'
    have O : Ok [] G N scope k (cxOf CX0 G.P G.w G.K G.mg G.base N qual scope f cdv A outer s H E).nox := ⟨rfl, rfl, rfl, rfl, rfl, rfl, S.nd, rfl, S.kind, rfl, hr, fun _ _ _ => rfl, PassesOwn.never⟩
    refine h _ O ⟨rfl, rfl⟩ _ _ h2.2 H [] _ H (rep_start (hz _) hi h1) _ ⟨fun ρ σ H' c r => hq (.dat .none) .non H' rfl c ⟨r.ext, fun _ => r.inv⟩ .non, fun ρ σ H' c r => c.elim, fun ρ σ H' c r => c.elim, fun r v H' c e i z => hq r v H' c.1 c.2 ⟨e, fun _ => i⟩ z⟩
theorem fnOk_of (hz : ∀ H, τ.z H) {x qual : Str} {params : Arguments} {body : List Stmt} {scope : Scope} {dvs : List V} {kws : List (Str × V)} {f : Addr} {fd : FuncData} {N ps : List Str} {k : Nat} {t : US} (F : FunD G.K x qual params body scope dvs kws f fd) (S : FnScope N ps scope)
    (h : ∀ X, Ok [] G N scope k X → JSs τ X body t) : FnOk G.P G.w G.K G.mg G.base CX0 (k + 1) f fd ps (spD G τ (sfOf N ps.length t)) := fnOk_ofC hz F S fun X O _ => h X O
/-- the facts of a def's name -/
structure Dn (G : Gx) (x : Str) (st : Stmt) (dvs : List V) (kws : List (Str × V)) (f : Addr) (fd : FuncData) : Prop where
  fn : FunD G.K x x (defArgs st) (defBody st) (defScope st) dvs kws f fd
  gl : G.mg x = some (.ref f)
theorem fnD_of (hz : ∀ H, τ.z H) {x : Str} {st : Stmt} {f : Addr} {fd : FuncData} {N ps : List Str} {k : Nat} {t : US} (F : Dn G x st [] [] f fd) (S : FnScope N ps (defScope st))
    (hb : ∀ (kV doc pm : Value) (an : Option Addr) (cdv ct : Value) (us : List Value), us.length = ps.length → bindArgs (PySem.W.fnOf x x (defArgs st) (defBody st) (defScope st) .none kV doc pm an cdv ct) ⟨us, []⟩ = pure (ps.zip us))
    (h : ∀ X, Ok [] G N (defScope st) k X → JSs τ X (defBody st) t) : FnD G τ (k + 1) x ps (sfOf N ps.length t) :=
  ⟨⟨f, fd, fnOk_of hz F.fn S h, F.gl, F.fn.kp, F.fn.bindsN hb⟩⟩
theorem fnD_ofC (hz : ∀ H, τ.z H) {x : Str} {st : Stmt} {f : Addr} {fd : FuncData} {N ps : List Str} {k : Nat} {t : US} (F : Dn G x st [] [] f fd) (S : FnScope N ps (defScope st))
    (hb : ∀ (kV doc pm : Value) (an : Option Addr) (cdv ct : Value) (us : List Value), us.length = ps.length → bindArgs (PySem.W.fnOf x x (defArgs st) (defBody st) (defScope st) .none kV doc pm an cdv ct) ⟨us, []⟩ = pure (ps.zip us))
    (h : ∀ X, Ok [] G N (defScope st) k X → AtC X fd.code (qOf x (defScope st)) → JSs τ X (defBody st) t) : FnD G τ (k + 1) x ps (sfOf N ps.length t) :=
  ⟨⟨f, fd, fnOk_ofC hz F.fn S h, F.gl, F.fn.kp, F.fn.bindsN hb⟩⟩
/-- a def with other things handed over (hand contract): the Binds alone -/
theorem fnD_mk {x : Str} {st : Stmt} {f : Addr} {fd : FuncData} {ps : List Str} {k : Nat} {S : Sf} (F : Dn G x st [] [] f fd) (h : FnOk G.P G.w G.K G.mg G.base CX0 k f fd ps (spD G τ S))
    (hb : ∀ (kV doc pm : Value) (an : Option Addr) (cdv ct : Value) (us : List Value), us.length = ps.length → bindArgs (PySem.W.fnOf x x (defArgs st) (defBody st) (defScope st) .none kV doc pm an cdv ct) ⟨us, []⟩ = pure (ps.zip us)) : FnD G τ k x ps S := ⟨⟨f, fd, h, F.gl, F.fn.kp, F.fn.bindsN hb⟩⟩
/-- S' may be told instead of S -/
theorem FnD.weaken {k : Nat} {x : Str} {ps : List Str} {S S' : Sf} (F : FnD G τ k x ps S) (h : ∀ as C, S' as C → S as C) : FnD G τ k x ps S' := by
  obtain ⟨f, fd, h1, h2, h3, h4⟩ := F.ex
  refine ⟨⟨f, fd, ⟨fun vs H Q E ⟨as, C, a, b, c, d⟩ => h1.len vs H Q E ⟨as, C, a, b, h _ _ c, d⟩, fun A outer s H args us vs Q E hr e0 hb r ⟨as, C, a, b, c, d⟩ => h1.run A outer s H args us vs Q E hr e0 hb r ⟨as, C, a, b, h _ _ c, d⟩⟩, h2, h3, h4⟩⟩
theorem FnD.mono {j k : Nat} {x : Str} {ps : List Str} {S : Sf} (F : FnD G τ j x ps S) (h : j ≤ k) : FnD G τ k x ps S := by
  obtain ⟨f, fd, h1, h2, h3, h4⟩ := F.ex
  exact ⟨⟨f, fd, ⟨h1.len, fun A outer s H args us vs Q E hr => h1.run A outer s H args us vs Q E (hr.mono h)⟩, h2, h3, h4⟩⟩
end
end Pu
namespace Pu
open PySem PySem.Spec PyProof.Rows L2
/-! ### the town: a dict of a count and of rests -/
def RestOk (kvs : List (Key × V)) : Prop := (kvs.map (·.1)).Nodup ∧ ∀ p ∈ kvs, ∃ (i : Nat) (n : Int), p = (.inl (i : Int), .int n) ∧ i < 64
def twInv (T R : Addr) (H : Hp) : Prop := T ≠ R ∧ ∃ (c : Int) (kvs : List (Key × V)), H T = some (.dK [(.inr "count", .int c), (.inr "rests", .ref R)]) ∧ H R = some (.dK kvs) ∧ RestOk kvs
def tw (T R : Addr) (Ts : List (Addr × Str)) (z : Hp → Prop) : Tn where
  ad := fun a => a = T ∨ a = R ∨ ∃ p ∈ Ts, a = p.1
  inv := fun H => twInv T R H ∧ LamX.Tabs Ts H
  val := .ref T
  tr := fun {H a} h q => by
    obtain ⟨⟨_, c, kvs, h1, h2, _⟩, ht⟩ := h
    rcases q with rfl | rfl | ⟨p, hp, rfl⟩
    · exact ⟨_, h1, trivial⟩
    · exact ⟨_, h2, trivial⟩
    · obtain ⟨ps, h3, _⟩ := ht p hp
      exact ⟨_, h3, trivial⟩
  dep := fun {H H'} e h => by
    obtain ⟨⟨n, c, kvs, h1, h2, h3⟩, ht⟩ := h
    refine ⟨⟨n, c, kvs, e T _ h1 (.inl (.inl rfl)), e R _ h2 (.inl (.inr (.inl rfl))), h3⟩, fun p hp => ?_⟩
    obtain ⟨ps, g1, g2, g3⟩ := ht p hp
    refine ⟨ps, e _ _ g1 (.inl (.inr (.inr ⟨p, hp, rfl⟩))), g2, fun pos cv q => ?_⟩
    obtain ⟨c0, e1, e2⟩ := g3 pos cv q
    exact ⟨c0, e1, e _ _ e2 (.inr fun q => q)⟩
  z := z
theorem pig : ∀ (n : Nat) (l : List Nat), l.Nodup → (∀ x ∈ l, x < n) → l.length ≤ n
  | 0, [], _, _ => Nat.le_refl _
  | 0, a :: l, _, h => absurd (h a (List.mem_cons_self ..)) (by omega)
  | n + 1, l, hn, h => by
    have h1 := pig n (l.erase n) (hn.erase n) fun x hx => by
      have hm : x ∈ l := List.mem_of_mem_erase hx
      have h2 := h x hm
      have h3 : x ≠ n := fun z => by subst z; exact (List.Nodup.not_mem_erase hn) hx
      omega
    have := List.length_erase (a := n) (l := l)
    split at this <;> omega
theorem RestOk.len {kvs : List (Key × V)} (h : RestOk kvs) : kvs.length ≤ 64 := by
  have e : ∀ {kvs : List (Key × V)}, RestOk kvs → ∃ l : List Nat, kvs.map (·.1) = l.map (fun i : Nat => (Sum.inl (i : Int) : Key)) ∧ ∀ x ∈ l, x < 64 := by
    intro kvs h
    induction kvs with
    | nil => exact ⟨[], rfl, fun x hx => by cases hx⟩
    | cons p r ih =>
      obtain ⟨l, e, hl⟩ := ih ⟨(List.nodup_cons.mp h.1).2, fun q hq => h.2 q (List.mem_cons_of_mem _ hq)⟩
      obtain ⟨i, n, rfl, hi⟩ := h.2 p (List.mem_cons_self ..)
      exact ⟨i :: l, by simp [e], fun x hx => by
        rcases List.mem_cons.mp hx with rfl | hx
        · exact hi
        · exact hl x hx⟩
  obtain ⟨l, e1, hl⟩ := e h
  have hn : l.Nodup := by
    have := h.1
    rw [e1] at this
    exact (List.pairwise_map.mp this).imp fun h z => h (by rw [z])
  have := pig 64 l hn hl
  have e2 := congrArg List.length e1
  simp at e2
  omega
theorem RestOk.put {kvs : List (Key × V)} (h : RestOk kvs) (i : Nat) (n : Int) (hi : i < 64) : RestOk (putK kvs (.inl (i : Int)) (.int n)) := by
  unfold putK
  split
  · constructor
    · rw [List.map_map]
      have e : ((fun x : Key × V => x.1) ∘ fun kv : Key × V => if kv.1 = Sum.inl (i : Int) then (kv.1, V.int n) else kv) = (·.1) := by
        funext kv
        show (if kv.1 = Sum.inl (i : Int) then (kv.1, V.int n) else kv).1 = kv.1
        split <;> rfl
      rw [e]; exact h.1
    · intro p hp
      obtain ⟨q, hq, rfl⟩ := List.mem_map.mp hp
      obtain ⟨j, m, rfl, hj⟩ := h.2 q hq
      by_cases e : (Sum.inl (j : Int) : Key) = Sum.inl (i : Int)
      · exact ⟨j, n, by simp [e], hj⟩
      · exact ⟨j, m, by simp [e], hj⟩
  · rename_i hno
    constructor
    · rw [List.map_append]
      refine nd_snoc h.1 fun m => hno ?_
      obtain ⟨p, hp, e⟩ := List.mem_map.mp m
      exact List.any_eq_true.mpr ⟨p, hp, decide_eq_true e⟩
    · intro p hp
      rcases List.mem_append.mp hp with hp | hp
      · exact h.2 p hp
      · rw [List.mem_singleton.mp hp]
        exact ⟨i, n, rfl, hi⟩
theorem RestOk.get {kvs : List (Key × V)} (h : RestOk kvs) (k : Key) (v : V) (e : valV kvs k = some v) : ∃ n : Int, v = .int n := by
  unfold valV at e
  obtain ⟨p, hp, rfl⟩ := Option.map_eq_some_iff.mp e
  obtain ⟨i, n, rfl, _⟩ := h.2 p (List.mem_of_find?_eq_some hp)
  exact ⟨n, rfl⟩
section
variable {T R : Addr} {Ts : List (Addr × Str)} {z : Hp → Prop} {G : Gx} {cp : List Str} {N : List Str} {sc : Scope} {k : Nat} {X : Cx} {e f value : Expr} {tv tw' : UV} {x : Str} {p1 p2 p3 p4 p5 p6 p7 p8 pos : Pos} {j1 j2 j3 : Nat}
theorem un1 (S : Ok cp G N sc k X) : X.A.units + 1 < cLine := by have := S.room.un; omega
theorem val_count {c : Int} : valV ([(.inr "count", .int c), (.inr "rests", .ref R)] : List (Key × V)) (.inr "count") = some (.int c) := valV_pos rfl
theorem val_rests {c : Int} : valV ([(.inr "count", .int c), (.inr "rests", .ref R)] : List (Key × V)) (.inr "rests") = some (.ref R) := by
  rw [valV_neg (show ¬ (Sum.inr ("count" : Str) : Key) = Sum.inr ("rests" : Str) from by decide)]
  exact valV_pos rfl
theorem put_count {c d : Int} : putK ([(.inr "count", .int c), (.inr "rests", .ref R)] : List (Key × V)) (.inr "count") (.int d) = [(.inr "count", .int d), (.inr "rests", .ref R)] := by
  have h : ¬ ("rests" : Str) = ("count" : Str) := by decide
  unfold putK
  simp [h]
theorem tabs_upd {H : Hp} {a : Addr} {o : HO} {kvs : List (Key × V)} (h : H a = some (.dK kvs)) (t : LamX.Tabs Ts H) : LamX.Tabs Ts (upd H a o) := fun p hp => by
  obtain ⟨ps, g1, g2, g3⟩ := t p hp
  have n1 : p.1 ≠ a := fun q => by rw [q, h] at g1; cases g1
  refine ⟨ps, by rw [upd_ne n1]; exact g1, g2, fun pos cv q => ?_⟩
  obtain ⟨c0, e1, e2⟩ := g3 pos cv q
  have n2 : c0 ≠ a := fun q => by rw [q, h] at e2; cases e2
  exact ⟨c0, e1, by rw [upd_ne n2]; exact e2⟩
theorem ext_tick {H : Hp} {c : Int} (hi : (tw T R Ts z).inv H) : Ext (tw T R Ts z) H (upd H T (.dK [(.inr "count", .int c), (.inr "rests", .ref R)])) :=
  ⟨fun a o ea na => by rw [upd_ne fun q => na (.inl q)]; exact ea, fun _ => by
    obtain ⟨⟨n, c0, kvs, h1, h2, h3⟩, ht⟩ := hi
    exact ⟨⟨n, c, kvs, upd_same, by rw [upd_ne (Ne.symm n)]; exact h2, h3⟩, tabs_upd h1 ht⟩⟩
theorem ext_rest {H : Hp} {kvs : List (Key × V)} (hi : (tw T R Ts z).inv H) (hk : RestOk kvs) : Ext (tw T R Ts z) H (upd H R (.dK kvs)) :=
  ⟨fun a o ea na => by rw [upd_ne fun q => na (.inr (.inl q))]; exact ea, fun _ => by
    obtain ⟨⟨n, c0, kvs0, h1, h2, h3⟩, ht⟩ := hi
    exact ⟨⟨n, c0, kvs, by rw [upd_ne n]; exact h1, upd_same, hk⟩, tabs_upd h2 ht⟩⟩
def sTick (i : Nat) : US := fun E ρ => ρ[i]? = some .town ∧ E.nx ρ
theorem js_tick (S : Ok cp G N sc k X) (i : Nat) (hN : N[i]? = some x := by rfl) (hv : Vis sc x := by first | exact Or.inl rfl | exact Or.inr (Or.inl rfl) | exact Or.inr (Or.inr rfl)) (hd : (x == ("__debug__" : Str)) = false := by decide) (hcd : (x == ("__classdict__" : Str)) = false := by decide)
    (hsw : swapsWith (.BinOp (.Subscript (.Name x p4) (.Constant (.str "count") j2 p5) p6) .Add (.Constant (.int 1) j3 p7) p8) (some (.Subscript (.Name x p1) (.Constant (.str "count") j1 p2) p3)) pos.line X.env = pure false := by rfl) :
    JS (tw T R Ts z) X (.Assign [.Subscript (.Name x p1) (.Constant (.str "count") j1 p2) p3] (.BinOp (.Subscript (.Name x p4) (.Constant (.str "count") j2 p5) p6) .Add (.Constant (.int 1) j3 p7) p8) pos) (sTick i) := fun ρ E c H0 γ σ H r Dn d => by
  have hp : ∀ p : Pos, PE X (.Name x p) (tVar i) := fun p => pe_var (by rw [S.eN]; exact hN) (by rw [S.es]; exact hv) hd hcd
  refine wpS_of (ps_dput (un1 S) (hp _) pe_str (pe_op op_add (pe_dget (un1 S) (hp _) pe_str (fun _ _ => rfl)) pe_int) hsw) ?_
  have hT : σ[i]? = some (some (.ref T)) := r.sl i _ c.1
  obtain ⟨⟨n, c0, kvs, h1, h2, h3⟩, ht⟩ := r.inv
  refine ⟨_, hT, T, .int c0, rfl, ?_, c0, 1, rfl, rfl, _, hT, T, _, rfl, DPut.k (k := .inr "count") h1 (show 2 < sizeLine from by decide), ?_⟩
  · have := DGet.k (k := .inr "count") h1
    rw [val_count] at this
    exact this
  · rw [put_count]
    exact d.nx ρ σ _ c.2 (r.after (ext_tick r.inv))
def dCount (i : Nat) : UV := fun ρ C => ρ[i]? = some .town ∧ ∀ c : Int, C (.int c)
theorem jd_count (S : Ok cp G N sc k X) (i : Nat) (hN : N[i]? = some x := by rfl) (hv : Vis sc x := by first | exact Or.inl rfl | exact Or.inr (Or.inl rfl) | exact Or.inr (Or.inr rfl)) (hd : (x == ("__debug__" : Str)) = false := by decide) (hcd : (x == ("__classdict__" : Str)) = false := by decide) :
    JD (tw T R Ts z) X (.Subscript (.Name x p4) (.Constant (.str "count") j2 p5) p6) (dCount i) := fun ρ C c H0 γ σ H r Q q => by
  refine wpE_of (pe_dget (un1 S) (pe_var (i := i) (by rw [S.eN]; exact hN) (by rw [S.es]; exact hv) hd hcd) pe_str (fun _ _ => rfl)) ?_
  have hT : σ[i]? = some (some (.ref T)) := r.sl i _ c.1
  obtain ⟨⟨n, c0, kvs, h1, h2, h3⟩, ht⟩ := r.inv
  refine ⟨_, hT, T, .int c0, rfl, ?_, q (.int c0) _ H (c.2 c0) .refl (.int _)⟩
  have := DGet.k (k := .inr "count") h1
  rw [val_count] at this
  exact this
theorem get_rests {H : Hp} {c : Int} (h1 : H T = some (.dK [(.inr "count", .int c), (.inr "rests", .ref R)])) : DGet H T (.str "rests") (some (.ref R)) := by
  have := DGet.k (k := .inr "rests") h1
  rw [val_rests] at this
  exact this
def dRest (i : Nat) (te tf : UV) : UV := fun ρ C => ρ[i]? = some .town ∧ te ρ fun d => ∃ n, d = .int n ∧ tf ρ fun d' => ∃ m, d' = .int m ∧ ∀ n : Int, C (.int n)
theorem jd_rest (S : Ok cp G N sc k X) (i : Nat) (he : JV (tw T R Ts z) X e tv) (hf : JV (tw T R Ts z) X f tw') (hN : N[i]? = some x := by rfl) (hv : Vis sc x := by first | exact Or.inl rfl | exact Or.inr (Or.inl rfl) | exact Or.inr (Or.inr rfl)) (hd : (x == ("__debug__" : Str)) = false := by decide) (hcd : (x == ("__classdict__" : Str)) = false := by decide)
    (m : M2 X (.Subscript (.Name x p4) (.Constant (.str "rests") j2 p5) p6) "get" p7 e f pos := by exact ⟨rfl, rfl, rfl, rfl⟩) :
    JD (tw T R Ts z) X (.Call (.Attribute (.Subscript (.Name x p4) (.Constant (.str "rests") j2 p5) p6) "get" p7) [e, f] [] pos) (dRest i tv tw') := fun ρ C c H0 γ σ H r Q q => by
  refine wpE_of (pe_dget2 (un1 S) (pe_dget (un1 S) (pe_var (i := i) (by rw [S.eN]; exact hN) (by rw [S.es]; exact hv) hd hcd) pe_str (fun _ _ => rfl)) pe_w pe_w m) ?_
  have hT : σ[i]? = some (some (.ref T)) := r.sl i _ c.1
  obtain ⟨⟨n, c0, kvs, h1, h2, h3⟩, ht⟩ := r.inv
  refine ⟨_, hT, T, .ref R, rfl, get_rests h1, R, rfl, .inl ⟨kvs, .inl h2⟩, he ρ _ c.2 H0 γ σ H r _ fun d v H2 c2 e2 b2 => ?_⟩
  obtain ⟨n2, rfl, c2⟩ := c2
  cases b2
  refine hf ρ _ c2 H0 γ σ H2 (r.after e2) _ fun d3 v3 H3 c3 e3 b3 => ?_
  obtain ⟨m3, rfl, c3⟩ := c3
  cases b3
  obtain ⟨⟨_, c1, kvs3, g1, g2, g3⟩, _⟩ := ((r.after e2).after e3).inv
  refine ⟨_, DGet.k (k := .inl n2) g2, ?_⟩
  cases hw : valV kvs3 (.inl n2) with
  | none => exact q _ _ H3 (c3 m3) (e2.trans e3) (.int _)
  | some w =>
    obtain ⟨n4, rfl⟩ := g3.get _ _ hw
    exact q _ _ H3 (c3 n4) (e2.trans e3) (.int _)
def sRest (i : Nat) (ti tv : UV) : US := fun E ρ => ρ[i]? = some .town ∧ tv ρ fun d => ∃ n, d = .int n ∧ ti ρ fun d => ∃ n, d = .int n ∧ 0 ≤ n ∧ n < 64 ∧ E.nx ρ
theorem js_rest (S : Ok cp G N sc k X) (i : Nat) (he : JV (tw T R Ts z) X e tv) (hf : JV (tw T R Ts z) X value tw') (hN : N[i]? = some x := by rfl) (hv : Vis sc x := by first | exact Or.inl rfl | exact Or.inr (Or.inl rfl) | exact Or.inr (Or.inr rfl)) (hd : (x == ("__debug__" : Str)) = false := by decide) (hcd : (x == ("__classdict__" : Str)) = false := by decide)
    (hsw : swapsWith value (some (.Subscript (.Subscript (.Name x p4) (.Constant (.str "rests") j2 p5) p6) e p3)) pos.line X.env = pure false := by rfl) :
    JS (tw T R Ts z) X (.Assign [.Subscript (.Subscript (.Name x p4) (.Constant (.str "rests") j2 p5) p6) e p3] value pos) (sRest i tv tw') := fun ρ E c H0 γ σ H r Dn d => by
  refine wpS_of (ps_dput (un1 S) (pe_dget (un1 S) (pe_var (i := i) (by rw [S.eN]; exact hN) (by rw [S.es]; exact hv) hd hcd) pe_str (fun _ _ => rfl)) pe_w pe_w hsw) ?_
  refine hf ρ _ c.2 H0 γ σ H r _ fun d1 v1 H2 c2 e2 b2 => ?_
  obtain ⟨n2, rfl, c2⟩ := c2
  cases b2
  have hT : σ[i]? = some (some (.ref T)) := r.sl i _ c.1
  obtain ⟨⟨n, c0, kvs, h1, h2, h3⟩, ht⟩ := (r.after e2).inv
  refine ⟨_, hT, T, .ref R, rfl, get_rests h1, he ρ _ c2 H0 γ σ H2 (r.after e2) _ fun d3 v3 H3 c3 e3 b3 => ?_⟩
  obtain ⟨m3, rfl, hm0, hm1, c3⟩ := c3
  cases b3
  have r3 := (r.after e2).after e3
  obtain ⟨⟨_, c1, kvs3, g1, g2, g3⟩, _⟩ := r3.inv
  obtain ⟨j, rfl⟩ : ∃ j : Nat, m3 = (j : Int) := ⟨m3.toNat, by omega⟩
  have gl := g3.len
  refine ⟨R, _, rfl, DPut.k (k := .inl (j : Int)) g2 (Nat.lt_of_le_of_lt gl (by decide)), d.nx ρ σ _ c3 (r3.after (ext_rest r3.inv (g3.put j n2 (by omega))))⟩
end
end Pu
namespace Pu
open PySem PySem.Spec PyProof.Rows L2
/-! ### the town is begun -/
def begunHp (H : Hp) (T R : Addr) : Hp := upd (upd (upd H T (.dK [])) R (.dK [])) T (.dK [(.inr "count", .int 0), (.inr "rests", .ref R)])
def spBegun : Sp := fun vs H Q _ => vs = [] ∧ ∀ T R, T ≠ R → H T = none → H R = none → Q (.ref T) (begunHp H T R)
section
variable {G : Gx}
theorem begun_ok {x : Str} {st : Stmt} {f : Addr} {fd : FuncData} {k : Nat} {p1 p2 p3 p4 p5 p6 : Pos} {j1 j2 j3 : Nat} (F : FunD G.K x x (defArgs st) (defBody st) (defScope st) [] [] f fd) (S : FnScope [] [] (defScope st))
    (hb : defBody st = [.Return (some (.Dict [some (.Constant (.str "count") j1 p1), some (.Constant (.str "rests") j2 p2)] [.Constant (.int 0) j3 p3, .Dict [] [] p4] p5)) p6]) : FnOk G.P G.w G.K G.mg G.base CX0 (k + 1) f fd [] spBegun := by
  refine F.ok S (fun vs H Q E h => by rw [h.1]; rfl) (fun cdv A outer s H vs Q E hr h => ⟨wpSs (cxOf CX0 G.P G.w G.K G.mg G.base [] x (defScope st) f cdv A outer s H E).nox (defBody st), PSs.nox pss_w, ?_⟩)
  rw [hb]
  refine wpSs_of (pss_one (ps_ret (pe_disp (pps_cons pe_str pe_int (pps_cons pe_str pe_dnewK pps_nil)) rfl rfl (by simp) (by simp)))) ?_
  · obtain ⟨rfl, h⟩ := h
    intro T hT R hR
    have hne : T ≠ R := fun z => by rw [← z, upd_same] at hR; cases hR
    have hR' : H R = none := by rw [upd_ne (Ne.symm hne)] at hR; exact hR
    refine ⟨by rw [upd_ne hne, upd_same], [(.inr "count", .int 0), (.inr "rests", .ref R)], rfl, by simp, ?_⟩
    have e : mergeK [] [((.inr "count" : Key), V.int 0), (.inr "rests", .ref R)] = [(.inr "count", .int 0), (.inr "rests", .ref R)] := by
      have h : ¬ ("count" : Str) = ("rests" : Str) := by decide
      simp [mergeK, putK, h]
    rw [e]
    exact h T R hne hT hR'
/-! ### the law's def -/
def spLaw (K : PySem.W.Frag) (Ts : List (Addr × Str)) : Sp := fun vs H Q _ => ∃ (a : Addr) (ns : List Int), vs = [.ref a] ∧ SqL K H a (ns.map V.int) ∧ ns.length ≤ 63 ∧ (∀ p ∈ Ts, H p.1 = some (.tbl #[])) ∧ ∀ H', Q (.bl true) H'
def scrD (ns : List Int) : D := .list (ns.map PyData.int)
def enLaw (N : List Str) (i : Nat) (ns : List Int) : En := (en0 N [.dat (scrD ns)]).set i .town
def edLaw : Ed := { nx := fun _ => False, rt := fun r => r = .dat (.bool true) }
theorem law_ok1 {Ts : List (Addr × Str)} {x : Str} {st : Stmt} {f fB : Addr} {fd fdB : FuncData} {N : List Str} {k j i : Nat} {t : US} {rest : List Stmt} {p1 p2 p3 pos : Pos} {xB xt : Str} (F : FunD G.K x x (defArgs st) (defBody st) (defScope st) [] [] f fd) (S : FnScope N ["script"] (defScope st))
    (hb : defBody st = .Assign [.Name xt p1] (.Call (.Name xB p2) [] [] p3) pos :: rest)
    (FB : FnOk G.P G.w G.K G.mg G.base CX0 j fB fdB [] spBegun) (gB : G.mg xB = some (.ref fB)) (kB : PySem.W.keepIn G.K (.ref fB) = true) (bB : Binds G.K fdB [] [])
    (h : ∀ T R X, Ok [] G N (defScope st) k X → AtC X fd.code (qOf x (defScope st)) → JSs (tw T R Ts fun _ => True) X rest t) (ht : ∀ ns : List Int, ns.length ≤ 63 → t edLaw (enLaw N i ns))
    (hj : j ≤ k) (hN : N[i]? = some xt) (hx : (defScope st).names.lookup xt = some .local) (hi : i ≠ 0) (hg : (defScope st).names.lookup xB = some .globalImplicit) (hdb : (xB == ("__debug__" : Str)) = false)
    (hs : ∀ env : Env, swapsWith (.Call (.Name xB p2) [] [] p3) (some (.Name xt p1)) pos.line env = pure false) : FnOk G.P G.w G.K G.mg G.base CX0 (k + 1) f fd ["script"] (spLaw G.K Ts) := by
  obtain ⟨oc, od, dV, kV, doc, pm, an, cdv, ct, osl, rfl, lk, hcd, _, _⟩ := F.ex
  refine fn_of lk hcd S (fun vs H Q E h => ?_) (fun A outer s H vs Q E hr h' => ⟨wpSs (cxOf CX0 G.P G.w G.K G.mg G.base N x (defScope st) f cdv A outer s H E).nox (defBody st), PSs.nox pss_w, ?_⟩)
  · obtain ⟨a, ns, rfl, _⟩ := h
    rfl
  · obtain ⟨a, ns, rfl, hS, hl, hTs, hq⟩ := h'
    have O : Ok [] G N (defScope st) k (cxOf CX0 G.P G.w G.K G.mg G.base N x (defScope st) f cdv A outer s H E).nox := ⟨rfl, rfl, rfl, rfl, rfl, rfl, S.nd, rfl, S.kind, rfl, hr, fun _ _ _ => rfl, PassesOwn.never⟩
    rw [hb]
    refine wpSs_of (pss_cons (ps_set (i := i) S.nd hN (Or.inl hx) (pe_call0 (CX := CX0) (k := j) (sp := spBegun) (E := E0) (dvs := []) (ds := []) FB (O.room.mono hj) hg gB kB bB .nil pass0 hdb) (hs _) (Or.inr hx)) pss_w) ?_
    refine ⟨rfl, fun T R hne hT hR => ?_⟩
    have hT' : begunHp H T R T = some (.dK [(.inr "count", .int 0), (.inr "rests", .ref R)]) := upd_same
    have hR' : begunHp H T R R = some (.dK []) := by
      unfold begunHp
      rw [upd_ne (Ne.symm hne), upd_same]
    have hkp : ∀ b o, H b = some o → begunHp H T R b = some o := fun b o e => by
      unfold begunHp
      rw [upd_ne (ne_of_none e hT), upd_ne (ne_of_none e hR), upd_ne (ne_of_none e hT)]
      exact e
    have hinv : (tw T R Ts fun _ => True).inv (begunHp H T R) := ⟨⟨hne, 0, [], hT', hR', List.nodup_nil, fun p hp => by cases hp⟩, fun p hp => LamX.TabS.nil (hkp _ _ (hTs p hp))⟩
    have hdp : Dp G.K (res (begunHp H T R) (tw T R Ts fun _ => True).ad) (.ref a) (scrD ns) := by
      refine .lst ?_ (dp_ints ns)
      have : SqL G.K H a (ns.map V.int) := hS
      rcases this with (e | ⟨o, e⟩) | e
      · exact .inl (.inl (res_put (fun z => by
        rcases z with z | z | ⟨p, hp, z⟩ <;> rw [z] at e
        · simp_all
        · simp_all
        · rw [hTs p hp] at e; cases e) (hkp _ _ e)))
      · exact .inl (.inr ⟨o, res_put (fun z => by
        rcases z with z | z | ⟨p, hp, z⟩ <;> rw [z] at e
        · simp_all
        · simp_all
        · rw [hTs p hp] at e; cases e) (hkp _ _ e)⟩)
      · exact .inr e
    have hNl : i < N.length := (List.getElem?_eq_some_iff.mp hN).1
    have rep0 : Rep G.K (tw T R Ts fun _ => True) (begunHp H T R) [] (begunHp H T R) (L2.start N [.ref a]) (en0 N [.dat (scrD ns)]) := rep_start trivial hinv (.cons hdp .nil)
    have rep : Rep G.K (tw T R Ts fun _ => True) (begunHp H T R) [] (begunHp H T R) ((L2.start N [.ref a]).set i (some (.ref T))) (enLaw N i ns) := by
      have hown : ∀ b, own (tw T R Ts fun _ => True) ((L2.start N [.ref a]).set i (some (.ref T))) (enLaw N i ns) b → (tw T R Ts fun _ => True).ad b := fun b z => by
        rcases z with z | ⟨j, u, h1, h2, _⟩
        · exact z
        · by_cases e : i = j
          · subst e
            rw [(set_here h1).1] at h2; cases h2
          · rw [en0_own (set_other e h1)] at h2; cases h2
      refine ⟨by unfold enLaw; simp [rep0.len], fun _ _ e _ => e, hinv, fun j u hu => ?_, fun j l u w b h1 h2 h3 => ?_, (fun p hp => by cases hp), trivial⟩
      · by_cases e : i = j
        · subst e
          obtain ⟨rfl, hi2⟩ := set_here hu
          show ((L2.start N [.ref a]).set i (some (.ref T)))[i]? = some (some (V.ref T))
          exact List.getElem?_set_self (by rw [rep0.len]; exact hi2)
        · rw [List.getElem?_set_ne e]
          refine SlOk.mono (res_mono fun b o n q => ⟨fun z => n (own_ad (hown b z)), q⟩) (fun _ _ _ _ _ q => q) (rep0.sl j u (set_other e hu))
      · by_cases e : i = j
        · subst e
          rw [(set_here h1).1] at h3; cases h3
        · rw [en0_own (set_other e h1)] at h3; cases h3
    refine h T R _ O ⟨rfl, rfl⟩ _ _ (ht ns hl) _ [] _ _ rep _ ⟨fun ρ σ H' c r => c.elim, fun ρ σ H' c r => c.elim, fun ρ σ H' c r => c.elim, fun r v H' c e i z => ?_⟩
    subst c
    have z : Dp G.K (res H' (tw T R Ts fun _ => True).ad) v (.bool true) := z
    cases z
    exact hq H'
/-! ### keyword-only parameters, no other defaults -/
end
section
variable {K : PySem.W.Frag} {x qual : Str} {params : Arguments} {body : List Stmt} {scope : Scope} {kws : List (Str × V)} {f : Addr} {fd : FuncData} {ps : List Str}
theorem kbinds0 (F : FunD K x qual params body scope [] kws f fd) (n : Nat) (ks : List Str) (ms : List (Str × V)) (g : {α : Type} → List α → List α → List α → List α) (hk : kws ≠ []) (hms : ∀ q ∈ ms, q ∈ kws)
    (hrel : ∀ {vs mz zs : List V} {us mv ws : List Value}, Vals vs us → Vals mz mv → Vals zs ws → Vals (g vs mz zs) (g us mv ws))
    (h : ∀ (D : Addr) (doc pm : Value) (an : Option Addr) (cdv ct : Value) (us mv ws : List Value), us.length = n → mv.length = ms.length → ws.length = ks.length →
      KwChain D ((ms.map (·.1)).zip mv) (bindArgs (PySem.W.fnOf x qual params body scope .none (.ref D) doc pm an cdv ct) ⟨us, ks.zip ws⟩) (ps.zip (g us mv ws))) :
    ∃ mv : List Value, KBn K fd ps n ks (fun us ws => g us mv ws) (fun vs zs => g vs (ms.map (·.2)) zs) := by
  obtain ⟨oc, od, dV, kV, doc, pm, an, cdv, ct, osl, rfl, lk, hcd, hD, hK⟩ := F.ex
  rcases hD with ⟨_, rfl⟩ | ⟨e, _⟩
  · rcases hK with e | ⟨D, rfl, hq⟩
    · exact absurd e hk
    · obtain ⟨mv, hl, rk, hks⟩ := kwd_vals (ms := ms) fun q hm => hq q (hms q hm)
      refine ⟨mv, ⟨fun s us ws X l1 l2 => ?_, fun r1 r2 => hrel r1 rk r2⟩⟩
      exact BindsTo.of_looks fun M => KwChain.looks X hks (h D doc pm an cdv ct us mv ws l1 hl l2)
  · exact absurd rfl e
/-- the lacking keyword-only ones are None all -/
theorem fnK_of {G : Gx} {τ : Tn} {st : Stmt} {j : Nat} {S : Sf} {n : Nat} {ks : List Str} (F : Dn G x st [] kws f fd) (ho : FnOk G.P G.w G.K G.mg G.base CX0 j f fd ps (spD G τ S)) (ms : List (Str × V)) (g : {α : Type} → List α → List α → List α → List α) (hk : kws ≠ []) (hms : ∀ q ∈ ms, q ∈ kws)
    (hnone : ms.map (·.2) = List.replicate ms.length .non)
    (hrel : ∀ {α β : Type} {Rr : α → β → Prop} {vs mz zs : List α} {us mv ws : List β}, Paired Rr vs us → Paired Rr mz mv → Paired Rr zs ws → Paired Rr (g vs mz zs) (g us mv ws))
    (h : ∀ (D : Addr) (doc pm : Value) (an : Option Addr) (cdv ct : Value) (us mv ws : List Value), us.length = n → mv.length = ms.length → ws.length = ks.length →
      KwChain D ((ms.map (·.1)).zip mv) (bindArgs (PySem.W.fnOf x x (defArgs st) (defBody st) (defScope st) .none (.ref D) doc pm an cdv ct) ⟨us, ks.zip ws⟩) (ps.zip (g us mv ws))) :
    FnK G τ j x ps S n ks (fun as bs => g as (List.replicate ms.length (.dat .none)) bs) := by
  obtain ⟨mv, hb⟩ := kbinds0 F.fn n ks ms g hk hms hrel h
  refine ⟨⟨f, fd, _, _, ho, F.gl, F.fn.kp, hb, fun K H vs zs as bs h1 h2 => hrel h1 ?_ h2⟩⟩
  rw [hnone]
  generalize ms.length = m
  induction m with
  | zero => exact .nil
  | succ m ih => exact .cons .non ih
/-- plain parameters written with their names -/
theorem fnP_of {G : Gx} {τ : Tn} {st : Stmt} {j : Nat} {S : Sf} {n : Nat} {ks : List Str} (F : Dn G x st [] kws f fd) (ho : FnOk G.P G.w G.K G.mg G.base CX0 j f fd ps (spD G τ S)) (g : {α : Type} → List α → List α → List α → List α)
    (hrel : ∀ {α β : Type} {Rr : α → β → Prop} {vs mz zs : List α} {us mv ws : List β}, Paired Rr vs us → Paired Rr mz mv → Paired Rr zs ws → Paired Rr (g vs mz zs) (g us mv ws))
    (h : ∀ (kV doc pm : Value) (an : Option Addr) (cdv ct : Value) (us ws : List Value), us.length = n → ws.length = ks.length →
      bindArgs (PySem.W.fnOf x x (defArgs st) (defBody st) (defScope st) .none kV doc pm an cdv ct) ⟨us, ks.zip ws⟩ = pure (ps.zip (g us [] ws))) :
    FnK G τ j x ps S n ks (fun as bs => g as (List.replicate 0 (.dat .none)) bs) := by
  have hb : KBn G.K fd ps n ks (fun us ws => g us [] ws) (fun vs zs => g vs [] zs) := by
    obtain ⟨oc, od, dV, kV, doc, pm, an, cdv, ct, osl, rfl, lk, hcd, hD, hK⟩ := F.fn.ex
    rcases hD with ⟨_, rfl⟩ | ⟨e, _⟩
    · exact ⟨fun s us ws X l1 l2 => .of_eq (h kV doc pm an cdv ct us ws l1 l2), fun r1 r2 => hrel r1 .nil r2⟩
    · exact absurd rfl e
  exact ⟨⟨f, fd, _, _, ho, F.gl, F.fn.kp, hb, fun K H vs zs as bs h1 h2 => hrel h1 .nil h2⟩⟩
end
end Pu
namespace Pu
open PySem PySem.Spec PyProof.Rows L2
/-! ### constants of the module -/
mutual
def conB (K : PySem.W.Frag) (u : Value) : D → Bool
  | .none => He.relB .non u
  | .bool b => He.relB (.bl b) u
  | .int i => He.relB (.int i) u
  | .str x => He.relB (.str x) u
  | .list _ => false
  | .dict _ => false
  | .tuple ds => match u with
    | .ref a => (match K.lookup a with
      | some ⟨.type c, _, .seq its _, _⟩ => decide (c = "tuple") && (decide (its.size ≤ sizeLine) && conBs K its.toList ds)
      | _ => false)
    | _ => false
def conBs (K : PySem.W.Frag) (us : List Value) : List D → Bool
  | [] => us.isEmpty
  | d :: ds => match us with
    | u :: us => conB K u d && conBs K us ds
    | [] => false
end
mutual
theorem conB_ok {K : PySem.W.Frag} : ∀ (d : D) (u : Value), conB K u d = true → ∃ v, RelV v u ∧ ∀ H : Hp, Dp K H v d
  | .none, u, h => ⟨.non, He.relB_ok (by simpa [conB] using h), fun _ => .non⟩
  | .bool b, u, h => ⟨.bl b, He.relB_ok (by simpa [conB] using h), fun _ => .bl b⟩
  | .int i, u, h => ⟨.int i, He.relB_ok (by simpa [conB] using h), fun _ => .int i⟩
  | .str x, u, h => ⟨.str x, He.relB_ok (by simpa [conB] using h), fun _ => .str x⟩
  | .list _, u, h => by simp [conB] at h
  | .dict _, u, h => by simp [conB] at h
  | .tuple ds, u, h => by
    cases u with
    | ref a =>
      simp only [conB] at h
      cases q : K.lookup a with
      | none => rw [q] at h; cases h
      | some o =>
        obtain ⟨oc, od, dt, osl⟩ := o
        rw [q] at h
        cases oc with
        | type c =>
          cases dt with
          | seq its n =>
            obtain ⟨h1, h2⟩ := He.ba (show (decide (c = "tuple") && (decide (its.size ≤ sizeLine) && conBs K its.toList ds)) = true from h)
            obtain ⟨h3, h4⟩ := He.ba h2
            obtain ⟨vs, h5, h6⟩ := conBs_ok ds its.toList h4
            exact ⟨.ref a, rfl, fun H => .tup (.inr ⟨_, its, n, q, congrArg Value.type (of_decide_eq_true h1), rfl, of_decide_eq_true h3, h5⟩) (h6 H)⟩
          | _ => cases h
        | _ => cases dt <;> cases h
    | _ => simp [conB] at h
theorem conBs_ok {K : PySem.W.Frag} : ∀ (ds : List D) (us : List Value), conBs K us ds = true → ∃ vs, Vals vs us ∧ ∀ H : Hp, DpAll K H vs ds
  | [], us, h => by
    cases us with
    | nil => exact ⟨[], .nil, fun _ => .nil⟩
    | cons _ _ => simp [conBs] at h
  | d :: ds, us, h => by
    cases us with
    | nil => simp [conBs] at h
    | cons u us =>
      simp only [conBs, Bool.and_eq_true] at h
      obtain ⟨v, h1, h2⟩ := conB_ok d u h.1
      obtain ⟨vs, h3, h4⟩ := conBs_ok ds us h.2
      exact ⟨v :: vs, .cons h1 h3, fun H => .cons (h2 H) (h4 H)⟩
end
/-- the written part's tuples are plain -/
def PlK (K : PySem.W.Frag) : Prop := ∀ a o, K.lookup a = some o → o.cls = .type "tuple" → o.dict = none
def plB (K : PySem.W.Frag) : Bool := K.all fun p => decide (p.2.cls = .type "tuple" → p.2.dict = none)
theorem plB_ok {K : PySem.W.Frag} (h : plB K = true) : PlK K := fun a o e => by
  have hm : (a, o) ∈ K := by
    unfold plB at h
    clear h
    induction K with
    | nil => cases e
    | cons p r ih =>
      obtain ⟨b, u⟩ := p
      rw [List.lookup_cons] at e
      split at e
      · rename_i hb
        cases e
        rw [beq_iff_eq.mp hb]
        exact List.mem_cons_self ..
      · exact List.mem_cons_of_mem _ (ih e)
  exact of_decide_eq_true (List.all_eq_true.mp h (a, o) hm)
/-- a constant; by the name without signs: all tuples are plain -/
def conG (K : PySem.W.Frag) (c : Str × D) : Bool := if c.1 = "" then plB K else match PySem.W.nsIn K mainGlobals c.1 with
  | some (some u) => conB K u c.2
  | _ => false
theorem conG_pl {K : PySem.W.Frag} {d : D} (c : conG K ("", d) = true) : PlK K := plB_ok c
theorem conG_ok {G : Gx} {h : Heap} (X : G.K.In h) (N : h.Ns mainGlobals G.mg) {x : Str} {d : D} (c : conG G.K (x, d) = true) (hx : x ≠ "" := by decide) : GC G x d := by
  unfold conG at c
  rw [if_neg hx] at c
  simp only at c
  cases e : PySem.W.nsIn G.K mainGlobals x with
  | none => rw [e] at c; cases c
  | some o =>
    rw [e] at c
    cases o with
    | none => cases c
    | some u =>
      obtain ⟨v, h1, h2⟩ := conB_ok d u c
      exact ⟨v, u, PySem.W.mg_of X N e, h1, h2⟩
/-! ### the Hook -/
def obsP (fa : List He.Fa) (fn : List He.DefD) (cs : List (Str × D)) (K : PySem.W.Frag) : He.AlD := ((fa.all fun f => f.ok K) && ((fn.all fun d => d.ok K) && cs.all (conG K)), fn.map fun d => He.fnW K d.at_)
def SaysP (fa : List He.Fa) (fn : List He.DefD) (cs : List (Str × D)) (K : PySem.W.Frag) : Prop := obsP fa fn cs K = He.valD fn
def obsPG (n : Nat) (fa : List He.Fa) (fn : List He.DefD) (cs : List (Str × D)) (g : Addr → Option Obj) : He.AlD := obsP fa fn cs (He.frG g (He.asD g n))
def hookP (n : Nat) (fa : List He.Fa) (fn : List He.DefD) (cs : List (Str × D)) : PySem.W.Hook where
  α := He.AlD
  obs := fun s => obsPG n fa fn cs s.heap.get?
  val := fun _ => He.valD fn
  says := fun _ h => ∃ K : PySem.W.Frag, K.In h ∧ SaysP fa fn cs K
  of := fun _ _ e => ⟨_, He.frG_in, e⟩
  keeps := fun _ _ _ ⟨K, hK, c⟩ k => ⟨K, PySem.W.Frag.In.keeps hK k, c⟩
theorem obsPG_eq {n : Nat} {fa : List He.Fa} {fn : List He.DefD} {cs : List (Str × D)} {g : Addr → Option Obj} {s : Shared} (h : ∀ a, g a = s.heap.get? a) : obsPG n fa fn cs g = (hookP n fa fn cs).obs s := by
  have e : g = s.heap.get? := funext h
  rw [e] <;> rfl
section
variable {fa : List He.Fa} {fn : List He.DefD} {cs : List (Str × D)} {K : PySem.W.Frag}
theorem SaysP.all (c : SaysP fa fn cs K) : (fa.all fun f => f.ok K) = true ∧ (fn.all fun d => d.ok K) = true ∧ cs.all (conG K) = true := by
  obtain ⟨c1, c2⟩ := He.ba (show ((fa.all fun f => f.ok K) && ((fn.all fun d => d.ok K) && cs.all (conG K))) = true from congrArg (fun z : He.AlD => z.1) c)
  obtain ⟨c3, c4⟩ := He.ba c2
  exact ⟨c1, c3, c4⟩
theorem SaysP.fact (c : SaysP fa fn cs K) (i : Nat) {f : He.Fa} (h : fa[i]? = some f := by rfl) : f.ok K = true := List.all_eq_true.mp c.all.1 f (List.mem_of_getElem? h)
theorem SaysP.con (c : SaysP fa fn cs K) (i : Nat) {f : Str × D} (h : cs[i]? = some f := by rfl) : conG K f = true := List.all_eq_true.mp c.all.2.2 f (List.mem_of_getElem? h)
theorem SaysP.def_ (c : SaysP fa fn cs K) (i : Nat) {d : He.DefD} (h : fn[i]? = some d := by rfl) : ∃ fd, FunD K d.name d.qual d.params d.body d.scope (d.dvs K) (d.kws K) (He.fAd K d.at_) fd := by
  have e : fn.map (fun d => He.fnW K d.at_) = fn.map He.DefD.val := congrArg (fun z : He.AlD => z.2) c
  have e2 : (fn.map fun d => He.fnW K d.at_)[i]? = (fn.map He.DefD.val)[i]? := by rw [e]
  rw [List.getElem?_map, List.getElem?_map, h] at e2
  exact He.DefD.funD (Option.some.inj e2) (List.all_eq_true.mp c.all.2.1 d (List.mem_of_getElem? h))
end
end Pu
namespace Pu
open PySem PySem.Spec PyProof.Rows L2
theorem paired_app {α β : Type} {R : α → β → Prop} : ∀ {a c : List α} {b d : List β}, Paired R a b → Paired R c d → Paired R (a ++ c) (b ++ d)
  | _, _, _, _, .nil, h => h
  | _, _, _, _, .cons h t, h2 => .cons h (paired_app t h2)
theorem paired_drop {α β : Type} {R : α → β → Prop} : ∀ (n : Nat) {a : List α} {b : List β}, Paired R a b → Paired R (a.drop n) (b.drop n)
  | 0, _, _, h => h
  | n + 1, _, _, .nil => .nil
  | n + 1, _, _, .cons h t => paired_drop n t
theorem paired_take {α β : Type} {R : α → β → Prop} : ∀ (n : Nat) {a : List α} {b : List β}, Paired R a b → Paired R (a.take n) (b.take n)
  | 0, _, _, _ => .nil
  | n + 1, _, _, .nil => .nil
  | n + 1, _, _, .cons h t => .cons h (paired_take n t)
end Pu
namespace Pu
open PySem PySem.Spec PyProof.Rows L2
section
variable {C : D → Prop} {B : Bool → Prop} {R : Rs → Prop} {i j : Int} {x y : Str} {xs ys ds es : List D} {a b : Bool} {d e : D} {ρ : En}
def ixC {α : Type} : Option α → (α → Prop) → Prop
  | some d, C => C d
  | none, _ => False
theorem ixC_some {α : Type} {d : α} {C : α → Prop} : ixC (some d) C = C d := rfl
theorem ixC_none {α : Type} {C : α → Prop} : ixC none C = False := rfl
theorem ixC_iff {α : Type} {o : Option α} {C : α → Prop} : ixC o C ↔ ∃ d, o = some d ∧ C d := by
  cases o <;> simp [ixC]
theorem q_add_i : fAdd (.int i) (.int j) C = C (.int (i + j)) := rfl
theorem q_add_s : fAdd (.str x) (.str y) C = (x.length + y.length ≤ 1000000 ∧ C (.str (x ++ y))) := rfl
theorem q_add_t : fAdd (.tuple xs) (.tuple ys) C = (xs.length + ys.length ≤ 1000000 ∧ C (.tuple (xs ++ ys))) := rfl
theorem q_add_l : fAdd (.list xs) (.list ys) C = (xs.length + ys.length ≤ 1000000 ∧ C (.list (xs ++ ys))) := rfl
theorem q_sub : fSub (.int i) (.int j) C = C (.int (i - j)) := rfl
theorem q_int {P : Int → Int → Prop} {f : Int → Int → Int} : fInt P f (.int i) (.int j) C = (P i j ∧ C (.int (f i j))) := rfl
theorem q_i0 {f : Int → Int → Int} : fI0 f (.int i) (.int j) C = C (.int (f i j)) := rfl
theorem q_neg : fNeg (.int i) C = C (.int (-i)) := rfl
theorem q_ord {f : Int → Int → Bool} : fOrd f (.int i) (.int j) B = B (f i j) := rfl
theorem q_lt_i : fLt (.int i) (.int j) B = B (decide (i < j)) := rfl
theorem q_lt_s : fLt (.str x) (.str y) B = B (decide (x.cps.toList < y.cps.toList)) := rfl
theorem q_lt_t : fLt (.tuple xs) (.tuple ys) B ↔ ixC (intsOf xs) fun ns => ixC (intsOf ys) fun ms => B (HT.lexLt ns ms) := by
  simp only [ixC_iff]
  constructor
  · rintro ⟨ns, ms, h1, h2, h3⟩
    exact ⟨ns, h1, ms, h2, h3⟩
  · rintro ⟨ns, h1, ms, h2, h3⟩
    exact ⟨ns, ms, h1, h2, h3⟩
theorem q_gt_i : fGtU (.int i) (.int j) B = B (decide (j < i)) := rfl
theorem q_gt_t : fGtU (.tuple xs) (.tuple ys) B ↔ ixC (intsOf xs) fun ns => ixC (intsOf ys) fun ms => B (HT.lexLt ms ns) := by
  simp only [ixC_iff]
  constructor
  · rintro ⟨ns, ms, h1, h2, h3⟩
    exact ⟨ns, h1, ms, h2, h3⟩
  · rintro ⟨ns, h1, ms, h2, h3⟩
    exact ⟨ns, ms, h1, h2, h3⟩
theorem q_ix_t : fIx (.tuple ds) (.int i) C ↔ ixC (atI ds i) C := by rw [ixC_iff]; rfl
theorem q_ix_l : fIx (.list ds) (.int i) C ↔ ixC (atI ds i) C := by rw [ixC_iff]; rfl
theorem q_eq : fEq a d e B = (sh 32 d = true ∧ sh 32 e = true ∧ B (if a then !PyData.eqv d e else PyData.eqv d e)) := rfl
theorem q_is_nn : fIs a .none .none B = B (!a) := rfl
theorem q_is_in : fIs a (.int i) .none B = B a := rfl
theorem q_is_sn : fIs a (.str x) .none B = B a := rfl
theorem q_is_ln : fIs a (.list ds) .none B = B a := rfl
theorem q_is_tn : fIs a (.tuple ds) .none B = B a := rfl
theorem q_is_bn : fIs a (.bool b) .none B = B a := rfl
theorem q_is_bb {c : Bool} : fIs a (.bool b) (.bool c) B = B (if a then !decide (b = c) else decide (b = c)) := rfl
theorem q_in_t : fIn a d (.tuple ds) B = ((flatD d = true ∧ ds.all flatD = true ∨ sh 32 d = true ∧ shAll 31 ds = true) ∧ B (if a then !ds.any (fun y => PyData.eqv y d) else ds.any fun y => PyData.eqv y d)) := by unfold fIn; rfl
theorem q_in_s {x z : Str} : fIn a (.str x) (.str z) B = ∃ c, x = ⟨#[c]⟩ ∧ B (if a then !decide (c ∈ z.cps.toList) else decide (c ∈ z.cps.toList)) := by unfold fIn; rfl
theorem q_in_l : fIn a d (.list ds) B = ((flatD d = true ∧ ds.all flatD = true ∨ sh 32 d = true ∧ shAll 31 ds = true) ∧ B (if a then !ds.any (fun y => PyData.eqv y d) else ds.any fun y => PyData.eqv y d)) := by unfold fIn; rfl
theorem q_bk : fBoolK (.bool a) B = B a := rfl
theorem q_cut_l {l h : Option Int} : fCut (.list ds) l h R = R (.lst (cut ds l h)) := rfl
theorem q_cut_t {l h : Option Int} : fCut (.tuple ds) l h R = R (.dat (.tuple (cut ds l h))) := rfl
theorem q_cut_s {l h : Option Int} : fCut (.str x) l h R = (x.length ≤ 1000000 ∧ R (.dat (.str (cutS x l h)))) := rfl
theorem q_osome {t : UV} {O : Option Int → Prop} : oSome t ρ O = t ρ fun d => ∃ i, d = .int i ∧ O (some i) := rfl
theorem q_len_l : fLen [.list ds] R = R (.dat (.int ds.length)) := rfl
theorem q_len_t : fLen [.tuple ds] R = R (.dat (.int ds.length)) := rfl
theorem q_len_s : fLen [.str x] R = (x.length ≤ 1000000 ∧ R (.dat (.int x.length))) := rfl
theorem q_i1 {g : Int → Int} : fI1 g [.int i] R = R (.dat (.int (g i))) := rfl
theorem q_i2 {g : Int → Int → Int} : fI2 g [.int i, .int j] R = R (.dat (.int (g i j))) := rfl
theorem q_tup_l : fTuple [.list ds] R = R (.dat (.tuple ds)) := rfl
theorem q_tup_t : fTuple [.tuple ds] R = R (.dat (.tuple ds)) := rfl
theorem q_list_l : fList [.list ds] R = R (.lst ds) := rfl
theorem q_list_t : fList [.tuple ds] R = R (.lst ds) := rfl
theorem q_divmod : fDivmod [.int i, .int j] R = (CDiv i j ∧ R (.dat (.tuple [.int (i / j), .int (i % j)]))) := rfl
theorem q_int1_i : fInt1 [.int i] R = R (.dat (.int i)) := rfl
theorem q_int1_b : fInt1 [.bool a] R = R (.dat (.int (if a then 1 else 0))) := rfl
theorem q_sum_l : fSum [.list ds] R ↔ ixC (intsOf ds) fun ns => R (.dat (.int ns.sum)) := by rw [ixC_iff]; rfl
theorem q_sum_t : fSum [.tuple ds] R ↔ ixC (intsOf ds) fun ns => R (.dat (.int ns.sum)) := by rw [ixC_iff]; rfl
theorem q_all {g : List Bool → Bool} : fAllB g [.list ds] R ↔ ixC (boolsOf ds) fun bs => R (.dat (.bool (g bs))) := by rw [ixC_iff]; rfl
theorem q_min_t : fMinL [.tuple ds] R ↔ ixC (intsOf ds) fun ns => 0 < ns.length ∧ ∀ m, m ∈ ns → (∀ y, y ∈ ns → m ≤ y) → R (.dat (.int m)) := by rw [ixC_iff]; rfl
theorem q_min_l : fMinL [.list ds] R ↔ ixC (intsOf ds) fun ns => 0 < ns.length ∧ ∀ m, m ∈ ns → (∀ y, y ∈ ns → m ≤ y) → R (.dat (.int m)) := by rw [ixC_iff]; rfl
theorem q_max_t : fMaxL [.tuple ds] R ↔ ixC (intsOf ds) fun ns => 0 < ns.length ∧ ∀ m, m ∈ ns → (∀ y, y ∈ ns → y ≤ m) → R (.dat (.int m)) := by rw [ixC_iff]; rfl
theorem q_max_l : fMaxL [.list ds] R ↔ ixC (intsOf ds) fun ns => 0 < ns.length ∧ ∀ m, m ∈ ns → (∀ y, y ∈ ns → y ≤ m) → R (.dat (.int m)) := by rw [ixC_iff]; rfl
theorem q_lf_d : (Rs.dat d).lf = lf d := rfl
theorem q_lf_l : (Rs.lst ds).lf = lfAll ds := rfl
theorem q_sl_d : (Rs.dat d).sl = .dat d := rfl
theorem q_sl_l : (Rs.lst ds).sl = .lst ds := rfl
theorem q_cold_d : (Rs.dat d).cold C = C d := rfl
theorem q_cold_l : (Rs.lst ds).cold C = C (.list ds) := rfl
theorem q_seq_l {L : List D → Prop} : fSeq (.list ds) L = L ds := rfl
theorem q_seq0_l {L : List D → Prop} : fSeq0 (.list ds) L = L ds := rfl
theorem q_seq0_t {L : List D → Prop} : fSeq0 (.tuple ds) L = L ds := rfl
theorem q_seq_s {x : Str} {L : List D → Prop} : fSeq (.str x) L = (x.cps.size ≤ 1000000 ∧ L (signsD x)) := rfl
theorem q_seq_t {L : List D → Prop} : fSeq (.tuple ds) L = L ds := rfl
theorem q_zip_l {L : List D → Prop} : fZip (.list xs) (.list ys) L = L (zipD xs ys) := rfl
theorem q_zip_m {L : List D → Prop} : fZip (.list xs) (.tuple ys) L = L (zipD xs ys) := rfl
theorem q_zip_t {L : List D → Prop} : fZip (.tuple xs) (.tuple ys) L = L (zipD xs ys) := rfl
theorem q_tru_b : fTru (.bool a) B = B a := rfl
theorem q_tru_i : fTru (.int i) B = B (i != 0) := rfl
theorem q_tru_l : fTru (.list ds) B = B (!ds.isEmpty) := rfl
theorem q_tru_t : fTru (.tuple ds) B = B (!ds.isEmpty) := rfl
def vSl : Option Sl → (D → Prop) → Prop
  | some (.dat d), C => C d
  | some (.lst ds), C => C (.list ds)
  | _, _ => False
def dSl : Option Sl → (D → Prop) → Prop
  | some (.dat d), C => C d
  | _, _ => False
theorem q_vVar {n : Nat} : vVar n ρ C = vSl ρ[n]? C := by
  unfold vVar
  cases ρ[n]? with
  | none => rfl
  | some s => cases s <;> rfl
theorem q_dVar {n : Nat} : dVar n ρ C = dSl ρ[n]? C := by
  unfold dVar
  cases ρ[n]? with
  | none => rfl
  | some s => cases s <;> rfl
theorem vSl_d : vSl (some (.dat d)) C = C d := rfl
theorem vSl_l : vSl (some (.lst ds)) C = C (.list ds) := rfl
theorem dSl_d : dSl (some (.dat d)) C = C d := rfl
def rSl : Option Sl → (Rs → Prop) → Prop
  | some (.dat d), C => C (.dat d)
  | some (.lst ds), C => C (.lst ds)
  | some (.dic ds), C => C (.dic ds)
  | _, _ => False
theorem q_retV {n : Nat} {E : Ed} : sRetV n E ρ = rSl ρ[n]? E.rt := by
  unfold sRetV
  cases ρ[n]? with
  | none => rfl
  | some s => cases s <;> rfl
theorem rSl_d : rSl (some (.dat d)) R = R (.dat d) := rfl
theorem rSl_l : rSl (some (.lst ds)) R = R (.lst ds) := rfl
def aSl : Option Sl → (D → Prop) → Prop
  | some (.dat d), C => C d
  | _, _ => False
theorem q_aug {n : Nat} {E : Ed} {f : D → D → (D → Prop) → Prop} {tv : UV} : sAug n f tv E ρ = aSl ρ[n]? fun x => tv ρ fun y => f x y fun z => E.nx (ρ.set n (.dat z)) := by
  unfold sAug
  cases ρ[n]? with
  | none => rfl
  | some s => cases s <;> rfl
theorem aSl_d : aSl (some (.dat d)) C = C d := rfl
def lSl : Option Sl → (List D → Prop) → Prop
  | some (.lst ds), C => C ds
  | _, _ => False
theorem lSl_l {L : List D → Prop} : lSl (some (.lst ds)) L = L ds := rfl
theorem q_append {n : Nat} {E : Ed} {tv : UV} : sAppend n tv E ρ = lSl ρ[n]? fun ds => tv ρ fun d => ds.length ≤ 1000000 ∧ E.nx (ρ.set n (.lst (ds ++ [d]))) := by
  unfold sAppend
  cases ρ[n]? with
  | none => rfl
  | some s => cases s <;> rfl
theorem q_pop {n : Nat} {E : Ed} {g : UG} : sPop n g E ρ = lSl ρ[n]? fun ds => ∃ d, ds[ds.length - 1]? = some d ∧ g d (ρ.set n (.lst ds.dropLast)) E.nx := by
  unfold sPop
  cases ρ[n]? with
  | none => rfl
  | some s => cases s <;> rfl
theorem q_own_nil : noOwn ρ [] = True := by simp [noOwn]
def ownN : Option Sl → Prop
  | some s => s.isOwn = false
  | none => True
theorem ownN_un : ownN (some .un) = True := by simp [ownN, Sl.isOwn]
theorem ownN_dat : ownN (some (.dat d)) = True := by simp [ownN, Sl.isOwn]
theorem ownN_town : ownN (some .town) = True := by simp [ownN, Sl.isOwn]
theorem ownN_none : ownN none = True := rfl
theorem q_own_cons {v : Nat} {vs : List Nat} : noOwn ρ (v :: vs) ↔ ownN ρ[v]? ∧ noOwn ρ vs := by
  unfold noOwn
  constructor
  · intro h
    refine ⟨?_, fun i hi => h i (List.mem_cons_of_mem _ hi)⟩
    cases q : ρ[v]? with
    | none => trivial
    | some s => exact h v (List.mem_cons_self ..) s q
  · rintro ⟨h1, h2⟩ i hi s hs
    rcases List.mem_cons.mp hi with rfl | hi
    · rw [hs] at h1; exact h1
    · exact h2 i hi s hs
theorem q_isi {T : String} : fIsi T d C ↔ ixC (kitB (tyName d) T) fun b => C (.bool b) := by rw [ixC_iff]; rfl
theorem at0 {α : Type} {x : α} {xs : List α} : atI (x :: xs) 0 = some x := atI_nat (j := 0) rfl
theorem at1 {α : Type} {x y : α} {xs : List α} : atI (x :: y :: xs) 1 = some y := atI_nat (j := 1) rfl
theorem at2 {α : Type} {x y z : α} {xs : List α} : atI (x :: y :: z :: xs) 2 = some z := atI_nat (j := 2) rfl
theorem at3 {α : Type} {x y z w : α} {xs : List α} : atI (x :: y :: z :: w :: xs) 3 = some w := atI_nat (j := 3) rfl
theorem at4 {α : Type} {x y z w v : α} {xs : List α} : atI (x :: y :: z :: w :: v :: xs) 4 = some v := atI_nat (j := 4) rfl
theorem atm1 {α : Type} {xs : List α} : atI xs (-1) = xs.getLast? := by
  rcases List.eq_nil_or_concat xs with rfl | ⟨ys, y, rfl⟩
  · rfl
  · rw [List.concat_eq_append, atI_last]; simp
end
theorem kit_NoneType_bool : kitB "NoneType" "bool" = some false := by decide +kernel
theorem kit_NoneType_int : kitB "NoneType" "int" = some false := by decide +kernel
theorem kit_NoneType_str : kitB "NoneType" "str" = some false := by decide +kernel
theorem kit_NoneType_list : kitB "NoneType" "list" = some false := by decide +kernel
theorem kit_NoneType_tuple : kitB "NoneType" "tuple" = some false := by decide +kernel
theorem kit_bool_bool : kitB "bool" "bool" = some true := by decide +kernel
theorem kit_bool_int : kitB "bool" "int" = some true := by decide +kernel
theorem kit_bool_str : kitB "bool" "str" = some false := by decide +kernel
theorem kit_bool_list : kitB "bool" "list" = some false := by decide +kernel
theorem kit_bool_tuple : kitB "bool" "tuple" = some false := by decide +kernel
theorem kit_int_bool : kitB "int" "bool" = some false := by decide +kernel
theorem kit_int_int : kitB "int" "int" = some true := by decide +kernel
theorem kit_int_str : kitB "int" "str" = some false := by decide +kernel
theorem kit_int_list : kitB "int" "list" = some false := by decide +kernel
theorem kit_int_tuple : kitB "int" "tuple" = some false := by decide +kernel
theorem kit_str_bool : kitB "str" "bool" = some false := by decide +kernel
theorem kit_str_int : kitB "str" "int" = some false := by decide +kernel
theorem kit_str_str : kitB "str" "str" = some true := by decide +kernel
theorem kit_str_list : kitB "str" "list" = some false := by decide +kernel
theorem kit_str_tuple : kitB "str" "tuple" = some false := by decide +kernel
theorem kit_list_bool : kitB "list" "bool" = some false := by decide +kernel
theorem kit_list_int : kitB "list" "int" = some false := by decide +kernel
theorem kit_list_str : kitB "list" "str" = some false := by decide +kernel
theorem kit_list_list : kitB "list" "list" = some true := by decide +kernel
theorem kit_list_tuple : kitB "list" "tuple" = some false := by decide +kernel
theorem kit_tuple_bool : kitB "tuple" "bool" = some false := by decide +kernel
theorem kit_tuple_int : kitB "tuple" "int" = some false := by decide +kernel
theorem kit_tuple_str : kitB "tuple" "str" = some false := by decide +kernel
theorem kit_tuple_list : kitB "tuple" "list" = some false := by decide +kernel
theorem kit_tuple_tuple : kitB "tuple" "tuple" = some true := by decide +kernel
theorem cut_from {α : Type} (xs : List α) (k : Nat) : cut xs (some (k : Int)) none = xs.drop k := by
  unfold cut
  rw [HT.sIx_nat, HT.sIx_none]
  by_cases h : k ≤ xs.length
  · rw [Nat.min_eq_left h, List.take_of_length_le (by rw [List.length_drop]; omega)]
  · rw [Nat.min_eq_right (by omega), List.drop_of_length_le (Nat.le_refl _), List.drop_of_length_le (by omega)]; simp
theorem cut_to {α : Type} (xs : List α) (k : Nat) : cut xs none (some (k : Int)) = xs.take k := by
  unfold cut
  rw [HT.sIx_nat, HT.sIx_none, List.drop_zero, Nat.sub_zero]
  by_cases h : k ≤ xs.length
  · rw [Nat.min_eq_left h]
  · rw [Nat.min_eq_right (by omega), List.take_of_length_le (Nat.le_refl _), List.take_of_length_le (by omega)]
theorem cut_f1 {α : Type} {xs : List α} : cut xs (some 1) none = xs.drop 1 := cut_from xs 1
theorem cut_f2 {α : Type} {xs : List α} : cut xs (some 2) none = xs.drop 2 := cut_from xs 2
theorem cut_f3 {α : Type} {xs : List α} : cut xs (some 3) none = xs.drop 3 := cut_from xs 3
theorem cut_t1 {α : Type} {xs : List α} : cut xs none (some 1) = xs.take 1 := cut_to xs 1
theorem cut_t2 {α : Type} {xs : List α} : cut xs none (some 2) = xs.take 2 := cut_to xs 2
theorem cut_t3 {α : Type} {xs : List α} : cut xs none (some 3) = xs.take 3 := cut_to xs 3
theorem cut_f4 {α : Type} {xs : List α} : cut xs (some 4) none = xs.drop 4 := cut_from xs 4
theorem cut_t4 {α : Type} {xs : List α} : cut xs none (some 4) = xs.take 4 := cut_to xs 4
theorem cut_f5 {α : Type} {xs : List α} : cut xs (some 5) none = xs.drop 5 := cut_from xs 5
theorem cut_t5 {α : Type} {xs : List α} : cut xs none (some 5) = xs.take 5 := cut_to xs 5
theorem cut_f6 {α : Type} {xs : List α} : cut xs (some 6) none = xs.drop 6 := cut_from xs 6
theorem cut_t6 {α : Type} {xs : List α} : cut xs none (some 6) = xs.take 6 := cut_to xs 6
theorem cut_f7 {α : Type} {xs : List α} : cut xs (some 7) none = xs.drop 7 := cut_from xs 7
theorem cut_t7 {α : Type} {xs : List α} : cut xs none (some 7) = xs.take 7 := cut_to xs 7
theorem cut_f8 {α : Type} {xs : List α} : cut xs (some 8) none = xs.drop 8 := cut_from xs 8
theorem cut_t8 {α : Type} {xs : List α} : cut xs none (some 8) = xs.take 8 := cut_to xs 8
theorem lf_app : ∀ (xs ys : List D), lfAll (xs ++ ys) = (lfAll xs && lfAll ys)
  | [], ys => by simp [lfAll]
  | x :: xs, ys => by simp [lfAll, lf_app xs ys, Bool.and_assoc]
mutual
theorem eqv_refl : ∀ (n : Nat) (d : D), sh n d = true → PyData.eqv d d = true
  | _, .none, _ => by simp [PyData.eqv]
  | _, .bool b, _ => by simp [PyData.eqv]
  | _, .int i, _ => by simp [PyData.eqv]
  | _, .str x, _ => by simp [PyData.eqv]
  | n, .list ds, h => by
    cases n with
    | zero => simp [sh] at h
    | succ n =>
      simp only [sh] at h
      simp only [PyData.eqv]
      exact eqvAll_refl n ds h
  | n, .tuple ds, h => by
    cases n with
    | zero => simp [sh] at h
    | succ n =>
      simp only [sh] at h
      simp only [PyData.eqv]
      exact eqvAll_refl n ds h
  | _, .dict _, h => by simp [sh] at h
theorem eqvAll_refl : ∀ (n : Nat) (ds : List D), shAll n ds = true → PyData.eqvAll ds ds = true
  | _, [], _ => by simp [PyData.eqvAll]
  | n, d :: ds, h => by
    simp only [shAll, Bool.and_eq_true] at h
    simp only [PyData.eqvAll, eqv_refl n d h.1, eqvAll_refl n ds h.2, Bool.and_self]
end
/-- the same on both sides -/
theorem eq_same {a : Bool} {d e : D} {B : Bool → Prop} (h : d = e) (s : sh 32 d = true) (hb : B (!a)) : fEq a d e B := by
  subst h
  refine ⟨s, s, ?_⟩
  rw [eqv_refl 32 d s]
  cases a <;> exact hb
theorem ne_ok {d e : D} {P Q : Prop} (h : d = e) (s : sh 32 d = true) (hp : P) : fEq true d e fun z => (z = true → Q) ∧ (z = false → P) := eq_same h s ⟨fun z => (by cases z), fun _ => hp⟩
theorem q_eqf_i {i j : Int} {B : Bool → Prop} : fEq false (.int i) (.int j) B = B (decide (i = j)) := by
  simp [fEq, sh, PyData.eqv]
  have : (i == j) = decide (i = j) := by by_cases h : i = j <;> simp [h]
  rw [this]
theorem q_eqt_i {i j : Int} {B : Bool → Prop} : fEq true (.int i) (.int j) B = B (!decide (i = j)) := by
  simp [fEq, sh, PyData.eqv]
  have : (i == j) = decide (i = j) := by by_cases h : i = j <;> simp [h]
  simp [bne, this]
/-! ### loops over lists, no draws -/
theorem lcC_det {g : UG} {tt : UT} {te : UV} {C : List D → Prop} {ρ : En} (keep : D → Bool) (val : D → D) : ∀ (ds acc : List D),
    (∀ d ∈ ds, ∀ (P1 : D → Prop) (P2 : Prop), (keep d = true → P1 (val d)) → (keep d = false → P2) → g d ρ fun ρ2 => tt ρ2 fun z => (z = true → te ρ2 P1) ∧ (z = false → P2)) →
    C (acc ++ (ds.filter keep).map val) → lcC g tt te C ρ ds acc
  | [], acc, _, hc => by simpa [lcC] using hc
  | d :: ds, acc, h, hc => by
    unfold lcC
    refine h d (List.mem_cons_self ..) _ _ (fun k => ?_) (fun k => ?_)
    · refine lcC_det keep val ds _ (fun d hd => h d (List.mem_cons_of_mem _ hd)) ?_
      rw [List.filter_cons, if_pos k] at hc
      simpa using hc
    · refine lcC_det keep val ds _ (fun d hd => h d (List.mem_cons_of_mem _ hd)) ?_
      rw [List.filter_cons, if_neg (by simp [k])] at hc
      exact hc
/-- over things that are made of α -/
theorem lcC_map {α : Type} {g : UG} {tt : UT} {te : UV} {C : List D → Prop} {ρ : En} (mk : α → D) (keep : α → Bool) (val : α → D) : ∀ (as : List α) (acc : List D),
    (∀ a ∈ as, ∀ (P1 : D → Prop) (P2 : Prop), (keep a = true → P1 (val a)) → (keep a = false → P2) → g (mk a) ρ fun ρ2 => tt ρ2 fun z => (z = true → te ρ2 P1) ∧ (z = false → P2)) →
    C (acc ++ (as.filter keep).map val) → lcC g tt te C ρ (as.map mk) acc
  | [], acc, _, hc => by simpa [lcC] using hc
  | d :: ds, acc, h, hc => by
    rw [List.map_cons]
    unfold lcC
    refine h d (List.mem_cons_self ..) _ _ (fun k => ?_) (fun k => ?_)
    · refine lcC_map mk keep val ds _ (fun d hd => h d (List.mem_cons_of_mem _ hd)) ?_
      rw [List.filter_cons, if_pos k] at hc
      simpa using hc
    · refine lcC_map mk keep val ds _ (fun d hd => h d (List.mem_cons_of_mem _ hd)) ?_
      rw [List.filter_cons, if_neg (by simp [k])] at hc
      exact hc
/-- no tests -/
theorem lcC_yes {α : Type} {g : UG} {te : UV} {C : List D → Prop} {ρ : En} (mk : α → D) (val : α → D) : ∀ (as : List α) (acc : List D),
    (∀ a ∈ as, ∀ P1 : D → Prop, P1 (val a) → g (mk a) ρ fun ρ2 => te ρ2 P1) → C (acc ++ as.map val) → lcC g bYes te C ρ (as.map mk) acc
  | [], acc, _, hc => by simpa [lcC] using hc
  | d :: ds, acc, h, hc => by
    rw [List.map_cons]
    unfold lcC
    simp only [bYes, forall_const, reduceCtorEq, false_implies, and_true, true_implies]
    refine h d (List.mem_cons_self ..) _ ?_
    refine lcC_yes mk val ds _ (fun d hd => h d (List.mem_cons_of_mem _ hd)) ?_
    simpa using hc
/-- a for by an invariant that knows what is left -/
theorem forC_inv {g : UG} {tb : US} {E : Ed} (I : List D → En → Prop)
    (h : ∀ d rest ρ, I (d :: rest) ρ → ∀ K : En → Prop, (∀ ρ', I rest ρ' → K ρ') → g d ρ fun ρ' => tb { E with nx := K, ct := K, bk := E.nx } ρ') (hn : ∀ ρ, I [] ρ → E.nx ρ) : ∀ (ds : List D) (ρ : En), I ds ρ → forC g tb E ds ρ
  | [], ρ, i => hn ρ i
  | d :: ds, ρ, i => by
    unfold forC
    exact h d ds ρ i _ fun ρ' i' => forC_inv I h hn ds ρ' i'
theorem mem_rngD {lo : Int} {n : Nat} {d : D} (h : d ∈ rngD lo n) : ∃ i : Nat, i < n ∧ d = .int (lo + (i : Int)) := by
  unfold rngD at h
  obtain ⟨i, hi, rfl⟩ := List.mem_map.mp h
  exact ⟨i, List.mem_range.mp hi, rfl⟩
/-- a while that ends, by a measure -/
theorem whC_up {tt : UT} {tb : US} {E : Ed} {ρ : En} (n : Nat) (h : whC tt tb E n ρ) : sWhile tt tb E ρ := ⟨n, h⟩
def enumF : Nat → List D → List D
  | _, [] => []
  | i, d :: ds => .tuple [.int (i : Int), d] :: enumF (i + 1) ds
theorem enumD_eq (ds : List D) : enumD ds = enumF 0 ds := by
  unfold enumD
  have h : ∀ (ds : List D) (k : Nat), (List.range' k ds.length).zipWith (fun (i : Nat) d => (.tuple [.int (i : Int), d] : D)) ds = enumF k ds := by
    intro ds
    induction ds with
    | nil => intro k; rfl
    | cons d ds ih =>
      intro k
      rw [List.length_cons, List.range'_succ, List.zipWith_cons_cons, ih (k + 1)]; rfl
  rw [List.range_eq_range']
  exact h ds 0
theorem zipD_cons {x y : D} {xs ys : List D} : zipD (x :: xs) (y :: ys) = .tuple [x, y] :: zipD xs ys := rfl
theorem zipD_nil {xs : List D} : zipD xs [] = [] := by simp [zipD]
theorem zipD_map {α : Type} {f : α → D} : ∀ (xs ys : List α), zipD (xs.map f) (ys.map f) = (xs.zip ys).map fun p => .tuple [f p.1, f p.2]
  | [], _ => rfl
  | _ :: _, [] => rfl
  | x :: xs, y :: ys => by
    have := zipD_map (f := f) xs ys
    simp only [List.map_cons, zipD_cons, this, List.zip_cons_cons]
/-- of numbers -/
theorem intsOf_map (ns : List Int) : intsOf (ns.map PyData.int) = some ns := by
  induction ns with
  | nil => rfl
  | cons n ns ih => simp [intsOf, ih]
theorem bools_map {α : Type} (f : α → Bool) (as : List α) : boolsOf (as.map fun a => .bool (f a)) = some (as.map f) := by
  induction as with
  | nil => rfl
  | cons n ns ih => simp [boolsOf, ih]
theorem ints_map {α : Type} (f : α → Int) (as : List α) : intsOf (as.map fun a => .int (f a)) = some (as.map f) := by
  induction as with
  | nil => rfl
  | cons n ns ih => simp [intsOf, ih]
theorem boolsOf_map (bs : List Bool) : boolsOf (bs.map PyData.bool) = some bs := by
  induction bs with
  | nil => rfl
  | cons n ns ih => simp [boolsOf, ih]
end Pu
namespace Pu
open PySem PySem.Spec PyProof.Rows L2
theorem units65 {k : Nat} {A : Around} (r : Room k A) : A.units + 65 < cLine := by have := r.un; omega
theorem se_Constant {c : Const} {j : Nat} {p : Pos} {es : List Expr} {env : Env} : starEach (.Constant c j p :: es) env = (false, eval (.Constant c j p) env) :: starEach es env := rfl
theorem se_Tuple {xs : List Expr} {j : Nat} {p : Pos} {es : List Expr} {env : Env} : starEach (.Tuple xs j p :: es) env = (false, eval (.Tuple xs j p) env) :: starEach es env := rfl
theorem se_List {xs : List Expr} {p : Pos} {es : List Expr} {env : Env} : starEach (.List xs p :: es) env = (false, eval (.List xs p) env) :: starEach es env := rfl
theorem se_UnaryOp {o : UnaryOp} {e : Expr} {p : Pos} {es : List Expr} {env : Env} : starEach (.UnaryOp o e p :: es) env = (false, eval (.UnaryOp o e p) env) :: starEach es env := rfl
theorem se_BinOp {o : Operator} {e d : Expr} {p : Pos} {es : List Expr} {env : Env} : starEach (.BinOp e o d p :: es) env = (false, eval (.BinOp e o d p) env) :: starEach es env := rfl
theorem se_Name {x : Str} {p : Pos} {es : List Expr} {env : Env} : starEach (.Name x p :: es) env = (false, eval (.Name x p) env) :: starEach es env := rfl
theorem sw_List {xs : List Expr} {p : Pos} {t : Option Expr} {l : Nat} {env : Env} : swapsWith (.List xs p) t l env = pure false := rfl
theorem sw_BinOp {o : Operator} {e d : Expr} {p : Pos} {t : Option Expr} {l : Nat} {env : Env} : swapsWith (.BinOp e o d p) t l env = pure false := rfl
/-! a list unpacked -/
def gLstl (n : Nat) (gs : UGs) : UG := fun d ρ C => match d with
  | .list ds => ds.length = n ∧ gs ds ρ C
  | _ => False
theorem jg_lst {cp : List Str} {G : Gx} {N : List Str} {sc : Scope} {k : Nat} {τ : Tn} {X : Cx} {es : List Expr} {gs : UGs} {pos : Pos} {kk n : Nat} (S : Ok cp G N sc k X) (h : JGs τ X es gs) (hn : (assignEach es X.env).length = n := by rfl) (hst : (assignEach es X.env).findIdx? (·.1) = none := by rfl) : JG τ X (.Tuple es kk pos) (gLstl n gs) := fun d ρ C c H0 γ σ H v r hd Q q => by
  unfold gLstl at c
  split at c
  · rename_i ds
    cases hd with
    | lst hs ha =>
      exact wpG_of (pg_lst S.calm pgs_w hn hst) ⟨_, _, rfl, sqL_same res_le hs, (dpAll_len ha).trans c.1, h ds ρ C c.2 H0 γ σ H _ r ha Q q⟩
  · exact c.elim
/-! tuple * int -/
def fRepT : D → D → (D → Prop) → Prop
  | .tuple xs, .int k, C => xs ≠ [] ∧ 2 ≤ k ∧ k ≤ 1000 ∧ xs.length ≤ 1000 ∧ C (.tuple (List.replicate k.toNat xs).flatten)
  | _, _, _ => False
theorem dpAll_rep {K : PySem.W.Frag} {H : Hp} {vs : List V} {ds : List D} (h : DpAll K H vs ds) : ∀ m : Nat, DpAll K H (List.replicate m vs).flatten (List.replicate m ds).flatten
  | 0 => .nil
  | m + 1 => by
    rw [List.replicate_succ, List.replicate_succ, List.flatten_cons, List.flatten_cons]
    exact dpAll_append h (dpAll_rep h m)
/-- laid plainly -/
def rRepP (K : PySem.W.Frag) : R2 := fun x y H Q => ∃ l k xs, x = .ref l ∧ y = .int k ∧ SqT K H l xs ∧ xs ≠ [] ∧ 2 ≤ k ∧ k ≤ 1000 ∧ xs.length ≤ 1000 ∧ ∀ p o, o.dict = none → H p = none → Q (.ref p) (upd H p (.frz o (.tup (List.replicate k.toNat xs).flatten)))
theorem op_repP {X : Cx} : OpR X (binaryOp .Mult) (rRepP X.K) := by
  intro pins s σ H x y v u Q I rx ry h
  obtain ⟨l, k, xs, rfl, rfl, hT, hne, h1, h2, hz, q⟩ := h
  cases rx
  obtain ⟨t, rfl⟩ := ry
  obtain ⟨us, r, ⟨⟨cls, dd, data, sl⟩, ho, hc, n, hd⟩, hs⟩ := I.tuple hT
  simp only at hc hd
  subst hc hd
  have hle : us.length = xs.length := r.length.symm
  have he : us.toArray.isEmpty = false := by
    cases us with
    | nil => exact absurd (List.eq_nil_of_length_eq_zero hle.symm) hne
    | cons a b => rfl
  have sz : us.toArray.size = xs.length := by rw [List.size_toArray, hle]
  have hm : ((us.toArray.size : Nat) : Int) * k ≤ 1000000 := by
    have a1 : ((xs.length : Nat) : Int) * k ≤ 1000 * k := Int.mul_le_mul_of_nonneg_right (by omega) (by omega)
    rw [sz]
    omega
  have fl : ∀ {α : Type} (zs : List α), zs.length = xs.length → (List.replicate k.toNat zs).flatten.length ≤ sizeLine := fun zs e => by
    have a1 : k.toNat * xs.length ≤ 1000 * 1000 := Nat.mul_le_mul (by omega) hz
    rw [PyProof.Rows.lm_len_rep_flat, e, sizeLine_eq]
    omega
  have b0 : (decide (k < -(2 ^ 63)) || decide (k ≥ 2 ^ 63)) = false := by simp; omega
  have b1 : (us.toArray.isEmpty || k == 1) = false := by rw [he, Bool.false_or]; exact beq_eq_false_iff_ne.mpr (by omega)
  have b2 : (decide (k ≤ 0) || us.toArray.isEmpty) = false := by rw [he, Bool.or_false]; exact decide_eq_false (by omega)
  have b4 : Builtin.Tuple.tupleTooMany (((us.toArray.size : Nat) : Int) * k) = false := by unfold Builtin.Tuple.tupleTooMany; rw [sizeLine_eq]; exact decide_eq_false (by omega)
  have ex : (List.foldl (fun x1 x2 => x1 ++ x2) #[] (List.replicate k.toNat us.toArray)) = (List.replicate k.toNat us).flatten.toArray := size_rep us _
  refine wpAny_binaryOp_repeat_ref (T := "tuple") (U := "int") (by decide) ⟨_, ho, rfl⟩ (fun s' => typeIs_int s' k t) noFill_tuple_mul F.fills_int_mul F.slot_int_rmul repeat_tuple F.slot_int_index.lookup
    (call_meets F.slot_int_rmul (typeIs_int s k t) F.entry_int_rmul (F.args_int_rmul_2 _ _) (int_rmul_tuple k t l us.toArray n dd sl) ⟨ho, rfl, ⟨_, ho, rfl⟩, ?_⟩)
  refine call_meets F.slot_tuple_mul ⟨_, ho, rfl⟩ F.entry_tuple_mul (F.args_tuple_mul_2 _ _) (tuple_mulW l us.toArray n dd sl k t b0 b1 b2 (by omega) b4 (by rw [ex, List.size_toArray]; exact fl us hle)) ⟨ho, ?_⟩
  rw [ex]
  exact ⟨.ref s.heap.objs.size, _, inv_plT (t' := s.toks) I (fl xs rfl) (r.rep k.toNat), rfl, q _ _ rfl (I.hok.fresh (Nat.le_refl _))⟩
theorem fRepT_ok {X : Cx} : Op2 X (rRepP X.K) fRepT := fun τ H0 H γ σ ρ v1 v2 d1 d2 C r b1 b2 h Q q => by
  cases d1 <;> cases d2 <;> first | exact h.elim | skip
  obtain ⟨h1, h2, h3, h4, h5⟩ := h
  obtain ⟨a, vs, rfl, hs, ha⟩ := b1
  cases b2
  refine ⟨a, _, vs, rfl, rfl, sqT_same res_le hs, fun z => ?_, h2, h3, by rw [dpAll_len ha]; exact h4, fun p o ho hp => ?_⟩
  · subst z
    cases ha
    exact h1 rfl
  · exact q _ _ _ h5 (.new hp) (.tup (.inl (.inr ⟨o, res_put (r.notOwn hp) upd_same ho⟩)) (dpAll_after (.new hp) (dpAll_rep ha _)))
theorem jd_rep {τ : Tn} {X : Cx} {a b : Expr} {t u : UV} {pos : Pos} (ha : JV τ X a t) (hb : JV τ X b u) : JD τ X (.BinOp a .Mult b pos) (d2 fRepT t u) := jd_op op_repP fRepT_ok ha hb
/-! sorted, of ints -/
def fSorted : List D → (Rs → Prop) → Prop
  | [.list ds], C => ∃ ns, intsOf ds = some ns ∧ ns.length < 64 ∧ ∀ ns' : List Int, ns'.Perm ns → ns'.Pairwise (· ≤ ·) → C (.lst (ns'.map PyData.int))
  | _, _ => False
theorem fSorted_ok {X : Cx} : Cb X (rSorted X.K) fSorted := fun τ H0 H γ σ ρ vs ds C r b f Q q => by
  unfold fSorted at f
  split at f
  · obtain ⟨v, rfl, p, ws, rfl, hs, ha⟩ := paired1 b
    obtain ⟨ns, h1, h2, h3⟩ := f
    have e := intsOf_dp h1 ha
    subst e
    exact ⟨p, ns, rfl, sqL_same res_le hs, h2, fun ns' l p1 p2 hl => q _ _ _ (h3 ns' p1 p2) (.new hl) (new_lst r hl (dp_ints ns'))⟩
  · exact f.elim
/-! constants of any depth -/
mutual
def litD : Nat → Expr → Option D
  | _, .Constant (.int i) _ _ => some (.int i)
  | _, .Constant (.str x) _ _ => some (.str x)
  | _, .Constant (.bool b) _ _ => some (.bool b)
  | _, .Constant .none _ _ => some .none
  | _, .UnaryOp .USub (.Constant (.int i) _ _) _ => some (.int (-i))
  | n + 1, .Tuple es _ _ => if es.length ≤ 1000 then (litAll n es).map PyData.tuple else none
  | _, _ => none
def litAll : Nat → List Expr → Option (List D)
  | _, [] => some []
  | 0, _ :: _ => none
  | n + 1, e :: es => (litD n e).bind fun d => (litAll n es).map fun ds => d :: ds
end
theorem lit_star {n : Nat} {e : Expr} {d : D} (h : litD n e = some d) (es : List Expr) (env : Env) : starEach (e :: es) env = (false, eval e env) :: starEach es env := by
  unfold litD at h
  split at h
  · rfl
  · rfl
  · rfl
  · rfl
  · rfl
  · rfl
  · cases h
theorem lit_ok {τ : Tn} {X : Cx} : ∀ (n : Nat), (∀ {e : Expr} {d : D}, litD n e = some d → JD τ X e (dC d)) ∧ ∀ {es : List Expr} {ds : List D}, litAll n es = some ds → JDs τ X es (fun _ C => C ds) := by
  intro n
  induction n with
  | zero =>
    refine ⟨fun {e d} h => ?_, fun {es ds} h => ?_⟩
    · unfold litD at h
      split at h
      · cases h; exact jd_int
      · cases h; exact jd_str
      · cases h; exact jd_bl
      · cases h; exact jd_non
      · cases h
        exact jd_neg (jv_d jd_int)
      · rename_i hn
        cases hn
      · cases h
    · cases es with
      | nil => cases h; exact jds_nil
      | cons e es => cases h
  | succ n ih =>
    refine ⟨fun {e d} h => ?_, fun {es ds} h => ?_⟩
    · unfold litD at h
      split at h
      · cases h; exact jd_int
      · cases h; exact jd_str
      · cases h; exact jd_bl
      · cases h; exact jd_non
      · cases h
        exact jd_neg (jv_d jd_int)
      · rename_i hn
        cases hn
        split at h
        · rename_i hl
          obtain ⟨ds, h1, rfl⟩ := Option.map_eq_some_iff.mp h
          exact jd_tup (ih.2 h1) hl
        · cases h
      · cases h
    · cases es with
      | nil => cases h; exact jds_nil
      | cons e es =>
        unfold litAll at h
        obtain ⟨d, h1, h2⟩ := Option.bind_eq_some_iff.mp h
        obtain ⟨ds', h3, rfl⟩ := Option.map_eq_some_iff.mp h2
        exact jds_cons (ih.1 h1) (ih.2 h3) (lit_star h1 es _)
theorem jd_lit {τ : Tn} {X : Cx} (n : Nat) {e : Expr} {d : D} (h : litD n e = some d) : JD τ X e (dC d) := (lit_ok n).1 h
theorem jds_lit {τ : Tn} {X : Cx} (n : Nat) {es : List Expr} {ds : List D} (h : litAll n es = some ds) : JDs τ X es (fun _ C => C ds) := (lit_ok n).2 h
theorem js_asgC {cp : List Str} {G : Gx} {N : List Str} {sc : Scope} {k : Nat} {τ : Tn} {X : Cx} {e tg : Expr} {tv : UV} {g : UG} {pos : Pos} (S : Ok cp G N sc k X) (he : JD τ X e tv) (hg : JG τ X tg g) (hw : swappedStores [tg] e { (default : Env) with scope := sc } = pure none := by rfl) (hs : swapsWithSole [tg] e pos.line X.env = pure false := by rfl)
    (h1 : (assignEach [tg] X.env).map (·.2) = [assign tg X.env] := by rfl) : JS τ X (.Assign [tg] e pos) (sAsg tv g) := js_asg he hg hs ((swapped_env S.es).trans hw) h1
section
variable {t u : US} {E : Ed} {ρ : En} {te ue we : UE} {tt tu : UT} {tv tw ts' : UV} {ta tb : UA} {tl : UL} {g : UG} {gs : UGs} {C : D → Prop} {B : Bool → Prop} {R : Rs → Prop} {L : List D → Prop} {A : List Ar → Prop} {K : En → Prop} {O : Option Int → Prop} {to to' : UO} {S : Sf} {d e : D} {ds : List D} {i j l n : Nat}
theorem c_sfOf {N : List Str} {as : List Ar} : sfOf N n t as R = (as.length = n ∧ t { nx := fun _ => R (.dat .none), rt := fun r => r.lf = true ∧ R r } (en0 N as)) := propext Iff.rfl
theorem c_sNext : sNext E ρ = E.nx ρ := propext Iff.rfl
theorem c_sSeq : sSeq t u E ρ = t { E with nx := u E } ρ := propext Iff.rfl
theorem c_sNever : sNever E ρ = False := propext Iff.rfl
theorem c_sBreak : sBreak E ρ = E.bk ρ := propext Iff.rfl
theorem c_sCont : sCont E ρ = E.ct ρ := propext Iff.rfl
theorem c_sDrop : sDrop te E ρ = te ρ fun _ => E.nx ρ := propext Iff.rfl
theorem c_sRet : sRet te E ρ = te ρ E.rt := propext Iff.rfl
theorem c_sRetN : sRetN E ρ = E.rt (.dat .none) := propext Iff.rfl
theorem c_sIf : sIf tt t u E ρ = tt ρ fun z => (z = true → t E ρ) ∧ (z = false → u E ρ) := propext Iff.rfl
theorem c_sSet : sSet i te E ρ = te ρ fun r => E.nx (ρ.set i r.sl) := propext Iff.rfl
theorem c_gNam : gNam i d ρ K = K (ρ.set i (.dat d)) := propext Iff.rfl
theorem c_gsNil : gsNil [] ρ K = K ρ := propext Iff.rfl
theorem c_gsCons : gsCons g gs (d :: ds) ρ K = g d ρ fun ρ' => gs ds ρ' K := propext Iff.rfl
theorem c_gTupl : gTupl n gs (.tuple ds) ρ K = (ds.length = n ∧ gs ds ρ K) := propext Iff.rfl
theorem c_sAsg : sAsg tv g E ρ = tv ρ fun d => g d ρ E.nx := propext Iff.rfl
theorem c_sPar2 : sPar2 i j te ue E ρ = te ρ fun r1 => ue ρ fun r2 => r1.lf = true ∧ r2.lf = true ∧ E.nx ((ρ.set i r1.sl).set j r2.sl) := propext Iff.rfl
theorem c_sPar3 : sPar3 i j l te ue we E ρ = te ρ fun r1 => ue ρ fun r2 => we ρ fun r3 => r1.lf = true ∧ r2.lf = true ∧ r3.lf = true ∧ E.nx (((ρ.set i r1.sl).set j r2.sl).set l r3.sl) := propext Iff.rfl
def xRs : Rs → (List D → Prop) → Prop
  | .lst es, L => L es
  | _, _ => False
theorem xRs_l : xRs (.lst ds) L = L ds := propext Iff.rfl
theorem c_sExtend : sExtend i te E ρ = lSl ρ[i]? fun ds => te ρ fun r => xRs r fun es => ds.length + es.length ≤ 1000000 ∧ E.nx (ρ.set i (.lst (ds ++ es))) := by
  unfold sExtend
  cases ρ[i]? with
  | none => rfl
  | some s => cases s with
    | lst ds =>
      show (te ρ fun r => _) = _
      unfold lSl
      congr 1
      funext r
      cases r <;> rfl
    | _ => rfl
theorem c_sFor : sFor tl g t E ρ = tl ρ fun ds => forC g t E ds ρ := propext Iff.rfl
def frSl : Option Sl → Nat → En → En
  | some (.lst ds), i, ρ => ρ.set i (.dat (.list ds))
  | _, _, ρ => ρ
theorem frSl_l : frSl (some (.lst ds)) i ρ = ρ.set i (.dat (.list ds)) := rfl
theorem frSl_d : frSl (some (.dat d)) i ρ = ρ := rfl
theorem c_sFrz : sFrz i t E ρ = t E (frSl ρ[i]? i ρ) := by
  unfold sFrz
  cases ρ[i]? with
  | none => rfl
  | some s => cases s <;> rfl
theorem c_eAdd : eAdd tv tw ρ R = tv ρ fun x => tw ρ fun y => fAddE x y R := propext Iff.rfl
theorem q_adde_i {i j : Int} : fAddE (.int i) (.int j) R = R (.dat (.int (i + j))) := propext Iff.rfl
theorem q_adde_s {x y : Str} : fAddE (.str x) (.str y) R = (x.length + y.length ≤ 1000000 ∧ R (.dat (.str (x ++ y)))) := propext Iff.rfl
theorem q_adde_t {xs ys : List D} : fAddE (.tuple xs) (.tuple ys) R = (xs.length + ys.length ≤ 1000000 ∧ R (.dat (.tuple (xs ++ ys)))) := propext Iff.rfl
theorem q_adde_l {xs ys : List D} : fAddE (.list xs) (.list ys) R = (xs.length + ys.length ≤ 1000000 ∧ R (.lst (xs ++ ys))) := propext Iff.rfl
theorem c_gLstl : gLstl n gs (.list ds) ρ K = (ds.length = n ∧ gs ds ρ K) := propext Iff.rfl
theorem q_sorted : fSorted [.list ds] R ↔ ixC (intsOf ds) fun ns => ns.length < 64 ∧ ∀ ns' : List Int, ns'.Perm ns → ns'.Pairwise (· ≤ ·) → R (.lst (ns'.map PyData.int)) := by rw [ixC_iff]; rfl
theorem q_rep {xs : List D} {k : Int} : fRepT (.tuple xs) (.int k) C = (xs ≠ [] ∧ 2 ≤ k ∧ k ≤ 1000 ∧ xs.length ≤ 1000 ∧ C (.tuple (List.replicate k.toNat xs).flatten)) := propext Iff.rfl
theorem c_iSeq : iSeq tv ρ L = tv ρ fun d => fSeq d L := propext Iff.rfl
theorem c_iRange1 : iRange1 tv ρ L = tv ρ fun d => ∃ n, d = .int n ∧ n ≤ 1000000 ∧ -1000000000 ≤ n ∧ L (rngD 0 n.toNat) := propext Iff.rfl
theorem c_iRange2 : iRange2 tv tw ρ L = tv ρ fun d => tw ρ fun d2 => ∃ m n, d = .int m ∧ d2 = .int n ∧ n - m ≤ 1000000 ∧ -1000000000000 ≤ m ∧ m ≤ 1000000000000 ∧ -1000000000000 ≤ n ∧ n ≤ 1000000000000 ∧ L (rngD m (n - m).toNat) := propext Iff.rfl
theorem c_iEnumS : iEnumS tv ρ L = tv ρ fun d => fSeq0 d fun ds => L (enumD ds) := propext Iff.rfl
theorem c_iZip2 : iZip2 tv tw ρ L = tv ρ fun x => tw ρ fun y => fZip x y L := propext Iff.rfl
theorem c_eLc {vs : List Nat} : eLc tl g tt tv vs ρ R = (noOwn ρ vs ∧ tl ρ fun ds => lcC g tt tv (fun acc => R (.lst acc)) (wipeS ρ vs) ds []) := propext Iff.rfl
theorem c_eD : eD tv ρ R = tv ρ fun d => R (.dat d) := propext Iff.rfl
theorem c_dE : dE te ρ C = te ρ fun r => r.cold C := propext Iff.rfl
theorem c_lCons : lCons tv tl ρ L = tv ρ fun d => tl ρ fun ds => L (d :: ds) := propext Iff.rfl
theorem c_dC : dC d ρ C = C d := propext Iff.rfl
theorem c_dTup : dTup tl ρ C = tl ρ fun ds => C (.tuple ds) := propext Iff.rfl
theorem c_eLst : eLst tl ρ R = tl ρ fun ds => R (.lst ds) := propext Iff.rfl
theorem c_d2 {f : D → D → (D → Prop) → Prop} : d2 f tv tw ρ C = tv ρ fun x => tw ρ fun y => f x y C := propext Iff.rfl
theorem c_d1 {f : D → (D → Prop) → Prop} : d1 f tv ρ C = tv ρ fun x => f x C := propext Iff.rfl
theorem c_dB : dB tt ρ C = tt ρ fun z => C (.bool z) := propext Iff.rfl
theorem c_b2 {f : D → D → (Bool → Prop) → Prop} : b2 f tv tw ρ B = tv ρ fun x => tw ρ fun y => f x y B := propext Iff.rfl
theorem c_b3 {f h : D → D → (Bool → Prop) → Prop} : b3 f h tv tw ts' ρ B = tv ρ fun x => tw ρ fun y => f x y fun z => (z = true → ts' ρ fun w => h y w B) ∧ (z = false → B false) := propext Iff.rfl
theorem c_bTru : bTru tv ρ B = tv ρ fun d => fTru d B := propext Iff.rfl
theorem c_bAnd : bAnd tt tu ρ B = tt ρ fun z => (z = true → tu ρ B) ∧ (z = false → B false) := propext Iff.rfl
theorem c_bOr : bOr tt tu ρ B = tt ρ fun z => (z = true → B true) ∧ (z = false → tu ρ B) := propext Iff.rfl
theorem c_bNot : bNot tt ρ B = tt ρ fun z => B (!z) := propext Iff.rfl
theorem c_dAnd : dAnd tv tw ρ C = tv ρ fun d => fBoolK d fun z => (z = true → tw ρ C) ∧ (z = false → C (.bool false)) := propext Iff.rfl
theorem c_dOr : dOr tv tw ρ C = tv ρ fun d => fBoolK d fun z => (z = true → C (.bool true)) ∧ (z = false → tw ρ C) := propext Iff.rfl
theorem c_dNot : dNot tv ρ C = tv ρ fun d => fBoolK d fun z => C (.bool (!z)) := propext Iff.rfl
theorem c_eIf : eIf tt te ue ρ R = tt ρ fun z => (z = true → te ρ R) ∧ (z = false → ue ρ R) := propext Iff.rfl
theorem c_dIf : dIf tt tv tw ρ C = tt ρ fun z => (z = true → tv ρ C) ∧ (z = false → tw ρ C) := propext Iff.rfl
theorem c_oNone : oNone ρ O = O none := propext Iff.rfl
theorem c_eCut : eCut tv to to' ρ R = tv ρ fun d => to ρ fun l => to' ρ fun h => fCut d l h R := propext Iff.rfl
theorem c_aNil : aNil ρ A = A [] := propext Iff.rfl
theorem c_aCons : aCons tv ta ρ A = tv ρ fun d => ta ρ fun as => A (.dat d :: as) := propext Iff.rfl
def tSl : Option Sl → Prop → Prop
  | some .town, P => P
  | _, _ => False
theorem tSl_t {P : Prop} : tSl (some .town) P = P := propext Iff.rfl
theorem c_aTown : aTown i ta ρ A = tSl ρ[i]? (ta ρ fun as => A (.town :: as)) := by
  unfold aTown
  cases ρ[i]? with
  | none => rfl
  | some s => cases s <;> rfl
theorem c_eCall : eCall S ta ρ R = ta ρ fun as => S as R := propext Iff.rfl
theorem c_eCallK {h : List Ar → List Ar → List Ar} : eCallK S h ta tb ρ R = ta ρ fun as => tb ρ fun bs => S (h as bs) R := propext Iff.rfl
theorem c_eB {f : List D → (Rs → Prop) → Prop} : eB f tl ρ R = tl ρ fun ds => f ds R := propext Iff.rfl
theorem c_sTick : sTick i E ρ = (ρ[i]? = some .town ∧ E.nx ρ) := propext Iff.rfl
theorem c_dCount : dCount i ρ C = (ρ[i]? = some .town ∧ ∀ c : Int, C (.int c)) := propext Iff.rfl
theorem c_dRest : dRest i tv tw ρ C = (ρ[i]? = some .town ∧ tv ρ fun d => ∃ n, d = .int n ∧ tw ρ fun d' => ∃ m, d' = .int m ∧ ∀ n : Int, C (.int n)) := propext Iff.rfl
theorem c_sRest : sRest i tv tw E ρ = (ρ[i]? = some .town ∧ tw ρ fun d => ∃ n, d = .int n ∧ tv ρ fun d => ∃ n, d = .int n ∧ 0 ≤ n ∧ n < 64 ∧ E.nx ρ) := propext Iff.rfl
theorem c_lcC0 {acc : List D} : lcC g tt tv L ρ [] acc = L acc := propext Iff.rfl
end
end Pu
/-! ### sorted, of data alike; xs[::-1] -/
namespace Pu
open PySem PySem.Spec PyProof.Rows L2 PySem.W
abbrev dLe : D → D → Bool := dataLe false (fun d : D => d)
theorem zip_dpAll {K : PySem.W.Frag} {H : Hp} : ∀ {xs : List V} {ds : List D}, DpAll K H xs ds → (∀ p ∈ xs.zip ds, Dp K H p.1 p.2) ∧ (xs.zip ds).map Prod.snd = ds ∧ (xs.zip ds).map Prod.fst = xs
  | _, _, .nil => ⟨fun _ h => (by cases h), rfl, rfl⟩
  | _, _, .cons h t => by
    obtain ⟨h1, h2, h3⟩ := zip_dpAll t
    refine ⟨fun p hp => ?_, by rw [List.zip_cons_cons, List.map_cons, h2], by rw [List.zip_cons_cons, List.map_cons, h3]⟩
    rcases List.mem_cons.mp (by simpa only [List.zip_cons_cons] using hp) with rfl | hp
    · exact h
    · exact h1 p hp
theorem dpAll_of {K : PySem.W.Frag} {H : Hp} : ∀ {ps : List (V × D)}, (∀ p ∈ ps, Dp K H p.1 p.2) → DpAll K H (ps.map Prod.fst) (ps.map Prod.snd)
  | [], _ => .nil
  | p :: ps, h => .cons (h p (by simp)) (dpAll_of fun q hq => h q (by simp [hq]))
theorem each_zip {R : Value → V × D → Prop} : ∀ {xs : List V} {ds : List D} {us : List Value}, Vals xs us → xs.length = ds.length → (∀ v d u, (v, d) ∈ xs.zip ds → RelV v u → R u (v, d)) → EachIs R us (xs.zip ds)
  | [], [], [], _, _, _ => .nil
  | x :: xs, d :: ds, u :: us, r, hl, h => by
    cases r with
    | cons r1 r2 => exact .cons (h x d u (by simp) r1) (each_zip r2 (by simpa using hl) fun v d u hm => h v d u (by simp [hm]))
  | [], _ :: _, _, _, hl, _ => by cases hl
  | _ :: _, [], _, _, hl, _ => by cases hl
  | [], [], _ :: _, r, _, _ => by cases r
  | _ :: _, _ :: _, [], r, _, _ => by cases r
theorem vals_each : ∀ {ps : List (V × D)} {us : List Value}, EachIs (fun u (p : V × D) => RelV p.1 u) us ps → Vals (ps.map Prod.fst) us
  | _, _, .nil => .nil
  | _, _, .cons h t => .cons h (vals_each t)
/-- sorted(xs), xs a list or a tuple of data alike -/
def rSortD (K : PySem.W.Frag) : List V → Hp → VK → Prop := fun vs H Q => ∃ (a : Addr) (xs : List V) (ds : List D), vs = [V.ref a] ∧ (SqL K H a xs ∨ SqT K H a xs) ∧ DpAll K H xs ds ∧ AllAlike ds ∧ Sortable ds ∧ (∀ d ∈ ds, d.depth ≤ 32) ∧
  ∀ ys p, (∀ H' : Hp, DpAll K H' xs ds → DpAll K H' ys (ds.mergeSort dLe)) → H p = none → Q (.ref p) (upd H p (.lst ys))
section
variable {X : Cx}
theorem cr_sortD (hu : X.A.units + 65 < cLine) : CallR X (.builtin "sorted") (rSortD X.K) := by
  intro pins s σ H vs us Q I r h
  obtain ⟨a, xs, ds, rfl, hs, hd, hal, hk, hdep, q⟩ := h
  obtain ⟨u, rfl, ru⟩ := vals1 r
  obtain rfl : u = Value.ref a := ru
  obtain ⟨its, T, o, n, rv, hT, ho, hc, hdt, hz⟩ : ∃ (its : List Value) (T : String) (o : Obj) (n : Nat), Vals xs its ∧ (T = "list" ∨ T = "tuple") ∧ s.heap.get? a = some o ∧ o.cls = .type T ∧ o.data = .seq its.toArray n ∧ xs.length ≤ sizeLine := by
    rcases hs with hs | hs
    · obtain ⟨its, rv, ⟨o, n, ho, hc, _, hd⟩, hz⟩ := I.list hs
      exact ⟨its, "list", o, n, rv, .inl rfl, ho, hc, hd, hz⟩
    · obtain ⟨its, rv, ⟨o, ho, hc, n, hd⟩, hz⟩ := I.tuple hs
      exact ⟨its, "tuple", o, n, rv, .inr rfl, ho, hc, hd, hz⟩
  have hzi : its.length ≤ sizeLine := by rw [← rv.length]; exact hz
  have hdl := dpAll_len hd
  obtain ⟨z1, z2, z3⟩ := zip_dpAll hd
  refine Calls.call_function_entry kind_sorted plain_sorted entry_sorted (args_sorted1 _) ?_
  unfold Builtin.«sorted»
  refine wpAny_bind (m := checkCount "sorted" 1 1 _) (wpAny_pure ?_)
  refine wpAny_bind (wpAny_collect_seq a hT ho hc hdt (fun h' kp => ?_) (by rw [List.size_toArray]; exact hzi))
  have e0 : its.toArray.toList = its := by simp
  rw [e0]
  refine wpAny_bind (wpAny_newList ?_ hzi)
  have hoL : (h'.push (seqObj "list" its.toArray 0)).get? h'.objs.size = some (seqObj "list" its.toArray 0) := Heap.get?_push_size _ rfl
  have hkeep : ∀ b o', s.heap.get? b = some o' → (h'.push (seqObj "list" its.toArray 0)).get? b = some o' := fun b o' e => Heap.get?_push_of_some _ (kp b o' e)
  have e1 : EachIs (fun u (p : V × D) => RelV p.1 u) its (xs.zip ds) := each_zip rv hdl fun v d u _ h => h
  have e2 : EachIs (fun u (p : V × D) => ∃ as, Reads (h'.push (seqObj "list" its.toArray 0)) u p.2 as ∧ h'.objs.size ∉ as) its (xs.zip ds) := each_zip rv hdl fun v d u hm hr => by
    obtain ⟨as, rd⟩ := Dp.reads I d v u (z1 _ hm) hr
    refine ⟨as, PyProof.Rows.Reads.keeps (fun _ _ => hkeep _ _) rd, fun hin => ?_⟩
    obtain ⟨o', ho'⟩ := PyProof.On.reads_mem_get rd _ hin
    exact absurd (Heap.lt_size (kp _ _ ho')) (Nat.lt_irrefl _)
  have hal' : AllAlike ((xs.zip ds).map Prod.snd) := by rw [z2]; exact hal
  have hk' : Sortable ((xs.zip ds).map Prod.snd) := by rw [z2]; exact hk
  show wpAny _ _ _ _ _ { s with heap := h'.push (seqObj "list" its.toArray 0) }
  refine wpAny_bind (wpAny_holding (list_sort_data (R := fun u (p : V × D) => RelV p.1 u) (enc := Prod.snd) (s := { s with heap := h'.push (seqObj "list" its.toArray 0) }) hoL e1 e2 hal' hk' (by rw [List.length_zip]; omega) (fun p hp => ?_) fun out ho1 ho2 => ?_))
  · have hm : p.2 ∈ ds := by
      rw [← z2]
      exact List.mem_map_of_mem (f := Prod.snd) hp
    have h1 := hdep _ hm
    have h2 : X.A.in1.units = X.A.units + 1 := rfl
    rw [h2]
    omega
  · have I1 : L2.Inv X pins σ H { s with heap := h' } := I.kept (t' := s.toks) kp
    have hsz : h'.objs.size < (h'.push (seqObj "list" its.toArray 0)).objs.size := by rw [size_push']; omega
    have k3 : ∀ b u, h'.get? b = some u → (sortedHeap (h'.push (seqObj "list" its.toArray 0)) h'.objs.size its out.toArray).get? b = some u := fun b u e => by
      have hlt := Heap.lt_size e
      rw [sortedHeap_old (Nat.ne_of_lt hlt) (Nat.lt_trans hlt hsz)]
      exact Heap.get?_push_of_some _ e
    obtain ⟨n2, hn2⟩ := sortedHeap_at (out := out.toArray) hoL
    have hv : Vals (((xs.zip ds).mergeSort (dataLe false Prod.snd)).map Prod.fst) out := vals_each ho2
    refine wpAny_pure ⟨_, rfl, .ref h'.objs.size, upd H h'.objs.size (.lst (((xs.zip ds).mergeSort (dataLe false Prod.snd)).map Prod.fst)), I1.laid (t' := s.toks) k3 (Nat.le_refl _) ⟨?_, out, n2, hv, hn2⟩, rfl, q _ _ (fun H' hd' => ?_) (I1.hok.fresh (Nat.le_refl _))⟩
    · rw [List.length_map, List.length_mergeSort, List.length_zip]
      omega
    · obtain ⟨w1, w2, w3⟩ := zip_dpAll hd'
      have e5 : ds.mergeSort dLe = ((xs.zip ds).mergeSort (dataLe false Prod.snd)).map Prod.snd := by
        have := List.map_mergeSort (r := dataLe false Prod.snd) (s := dLe) (f := Prod.snd) (l := xs.zip ds) (fun a _ b _ => rfl)
        rw [this, w2]
      rw [e5]
      exact dpAll_of fun p hp => w1 p (List.mem_mergeSort.mp hp)
/-- data that sorted takes -/
def SortOk (ds : List D) : Prop := (∀ d ∈ ds, sh 31 d = true) ∧ AllAlike ds ∧ Sortable ds
def fSortD : List D → (Rs → Prop) → Prop
  | [.list ds], C => SortOk ds ∧ C (.lst (ds.mergeSort dLe))
  | [.tuple ds], C => SortOk ds ∧ C (.lst (ds.mergeSort dLe))
  | _, _ => False
theorem SortOk.dep {ds : List D} (h : SortOk ds) : ∀ d ∈ ds, d.depth ≤ 32 := fun d hd => by
  have := (sh_lay 31 d (h.1 d hd)).2
  omega
theorem fSortD_ok : Cb X (rSortD X.K) fSortD := fun τ H0 H γ σ ρ vs ds C r b f Q q => by
  unfold fSortD at f
  split at f
  · obtain ⟨v, rfl, p, ws, rfl, hs, ha⟩ := paired1 b
    exact ⟨p, ws, _, rfl, .inl (sqL_same res_le hs), dpAll_same res_le _ _ ha, f.1.2.1, f.1.2.2, f.1.dep, fun ys l hy hl => q _ _ _ f.2 (.new hl) (new_lst r hl (hy _ ha))⟩
  · obtain ⟨v, rfl, p, ws, rfl, hs, ha⟩ := paired1 b
    exact ⟨p, ws, _, rfl, .inr (sqT_same res_le hs), dpAll_same res_le _ _ ha, f.1.2.1, f.1.2.2, f.1.dep, fun ys l hy hl => q _ _ _ f.2 (.new hl) (new_lst r hl (hy _ ha))⟩
  · exact f.elim
end
/-! xs[::-1] -/
section
variable {prog : Program} {w : World} {A : Around} {E : Value → Shared → Prop} {s : Shared}
theorem places_back (n : Nat) : Builtin.Slice.slicePlaces ((n : Int) - 1) (-1) (-1) = n := by
  unfold Builtin.Slice.slicePlaces
  rw [if_neg (by decide), show (- -1 : Int) = 1 from rfl, Int.ediv_one]
  split <;> omega
theorem applied_back {sl : Addr} {vl vu vs : Value} {n : Nat} {Q : Int × Int × Nat → Shared → Prop} (hs : s.heap.IsSliceOf sl vl vu vs) (pl : IsPart vl none) (pu : IsPart vu none) (ps : IsPart vs (some (-1)))
    (h : Q ((n : Int) - 1, -1, n) s) : wpAny (model prog w) A (Builtin.Slice.sliceApplied (.ref sl) (pure (n : Int))) Q E s := by
  obtain ⟨os, hos, hcs, hds⟩ := id hs
  unfold Builtin.Slice.sliceApplied Builtin.Slice.sliceFields
  refine wpAny_bind (wpAny_bind (wpAny_field hos hds (x := vl) rfl (wpAny_bind (wpAny_field hos hds (x := vu) rfl (wpAny_bind (wpAny_field hos hds (x := vs) rfl (wpAny_pure ?_)))))))
  refine wpAny_bind (HT.slicePart_ ps ?_)
  show wpAny _ _ (if ((-1 : Int) == 0) = true then _ else _) _ _ s
  rw [if_neg (by decide)]
  refine wpAny_bind (HT.slicePart_ pl (wpAny_bind (HT.slicePart_ pu (wpAny_bind (wpAny_pure ?_)))))
  show wpAny _ _ (pure ((n : Int) - 1, (-1 : Int), Builtin.Slice.slicePlaces ((n : Int) - 1) (-1) (-1))) _ _ s
  rw [places_back]
  exact wpAny_pure h
theorem fm_congr {α β : Type} {f g : α → Option β} : ∀ {l : List α}, (∀ x ∈ l, f x = g x) → l.filterMap f = l.filterMap g
  | [], _ => rfl
  | a :: l, h => by rw [List.filterMap_cons, List.filterMap_cons, h a (by simp), fm_congr fun x hx => h x (by simp [hx])]
theorem pick_back (xs : Array Value) : ((List.range xs.size).filterMap fun (m : Nat) => xs[((xs.size : Int) - 1 + (m : Int) * (-1)).toNat]?).toArray = xs.toList.reverse.toArray := by
  have e : (List.range xs.size).filterMap (fun (m : Nat) => xs[((xs.size : Int) - 1 + (m : Int) * (-1)).toNat]?) = ((List.range xs.size).map fun k => xs.size - 1 - k).filterMap (xs[·]?) := by
    rw [List.filterMap_map]
    refine fm_congr fun m hm => ?_
    have := List.mem_range.mp hm
    have e2 : ((xs.size : Int) - 1 + (m : Int) * (-1)).toNat = xs.size - 1 - m := by omega
    rw [e2]
    rfl
  rw [e, krv_range, List.filterMap_reverse, krv_all]
theorem getItem_tuple_back {t sl : Addr} {items : Array Value} {vl vu vs : Value} {Q : Value → Shared → Prop} (ht : IsTup s.heap t items) (hs : s.heap.IsSliceOf sl vl vu vs) (pl : IsPart vl none) (pu : IsPart vu none) (ps : IsPart vs (some (-1)))
    (h : Q (.ref s.heap.objs.size) { s with heap := s.heap.push { cls := .type "tuple", data := .seq items.toList.reverse.toArray } }) (hsz : items.size ≤ sizeLine) : wpAny (model prog w) A (getItem (.ref t) (.ref sl)) Q E s := by
  have htake : sizeOk (.seq items.toList.reverse.toArray) := by
    show items.toList.reverse.toArray.size ≤ sizeLine
    rw [List.size_toArray, List.length_reverse, Array.length_toList]
    exact hsz
  obtain ⟨os, hos, hcs, hds⟩ := id hs
  have hTs : s.TypeIs (.ref sl) "slice" := ⟨os, hos, hcs⟩
  unfold getItem
  try with_reducible refine wpAny_holding ?_
  first | refine wpAny_bind (wpAny_pure ?_) | skip
  refine wpAny_bind (wpAny_sequenceKey ht.typeIs (by decide) ?_)
  refine wpAny_bind (wpAny_callSpecial?_slot (name := Str.ofString "__getitem__") ht.typeIs PyProof.Rows.slot_tuple_getitem
    (wpAny_call_entry PyProof.Rows.slot_tuple_getitem ht.typeIs PyProof.Rows.entry_tuple_getitem ?_ (PyProof.Rows.args_tuple_getitem _ _)))
  show wpAny _ _ (Builtin.Tuple.tupleItemsOf (.ref t) >>= _) _ _ s
  refine wpAny_bind (PyProof.Rows.tupleItemsOf_ ht ?_)
  refine wpAny_bind (wpAny_typeOf hTs ?_)
  rw [if_pos (by decide)]
  refine wpAny_bind (applied_back hs pl pu ps ?_)
  have hno : ¬ (((((items.size : Int) - 1) == 0) && ((-1 : Int) == 1) && (items.size == items.size)) = true) := by simp
  show wpAny _ _ (if ((((items.size : Int) - 1) == 0) && ((-1 : Int) == 1) && (items.size == items.size)) = true then _ else _) _ _ s
  rw [if_neg hno, pick_back]
  first
    | exact wpAny_bind (m := Builtin.Tuple.tupleExact _) (wpAny_newObj_type (wpAny_pure ⟨_, rfl, wpAny_pure h⟩) htake)
    | exact wpAny_bind (m := Builtin.Tuple.tupleExact _) (wpAny_newObj_type (wpAny_bind (wpAny_pure (wpAny_pure ⟨_, rfl, wpAny_pure h⟩))) htake)
    | exact wpAny_bind (wpAny_bind (m := Builtin.Tuple.tupleExact _) (wpAny_newObj_type (wpAny_pure (wpAny_pure ⟨_, rfl, wpAny_pure h⟩)) htake))
    | exact wpAny_bind (wpAny_bind (m := Builtin.Tuple.tupleExact _) (wpAny_newObj_type (wpAny_pure ⟨_, rfl, wpAny_pure h⟩) htake))
end
section
variable {X : Cx}
def tRev (K : PySem.W.Frag) (te : TE) : TE := fun σ H Q => te σ H fun x H1 => ∃ a xs, x = .ref a ∧ ((SqL K H1 a xs ∧ ∀ p, H1 p = none → Q (.ref p) (upd H1 p (.lst xs.reverse))) ∨ (SqT K H1 a xs ∧ ∀ p o, o.dict = none → H1 p = none → Q (.ref p) (upd H1 p (.frz o (.tup xs.reverse)))))
theorem pe_rev {e : Expr} {te : TE} {k : Nat} {p1 p2 p3 pos : Pos} (he : PE X e te) : PE X (.Subscript e (.Slice none none (some (.UnaryOp .USub (.Constant (.int 1) k p1) p2)) p3) pos) (tRev X.K te) := by
  refine ⟨fun pins s σ H Q I h => ?_⟩
  refine Subscript_ (thn (he.run pins s σ H _ I h) fun v s1 ⟨x, H1, I1, r1, q1⟩ => ?_)
  obtain ⟨a, xs, ex, q⟩ := q1
  subst ex
  cases r1
  have hst : PO X (some (.UnaryOp .USub (.Constant (.int 1) k p1) p2)) (tPart (tUn (rU fun i => .int (-i)) (tC (.int 1)))) := po_some (pe_un un_neg pe_int)
  refine wpAny_Slice (thn (po_none.run pins s1 σ H1 (fun o H2 => o = none ∧ H2 = H1) I1 ⟨rfl, rfl⟩) fun vl s2 ⟨l, H2, I2, pl, el, e2⟩ => ?_)
  subst el e2
  refine thn (po_none.run pins s2 σ H2 (fun o H3 => o = none ∧ H3 = H2) I2 ⟨rfl, rfl⟩) fun vu s3 ⟨u, H3, I3, pu, eu, e3⟩ => ?_
  subst eu e3
  refine thn (hst.run pins s3 σ H3 (fun o H4 => o = some (-1) ∧ H4 = H3) I3 ⟨1, rfl, -1, rfl, rfl, rfl⟩) fun vs s4 ⟨o, H4, I4, ps, eo, e4⟩ => ?_
  subst eo e4
  have I5 : L2.Inv X pins σ H4 { s4 with heap := s4.heap.push { cls := .type "slice", data := .fields #[vl, vu, vs] } } := I4.kept (t' := s4.toks) fun b ob q => Heap.get?_push_of_some _ q
  show wpAny (model X.prog X.w) X.A (subscriptTail e (.Slice none none (some (.UnaryOp .USub (.Constant (.int 1) k p1) p2)) p3) (.ref a) (.ref s4.heap.objs.size)) (EP X pins σ Q) X.xe { s4 with heap := s4.heap.push { cls := .type "slice", data := .fields #[vl, vu, vs] } }
  rcases q with ⟨hx, q⟩ | ⟨hx, q⟩
  · obtain ⟨its, r, ht, hz⟩ := I5.list hx
    have hlen := r.length
    refine tail_any (ops := [.ref a, .ref s4.heap.objs.size]) ht.isList.typeIs (PySem.slot_list_getitem.lookup) ?_ (by with_unfolding_all rfl)
    refine wpAny_getItem_list_slice ht.isList (Heap.IsSliceOf.new _ vl vu vs) pl pu ps (by decide) ?_ (by rw [List.size_toArray]; omega)
    rw [PySem.W.krv_pick]
    refine ⟨.ref _, _, I5.laid (t' := s4.toks) (o := .lst xs.reverse) (fun b ob q => Heap.get?_push_of_some _ q) (Nat.le_refl _) ?_, rfl, q _ (I5.hok.fresh (Nat.le_refl _))⟩
    exact ⟨by rw [List.length_reverse]; exact hz, _, 0, r.reverse, Heap.get?_push_size _ rfl⟩
  · obtain ⟨its, r, ht, hz⟩ := I5.tuple hx
    have hlen := r.length
    refine tail_any (ops := [.ref a, .ref s4.heap.objs.size]) ht.typeIs PyProof.Rows.slot_tuple_getitem.lookup ?_ (by with_unfolding_all rfl)
    refine getItem_tuple_back ht (Heap.IsSliceOf.new _ vl vu vs) pl pu ps ?_ (by rw [List.size_toArray]; omega)
    exact ⟨.ref _, _, inv_plT (t' := s4.toks) I5 (xs := xs.reverse) (by rw [List.length_reverse]; exact hz) r.reverse, rfl, q _ _ rfl (I5.hok.fresh (Nat.le_refl _))⟩
theorem dpAll_rev {K : PySem.W.Frag} {H : Hp} {vs : List V} {ds : List D} (h : DpAll K H vs ds) : DpAll K H vs.reverse ds.reverse := by
  obtain ⟨h1, h2, h3⟩ := zip_dpAll h
  have := dpAll_of (ps := (vs.zip ds).reverse) fun p hp => h1 p (List.mem_reverse.mp hp)
  rwa [List.map_reverse, List.map_reverse, h2, h3] at this
variable {τ : Tn} {a : Expr} {t : UV} {pos : Pos}
def fRev : D → (Rs → Prop) → Prop
  | .list ds, C => C (.lst ds.reverse)
  | .tuple ds, C => C (.dat (.tuple ds.reverse))
  | _, _ => False
def eRev (t : UV) : UE := fun ρ C => t ρ fun d => fRev d C
theorem je_rev {k : Nat} {p1 p2 p3 : Pos} (ha : JV τ X a t) : JE τ X (.Subscript a (.Slice none none (some (.UnaryOp .USub (.Constant (.int 1) k p1) p2)) p3) pos) (eRev t) := by
  intro ρ C c H0 γ σ H r Q q
  refine wpE_of (pe_rev pe_w) (ha ρ _ c H0 γ σ H r _ fun d v H2 c e b => ?_)
  have r2 := r.after e
  cases d with
  | list ds =>
    obtain ⟨p, vs, rfl, hs, ha⟩ := b
    refine ⟨p, vs, rfl, .inl ⟨sqL_same res_le hs, fun p' hp => q _ _ _ c (e.trans (.new hp)) ⟨p', _, rfl, e.fresh r.inv hp, upd_same, dpAll_same (res_mono fun a o n ea => ?_) _ _ (dpAll_rev ha)⟩⟩⟩
    have hne : a ≠ p' := ne_of_none ea hp
    exact ⟨fun z => z.elim n hne, by rw [upd_ne hne]; exact ea⟩
  | tuple ds =>
    obtain ⟨p, vs, rfl, hs, ha⟩ := b
    exact ⟨p, vs, rfl, .inr ⟨sqT_same res_le hs, fun p' o ho hp => q _ _ _ c (e.trans (.new hp)) (.tup (.inl (.inr ⟨o, res_put (r2.notOwn hp) upd_same ho⟩)) (dpAll_after (.new hp) (dpAll_rev ha)))⟩⟩
  | str x => exact c.elim
  | none => exact c.elim
  | bool _ => exact c.elim
  | int _ => exact c.elim
  | dict _ => exact c.elim
end
/-! lemmas for the math -/
section
variable {ds : List D} {R : Rs → Prop} {ρ : En} {tv : UV}
theorem c_eRev : eRev tv ρ R = tv ρ fun d => fRev d R := propext Iff.rfl
theorem q_rev_l : fRev (.list ds) R = R (.lst ds.reverse) := rfl
theorem q_rev_t : fRev (.tuple ds) R = R (.dat (.tuple ds.reverse)) := rfl
theorem q_sortd_l : fSortD [.list ds] R = (SortOk ds ∧ R (.lst (ds.mergeSort dLe))) := rfl
theorem q_sortd_t : fSortD [.tuple ds] R = (SortOk ds ∧ R (.lst (ds.mergeSort dLe))) := rfl
end
end Pu
/-! ### dicts of one's own: {}, d[k] = v, d.update(e), dict(pairs), sorted(d), d[k], d.get(k, v) -/
namespace Pu
open PySem PySem.Spec PyProof.Rows L2 PySem.W
def keyD : D → Option Key
  | .int i => some (.inl i)
  | .str x => some (.inr x)
  | _ => none
theorem dp_key {K : PySem.W.Frag} {H : Hp} {v : V} {d : D} {k : Key} (h : Dp K H v d) (e : keyD d = some k) : v = kV k := by
  cases d with
  | int i => cases e; cases h; rfl
  | str x => cases e; cases h; rfl
  | none => cases e
  | bool b => cases e
  | list ds => cases e
  | tuple ds => cases e
  | dict kvs => cases e
/-- a key's datum stored -/
def putD (kds : List (Key × D)) (k : Key) (d : D) : List (Key × D) :=
  if kds.any (fun p => decide (p.1 = k)) then kds.map fun p => if p.1 = k then (p.1, d) else p else kds ++ [(k, d)]
def mergeD (kds more : List (Key × D)) : List (Key × D) := more.foldl (fun acc p => putD acc p.1 p.2) kds
theorem kv_any {K : PySem.W.Frag} {H : Hp} {k : Key} : ∀ {kvs : List (Key × V)} {kds : List (Key × D)}, KvOk K H kvs kds → (kvs.any fun p => decide (p.1 = k)) = kds.any fun p => decide (p.1 = k)
  | _, _, .nil => rfl
  | _, _, .cons h t => by
    rw [List.any_cons, List.any_cons, kv_any t, h.1]
theorem kv_map {K : PySem.W.Frag} {H : Hp} {k : Key} {v : V} {d : D} (hv : Dp K H v d) : ∀ {kvs : List (Key × V)} {kds : List (Key × D)}, KvOk K H kvs kds → KvOk K H (kvs.map fun p => if p.1 = k then (p.1, v) else p) (kds.map fun p => if p.1 = k then (p.1, d) else p)
  | _, _, .nil => .nil
  | _, _, .cons (a := p) (b := q) h t => by
    rw [List.map_cons, List.map_cons]
    refine .cons ?_ (kv_map hv t)
    rw [← h.1]
    by_cases e : p.1 = k
    · rw [if_pos e, if_pos e]
      exact ⟨rfl, hv⟩
    · rw [if_neg e, if_neg e]
      exact h
theorem kv_app {K : PySem.W.Frag} {H : Hp} {k : Key} {v : V} {d : D} (hv : Dp K H v d) : ∀ {kvs : List (Key × V)} {kds : List (Key × D)}, KvOk K H kvs kds → KvOk K H (kvs ++ [(k, v)]) (kds ++ [(k, d)])
  | _, _, .nil => .cons ⟨rfl, hv⟩ .nil
  | _, _, .cons h t => .cons h (kv_app hv t)
theorem kv_put {K : PySem.W.Frag} {H : Hp} {k : Key} {v : V} {d : D} {kvs : List (Key × V)} {kds : List (Key × D)} (h : KvOk K H kvs kds) (hv : Dp K H v d) : KvOk K H (putK kvs k v) (putD kds k d) := by
  unfold putK putD
  rw [kv_any h]
  split
  · exact kv_map hv h
  · exact kv_app hv h
theorem kv_merge {K : PySem.W.Frag} {H : Hp} : ∀ {more : List (Key × V)} {mds : List (Key × D)} {kvs : List (Key × V)} {kds : List (Key × D)}, KvOk K H more mds → KvOk K H kvs kds → KvOk K H (mergeK kvs more) (mergeD kds mds)
  | _, _, _, _, .nil, h => h
  | _, _, _, _, .cons (a := p) (b := q) h1 t, h => by
    have e := h1.1
    show KvOk K H (mergeK (putK _ p.1 p.2) _) (mergeD (putD _ q.1 q.2) _)
    rw [e]
    exact kv_merge t (kv_put h h1.2)
theorem kv_len {K : PySem.W.Frag} {H : Hp} : ∀ {kvs : List (Key × V)} {kds : List (Key × D)}, KvOk K H kvs kds → kvs.length = kds.length
  | _, _, .nil => rfl
  | _, _, .cons h t => by rw [List.length_cons, List.length_cons, kv_len t]
theorem kv_keys {K : PySem.W.Frag} {H : Hp} : ∀ {kvs : List (Key × V)} {kds : List (Key × D)}, KvOk K H kvs kds → kvs.map (·.1) = kds.map (·.1)
  | _, _, .nil => rfl
  | _, _, .cons h t => by rw [List.map_cons, List.map_cons, kv_keys t, h.1]
def getD? (kds : List (Key × D)) (k : Key) : Option D := (kds.find? fun p => decide (p.1 = k)).map (·.2)
theorem kv_get {K : PySem.W.Frag} {H : Hp} {k : Key} : ∀ {kvs : List (Key × V)} {kds : List (Key × D)}, KvOk K H kvs kds → (∀ d, getD? kds k = some d → ∃ v, valV kvs k = some v ∧ Dp K H v d) ∧ (getD? kds k = none → valV kvs k = none)
  | _, _, .nil => ⟨fun _ h => (by cases h), fun _ => rfl⟩
  | _, _, .cons (a := p) (b := q) h t => by
    unfold getD? valV
    obtain ⟨i1, i2⟩ := kv_get (k := k) t
    rw [List.find?_cons, List.find?_cons, h.1]
    by_cases e : q.1 = k
    · simp only [e, decide_true]
      exact ⟨fun d hd => ⟨_, rfl, by cases hd; exact h.2⟩, fun hd => by cases hd⟩
    · simp only [e, decide_false]
      exact ⟨i1, i2⟩
section
variable {τ : Tn} {G : Gx} {cp : List Str} {N : List Str} {sc : Scope} {k : Nat} {X : Cx} {e e2 : Expr} {tv tw : UV} {te : UE} {pos p2 p3 apos : Pos} {x : Str}
/-- {} -/
def eDic0 : UE := fun _ C => C (.dic [])
theorem je_dic0 : JE τ X (.Dict [] [] pos) eDic0 := fun ρ C c H0 γ σ H r Q q =>
  wpE_of pe_dnewK fun p hp => q (.dic []) (.ref p) _ c (.new hp) ⟨p, [], rfl, hp, upd_same, .nil⟩
/-- x[k] = v -/
def sDPutD (i : Nat) (tk tv : UV) : US := fun E ρ => match ρ[i]? with
  | some (.dic kds) => tv ρ fun d => tk ρ fun dk => ∃ k, keyD dk = some k ∧ kds.length < 1000000 ∧ E.nx (ρ.set i (.dic (putD kds k d)))
  | _ => False
theorem js_dput (S : Ok cp G N sc k X) (i : Nat) (hk : JD τ X e tw) (hv : JD τ X e2 tv) (hN : N[i]? = some x := by rfl) (hvis : Vis sc x := by first | exact Or.inl rfl | exact Or.inr (Or.inl rfl) | exact Or.inr (Or.inr rfl)) (hd : (x == ("__debug__" : Str)) = false := by decide) (hcd : (x == ("__classdict__" : Str)) = false := by decide)
    (hs : swapsWith e2 (some (.Subscript (.Name x p2) e p3)) pos.line X.env = pure false := by rfl) :
    JS τ X (.Assign [.Subscript (.Name x p2) e p3] e2 pos) (sDPutD i tw tv) := fun ρ E c H0 γ σ H r Dn d => by
  refine wpS_of (ps_dput (by have := S.room.un; omega) (pe_var (i := i) (by rw [S.eN]; exact hN) (by rw [S.es]; exact hvis) hd hcd) pe_w pe_w hs) ?_
  unfold sDPutD at c
  split at c
  · rename_i kds hi
    obtain ⟨p, kvs, e0, h0, hn, h, h'⟩ := r.sl i _ hi
    refine hv ρ _ c H0 γ σ H r _ fun d1 v1 H1 c e1 b1 => ⟨_, e0, ?_⟩
    refine hk ρ _ c H0 γ σ H1 (r.after e1) _ fun d2 v2 H2 c e2 b2 => ?_
    obtain ⟨kk, hkk, hl, c⟩ := c
    have e12 := e1.trans e2
    have hp := e12.kp p _ h hn
    have b1' := dp_after e2 b1
    have h2 := KvOk.same (res_ext e12 fun _ => own_ad) h'
    refine ⟨p, _, rfl, ?_, d.nx _ _ _ c ((r.after e12).change hi rfl rfl e0 hn h0 ⟨p, _, rfl, h0, hn, upd_same, kv_put h2 b1'⟩)⟩
    rw [dp_key b2 hkk]
    exact DPut.k hp (by rw [kv_len h']; exact slice_line (by omega))
  · exact c.elim
/-- x.update(a new dict) -/
theorem putK_lenD {kvs : List (Key × V)} {k : Key} {v : V} : (putK kvs k v).length ≤ kvs.length + 1 := length_putK kvs k v
theorem mergeK_lenD : ∀ {more kvs : List (Key × V)}, (mergeK kvs more).length ≤ kvs.length + more.length
  | [], kvs => Nat.le_refl _
  | p :: more, kvs => by
    have h1 := mergeK_lenD (more := more) (kvs := putK kvs p.1 p.2)
    have h2 := putK_lenD (kvs := kvs) (k := p.1) (v := p.2)
    have e : mergeK kvs (p :: more) = mergeK (putK kvs p.1 p.2) more := rfl
    rw [e, List.length_cons]
    omega
def rUpdD : V → List V → Hp → VK → Prop := fun x xs H Q => ∃ (a b : Addr) (kvs more : List (Key × V)), x = .ref a ∧ xs = [.ref b] ∧ a ≠ b ∧ H a = some (.dK kvs) ∧ H b = some (.dK more) ∧ kvs.length + more.length ≤ sizeLine ∧ Q .non (upd H a (.dK (mergeK kvs more)))
theorem mt_updD {X : Cx} : MtR X "dict.update" rUpdD := by
  intro pins s σ H x xs v us Q I rx rv h
  obtain ⟨a, b, kvs, more, rfl, rfl, ne, ha, hb, hl, q⟩ := h
  obtain rfl : v = Value.ref a := rx
  cases rv with
  | cons rb rn =>
    cases rn
    rename_i u
    obtain rfl : u = Value.ref b := rb
    obtain ⟨z, hd, vs, rel, dd⟩ := dk_of I.hok ha
    obtain ⟨z', hd', ws, rel', dd'⟩ := dk_of I.hok hb
    refine call_meetsIn PySem.F.slot_dict_update dd.typeIs PySem.F.entry_dict_update (PySem.F.args_dict_update_2 _ _) (meets_dict_update (mixKind X.prog X.w) a b ne hd') ⟨vs, ws, dd, dd', by rw [← rel.length, ← rel'.length]; exact hl, fun h' m1 _ sb => ?_⟩
    have he : ∃ q, h'.get? a = some q := let ⟨q, _, _, hq, _⟩ := m1; ⟨q, hq⟩
    exact ⟨.non, _, d_write (t' := s.toks) I (by rw [ha]; exact True.intro) sb he (dk_new (Nat.le_trans mergeK_lenD hl) hd (KV.merge rel' rel) m1), rfl, q⟩
def sDUpd (i : Nat) (te : UE) : US := fun E ρ => match ρ[i]? with
  | some (.dic kds) => te ρ fun r => match r with
    | .dic more => kds.length + more.length ≤ 1000000 ∧ E.nx (ρ.set i (.dic (mergeD kds more)))
    | _ => False
  | _ => False
theorem js_dupd (S : Ok cp G N sc k X) (i : Nat) (he : JE τ X e te) (hN : N[i]? = some x := by rfl) (hv : Vis sc x := by first | exact Or.inl rfl | exact Or.inr (Or.inl rfl) | exact Or.inr (Or.inr rfl)) (hd : (x == ("__debug__" : Str)) = false := by decide) (hcd : (x == ("__classdict__" : Str)) = false := by decide)
    (hfew : ((backTo p3 (starEach [e] X.env)).all (fun x => !x.1) && (backToKw p3 (keywordEach [] X.env)).all (fun x => x.1.isSome) && decide ([e].length + ([] : List Keyword).length + (if ([] : List Keyword).isEmpty then 0 else 1) < 30)) = true := by rfl)
    (hline : (apos.endLine == p3.line) = true := by rfl) (hst : starEach [e] X.env = (false, eval e X.env) :: starEach [] X.env := by rfl) :
    JS τ X (.Expr (.Call (.Attribute (.Name x p2) "update" apos) [e] [] p3) pos) (sDUpd i te) := fun ρ E c H0 γ σ H r Dn d => by
  refine wpS_of (ps_expr (pe_bm PySem.F.plainAttrs_dict PySem.F.slot_dict_update PySem.F.type_dict_update mt_updD (pe_var (i := i) (by rw [S.eN]; exact hN) (by rw [S.es]; exact hv) hd hcd) (pa_cons pe_w pa_nil hst) rfl hfew hline hst rfl)) ?_
  unfold sDUpd at c
  split at c
  · rename_i kds hi
    obtain ⟨p, kvs, e0, h0, hn, h, h'⟩ := r.sl i _ hi
    refine ⟨_, e0, .inr (.inr (.inl ⟨rfl, .inl ⟨_, h⟩⟩)), he ρ _ c H0 γ σ H r _ fun rs v H2 c e1 h1 => ?_⟩
    cases rs with
    | dat _ => exact c.elim
    | lst _ => exact c.elim
    | dic more =>
      obtain ⟨q, ws, rfl, hq, hq2, ha⟩ := h1
      have hp := e1.kp p _ h hn
      have ne : p ≠ q := fun z => by rw [z, hq] at h; cases h
      refine ⟨p, q, kvs, ws, rfl, rfl, ne, hp, hq2, ?_, d.nx _ _ _ c.2 ?_⟩
      · rw [kv_len h', kv_len ha]; exact small_line c.1
      · exact (r.after e1).change hi rfl rfl e0 hn h0 ⟨p, _, rfl, h0, hn, upd_same, kv_merge (KvOk.same (res_mono fun b o n eb => ⟨fun z => n (.inl z), eb⟩) ha) (KvOk.same (res_ext e1 fun _ => own_ad) h')⟩
  · exact c.elim
/-! dict(a list of pairs) -/
def pairK : D → Option (Key × D)
  | .tuple [a, b] => (keyD a).map fun k => (k, b)
  | _ => none
def pairsK : List D → Option (List (Key × D))
  | [] => some []
  | d :: ds => match pairK d, pairsK ds with
    | some p, some ps => some (p :: ps)
    | _, _ => none
theorem pairsK_dp {K : PySem.W.Frag} {H H' : Hp} (hs : Same H H') : ∀ {ds : List D} {kds : List (Key × D)} {ws : List V}, pairsK ds = some kds → DpAll K H ws ds → ∃ (ps : List Addr) (kvs : List (Key × V)), ws = ps.map V.ref ∧ Paired (fun p kv => SqT K H' p [kV kv.1, kv.2]) ps kvs ∧ KvOk K H kvs kds
  | [], kds, ws, e, h => by
    cases e
    cases h
    exact ⟨[], [], rfl, .nil, .nil⟩
  | d :: ds, kds, ws, e, h => by
    unfold pairsK at e
    split at e
    · rename_i p ps e1 e2
      cases e
      cases h with
      | cons h1 h2 =>
        obtain ⟨as, kvs, rfl, hp, hk⟩ := pairsK_dp hs e2 h2
        unfold pairK at e1
        split at e1
        · rename_i a b
          cases ek : keyD a with
          | none => rw [ek] at e1; cases e1
          | some k =>
            rw [ek] at e1
            cases e1
            cases h1 with
            | tup hs1 ha =>
              rename_i q vs
              cases ha with
              | cons g1 g2 =>
                cases g2 with
                | cons g2 g3 =>
                  cases g3
                  rename_i v1 v2
                  have e5 := dp_key g1 ek
                  subst e5
                  exact ⟨q :: as, (k, v2) :: kvs, rfl, .cons (sqT_same hs hs1) hp, .cons ⟨rfl, g2⟩ hk⟩
        · cases e1
    · cases e
def fDictP : List D → (Rs → Prop) → Prop
  | [.list ds], C => ∃ kds, pairsK ds = some kds ∧ C (.dic (mergeD [] kds))
  | _, _ => False
theorem fDictP_ok : Cb X (fun xs H Q => ∃ (a : Addr) (ps : List Addr) (kvs : List (Key × V)), xs = [.ref a] ∧ SqL X.K H a (ps.map V.ref) ∧ Paired (fun p kv => SqT X.K H p [kV kv.1, kv.2]) ps kvs ∧ ∀ p, H p = none → Q (.ref p) (upd H p (.dK (mergeK [] kvs)))) fDictP := fun τ H0 H γ σ ρ vs ds C r b f Q q => by
  unfold fDictP at f
  split at f
  · obtain ⟨v, rfl, p, ws, rfl, hs, ha⟩ := paired1 b
    obtain ⟨kds, h1, h2⟩ := f
    obtain ⟨ps, kvs, rfl, hp, hk⟩ := pairsK_dp res_le h1 ha
    refine ⟨p, ps, kvs, rfl, sqL_same res_le hs, hp, fun l hl => q _ _ _ h2 (.new hl) ⟨l, _, rfl, hl, upd_same, KvOk.same (res_mono fun a o n ea => ?_) (kv_merge hk .nil)⟩⟩
    have hne : a ≠ l := ne_of_none ea hl
    exact ⟨fun z => z.elim n hne, by rw [upd_ne hne]; exact ea⟩
  · exact f.elim
/-! sorted(x), x a dict of one's own with ints for keys -/
def eSortK (i : Nat) : UE := fun ρ C => match ρ[i]? with
  | some (.dic kds) => ∃ ks : List Int, kds.map (·.1) = ks.map Sum.inl ∧ ks.length < 64 ∧ ∀ ys : List Int, ys.Perm ks → ys.Pairwise (· ≤ ·) → C (.lst (ys.map PyData.int))
  | _ => False
theorem je_sortK (S : Ok cp G N sc k X) (i : Nat) (hm : Free G "sorted") (hN : N[i]? = some x := by rfl) (hvis : Vis sc x := by first | exact Or.inl rfl | exact Or.inr (Or.inl rfl) | exact Or.inr (Or.inr rfl)) (hd : (x == ("__debug__" : Str)) = false := by decide) (hcd : (x == ("__classdict__" : Str)) = false := by decide)
    (hg : sc.names.lookup ("sorted" : Str) = some .globalImplicit := by rfl) : JE τ X (.Call (.Name "sorted" p2) [.Name x p3] [] pos) (eSortK i) := fun ρ C c H0 γ σ H r Q q => by
  refine wpE_of (pe_callB (call_sortedDI S.calm) (by show X.env.scope.names.lookup ("sorted" : Str) = _; rw [S.es]; exact hg) (by rw [S.em]; exact hm) (by decide +kernel : bootBuiltins "sorted" = some (.builtin "sorted")) (pa_cons (pe_var (i := i) (by rw [S.eN]; exact hN) (by rw [S.es]; exact hvis) hd hcd) pa_nil (by rfl)) (by decide) (by decide) (by rfl) (by rfl)) ?_
  unfold eSortK at c
  split at c
  · rename_i kds hi
    obtain ⟨p, kvs, e0, h0, hn, h, h'⟩ := r.sl i _ hi
    obtain ⟨ks, h1, h2, h3⟩ := c
    exact ⟨_, e0, p, kvs, ks, rfl, .inl h, (kv_keys h').trans h1, h2, fun ys l y1 y2 hl => q _ _ _ (h3 ys y1 y2) (.new hl) (new_lst r hl (dp_ints ys))⟩
  · exact c.elim
/-! x[k], x a dict of one's own -/
def dDGet (i : Nat) (tk : UV) : UV := fun ρ C => match ρ[i]? with
  | some (.dic kds) => tk ρ fun dk => ∃ k d, keyD dk = some k ∧ getD? kds k = some d ∧ C d
  | _ => False
theorem jd_dget (S : Ok cp G N sc k X) (i : Nat) (hk : JD τ X e tw) (hN : N[i]? = some x := by rfl) (hvis : Vis sc x := by first | exact Or.inl rfl | exact Or.inr (Or.inl rfl) | exact Or.inr (Or.inr rfl)) (hd : (x == ("__debug__" : Str)) = false := by decide) (hcd : (x == ("__classdict__" : Str)) = false := by decide)
    (hs : NoSl e := by exact fun _ _ => rfl) : JD τ X (.Subscript (.Name x p2) e pos) (dDGet i tw) := fun ρ C c H0 γ σ H r Q q => by
  refine wpE_of (pe_dget (by have := S.room.un; omega) (pe_var (i := i) (by rw [S.eN]; exact hN) (by rw [S.es]; exact hvis) hd hcd) pe_w hs) ?_
  unfold dDGet at c
  split at c
  · rename_i kds hi
    obtain ⟨p, kvs, e0, h0, hn, h, h'⟩ := r.sl i _ hi
    refine ⟨_, e0, hk ρ _ c H0 γ σ H r _ fun d2 v2 H2 c e2 b2 => ?_⟩
    obtain ⟨kk, dd, hkk, hg, c⟩ := c
    have hp := e2.kp p _ h hn
    have h2 := KvOk.same (res_ext e2 fun _ => own_ad) h'
    obtain ⟨v, hv1, hv2⟩ := (kv_get (k := kk) h2).1 dd hg
    refine ⟨p, v, rfl, ?_, q _ _ _ c e2 hv2⟩
    rw [dp_key b2 hkk, ← hv1]
    exact DGet.k hp
  · exact c.elim
end
/-! what is never reached -/
def eNo : UE := fun _ _ => False
theorem je_no {τ : Tn} {X : Cx} {e : Expr} : JE τ X e eNo := fun _ _ c => c.elim
/-! range(a, b, -1) -/
def dnD (lo : Int) (n : Nat) : List D := (List.range n).map fun (i : Nat) => .int (lo - (i : Int))
theorem dnD_len {lo : Int} {n : Nat} : (dnD lo n).length = n := by
  unfold dnD
  rw [List.length_map, List.length_range]
theorem itOk_dn {K : PySem.W.Frag} {τ : Tn} {lo : Int} {n : Nat} : ItOk K τ (Itc lo (-1) n) [] (dnD lo n) where
  go := fun H ow g i hi => by rw [dnD_len] at hi; exact hi
  yld := fun H ow g hr i d hd x H' y => by
    obtain ⟨rfl, rfl⟩ := y
    unfold dnD at hd
    rw [List.getElem?_map] at hd
    by_cases hi : i < n
    · rw [List.getElem?_range hi] at hd
      cases hd
      refine ⟨Same.refl _, ?_⟩
      have e : lo + (i : Int) * (-1) = lo - (i : Int) := by omega
      rw [e]
      exact .int _
    · rw [List.getElem?_eq_none (by rw [List.length_range]; omega)] at hd
      cases hd
  stop := fun H ow g i hi => by rw [dnD_len] at hi; exact hi
section
variable {τ : Tn} {G : Gx} {cp : List Str} {N : List Str} {sc : Scope} {k : Nat} {X : Cx} {e e2 tg : Expr} {tv tw : UV} {pos p : Pos}
def iRangeN (tv tw : UV) : UL := fun ρ C => tv ρ fun d => tw ρ fun d2 => ∃ m n, d = .int m ∧ d2 = .int n ∧ m - n ≤ 1000000 ∧ -1000000000000 ≤ m ∧ m ≤ 1000000000000 ∧ -1000000000000 ≤ n ∧ n ≤ 1000000000000 ∧ C (dnD m (m - n).toNat)
theorem ji_rangeN {j : Nat} {p1 p2 : Pos} (S : Ok cp G N sc k X) (hm : Free G "range") (he : JV τ X e tv) (he2 : JV τ X e2 tw) (hg : sc.names.lookup ("range" : Str) = some .globalImplicit := by rfl) (hs : starEach [e, e2, (.UnaryOp .USub (.Constant (.int 1) j p1) p2)] X.env = (false, eval e X.env) :: starEach [e2, (.UnaryOp .USub (.Constant (.int 1) j p1) p2)] X.env := by rfl)
    (hs2 : starEach [e2, (.UnaryOp .USub (.Constant (.int 1) j p1) p2)] X.env = (false, eval e2 X.env) :: starEach [(.UnaryOp .USub (.Constant (.int 1) j p1) p2)] X.env := by rfl) (hpl : (backTo pos (starEach [e2, (.UnaryOp .USub (.Constant (.int 1) j p1) p2)] X.env)).any (·.1) = false := by rfl) :
    JI τ X tg (.Call (.Name "range" p) [e, e2, (.UnaryOp .USub (.Constant (.int 1) j p1) p2)] [] pos) (iRangeN tv tw) := fun ρ C c H0 γ σ H r R q =>
  wpI_of (pi_range3 (by show X.env.scope.names.lookup _ = _; rw [S.es]; exact hg) (by rw [S.em]; exact hm) (pa_cons pe_w (pa_cons pe_w (pa_cons (pe_un un_neg pe_int) pa_nil (by rfl)) hs2) hs) hs hpl) (he ρ _ c H0 γ σ H r _ fun d v H2 c e1 h => he2 ρ _ c H0 γ σ H2 (r.after e1) _ fun d2 v2 H3 c e2 h2 => by
    obtain ⟨m, n, rfl, rfl, h3, h4, h5, h6, h7, c⟩ := c
    cases h; cases h2
    obtain ⟨a1, b1⟩ := pow62 (n := m) (by omega) (by omega)
    obtain ⟨a2, b2⟩ := pow62 (n := n) (by omega) (by omega)
    exact ⟨1, rfl, m, n, -1, (m - n).toNat, rfl, RgC.neg a1 b1 a2 b2, q _ [] _ H3 c (e1.trans e2) (fun p hp => by cases hp) itOk_dn (by rw [dnD_len]; exact small_line (by omega))⟩)
end
/-! lemmas for the math -/
section
variable {ρ : En} {R : Rs → Prop} {C : D → Prop} {E : Ed} {i : Nat} {tv tw : UV} {te : UE} {kds : List (Key × D)} {ds : List D}
def kSl : Option Sl → (List (Key × D) → Prop) → Prop
  | some (.dic kds), C => C kds
  | _, _ => False
theorem kSl_d {C : List (Key × D) → Prop} : kSl (some (.dic kds)) C = C kds := rfl
def kRs : Rs → (List (Key × D) → Prop) → Prop
  | .dic kds, C => C kds
  | _, _ => False
theorem kRs_d {C : List (Key × D) → Prop} : kRs (.dic kds) C = C kds := rfl
theorem c_eNo : eNo ρ R = False := rfl
theorem c_eDic0 : eDic0 ρ R = R (.dic []) := propext Iff.rfl
theorem c_sDPutD : sDPutD i tw tv E ρ = kSl ρ[i]? fun kds => tv ρ fun d => tw ρ fun dk => ∃ k, keyD dk = some k ∧ kds.length < 1000000 ∧ E.nx (ρ.set i (.dic (putD kds k d))) := by
  unfold sDPutD
  cases ρ[i]? with
  | none => rfl
  | some s => cases s <;> rfl
theorem c_sDUpd : sDUpd i te E ρ = kSl ρ[i]? fun kds => te ρ fun r => kRs r fun more => kds.length + more.length ≤ 1000000 ∧ E.nx (ρ.set i (.dic (mergeD kds more))) := by
  unfold sDUpd
  cases ρ[i]? with
  | none => rfl
  | some s =>
    cases s with
    | dic kds =>
      show te ρ _ = te ρ _
      congr 1
      funext r
      cases r <;> rfl
    | un => rfl
    | dat d => rfl
    | lst ds => rfl
    | town => rfl
    | ldc kds => rfl
    | dtc kds => rfl
theorem c_eSortK : eSortK i ρ R = kSl ρ[i]? fun kds => ∃ ks : List Int, kds.map (·.1) = ks.map Sum.inl ∧ ks.length < 64 ∧ ∀ ys : List Int, ys.Perm ks → ys.Pairwise (· ≤ ·) → R (.lst (ys.map PyData.int)) := by
  unfold eSortK
  cases ρ[i]? with
  | none => rfl
  | some s => cases s <;> rfl
theorem c_dDGet : dDGet i tw ρ C = kSl ρ[i]? fun kds => tw ρ fun dk => ∃ k d, keyD dk = some k ∧ getD? kds k = some d ∧ C d := by
  unfold dDGet
  cases ρ[i]? with
  | none => rfl
  | some s => cases s <;> rfl
theorem q_dictp : fDictP [.list ds] R = ∃ kds, pairsK ds = some kds ∧ R (.dic (mergeD [] kds)) := rfl
theorem c_iRangeN {C : List D → Prop} : iRangeN tv tw ρ C = tv ρ fun d => tw ρ fun d2 => ∃ m n, d = .int m ∧ d2 = .int n ∧ m - n ≤ 1000000 ∧ -1000000000000 ≤ m ∧ m ≤ 1000000000000 ∧ -1000000000000 ≤ n ∧ n ≤ 1000000000000 ∧ C (dnD m (m - n).toNat) := propext Iff.rfl
theorem sl_dic : Rs.sl (.dic kds) = .dic kds := rfl
end
end Pu
/-! ### dict(a tuple of pairs) -/
namespace Pu
open PySem PySem.Spec PyProof.Rows L2 PySem.W
/-- a tuple whose object has no dict -/
def PlT (K : PySem.W.Frag) (H : Hp) (a : Addr) (xs : List V) : Prop := SqT K H a xs ∧ ((∃ o, H a = some (.frz o (.tup xs)) ∧ o.dict = none) ∨ ∃ o, K.lookup a = some o ∧ o.cls = .type "tuple")
theorem plT_of {K : PySem.W.Frag} {H : Hp} {ow : Addr → Prop} {a : Addr} {ps : List Addr} (h : SqT K (res H ow) a (ps.map V.ref)) : PlT K H a (ps.map V.ref) := by
  refine ⟨sqT_same res_le h, ?_⟩
  rcases h with (h | ⟨o, h⟩) | ⟨o, its, n, h1, h2, _⟩
  · obtain ⟨x, hx, hn⟩ := res_ok h
    cases ps with
    | nil => cases hx
    | cons p ps =>
      cases hx
      exact absurd rfl (hn p)
  · exact .inl ⟨o, res_at h, res_ok h⟩
  · exact .inr ⟨o, h1, h2⟩
section
variable {X : Cx}
theorem PlT.plain {pins : List (Addr × Obj)} {σ : L2.St} {H : Hp} {s : Shared} {a : Addr} {xs : List V} (hK : PlK X.K) (I : Inv X pins σ H s) (h : PlT X.K H a xs) : ∃ its : List Value, Vals xs its ∧ PlainSeq "tuple" s.heap a its.toArray ∧ xs.length ≤ sizeLine := by
  obtain ⟨its, r, ⟨o, ho, hc, n, hd⟩, hz⟩ := I.tuple h.1
  refine ⟨its, r, ⟨o, n, ho, hc, ?_, hd⟩, hz⟩
  rcases h.2 with ⟨u, hu, hn⟩ | ⟨u, hu, hn⟩
  · have e := (I.hok a _ hu).1
    rw [ho] at e; cases e
    exact hn
  · have e := I.kIn a u hu
    rw [ho] at e; cases e
    exact hK a o hu hn
theorem call_dictPT (hcalm : X.calm = true) (hK : PlK X.K) : CallR X (.type "dict") (fun xs H Q => ∃ (a : Addr) (ps : List Addr) (kvs : List (Key × V)), xs = [.ref a] ∧ PlT X.K H a (ps.map V.ref) ∧ Paired (fun p kv => SqT X.K H p [kV kv.1, kv.2]) ps kvs ∧
    ∀ p, H p = none → Q (.ref p) (upd H p (.dK (mergeK [] kvs)))) := by
  intro pins s σ H xs us Q I r ⟨a, ps, kvs, ex, hq, hp, q⟩
  subst ex
  obtain ⟨u, rfl, rx⟩ := vals1 r
  cases rx
  obtain ⟨its, rv, pl, hz⟩ := PlT.plain hK I hq
  have ei := refs_at rv
  subst ei
  rw [List.length_map] at hz
  obtain ⟨prs, rel, hl, hpr⟩ := pairs_of I hp
  have ch : ∀ j : Fin prs.length, ∃ (b : Addr) (u : Value), ps[(j : Nat)]? = some b ∧ IsTup s.heap b #[u, prs[j].2] ∧ keyIs prs[j].1 u = true := fun j => hpr j _ (List.getElem?_eq_getElem j.2)
  let Ts : Nat → Addr := fun j => ps[j]?.getD 0
  let qs : List (Value × Value) := List.ofFn fun j : Fin prs.length => ((ch j).choose_spec.choose, prs[j].2)
  have hql : qs.length = prs.length := List.length_ofFn
  have hqa : ∀ (j : Nat) (k v : Value), qs[j]? = some (k, v) → ∃ (key : Key) (b : Addr), prs[j]? = some (key, v) ∧ keyIs key k = true ∧ ps[j]? = some b ∧ IsTup s.heap b #[k, v] := fun j k v e => by
    have hj : j < prs.length := by rw [← hql]; exact (List.getElem?_eq_some_iff.mp e).1
    have h1 := (ch ⟨j, hj⟩).choose_spec.choose_spec
    rw [List.getElem?_ofFn, dif_pos hj] at e
    obtain ⟨e1, e2⟩ := Prod.mk.inj (Option.some.inj e)
    subst e1 e2
    exact ⟨_, _, List.getElem?_eq_getElem hj, h1.2.2, h1.1, h1.2.1⟩
  have hm : (s.heap.objs.size == sysModules) = false := beq_eq_false_iff_ne.mpr (Nat.ne_of_gt I.big)
  have P := PairArg.tuple (prog := X.prog) (w := X.w) a (ps.map Value.ref).toArray Ts qs
  refine PySem.call_dict_pairs (knd := mixKind X.prog X.w) (kvs := prs) P (I.ok.hd hcalm) ⟨pl, ?_, fun j k v e => ?_⟩ ⟨hql.symm, fun i key v e => ?_⟩ (by rw [hql, hl]; exact hz) fun h' tk hd' k => ?_
  · rw [List.size_toArray, List.length_map, hql, hl]
  · obtain ⟨key, b, _, _, e3, e4⟩ := hqa j k v e
    have et : Ts j = b := by show ps[j]?.getD 0 = b; rw [e3]; rfl
    exact ⟨by rw [et]; simp [e3], by rw [et]; exact .inl e4⟩
  · obtain ⟨key', b, e1, e2, _, _⟩ := hqa i key v e
    exact ⟨key', e1, e2⟩
  · have hlen : (mergeK [] kvs).length ≤ sizeLine := by
      refine Nat.le_trans (length_mergeK kvs []) ?_
      rw [List.length_nil, Nat.zero_add, rel.length, hl]
      exact hz
    exact ⟨.ref s.heap.objs.size, upd H s.heap.objs.size (.dK (mergeK [] kvs)), I.laid (t' := tk) (fun b o e => k b o (fun z => nomatch z) e) (Nat.le_refl _) (dk_new hlen hm (KV.merge rel .nil) hd'), rfl, q _ (I.hok.fresh (Nat.le_refl _))⟩
def fDictT : List D → (Rs → Prop) → Prop
  | [.tuple ds], C => ∃ kds, pairsK ds = some kds ∧ C (.dic (mergeD [] kds))
  | _, _ => False
theorem fDictT_ok : Cb X (fun xs H Q => ∃ (a : Addr) (ps : List Addr) (kvs : List (Key × V)), xs = [.ref a] ∧ PlT X.K H a (ps.map V.ref) ∧ Paired (fun p kv => SqT X.K H p [kV kv.1, kv.2]) ps kvs ∧ ∀ p, H p = none → Q (.ref p) (upd H p (.dK (mergeK [] kvs)))) fDictT := fun τ H0 H γ σ ρ vs ds C r b f Q q => by
  unfold fDictT at f
  split at f
  · obtain ⟨v, rfl, p, ws, rfl, hs, ha⟩ := paired1 b
    obtain ⟨kds, h1, h2⟩ := f
    obtain ⟨ps, kvs, rfl, hp, hk⟩ := pairsK_dp res_le h1 ha
    refine ⟨p, ps, kvs, rfl, plT_of hs, hp, fun l hl => q _ _ _ h2 (.new hl) ⟨l, _, rfl, hl, upd_same, KvOk.same (res_mono fun a o n ea => ?_) (kv_merge hk .nil)⟩⟩
    have hne : a ≠ l := ne_of_none ea hl
    exact ⟨fun z => z.elim n hne, by rw [upd_ne hne]; exact ea⟩
  · exact f.elim
section
variable {τ : Tn} {G : Gx} {cp : List Str} {N : List Str} {sc : Scope} {k : Nat} {e : Expr} {tk tx : UV} {x : Str} {p p2 p3 pos apos cpos : Pos}
/-! e in d, e not in d, for a dict of one's own -/
def bInK (neg : Bool) (i : Nat) (tk : UV) : UT := fun ρ C => tk ρ fun dk => match ρ[i]? with
  | some (.dic kds) => ∃ k, keyD dk = some k ∧ C (bif neg then !(getD? kds k).isSome else (getD? kds k).isSome)
  | _ => False
theorem kv_isSome {K : PySem.W.Frag} {H : Hp} {k : Key} {kvs : List (Key × V)} {kds : List (Key × D)} (h : KvOk K H kvs kds) : (valV kvs k).isSome = (getD? kds k).isSome := by
  obtain ⟨h1, h2⟩ := kv_get (k := k) h
  cases q : getD? kds k with
  | none => rw [h2 q]; rfl
  | some d =>
    obtain ⟨v, e, _⟩ := h1 d q
    rw [e]; rfl
theorem in_own {H0 H H2 : Hp} {γ : List (V × D)} {σ : L2.St} {ρ : En} {i : Nat} {kds : List (Key × D)} (r : Rep X.K τ H0 γ H σ ρ) (e : Ext τ H H2) (hi : ρ[i]? = some (.dic kds)) : ∃ a kvs, σ[i]? = some (some (.ref a)) ∧ H2 a = some (.dK kvs) ∧ KvOk X.K (res H2 (own τ σ ρ)) kvs kds := by
  obtain ⟨a, kvs, e0, _, hn, h, h'⟩ := r.sl i _ hi
  exact ⟨a, kvs, e0, e.kp a _ h hn, KvOk.same (res_ext e fun _ => own_ad) h'⟩
theorem wp_inK {neg : Bool} {C : Bool → Prop} {ρ : En} {H0 H : Hp} {γ : List (V × D)} {σ : L2.St} {i : Nat} {Q : VK} (hk : JD τ X e tk) (r : Rep X.K τ H0 γ H σ ρ) (c : bInK neg i tk ρ C) (q : ∀ b H2, C b → Ext τ H H2 → Q (.bl b) H2) :
    wpE X e σ H fun y H1 => ∃ v, σ[i]? = some (some v) ∧ ∃ a o, v = .ref a ∧ DGet H1 a y o ∧ Q (.bl (bif neg then !o.isSome else o.isSome)) H1 := by
  refine hk ρ _ c H0 γ σ H r _ fun dk y H1 c e1 b => ?_
  cases hi : ρ[i]? with
  | none => rw [hi] at c; exact c.elim
  | some s =>
    rw [hi] at c
    cases s with
    | dic kds =>
      obtain ⟨kk, hkk, c⟩ := c
      obtain ⟨a, kvs, e0, ha, hkv⟩ := in_own r e1 hi
      refine ⟨_, e0, a, valV kvs kk, rfl, ?_, q _ _ (by rw [kv_isSome hkv]; exact c) e1⟩
      rw [dp_key b hkk]
      exact DGet.k ha
    | _ => exact c.elim
theorem jt_inK (S : Ok cp G N sc k X) (i : Nat) (hk : JD τ X e tk) (hN : N[i]? = some x := by rfl) (hvis : Vis sc x := by first | exact Or.inl rfl | exact Or.inr (Or.inl rfl) | exact Or.inr (Or.inr rfl)) (hd : (x == ("__debug__" : Str)) = false := by decide) (hcd : (x == ("__classdict__" : Str)) = false := by decide) :
    JT τ X (.Compare e [.In] [.Name x p2] pos) (bInK false i tk) := fun ρ C c H0 γ σ H r Q q =>
  wpT_of (pt_cmp (pc_din (by have := S.room.un; omega) pe_w (pe_var (i := i) (by rw [S.eN]; exact hN) (by rw [S.es]; exact hvis) hd hcd)) (by rfl))
    (wp_inK (neg := false) (Q := fun v H2 => ∃ b, v = .bl b ∧ Q b H2) hk r c fun b H2 cb e2 => ⟨b, rfl, q b H2 cb e2⟩)
theorem jt_ninK (S : Ok cp G N sc k X) (i : Nat) (hk : JD τ X e tk) (hN : N[i]? = some x := by rfl) (hvis : Vis sc x := by first | exact Or.inl rfl | exact Or.inr (Or.inl rfl) | exact Or.inr (Or.inr rfl)) (hd : (x == ("__debug__" : Str)) = false := by decide) (hcd : (x == ("__classdict__" : Str)) = false := by decide) :
    JT τ X (.Compare e [.NotIn] [.Name x p2] pos) (bInK true i tk) := fun ρ C c H0 γ σ H r Q q =>
  wpT_of (pt_cmp (pc_dnotin (by have := S.room.un; omega) pe_w (pe_var (i := i) (by rw [S.eN]; exact hN) (by rw [S.es]; exact hvis) hd hcd)) (by rfl))
    (wp_inK (neg := true) (Q := fun v H2 => ∃ b, v = .bl b ∧ Q b H2) hk r c fun b H2 cb e2 => ⟨b, rfl, q b H2 cb e2⟩)
theorem jd_inK (S : Ok cp G N sc k X) (i : Nat) (hk : JD τ X e tk) (hN : N[i]? = some x := by rfl) (hvis : Vis sc x := by first | exact Or.inl rfl | exact Or.inr (Or.inl rfl) | exact Or.inr (Or.inr rfl)) (hd : (x == ("__debug__" : Str)) = false := by decide) (hcd : (x == ("__classdict__" : Str)) = false := by decide) :
    JD τ X (.Compare e [.In] [.Name x p2] pos) (dB (bInK false i tk)) := fun ρ C c H0 γ σ H r Q q =>
  wpE_of (L2.pe_cmp (pc_din (by have := S.room.un; omega) pe_w (pe_var (i := i) (by rw [S.eN]; exact hN) (by rw [S.es]; exact hvis) hd hcd)) (by rfl))
    (wp_inK (neg := false) (Q := Q) hk r c fun b H2 cb e2 => q (.bool b) (.bl b) H2 cb e2 (.bl b))
theorem jd_ninK (S : Ok cp G N sc k X) (i : Nat) (hk : JD τ X e tk) (hN : N[i]? = some x := by rfl) (hvis : Vis sc x := by first | exact Or.inl rfl | exact Or.inr (Or.inl rfl) | exact Or.inr (Or.inr rfl)) (hd : (x == ("__debug__" : Str)) = false := by decide) (hcd : (x == ("__classdict__" : Str)) = false := by decide) :
    JD τ X (.Compare e [.NotIn] [.Name x p2] pos) (dB (bInK true i tk)) := fun ρ C c H0 γ σ H r Q q =>
  wpE_of (L2.pe_cmp (pc_dnotin (by have := S.room.un; omega) pe_w (pe_var (i := i) (by rw [S.eN]; exact hN) (by rw [S.es]; exact hvis) hd hcd)) (by rfl))
    (wp_inK (neg := true) (Q := Q) hk r c fun b H2 cb e2 => q (.bool b) (.bl b) H2 cb e2 (.bl b))
/-! d.get(e), d.get(e, x), for a dict of one's own -/
def dGet1 (i : Nat) (tk : UV) : UV := fun ρ C => match ρ[i]? with
  | some (.dic kds) => tk ρ fun dk => ∃ k, keyD dk = some k ∧ C ((getD? kds k).getD .none)
  | _ => False
theorem kv_getD {K : PySem.W.Frag} {H : Hp} {k : Key} {kvs : List (Key × V)} {kds : List (Key × D)} {v : V} {d : D} (h : KvOk K H kvs kds) (hd : Dp K H v d) : Dp K H ((valV kvs k).getD v) ((getD? kds k).getD d) := by
  obtain ⟨h1, h2⟩ := kv_get (k := k) h
  cases q : getD? kds k with
  | none => rw [h2 q]; exact hd
  | some d =>
    obtain ⟨v, e, hv⟩ := h1 d q
    rw [e]; exact hv
theorem jd_get1 (S : Ok cp G N sc k X) (i : Nat) (hk : JD τ X e tk) (hN : N[i]? = some x := by rfl) (hvis : Vis sc x := by first | exact Or.inl rfl | exact Or.inr (Or.inl rfl) | exact Or.inr (Or.inr rfl)) (hd : (x == ("__debug__" : Str)) = false := by decide) (hcd : (x == ("__classdict__" : Str)) = false := by decide)
    (hm : M1 X (.Name x p2) "get" apos e cpos := by exact ⟨rfl, rfl, rfl, rfl⟩) : JD τ X (.Call (.Attribute (.Name x p2) "get" apos) [e] [] cpos) (dGet1 i tk) := fun ρ C c H0 γ σ H r Q q => by
  refine wpE_of (pe_dget1 (by have := S.room.un; omega) (pe_var (i := i) (by rw [S.eN]; exact hN) (by rw [S.es]; exact hvis) hd hcd) pe_w hm) ?_
  unfold dGet1 at c
  split at c
  · rename_i kds hi
    obtain ⟨a, kvs, e0, ha, _⟩ := in_own r .refl hi
    refine ⟨_, e0, a, rfl, .inl ⟨_, .inl ha⟩, hk ρ _ c H0 γ σ H r _ fun dk y H1 c e1 b => ?_⟩
    obtain ⟨kk, hkk, c⟩ := c
    obtain ⟨a', kvs', e0', ha', hkv⟩ := in_own r e1 hi
    rw [e0] at e0'
    cases e0'
    exact ⟨valV kvs' kk, by rw [dp_key b hkk]; exact DGet.k ha', q _ _ _ c e1 (kv_getD hkv .non)⟩
  · exact c.elim
def dGet2 (i : Nat) (tk tx : UV) : UV := fun ρ C => match ρ[i]? with
  | some (.dic kds) => tk ρ fun dk => tx ρ fun dx => ∃ k, keyD dk = some k ∧ C ((getD? kds k).getD dx)
  | _ => False
theorem jd_get2 {f : Expr} {tx : UV} (S : Ok cp G N sc k X) (i : Nat) (hk : JD τ X e tk) (hx : JD τ X f tx) (hN : N[i]? = some x := by rfl) (hvis : Vis sc x := by first | exact Or.inl rfl | exact Or.inr (Or.inl rfl) | exact Or.inr (Or.inr rfl)) (hd : (x == ("__debug__" : Str)) = false := by decide) (hcd : (x == ("__classdict__" : Str)) = false := by decide)
    (hm : M2 X (.Name x p2) "get" apos e f cpos := by exact ⟨rfl, rfl, rfl, rfl⟩) : JD τ X (.Call (.Attribute (.Name x p2) "get" apos) [e, f] [] cpos) (dGet2 i tk tx) := fun ρ C c H0 γ σ H r Q q => by
  refine wpE_of (pe_dget2 (by have := S.room.un; omega) (pe_var (i := i) (by rw [S.eN]; exact hN) (by rw [S.es]; exact hvis) hd hcd) pe_w pe_w hm) ?_
  unfold dGet2 at c
  split at c
  · rename_i kds hi
    obtain ⟨a, kvs, e0, ha, _⟩ := in_own r .refl hi
    refine ⟨_, e0, a, rfl, .inl ⟨_, .inl ha⟩, hk ρ _ c H0 γ σ H r _ fun dk y H1 c e1 b => hx ρ _ c H0 γ σ H1 (r.after e1) _ fun dx z H2 c e2 b2 => ?_⟩
    obtain ⟨kk, hkk, c⟩ := c
    obtain ⟨a', kvs', e0', ha', hkv⟩ := in_own r (e1.trans e2) hi
    rw [e0] at e0'
    cases e0'
    exact ⟨valV kvs' kk, by rw [dp_key b hkk]; exact DGet.k ha', q _ _ _ c (e1.trans e2) (kv_getD hkv b2)⟩
  · exact c.elim
variable {ρ : En} {C : Bool → Prop} {R : D → Prop} {kds : List (Key × D)} {neg : Bool} {i : Nat}
/-! lemmas for the math -/
theorem c_bInK : bInK neg i tk ρ C = tk ρ fun dk => kSl ρ[i]? fun kds => ∃ k, keyD dk = some k ∧ C (bif neg then !(getD? kds k).isSome else (getD? kds k).isSome) := by
  unfold bInK
  congr 1
  funext dk
  cases ρ[i]? with
  | none => rfl
  | some s => cases s <;> rfl
theorem c_dGet2 {tx : UV} : dGet2 i tk tx ρ R = kSl ρ[i]? fun kds => tk ρ fun dk => tx ρ fun dx => ∃ k, keyD dk = some k ∧ R ((getD? kds k).getD dx) := by
  unfold dGet2
  cases ρ[i]? with
  | none => rfl
  | some s => cases s <;> rfl
theorem c_dGet1 : dGet1 i tk ρ R = kSl ρ[i]? fun kds => tk ρ fun dk => ∃ k, keyD dk = some k ∧ R ((getD? kds k).getD .none) := by
  unfold dGet1
  cases ρ[i]? with
  | none => rfl
  | some s => cases s <;> rfl
end
theorem q_dictT {ds : List D} {R : Rs → Prop} : fDictT [.tuple ds] R = ∃ kds, pairsK ds = some kds ∧ R (.dic (mergeD [] kds)) := rfl
end
end Pu
/-! ### refusals: a def that may raise -/
namespace Pu
open PySem PySem.Spec PyProof.Rows L2
/-- the own class of the name x stands at C -/
structure ExC (G : Gx) (x : Str) (C : Addr) : Prop where
  gl : G.mg x = some (.ref C)
  ex : PySem.W.excIn G.K C He.veBase "ValueError.__new__" = true
  kp : PySem.W.keepIn G.K (.ref C) = true
  sb : PySem.W.subIn G.K (.ref C) (.type "BaseException") = some true
  ty : PySem.W.typeIn G.K (.ref C) = some (.type "type")
def IsC (G : Gx) (x : Str) (u : Value) : Prop := ∃ C, u = .ref C ∧ ExC G x C
abbrev Xw := Str → Prop
abbrev SfX := List Ar → (Rs → Prop) → Xw → Prop
def Tn.at_ (τ : Tn) (z : Hp → Prop) : Tn := ⟨τ.ad, τ.inv, τ.val, τ.tr, τ.dep, z⟩
section
variable {G : Gx} {τ : Tn} {z : Hp → Prop}
theorem Ext.to_at {H H' : Hp} (e : Ext τ H H') : Ext (τ.at_ z) H H' := ⟨e.kp, e.inv⟩
theorem Ext.of_at {H H' : Hp} (e : Ext (τ.at_ z) H H') : Ext τ H H' := ⟨e.kp, e.inv⟩
theorem arOk_at {K : PySem.W.Frag} {H : Hp} {v : V} {a : Ar} : ArOk K (τ.at_ z) H v a ↔ ArOk K τ H v a := by cases a <;> exact Iff.rfl
theorem arsOk_at {K : PySem.W.Frag} {H : Hp} : ∀ {vs : List V} {as : List Ar}, ArsOk K (τ.at_ z) H vs as → ArsOk K τ H vs as
  | _, _, .nil => .nil
  | _, _, .cons h t => .cons (arOk_at.mp h) (arsOk_at t)
theorem arsOk_to {K : PySem.W.Frag} {H : Hp} : ∀ {vs : List V} {as : List Ar}, ArsOk K τ H vs as → ArsOk K (τ.at_ z) H vs as
  | _, _, .nil => .nil
  | _, _, .cons h t => .cons (arOk_at.mpr h) (arsOk_to t)
theorem rtV_at {K : PySem.W.Frag} {H0 H : Hp} {v : V} {r : Rs} : RtV K (τ.at_ z) H0 H v r ↔ RtV K τ H0 H v r := by cases r <;> exact Iff.rfl
theorem FnD.at_ {k : Nat} {x : Str} {ps : List Str} {S : Sf} (F : FnD G τ k x ps S) : FnD G (τ.at_ z) k x ps S := by
  obtain ⟨f, fd, h1, h2, h3, h4⟩ := F.ex
  exact ⟨⟨f, fd, h1.imp fun vs H Q E ⟨as, C, a, b, c, d⟩ => ⟨as, C, arsOk_at a, b, c, fun r v H' l c e h => d r v H' l c e.to_at (rtV_at.mpr h)⟩, h2, h3, h4⟩⟩
theorem FnK.at_ {k n : Nat} {x : Str} {ps ks : List Str} {S : Sf} {g : List Ar → List Ar → List Ar} (F : FnK G τ k x ps S n ks g) : FnK G (τ.at_ z) k x ps S n ks g := by
  obtain ⟨f, fd, gU, gV, h1, h2, h3, h4, h5⟩ := F.ex
  exact ⟨⟨f, fd, gU, gV, h1.imp fun vs H Q E ⟨as, C, a, b, c, d⟩ => ⟨as, C, arsOk_at a, b, c, fun r v H' l c e h => d r v H' l c e.to_at (rtV_at.mpr h)⟩, h2, h3, h4, fun K H vs zs as bs a b => arsOk_to (h5 K H vs zs as bs (arsOk_at a) (arsOk_at b))⟩⟩
/-- what a def promises: its answer, or its refusal -/
def spX (G : Gx) (τ : Tn) (S : SfX) : Sp := fun vs H Q E => ∃ as C ξ, ArsOk G.K τ H vs as ∧ τ.inv H ∧ S as C ξ ∧ (∀ r v H', r.lf = true → C r → Ext τ H H' → RtV G.K τ H H' v r → Q v H') ∧ ∀ x u H', ξ x → IsC G x u → Ext τ H H' → E u none H'
structure FnX (G : Gx) (τ : Tn) (k : Nat) (x : Str) (ps : List Str) (S : SfX) : Prop where
  ex : ∃ (f : Addr) (fd : FuncData), FnOk G.P G.w G.K G.mg G.base (L2.CX G.P G.w) k f fd ps (spX G τ S) ∧ G.mg x = some (.ref f) ∧ PySem.W.keepIn G.K (.ref f) = true ∧ Binds G.K fd ps []
structure FnXK (G : Gx) (τ : Tn) (k : Nat) (x : Str) (ps : List Str) (S : SfX) (n : Nat) (ks : List Str) (g : List Ar → List Ar → List Ar) : Prop where
  ex : ∃ (f : Addr) (fd : FuncData) (gU : List Value → List Value → List Value) (gV : List V → List V → List V), FnOk G.P G.w G.K G.mg G.base (L2.CX G.P G.w) k f fd ps (spX G τ S) ∧ G.mg x = some (.ref f) ∧ PySem.W.keepIn G.K (.ref f) = true ∧ KBn G.K fd ps n ks gU gV ∧
    ∀ (K : PySem.W.Frag) (H : Hp) (vs zs : List V) (as bs : List Ar), ArsOk K τ H vs as → ArsOk K τ H zs bs → ArsOk K τ H (gV vs zs) (g as bs)
theorem spX_at {S : SfX} {vs : List V} {H : Hp} {Q : VK} {E : XK} (h : spX G (τ.at_ z) S vs H Q E) : spX G τ S vs H Q E := by
  obtain ⟨as, C, ξ, a, b, c, d, e⟩ := h
  exact ⟨as, C, ξ, arsOk_at a, b, c, fun r v H' l c e h => d r v H' l c e.to_at (rtV_at.mpr h), fun x u H' h1 h2 h3 => e x u H' h1 h2 h3.to_at⟩
theorem FnX.at_ {k : Nat} {x : Str} {ps : List Str} {S : SfX} (F : FnX G τ k x ps S) : FnX G (τ.at_ z) k x ps S := by
  obtain ⟨f, fd, h1, h2, h3, h4⟩ := F.ex
  exact ⟨⟨f, fd, h1.imp fun vs H Q E h => spX_at h, h2, h3, h4⟩⟩
theorem FnXK.at_ {k n : Nat} {x : Str} {ps ks : List Str} {S : SfX} {g : List Ar → List Ar → List Ar} (F : FnXK G τ k x ps S n ks g) : FnXK G (τ.at_ z) k x ps S n ks g := by
  obtain ⟨f, fd, gU, gV, h1, h2, h3, h4, h5⟩ := F.ex
  exact ⟨⟨f, fd, gU, gV, h1.imp fun vs H Q E h => spX_at h, h2, h3, h4, fun K H vs zs as bs a b => arsOk_to (h5 K H vs zs as bs (arsOk_at a) (arsOk_at b))⟩⟩
/-- refusals that ξ wishes may leave X -/
def XOk (G : Gx) (τ : Tn) (ξ : Xw) (X : Cx) : Prop := ∃ W : WX, Takes X W ∧ ∀ (x : Str) (u : Value) (σ : St) (H0 H : Hp), τ.z H0 → ξ x → IsC G x u → (∀ a o, H0 a = some o → ¬ τ.ad a → H a = some o) → τ.inv H → W u none σ H
def sfxOf (N : List Str) (np : Nat) (t : Xw → US) : SfX := fun as C ξ => as.length = np ∧ t ξ { nx := fun _ => C (.dat .none), rt := fun r => r.lf = true ∧ C r } (en0 N as)
theorem fnOkX_of {x qual : Str} {params : Arguments} {body : List Stmt} {scope : Scope} {dvs : List V} {kws : List (Str × V)} {f : Addr} {fd : FuncData} {N ps : List Str} {k : Nat} {t : Xw → US} (F : FunD G.K x qual params body scope dvs kws f fd) (S : FnScope N ps scope)
    (h : ∀ z X ξ, Ok [] G N scope k X → XOk G (τ.at_ z) ξ X → JSs (τ.at_ z) X body (t ξ)) : FnOk G.P G.w G.K G.mg G.base (L2.CX G.P G.w) (k + 1) f fd ps (spX G τ (sfxOf N ps.length t)) := by
  refine F.ok S (fun vs H Q E h => ?_) (fun cdv A outer s H vs Q E hr h' => ⟨wpSs (cxOf (L2.CX G.P G.w) G.P G.w G.K G.mg G.base N qual scope f cdv A outer s H E) body, pss_w, ?_⟩)
  · obtain ⟨as, C, ξ, h1, _, h2, _⟩ := h
    exact (Paired.length h1).trans h2.1
  · obtain ⟨as, C, ξ, h1, hi, h2, hq, hx⟩ := h'
    have O : Ok [] G N scope k (cxOf (L2.CX G.P G.w) G.P G.w G.K G.mg G.base N qual scope f cdv A outer s H E) := ⟨rfl, rfl, rfl, rfl, rfl, rfl, S.nd, rfl, S.kind, rfl, hr, fun _ _ _ => rfl, PassesOwn.leaving⟩
    have xo : XOk G (τ.at_ fun H0 => H0 = H) ξ (cxOf (L2.CX G.P G.w) G.P G.w G.K G.mg G.base N qual scope f cdv A outer s H E) :=
      ⟨fun cls d _ H => E cls d H, takes_of rfl rfl rfl rfl, fun x u σ H0 H' h0 hξ hu he hi => by
        cases h0
        exact hx x u H' hξ hu ⟨he, fun _ => hi⟩⟩
    refine h _ _ ξ O xo _ _ h2.2 H [] _ H (rep_start rfl hi (arsOk_to h1)) _ ⟨fun ρ σ H' c r => hq (.dat .none) .non H' rfl c ⟨r.ext, fun _ => r.inv⟩ .non, fun ρ σ H' c r => c.elim, fun ρ σ H' c r => c.elim, fun r v H' c e i q => hq r v H' c.1 c.2 ⟨e, fun _ => i⟩ (rtV_at.mp q)⟩
/-- what never raises may stand where one may raise -/
theorem okX_of_ok {k : Nat} {f : Addr} {fd : FuncData} {ps : List Str} {sp : Sp} (F : FnOk G.P G.w G.K G.mg G.base CX0 k f fd ps sp) : FnOk G.P G.w G.K G.mg G.base (L2.CX G.P G.w) k f fd ps sp :=
  ⟨F.len, fun A outer s H args us vs Q E hr e0 hb r h => codeAny_mono (F.run A outer s H args us vs Q E hr e0 hb r h) fun r s' q => by
    cases r with
    | error e => exact (show False from q).elim
    | ok fl => cases fl <;> exact q⟩
def orX (S : Sf) (T : SfX) : SfX := fun as C ξ => S as C ∨ T as C ξ
theorem ok_or {k : Nat} {f : Addr} {fd : FuncData} {ps : List Str} {S : Sf} {T : SfX} (F : FnOk G.P G.w G.K G.mg G.base CX0 k f fd ps (spD G τ S)) (F' : FnOk G.P G.w G.K G.mg G.base (L2.CX G.P G.w) k f fd ps (spX G τ T)) :
    FnOk G.P G.w G.K G.mg G.base (L2.CX G.P G.w) k f fd ps (spX G τ (orX S T)) := by
  have sep : ∀ vs H Q E, spX G τ (orX S T) vs H Q E → spD G τ S vs H Q E ∨ spX G τ T vs H Q E := fun vs H Q E ⟨as, C, ξ, a, b, c, d, e⟩ => by
    rcases c with c | c
    · exact .inl ⟨as, C, a, b, c, d⟩
    · exact .inr ⟨as, C, ξ, a, b, c, d, e⟩
  exact ⟨fun vs H Q E h => (sep _ _ _ _ h).elim (fun h => F.len _ _ _ _ h) fun h => F'.len _ _ _ _ h, fun A outer s H args us vs Q E hr e0 hb r h => (sep _ _ _ _ h).elim (fun h => (okX_of_ok F).run A outer s H args us vs Q E hr e0 hb r h) fun h => F'.run A outer s H args us vs Q E hr e0 hb r h⟩
theorem fnX_of {x : Str} {st : Stmt} {f : Addr} {fd : FuncData} {k : Nat} {ps : List Str} {S : SfX} (F : Dn G x st [] [] f fd) (ho : FnOk G.P G.w G.K G.mg G.base (L2.CX G.P G.w) k f fd ps (spX G τ S))
    (hb : ∀ (kV doc pm : Value) (an : Option Addr) (cdv ct : Value) (us : List Value), us.length = ps.length → bindArgs (PySem.W.fnOf x x (defArgs st) (defBody st) (defScope st) .none kV doc pm an cdv ct) ⟨us, []⟩ = pure (ps.zip us)) : FnX G τ k x ps S :=
  ⟨⟨f, fd, ho, F.gl, F.fn.kp, F.fn.bindsN hb⟩⟩
/-- plain parameters written with their names -/
theorem fnXP_of {x : Str} {st : Stmt} {kws : List (Str × V)} {f : Addr} {fd : FuncData} {ps : List Str} {j : Nat} {S : SfX} {n : Nat} {ks : List Str} (F : Dn G x st [] kws f fd) (ho : FnOk G.P G.w G.K G.mg G.base (L2.CX G.P G.w) j f fd ps (spX G τ S)) (g : {α : Type} → List α → List α → List α → List α)
    (hrel : ∀ {α β : Type} {Rr : α → β → Prop} {vs mz zs : List α} {us mv ws : List β}, Paired Rr vs us → Paired Rr mz mv → Paired Rr zs ws → Paired Rr (g vs mz zs) (g us mv ws))
    (h : ∀ (kV doc pm : Value) (an : Option Addr) (cdv ct : Value) (us ws : List Value), us.length = n → ws.length = ks.length →
      bindArgs (PySem.W.fnOf x x (defArgs st) (defBody st) (defScope st) .none kV doc pm an cdv ct) ⟨us, ks.zip ws⟩ = pure (ps.zip (g us [] ws))) :
    FnXK G τ j x ps S n ks (fun as bs => g as (List.replicate 0 (.dat .none)) bs) := by
  have hb : KBn G.K fd ps n ks (fun us ws => g us [] ws) (fun vs zs => g vs [] zs) := by
    obtain ⟨oc, od, dV, kV, doc, pm, an, cdv, ct, osl, rfl, lk, hcd, hD, hK⟩ := F.fn.ex
    rcases hD with ⟨_, rfl⟩ | ⟨e, _⟩
    · exact ⟨fun s us ws X l1 l2 => .of_eq (h kV doc pm an cdv ct us ws l1 l2), fun r1 r2 => hrel r1 .nil r2⟩
    · exact absurd rfl e
  exact ⟨⟨f, fd, _, _, ho, F.gl, F.fn.kp, hb, fun K H vs zs as bs h1 h2 => hrel h1 .nil h2⟩⟩
end
section
variable {τ : Tn} {G : Gx} {cp : List Str} {N : List Str} {sc : Scope} {k j n : Nat} {X : Cx} {e : Expr} {es : List Expr} {ta tk : UA} {pos p p2 pos' : Pos} {x m : Str} {ps ks : List Str} {S : SfX} {ξ : Xw} {kws : List Keyword}
/-- raise x("..") -/
def sRaise (ξ : Xw) (x : Str) : US := fun _ _ => ξ x
theorem js_raise {C : Addr} {jj : Nat} (O : Ok cp G N sc k X) (xo : XOk G τ ξ X) (hC : ExC G x C) (hg : sc.names.lookup x = some .globalImplicit := by rfl) (hdb : (x == ("__debug__" : Str)) = false := by decide) :
    JS τ X (.Raise (some (.Call (.Name x p) [.Constant (.str m) jj p2] [] pos)) none pos') (sRaise ξ x) := fun ρ E c H0 γ σ H r Dn d => by
  obtain ⟨W, tk, hW⟩ := xo
  exact wpS_of (ps_raise O.calm tk (pmk_own PySem.F.excBase_ValueError (by rw [O.eK]; exact hC.ex) (by rw [O.em]; exact hC.gl) (by rw [O.eK]; exact hC.kp) (raises_own (by rw [O.eK]; exact hC.sb) (by rw [O.eK]; exact hC.ty)) (by show X.env.scope.names.lookup x = _; rw [O.es]; exact hg) hdb))
    (hW x (.ref C) σ H0 H r.zz c ⟨C, rfl, hC⟩ r.ext r.inv)
def eCallX (S : SfX) (ξ : Xw) (t : UA) : UE := fun ρ C => t ρ fun as => S as C ξ
theorem je_callX (O : Ok cp G N sc k X) (xo : XOk G τ ξ X) (F : FnX G τ j x ps S) (ha : JA τ X (e :: es) ta) (hj : j ≤ k := by decide) (hg : sc.names.lookup x = some .globalImplicit := by rfl) (hdb : (x == ("__debug__" : Str)) = false := by decide)
    (he : starEach (e :: es) X.env = (false, eval e X.env) :: starEach es X.env := by rfl) (hpl : (backTo pos (starEach es X.env)).any (·.1) = false := by rfl) : JE τ X (.Call (.Name x p) (e :: es) [] pos) (eCallX S ξ ta) := by
  obtain ⟨f, fd, F, hm, hk, hb⟩ := F.ex
  obtain ⟨W, tk, hW⟩ := xo
  intro ρ C c H0 γ σ H r Q q
  refine wpE_of (pe_call (CX := L2.CX X.prog X.w) (k := j) (sp := spX G τ S) (E := fun cls d H => ∀ σ, W cls d σ H) (dvs := []) (ds := []) (by rw [O.eP, O.ew, O.eK, O.em, O.eb]; exact F) (O.room.mono hj) (by show X.env.scope.names.lookup x = _; rw [O.es]; exact hg) (by rw [O.em]; exact hm) (by rw [O.eK]; exact hk) (by rw [O.eK]; exact hb) .nil (passes_call tk fun cls d σ H h => h σ) pa_w hdb he hpl) ?_
  refine ha ρ _ c H0 γ σ H r _ fun as vs H2 c e1 h2 _ => ?_
  rw [List.append_nil]
  refine ⟨as, C, ξ, by rw [← O.eK]; exact h2, (r.after e1).inv, c, fun rs v H' l c e2 h => q rs v H' c (e1.trans e2) ?_, fun x u H' h1 h2 h3 σ' => ?_⟩
  · rw [← O.eK] at h
    exact RtV.rs r e1 e2 l h
  · have r3 := (r.after e1).after h3
    exact hW x u σ' H0 H' r.zz h1 h2 r3.ext r3.inv
def eCallXK (S : SfX) (ξ : Xw) (g : List Ar → List Ar → List Ar) (t u : UA) : UE := fun ρ C => t ρ fun as => u ρ fun bs => S (g as bs) C ξ
theorem je_callXK {g : List Ar → List Ar → List Ar} (O : Ok cp G N sc k X) (xo : XOk G τ ξ X) (F : FnXK G τ j x ps S n ks g) (ha : JA τ X (e :: es) ta) (hkw : JK τ X kws tk) (hn : (e :: es).length = n := by rfl) (hn2 : kws.length = ks.length := by rfl) (hj : j ≤ k := by decide) (hg : sc.names.lookup x = some .globalImplicit := by rfl)
    (hall : (backToKw pos (keywordEach kws X.env)).all (·.1.isSome) = true := by rfl) (hks : (backToKw pos (keywordEach kws X.env)).filterMap (·.1) = ks := by rfl)
    (hdb : (x == ("__debug__" : Str)) = false := by decide) (he : starEach (e :: es) X.env = (false, eval e X.env) :: starEach es X.env := by rfl)
    (hpl : ((backTo pos (starEach (e :: es) X.env)).any (·.1) || (backToKw pos (keywordEach kws X.env)).any (·.1.isNone)) = false := by rfl) : JE τ X (.Call (.Name x p) (e :: es) kws pos) (eCallXK S ξ g ta tk) := by
  obtain ⟨f, fd, gU, gV, F, hm, hk, hb, hrel⟩ := F.ex
  obtain ⟨W, tk, hW⟩ := xo
  intro ρ C c H0 γ σ H r Q q
  refine wpE_of (pe_callN (CX := L2.CX X.prog X.w) (k := j) (sp := spX G τ S) (E := fun cls d H => ∀ σ, W cls d σ H) (by rw [O.eP, O.ew, O.eK, O.em, O.eb]; exact F) (O.room.mono hj) (by show X.env.scope.names.lookup x = _; rw [O.es]; exact hg) (by rw [O.em]; exact hm) (by rw [O.eK]; exact hk) (by rw [O.eK]; exact hb) (passes_call tk fun cls d σ H h => h σ) pa_w pk_w hall hks hdb he hpl) ?_
  refine ha ρ _ c H0 γ σ H r _ fun as vs H2 c e1 h2 l1 => hkw ρ _ c H0 γ σ H2 (r.after e1) _ fun bs zs H3 c e2 h3 l2 => ⟨l1.trans hn, l2.trans hn2, ?_⟩
  refine ⟨_, C, ξ, ?_, ((r.after e1).after e2).inv, c, fun rs v H' l c e3 h => q rs v H' c ((e1.trans e2).trans e3) ?_, fun x u H' h1 h2 h3 σ' => ?_⟩
  · have h4 := hrel X.K H3 vs zs as bs (arsOk_after e2 h2) h3
    rw [O.eK] at h4
    exact h4
  · rw [← O.eK] at h
    exact RtV.rs r (e1.trans e2) e3 l h
  · have r3 := ((r.after e1).after e2).after h3
    exact hW x u σ' H0 H' r.zz h1 h2 r3.ext r3.inv
theorem je_callXK0 {g : List Ar → List Ar → List Ar} (O : Ok cp G N sc k X) (xo : XOk G τ ξ X) (F : FnXK G τ j x ps S 0 ks g) (hkw : JK τ X kws tk) (hn2 : kws.length = ks.length := by rfl) (hj : j ≤ k := by decide) (hg : sc.names.lookup x = some .globalImplicit := by rfl)
    (hall : (backToKw pos (keywordEach kws X.env)).all (·.1.isSome) = true := by rfl) (hks : (backToKw pos (keywordEach kws X.env)).filterMap (·.1) = ks := by rfl)
    (hdb : (x == ("__debug__" : Str)) = false := by decide)
    (hpl : ((backTo pos (starEach [] X.env)).any (·.1) || (backToKw pos (keywordEach kws X.env)).any (·.1.isNone)) = false := by rfl) : JE τ X (.Call (.Name x p) [] kws pos) (eCallXK S ξ g aNil tk) := by
  obtain ⟨f, fd, gU, gV, F, hm, hk, hb, hrel⟩ := F.ex
  obtain ⟨W, tk, hW⟩ := xo
  intro ρ C c H0 γ σ H r Q q
  refine wpE_of (pe_callN0 (CX := L2.CX X.prog X.w) (k := j) (sp := spX G τ S) (E := fun cls d H => ∀ σ, W cls d σ H) (by rw [O.eP, O.ew, O.eK, O.em, O.eb]; exact F) (O.room.mono hj) (by show X.env.scope.names.lookup x = _; rw [O.es]; exact hg) (by rw [O.em]; exact hm) (by rw [O.eK]; exact hk) (by rw [O.eK]; exact hb) (passes_call tk fun cls d σ H h => h σ) pk_w hall hks hdb hpl) ?_
  refine hkw ρ _ c H0 γ σ H r _ fun bs zs H3 c e2 h3 l2 => ⟨l2.trans hn2, ?_⟩
  refine ⟨_, C, ξ, ?_, (r.after e2).inv, c, fun rs v H' l c e3 h => q rs v H' c (e2.trans e3) ?_, fun x u H' h1 h2 h3 σ' => ?_⟩
  · have h4 := hrel X.K H3 [] zs [] bs .nil h3
    rw [O.eK] at h4
    exact h4
  · rw [← O.eK] at h
    exact RtV.rs r e2 e3 l h
  · have r3 := (r.after e2).after h3
    exact hW x u σ' H0 H' r.zz h1 h2 r3.ext r3.inv
end
end Pu
/-! ### a lambda handed to a def that calls it -/
namespace Pu
open PySem PySem.Spec PyProof.Rows L2
section
variable {X : Cx} {pins : List (Addr × Obj)} {σ : St} {H : Hp} {s : Shared}
/-- made: only the table at P has grown, a code object is there -/
theorem lam_mk {c P : Addr} {args : Arguments} {e : Expr} {lsc : Scope} {ps : Pos} {E : Value → Shared → Prop} {Q : Value → Shared → Prop} {q : Str} (hq : q = X.env.qual ++ "<lambda>")
    (TB : LamX.TabB X.base X.mg c P) (hcd : X.env.code = .ref c) (hT : LamX.TabS H P q) (hdf : defaultsOf args X.env = ([], [])) (hfr : ∀ y ∈ lsc.names, y.2 = .free → ∃ c, X.env.cells.lookup y.1 = some c) (I : Inv X pins σ H s)
    (k : ∀ (f c1 : Addr) (pm ct : Value) (H1 : Hp) (t : Shared), Inv X pins σ H1 t → (∀ b o, H b = some o → b ≠ P → H1 b = some o) → LamX.TabS H1 P q →
      t.heap.get? f = some (PySem.W.kla_obj "<lambda>" q args e lsc (cloFrom X.env.cells lsc.names []) pm c1 ct) → H1 f = none → f ∉ frs X.stack → H1 c1 = some (LamX.CodeO c1 q) → Q (.ref f) t) :
    wpAny (model X.prog X.w) X.A (eval (.Lambda args e lsc ps) X.env) Q E s := by
  subst hq
  obtain ⟨tb, h1, h2, h3⟩ := hT
  have gB := TB.bm.keeps I.bk
  have gP : s.heap.get? P = some { cls := .none, data := .fields tb } := I.hok P _ h1
  have new : ∀ a, s.heap.objs.size ≤ a → a ∉ frs X.stack := by
    intro a ha hm
    rcases List.mem_cons.mp (I.stkSub _ hm) with z | z
    · exact absurd (Nat.lt_of_lt_of_le (z ▸ I.lt) ha) (Nat.lt_irrefl _)
    · exact I.nofs ha z
  refine PySem.W.kla_eval hdf ?_
  cases am : codeAmong ps tb.toList with
  | some w =>
    obtain ⟨c1, rfl, hc1⟩ := h3 ps w am
    refine PySem.W.kla_makeFunctionHit (closure_ok hfr) I.ok.glob (I.mod.glob.keeps I.bk) hcd (TB.code.keeps I.bk) gP h2 am gB fun ct h' tk up hs => ?_
    exact k _ c1 _ ct H _ (I.kept fun b o z => Heap.get?_push_of_some _ (up b o z)) (fun _ _ z _ => z) ⟨tb, h1, h2, h3⟩ (Heap.get?_push_size _ rfl) (I.hok.fresh hs) (new _ hs) hc1
  | none =>
    refine PySem.W.kla_makeFunction (closure_ok hfr) I.ok.glob (I.mod.glob.keeps I.bk) hcd (TB.code.keeps I.bk) gP h2 am TB.gP gB fun c1 ct h' tk up ge lt rec htb => ?_
    obtain ⟨c2, oc, vs, t, r0, r1, r2, r3⟩ := rec
    obtain rfl := Value.ref.inj r0
    have big : s.heap.objs.size ≤ h'.objs.size := by omega
    have n1 : H c1 = none := I.hok.fresh ge
    have J := LamX.inv_table (q := X.env.qual ++ "<lambda>") (t' := tk) (more := #[rawInt ps.line, rawInt ps.col, .ref c1])
      (h' := h'.push (PySem.W.kla_obj "<lambda>" (X.env.qual ++ "<lambda>") args e lsc (cloFrom X.env.cells lsc.names []) ((X.mg "__name__").getD .none) c1 ct)) I h1
      (fun b o hb z => Heap.get?_push_of_some _ (up b o hb z)) (Heap.get?_push_of_some _ htb) ge ⟨oc, vs, t, Heap.get?_push_of_some _ r1, r2, r3⟩
    have nP : P ≠ c1 := ne_of_none h1 n1
    refine k _ c1 _ ct _ _ J (fun b o z hb => ?_) ⟨_, by rw [upd_ne nP]; exact upd_same, ?_, fun p' cv z => ?_⟩ (Heap.get?_push_size _ rfl) ?_ (new _ big) upd_same
    · rw [upd_ne (ne_of_none z n1), upd_ne hb]
      exact z
    · rw [Array.toList_append]
      exact PySem.TriplesOk_snoc _ _ _ _ h2
    · rw [Array.toList_append] at z
      rcases LamX.among_app _ h2 z with z | z
      · obtain ⟨c0, e1, e2⟩ := h3 p' cv z
        refine ⟨c0, e1, ?_⟩
        rw [upd_ne (ne_of_none e2 n1), upd_ne fun w => by rw [w, h1] at e2; cases e2]
        exact e2
      · exact ⟨c1, z, upd_same⟩
    · have d1 : h'.objs.size ≠ c1 := by omega
      have d2 : h'.objs.size ≠ P := Nat.ne_of_gt (Nat.lt_of_lt_of_le (Heap.lt_size gP) big)
      rw [upd_ne d1, upd_ne d2]
      exact I.hok.fresh big
/-- what the called def makes of the lambda's reading -/
abbrev Tel := XK → Hp → VK → Prop
def tHand (P : Addr) (q : Str) (TT : Tel → Hp → VK → Prop) (t : XK → TE) : TE := fun σ H Q => LamX.TabS H P q ∧ ∀ H1, (∀ b o, H b = some o → b ≠ P → H1 b = some o) → LamX.TabS H1 P q → TT (fun E H' Q' => t E σ H' Q') H1 Q
/-- x(lambda: e) -/
theorem pe_hand {TT : Tel → Hp → VK → Prop} {x a q : Str} {g c P : Addr} {k : Nat} {pg : Arguments} {bg : List Stmt} {sg : Scope} {dV kV doc pm cdv ct oc : Value} {an od : Option Addr} {osl : Array (Option Value)} {Ng : List Str}
    {args : Arguments} {e : Expr} {lsc : Scope} {t : XK → TE} {p lpos pos : Pos} (hq : q = X.env.qual ++ "<lambda>") (hg : Gl X x) (hm : X.mg x = some (.ref g)) (hk : PySem.W.keepIn X.K (.ref g) = true)
    (lk : X.K.lookup g = some ⟨oc, od, .func (PySem.W.fnOf x x pg bg sg dV kV doc pm an cdv ct), osl⟩) (hcg : PySem.W.codeIn X.K cdv x = true) (hb : L2.Binds X.K (PySem.W.fnOf x x pg bg sg dV kV doc pm an cdv ct) [a] []) (Sg : FnScope Ng [a] sg) (hNg : Ng[0]? = some a) (hva : Vis sg a)
    (hG : LamX.GivesTo X Ng x sg g cdv bg a q TT) (TB : LamX.TabB X.base X.mg c P) (hcd : X.env.code = .ref c) (hr : Room (k + 2) X.A) (L : LamX.LamS X.env.scope lsc) (hdf : defaultsOf args X.env = ([], []))
    (hbind : ∀ (q : Str) (cl : List (Str × Addr)) (pm cv ctv : Value), bindArgs (PySem.W.kla_fn "<lambda>" q args e lsc cl pm cv ctv) ⟨[], []⟩ = pure [])
    (hbody : ∀ (A : Around) (outer : List Env) (s : Shared) (H : Hp) (E : XK) (f c' : Addr), Room k (A.deeper (LamX.lamEnv X lsc s.heap.objs.size f c')) → PE (LamX.lamCx X A outer s H E lsc f c') e (t E))
    (hdb : (x == ("__debug__" : Str)) = false := by decide) (hd : (a == ("__debug__" : Str)) = false := by decide) (hcdn : (a == ("__classdict__" : Str)) = false := by decide) :
    PE X (.Call (.Name x p) [.Lambda args e lsc lpos] [] pos) (tHand P q TT t) := by
  subst hq
  refine ⟨fun pins s σ H Q I ⟨hT, h⟩ => wpAny_Call_Name_kw (ld_glob I hg hm ?_ hdb)⟩
  refine PySem.W.callWith_K (h₀ := X.base) I.ok.mod.kin hk ?_ (by rfl) (by rfl)
  refine Calls.spliced_cons (rest := backTo pos (starEach [] X.env)) (lam_mk rfl TB hcd hT hdf (L.has I.ok) I fun f c1 pm' ctv H1 s1 I1 up T1 o1 o2 o3 o4 => Calls.spliced_nil ⟨I1.kIn, ?_⟩)
  have run : codeAny (model X.prog X.w) X.A (.call (.ref g) ⟨[.ref f], []⟩) (CR C8.CX0 X.stack X.prog X.w H1 s1 Q C8.E0) s1 := by
    refine LamX.run_ofS (ps := [a]) (us := [.ref f]) (vs := [.ref f]) lk hcg Sg hr I1.env0 (hb s1 [.ref f] I1.kIn rfl) (.cons rfl .nil) rfl fun hr' => ?_
    obtain ⟨t', ht, hq'⟩ := hG f c1 s1 H1 Q (fun E H' Q' => t E σ H' Q') (fun W pn xe E p1 p2 tk hW => LamX.pe_act (i := 0) I1 L o1 o2 o3 (hbind _ _ _ _ _) tk hW hr' (fun A outer s H hr2 => hbody A outer s H E f c1 hr2) hNg hva hd hcdn) o4 (h H1 up T1)
    exact ⟨t', ht.nox, hq'⟩
  exact wpAny_call (codeAny_mono run fun r s2 hq => by
    cases r with
    | error e => exact False.elim hq
    | ok fl => cases fl <;> first | exact I1.after hq | exact False.elim hq)
end
end Pu
/-! ### try: .. except x as n: .., the exception kept -/
namespace Pu
open PySem PySem.Spec PyProof.Rows L2
/-- a caught exception of the class cls stands at a -/
def ExH (cls : Value) (a : Addr) : HO := .ext fun h => ∃ (oe : Obj) (vs : Array Value), h.get? a = some oe ∧ Zc cls none oe ∧ oe.data = .fields vs
theorem inv_track {X : Cx} {pins : List (Addr × Obj)} {σ : St} {H : Hp} {s : Shared} {a : Addr} {cls : Value} {oe : Obj} {vs : Array Value} (I : Inv X pins σ H s) (g : s.heap.get? a = some oe) (hz : Zc cls none oe) (hd : oe.data = .fields vs) (n : H a = none)
    (n0 : X.s_0.heap.get? a = none) (nL : X.env.locals ≠ a) (nC : ∀ x c, X.env.cells.lookup x = some c → c ≠ a) (nP : ∀ p ∈ X.pn ++ pins, p.1 ≠ a) : Inv X pins σ (upd H a (ExH cls a)) s := by
  have ne : ∀ b u, H b = some u → b ≠ a := fun b u e => ne_of_none e n
  have at0 : ∀ b o, X.s_0.heap.get? b = some o → b ≠ a := fun b o e z => by rw [z, n0] at e; cases e
  refine ⟨I.ok, I.os, I.bare, ⟨I.base.keep, I.base.slot, fun b o e h x => ?_, I.base.there, fun b xs e => ?_, fun b o u e => ?_, fun b ps e => ?_⟩, I.loc, I.cell, ?_, fun x c e => ?_, fun p hp => ?_, ?_, I.len⟩
  · rw [upd_ne (at0 b o e)]; exact I.base.free b o e h x
  · have q := I.base.tups b xs e
    rw [upd_ne (ne b _ q)]; exact q
  · have q := I.base.frzs b o u e
    rw [upd_ne (ne b _ q)]; exact q
  · obtain ⟨m, q⟩ := I.base.tbls b ps e
    exact ⟨m, by rw [upd_ne (ne b _ q)]; exact q⟩
  · rw [upd_ne nL]; exact I.free
  · rw [upd_ne (nC x c e)]; exact I.freeC x c e
  · obtain ⟨a1, a2, a3⟩ := I.pin p hp
    exact ⟨a1, by rw [upd_ne (nP p hp)]; exact a2, a3⟩
  · exact I.hok.laidN (fun _ _ q => q) n ⟨⟨oe, vs, g, hz, hd⟩, ⟨oe, g⟩, fun _ _ ⟨o, v, q, r⟩ k => ⟨o, v, k o q, r⟩⟩
/-- what such a clause wishes of a refusal of the body, the suite being: m = n -/
def wKeep (n : Nat) (K : PySem.W.Frag) (c : Value) (i j : Nat) (D : Ends) : WX := fun cls d σ H => d = none ∧ PySem.W.exmOne K cls c = some true ∧ ∀ a, H a = none → σ.length = n → D.nx (((σ.set i (some (.ref a))).set j (some (.ref a))).set i none) (upd H a (ExH cls a))
theorem ps_try_keep {X : Cx} {x n m : Str} {c : Value} {i j : Nat} {body : List Stmt} {np pos pos' p1 p2 p3 : Pos} {tb : WX → TS} (hs : X.stack = X.env :: X.outer) (hf : X.env.frame = some X.env.locals) (hex : X.ex = []) (nd : X.N.Nodup) (hi : X.N[i]? = some n) (hj : X.N[j]? = some m) (hij : i ≠ j)
    (hn : X.env.kindOf n = some .local) (hm : X.env.kindOf m = some .local) (hc : Names X x c) (hsw : ∀ env : Env, swapsWith (.Name n p2) (some (.Name m p1)) p3.line env = pure false) (hd : (n == ("__debug__" : Str)) = false) (hcd : (n == ("__classdict__" : Str)) = false)
    (hb : ∀ (W : WX) (pn : List (Addr × Obj)) (xe : Value → Shared → Prop), Takes (X.tr pn xe) W → PassesOwn (model X.prog X.w) X.A X.env xe → PSs (X.tr pn xe) body (tb W)) :
    PS X (.Try body [.ExceptHandler (some (.Name x np)) (some n) [.Assign [.Name m p1] (.Name n p2) p3] pos'] [] [] pos) (fun D σ H => tb (wKeep X.N.length X.K c i j D) D σ H) := by
  refine ⟨fun pins s σ H D I h => wpAny_Try_except ?_⟩
  have ok := I.ok
  have fr : X.A.frames = some (X.env :: X.outer) := by rw [ok.frames, hs]
  refine wpAny_mono ((hb (wKeep X.N.length X.K c i j D) (X.pn ++ pins) (fun e t => wpAny (model X.prog X.w) X.A (noteFrame e X.env) (fun _ t => wpAny (model X.prog X.w) X.A (setFlight e none) (fun _ t =>
    wpAny (model X.prog X.w) X.A (handleBy e X.env [.ExceptHandler (some (.Name x np)) (some n) [.Assign [.Name m p1] (.Name n p2) p3] pos']) (SP X pins D) X.xe t) X.xe t) X.xe t) (fun u t y => ?_) PassesOwn.looking).run [] s σ H D (I.toTry _) h) (fun fl t hsp => ?_) fun _ _ q => q
  · obtain ⟨a, B, sI, pins', σ', H', cls, d, rfl, J', nb, up, sky, na, os, ag, rfl, em, go⟩ := y
    have J : Inv X pins σ' H' sI := J'.ofTry ok
    rw [show (X.tr (X.pn ++ pins) _).stack = X.env :: X.outer from hs] at sky
    refine Sky.land Zc.steady fr hf sky fun h3 f3 up3 => ?_
    have J3 : Inv X pins σ' H' { t with heap := h3 } := J.landed nb f3.1 (up.trans up3) os ag
    obtain ⟨o3, v3, e3, z3, d3⟩ := f3.there
    have out : a ∉ frs (X.env :: X.outer) := fun hm => by
      obtain ⟨_, o', e', hnf⟩ := f3.2.2.1.mem hm
      rw [e3] at e'; cases e'
      exact hnf _ d3
    have nL : a ≠ X.env.locals := fun q => out (List.mem_filterMap.mpr ⟨X.env, List.mem_cons_self, by rw [hf, q]⟩)
    have nF : a ∉ X.fs := fun q => by
      obtain ⟨e, he, r⟩ := List.mem_filterMap.mp q
      exact out (List.mem_filterMap.mpr ⟨e, List.mem_cons_of_mem _ he, r⟩)
    have nI : sI.heap.get? a = none := by
      cases q : sI.heap.get? a with
      | none => rfl
      | some o =>
        have q2 := nb a o q (by rw [show (X.tr (X.pn ++ pins) _).stack = X.env :: X.outer from hs]; exact out)
        rw [f3.2.1] at q2; cases q2
    have S3 := J3.suite e3 d3 na nL nF
    refine wpAny_handleBy_cons (codeAny_handlers_test ?_) (by intro q; cases q)
    have LM := PySem.W.exm_one (M := model X.prog X.w) J3.kIn (fun A Q E t k q => wpAny_typeOf_ref (k _ _ e3) (by rw [z3.1]; exact q)) em
    have test : ∀ {Q : Value → Shared → Prop} {E : Value → Shared → Prop}, Q c { t with heap := h3 } → wpAny (model X.prog X.w) (X.A.mark (some (.ref a))) (eval (.Name x np) X.env) Q E { t with heap := h3 } := fun {Q E} q => by
      obtain ⟨hg, hdb, hm | ⟨hm, hv, hnn⟩⟩ := hc
      · exact ld_glob (X := X.suite a ((a, o3) :: (X.pn ++ pins))) S3 hg hm q hdb
      · exact ld_blt (X := X.suite a ((a, o3) :: (X.pn ++ pins))) S3 hg hm hv q hnn hdb
    refine test (LM.here (codeAny_handlers_suite_as (HandSPX.lands_againZ f3 fun h4 f4 up4 => ?_)))
    have J4 : Inv X pins σ' H' { t with heap := h4 } := J.landed nb f4.1 ((up.trans up3).trans up4) os ag
    obtain ⟨o4, v4, e4, z4, d4⟩ := f4.there
    have S4 := J4.suite e4 d4 na nL nF
    refine store_ok (X := X.suite a ((a, o4) :: (X.pn ++ pins))) (v := .ref a) S4 nd hi (.inl hn) rfl (fun t5 S5 => ?_) (.inr hn)
    have ph := pss_one (ps_set (X := X.suite a ((a, o4) :: (X.pn ++ pins))) (pos := p3) nd hj (.inl hm) (pe_var (i := i) (pos := p2) hi (.inl hn) hd hcd) (hsw _) (.inr hm))
    have il : i < σ'.length := by
      rw [J.len]
      exact (List.getElem?_eq_some_iff.mp hi).1
    refine wpAny_mono (ph.run [] t5 _ H' { nx := fun σ6 H6 => D.nx (σ6.set i none) (upd H6 a (ExH cls a)), rt := D.rt, bk := fun _ _ => False, ct := fun _ _ => False } S5 ⟨.ref a, List.getElem?_set_self il, go a na J.len⟩) (fun fl t6 hsp => ?_) fun _ _ q => q.elim
    cases fl with
    | next =>
      obtain ⟨σ6, H6, S6, q6⟩ := hsp
      refine gone_ok (X := X.suite a ((a, o4) :: (X.pn ++ pins))) S6 nd hi hn fun t7 S7 => ?_
      obtain ⟨p1', p2', _⟩ := S7.pin (a, o4) (List.mem_append.mpr (.inl List.mem_cons_self))
      have J7 : Inv X pins (σ6.set i none) H6 t7 := S7.unsuite ok
      refine ⟨_, _, inv_track J7 p1' z4 d4 p2' ?_ (Ne.symm nL) (fun y c' e z => ?_) (fun p hp z => ?_), q6⟩
      · cases q : X.s_0.heap.get? a with
        | none => rfl
        | some o =>
          obtain ⟨o', q'⟩ := J.base.there a o q (by rw [hex]; simp)
          rw [nI] at q'; cases q'
      · obtain ⟨w, oc, q, _⟩ := J.cell y c' e
        rw [z, nI] at q; cases q
      · have q := (J.pin p hp).1
        rw [z, nI] at q; cases q
    | brk =>
      obtain ⟨_, _, _, q⟩ := hsp
      exact q.elim
    | cont =>
      obtain ⟨_, _, _, q⟩ := hsp
      exact q.elim
    | ret u =>
      obtain ⟨v6, σ6, H6, S6, r6, q6⟩ := hsp
      exact gone_ok (S6.unsuite ok) nd hi hn fun t7 J7 => ⟨_, _, _, J7, r6, q6⟩
  · cases fl with
    | next =>
      obtain ⟨σ', H', J, q⟩ := hsp
      exact wpAny_execs_nil ⟨σ', H', J.ofTry ok, q⟩
    | brk =>
      obtain ⟨σ', H', J, q⟩ := hsp
      exact ⟨σ', H', J.ofTry ok, q⟩
    | cont =>
      obtain ⟨σ', H', J, q⟩ := hsp
      exact ⟨σ', H', J.ofTry ok, q⟩
    | ret u =>
      obtain ⟨v, σ', H', J, r, q⟩ := hsp
      exact ⟨v, σ', H', J.ofTry ok, r, q⟩
/-- isinstance(e, c), e a caught exception -/
def rIsK (K : PySem.W.Frag) : List V → Hp → VK → Prop := fun xs H Q => ∃ (a Da : Addr) (c : V) (cv : Value) (b : Bool), xs = [.ref a, c] ∧ H a = some (ExH (.ref Da) a) ∧ ExcC K Da ∧ (∀ u, RelV c u → u = cv) ∧ PySem.W.kitOne K (.ref Da) cv = some b ∧ Q (.bl b) H
theorem call_isK {X : Cx} : CallR X (.builtin "isinstance") (rIsK X.K) := by
  intro pins s σ H xs us Q I r h
  obtain ⟨a, Da, c, cv, b, rfl, ha, C, hcv, e, q⟩ := h
  cases r with
  | cons rx rr =>
    cases rr with
    | cons rt rr =>
      cases rr
      cases rx
      have ec := hcv _ rt
      subst ec
      obtain ⟨⟨oe, vs, hget, hz, hv⟩, _, _⟩ := I.hok a _ ha
      have J : PySem.W.InstAt s.heap a oe Da none := by
        obtain ⟨oc, od, oda, osl⟩ := oe
        obtain ⟨h1, h2⟩ := hz
        dsimp only at h1 h2 hv
        subst h1 h2 hv
        exact ⟨hget, rfl, rfl, trivial⟩
      exact PySem.W.kia_one (PySem.W.handS_kitx_exc C.hg C.hk C.hs C.hd C.ha C.hn C.ht C.hm) I.kIn J e (fun z => nomatch z) fun tk => ⟨.bl b, H, I.kept (t' := tk) fun _ _ z => z, rfl, q⟩
end Pu
/-! ### _law_heard: what is told, or how it is refused -/
namespace Pu
open PySem PySem.Spec PyProof.Rows L2
/-! d.update(e) -/
theorem putK_len {kvs : List (Key × V)} {k : Key} {v : V} : (putK kvs k v).length ≤ kvs.length + 1 := by
  unfold putK
  split <;> simp
theorem mergeK_len : ∀ {more kvs : List (Key × V)}, (mergeK kvs more).length ≤ kvs.length + more.length
  | [], kvs => Nat.le_refl _
  | p :: more, kvs => by
    have h1 := mergeK_len (more := more) (kvs := putK kvs p.1 p.2)
    have h2 := putK_len (kvs := kvs) (k := p.1) (v := p.2)
    have e : mergeK kvs (p :: more) = mergeK (putK kvs p.1 p.2) more := rfl
    rw [e, List.length_cons]
    omega
def rUpd : V → List V → Hp → VK → Prop := fun x xs H Q => ∃ (a b : Addr) (kvs more : List (Key × V)), x = .ref a ∧ xs = [.ref b] ∧ a ≠ b ∧ H a = some (.dK kvs) ∧ H b = some (.dK more) ∧ kvs.length + more.length ≤ sizeLine ∧ Q .non (upd H a (.dK (mergeK kvs more)))
theorem mt_upd {X : Cx} : MtR X "dict.update" rUpd := by
  intro pins s σ H x xs v us Q I rx rv h
  obtain ⟨a, b, kvs, more, rfl, rfl, ne, ha, hb, hl, q⟩ := h
  obtain rfl : v = Value.ref a := rx
  cases rv with
  | cons rb rn =>
    cases rn
    rename_i u
    obtain rfl : u = Value.ref b := rb
    obtain ⟨z, hd, vs, rel, dd⟩ := dk_of I.hok ha
    obtain ⟨z', hd', ws, rel', dd'⟩ := dk_of I.hok hb
    refine call_meetsIn PySem.F.slot_dict_update dd.typeIs PySem.F.entry_dict_update (PySem.F.args_dict_update_2 _ _) (meets_dict_update (mixKind X.prog X.w) a b ne hd') ⟨vs, ws, dd, dd', by rw [← rel.length, ← rel'.length]; exact hl, fun h' m1 _ sb => ?_⟩
    have he : ∃ q, h'.get? a = some q := let ⟨q, _, _, hq, _⟩ := m1; ⟨q, hq⟩
    exact ⟨.non, _, d_write (t' := s.toks) I (by rw [ha]; exact True.intro) sb he (dk_new (Nat.le_trans mergeK_len hl) hd (KV.merge rel' rel) m1), rfl, q⟩
/-! the def's slots: deed 0, refused 1, found 2, e 3, some 4, names 5, word 6 -/
abbrev Ngh : List Str := ["deed", "refused", "found", "e", "some", "names", "word"]
/-- isinstance(refused, y) tells b -/
def Kl (G : Gx) (C : Addr) (y : Str) (b : Bool) : Prop := ∃ cy, G.mg y = some (.ref cy) ∧ PySem.W.kitOne G.K (.ref C) (.ref cy) = some b
structure Hs (K : PySem.W.Frag) (H1 : Hp) (a C : Addr) (σ : St) (H : Hp) : Prop where
  r : σ[1]? = some (some (.ref a))
  ex : H a = some (ExH (.ref C) a)
  ec : ExcC K C
  up : ∀ b o, H1 b = some o → H b = some o
  len : σ.length = 7
structure Hd (K : PySem.W.Frag) (H1 : Hp) (a C : Addr) (kvs : List (Key × V)) (σ : St) (H : Hp) : Prop extends Hs K H1 a C σ H where
  d : ∃ d, σ[4]? = some (some (.ref d)) ∧ H d = some (.dK kvs) ∧ H1 d = none ∧ d ≠ a
section
variable {G : Gx} {sg : Scope} {k : Nat} {X : Cx} {C a : Addr} {H1 : Hp} {y y1 y2 k1 k2 : Str} {b b1 b2 : Bool} {kvs : List (Key × V)} {p p0 p1 p2 p3 p4 p5 p6 p7 p8 p9 q0 q1 q2 q3 q4 q5 q6 q7 q8 q9 pos : Pos} {j1 j2 : Nat}
theorem pe_isY (O : Ok [] G Ngh sg k X) (hi : Free G "isinstance") (hy : Kl G C y b) (hgi : sg.names.lookup ("isinstance" : Str) = some .globalImplicit) (hgy : sg.names.lookup y = some .globalImplicit) (hr : Vis sg "refused") (hdy : (y == ("__debug__" : Str)) = false) :
    PE X (.Call (.Name "isinstance" p) [.Name "refused" p1, .Name y p2] [] pos) (fun σ H Q => σ[1]? = some (some (.ref a)) ∧ H a = some (ExH (.ref C) a) ∧ ExcC X.K C ∧ Q (.bl b) H) := by
  obtain ⟨cy, h1, h2⟩ := hy
  have h := pe_callB (X := X) (p := p) (pos := pos) call_isK (by show X.env.scope.names.lookup ("isinstance" : Str) = _; rw [O.es]; exact hgi) (by rw [O.em]; exact hi) (by decide +kernel : bootBuiltins "isinstance" = some (.builtin "isinstance"))
    (pa_cons (pe_var (i := 1) (pos := p1) (by rw [O.eN]; rfl) (by rw [O.es]; exact hr) (by decide) (by decide)) (pa_cons (pe_glob (v := .ref cy) (pos := p2) (by show X.env.scope.names.lookup y = _; rw [O.es]; exact hgy) (by rw [O.em]; exact h1) rfl hdy) pa_nil))
  refine ⟨fun pins s σ H Q I ⟨e1, e2, e3, e4⟩ => h.run pins s σ H Q I ⟨_, e1, a, C, .ref cy, .ref cy, b, rfl, e2, e3, fun u r => r, by rw [O.eK]; exact h2, e4⟩⟩
/-- a display of two such -/
theorem pe_two (O : Ok [] G Ngh sg k X) (hi : Free G "isinstance") (h1 : Kl G C y1 b1) (h2 : Kl G C y2 b2) (hgi : sg.names.lookup ("isinstance" : Str) = some .globalImplicit) (hg1 : sg.names.lookup y1 = some .globalImplicit) (hg2 : sg.names.lookup y2 = some .globalImplicit) (hr : Vis sg "refused")
    (hd1 : (y1 == ("__debug__" : Str)) = false) (hd2 : (y2 == ("__debug__" : Str)) = false) (hne : k1 ≠ k2) {σ : St} {H : Hp} {Q : VK} (h : Hs X.K H1 a C σ H) (q : ∀ d, H d = none → Q (.ref d) (upd H d (.dK [(.inr k1, .bl b1), (.inr k2, .bl b2)]))) :
    wpE X (.Dict [some (.Constant (.str k1) j1 p1), some (.Constant (.str k2) j2 p2)] [.Call (.Name "isinstance" p3) [.Name "refused" p4, .Name y1 p5] [] p6, .Call (.Name "isinstance" p7) [.Name "refused" p8, .Name y2 p9] [] q0] q1) σ H Q := by
  refine wpE_of (pe_disp (pps_cons pe_str (pe_isY (a := a) O hi h1 hgi hg1 hr hd1) (pps_cons pe_str (pe_isY (a := a) O hi h2 hgi hg2 hr hd2) pps_nil)) rfl rfl (by simp) (by simp)) ?_
  intro d hd
  have ne : a ≠ d := ne_of_none h.ex hd
  have e1 : (upd H d (.dK [])) a = some (ExH (.ref C) a) := by rw [upd_ne ne]; exact h.ex
  refine ⟨h.r, e1, h.ec, h.r, e1, h.ec, upd_same, [(.inr k1, .bl b1), (.inr k2, .bl b2)], rfl, by simp, ?_⟩
  have em : mergeK [] [((.inr k1 : Key), V.bl b1), (.inr k2, .bl b2)] = [(.inr k1, .bl b1), (.inr k2, .bl b2)] := by
    simp [mergeK, putK, hne]
  rw [em, upd_upd]
  exact q d hd
/-- some = {..} -/
theorem h_some (O : Ok [] G Ngh sg k X) (hi : Free G "isinstance") (h1 : Kl G C y1 b1) (h2 : Kl G C y2 b2) (hgi : sg.names.lookup ("isinstance" : Str) = some .globalImplicit) (hg1 : sg.names.lookup y1 = some .globalImplicit) (hg2 : sg.names.lookup y2 = some .globalImplicit) (hr : Vis sg "refused") (hs : LocC [] sg "some")
    (hd1 : (y1 == ("__debug__" : Str)) = false) (hd2 : (y2 == ("__debug__" : Str)) = false) (hne : k1 ≠ k2)
    (hsw : ∀ env : Env, swapsWith (.Dict [some (.Constant (.str k1) j1 p1), some (.Constant (.str k2) j2 p2)] [.Call (.Name "isinstance" p3) [.Name "refused" p4, .Name y1 p5] [] p6, .Call (.Name "isinstance" p7) [.Name "refused" p8, .Name y2 p9] [] q0] q1) (some (.Name "some" q2)) q3.line env = pure false)
    {σ : St} {H : Hp} {D : Ends} (h : Hs X.K H1 a C σ H) (q : ∀ σ' H', Hd X.K H1 a C [(.inr k1, .bl b1), (.inr k2, .bl b2)] σ' H' → D.nx σ' H') :
    wpS X (.Assign [.Name "some" q2] (.Dict [some (.Constant (.str k1) j1 p1), some (.Constant (.str k2) j2 p2)] [.Call (.Name "isinstance" p3) [.Name "refused" p4, .Name y1 p5] [] p6, .Call (.Name "isinstance" p7) [.Name "refused" p8, .Name y2 p9] [] q0] q1) q3) D σ H := by
  refine wpS_of (ps_set (i := 4) (by rw [O.eN]; exact O.nd) (by rw [O.eN]; rfl) (loc_of O hs) pe_w (hsw _) (fn_of_loc O hs)) ?_
  refine pe_two O hi h1 h2 hgi hg1 hg2 hr hd1 hd2 hne h fun d hd => q _ _ ?_
  have ne : a ≠ d := ne_of_none h.ex hd
  refine ⟨⟨by rw [List.getElem?_set_ne (by decide)]; exact h.r, by rw [upd_ne ne]; exact h.ex, h.ec, fun b' o e => by rw [upd_ne (ne_of_none (h.up b' o e) hd)]; exact h.up b' o e, by rw [List.length_set]; exact h.len⟩, d, List.getElem?_set_self (by rw [h.len]; decide), upd_same, ?_, Ne.symm ne⟩
  cases e : H1 d with
  | none => rfl
  | some o => rw [h.up d o e] at hd; cases hd
/-- some.update({..}) -/
theorem h_upd (O : Ok [] G Ngh sg k X) (hi : Free G "isinstance") (h1 : Kl G C y1 b1) (h2 : Kl G C y2 b2) (hgi : sg.names.lookup ("isinstance" : Str) = some .globalImplicit) (hg1 : sg.names.lookup y1 = some .globalImplicit) (hg2 : sg.names.lookup y2 = some .globalImplicit) (hr : Vis sg "refused") (hs : Vis sg "some")
    (hd1 : (y1 == ("__debug__" : Str)) = false) (hd2 : (y2 == ("__debug__" : Str)) = false) (hne : k1 ≠ k2) (hl : kvs.length ≤ 1000) {kvs' : List (Key × V)} (hk' : mergeK kvs [(.inr k1, .bl b1), (.inr k2, .bl b2)] = kvs') (hline : (q3.endLine == q4.line) = true)
    (hst : ∀ env : Env, starEach [(.Dict [some (.Constant (.str k1) j1 p1), some (.Constant (.str k2) j2 p2)] [.Call (.Name "isinstance" p3) [.Name "refused" p4, .Name y1 p5] [] p6, .Call (.Name "isinstance" p7) [.Name "refused" p8, .Name y2 p9] [] q0] q1 : Expr)] env = (false, eval (.Dict [some (.Constant (.str k1) j1 p1), some (.Constant (.str k2) j2 p2)] [.Call (.Name "isinstance" p3) [.Name "refused" p4, .Name y1 p5] [] p6, .Call (.Name "isinstance" p7) [.Name "refused" p8, .Name y2 p9] [] q0] q1) env) :: starEach [] env)
    {σ : St} {H : Hp} {D : Ends} (h : Hd X.K H1 a C kvs σ H) (q : ∀ σ' H', Hd X.K H1 a C kvs' σ' H' → D.nx σ' H') :
    wpS X (.Expr (.Call (.Attribute (.Name "some" q2) "update" q3) [.Dict [some (.Constant (.str k1) j1 p1), some (.Constant (.str k2) j2 p2)] [.Call (.Name "isinstance" p3) [.Name "refused" p4, .Name y1 p5] [] p6, .Call (.Name "isinstance" p7) [.Name "refused" p8, .Name y2 p9] [] q0] q1] [] q4) q5) D σ H := by
  subst hk'
  obtain ⟨d, hd, hk, h0, hda⟩ := h.d
  refine wpS_of (ps_expr (pe_bm PySem.F.plainAttrs_dict PySem.F.slot_dict_update PySem.F.type_dict_update mt_upd (pe_var (i := 4) (by rw [O.eN]; rfl) (by rw [O.es]; exact hs) (by decide) (by decide)) (pa_cons pe_w pa_nil (hst _)) (by rfl) (by rw [hst]; rfl) hline (hst _))) ?_
  refine ⟨_, hd, .inr (.inr (.inl ⟨rfl, .inl ⟨_, hk⟩⟩)), ?_⟩
  refine pe_two O hi h1 h2 hgi hg1 hg2 hr hd1 hd2 hne h.toHs fun e he => ?_
  have ne : d ≠ e := ne_of_none hk he
  refine ⟨d, e, kvs, [(.inr k1, .bl b1), (.inr k2, .bl b2)], rfl, rfl, ne, by rw [upd_ne ne]; exact hk, upd_same, ?_, q _ _ ⟨⟨h.r, ?_, h.ec, fun b' o e' => ?_, h.len⟩, d, hd, upd_same, h0, hda⟩⟩
  · exact small_line (by simp; omega)
  · rw [upd_ne (Ne.symm hda), upd_ne (ne_of_none h.ex he)]; exact h.ex
  · rw [upd_ne (ne_of_none e' h0), upd_ne (ne_of_none (h.up b' o e') he)]; exact h.up b' o e'
/-- the words that are so -/
def yesW (kvs : List (Key × V)) : List V := (kvs.filter fun p => decide (p.2 = .bl true)).map fun p => kV p.1
/-- names = [word for word in some if some[word]] -/
theorem h_names {scope : Scope} (O : Ok [] G Ngh sg k X) (hs : Vis sg "some") (hn : sg.names.lookup ("names" : Str) = some .local) (hok : blkC Ngh sg scope [("word", 6)] = true) (hsw : (p0.line == p8.line) = true) (hsn : (scope.names.any fun (n, k) => n == ("names" : Str) && (k == .local || k == .cell)) = false)
    (hv1 : Vis (relS scope sg) "some") (hv2 : LocC (capt scope) (relS scope sg) "word") (hv3 : Vis (relS scope sg) "word") (nd : (kvs.map (·.1)).Nodup) (hb : ∀ p ∈ kvs, ∃ z, p.2 = V.bl z) (hl : kvs.length ≤ 1000)
    {σ : St} {H : Hp} {D : Ends} (h : Hd X.K H1 a C kvs σ H) (q : ∀ σ' H' n, Hs X.K H1 a C σ' H' → σ'[5]? = some (some (.ref n)) → H' n = some (.lst (yesW kvs)) → D.nx σ' H') :
    wpS X (.Assign [.Name "names" p0] (.ListComp (.Name "word" p1) [⟨.Name "word" p2, .Name "some" p3, [.Subscript (.Name "some" p4) (.Name "word" p5) p6], 0⟩] scope p8) p9) D σ H := by
  have hkd := (blkOk_by hok).kind
  have OB : ∀ s H C cl fp, Ok (capt scope) G Ngh (relS scope sg) k (X.blk s H scope (compEnvC scope cl C X.env) fp) := fun s H C cl fp => isBlk_ok O hkd ⟨s, H, C, cl, fp, rfl⟩
  obtain ⟨d, hd, hk, h0, hda⟩ := h.d
  refine wpS_of (ps_lock (ps_setLc (i := 5) (own := [("word", 6)]) (g := gName 6) (tt := fun σ2 H2 Q => tDGet (tVar 4) (tVar 6) σ2 H2 fun v H3 => ∃ z, v = .bl z ∧ Q z H3) (te := tVar 6) O.calm (by rw [O.eN]; exact O.nd) (by rw [O.eN]; rfl) (by rw [O.es]; exact hn)
    (sw_true (by rw [O.es]; exact O.kd) (by rw [O.es]; exact hn) hsw hsn) (pi_keys (pe_var (i := 4) (by rw [O.eN]; rfl) (by rw [O.es]; exact hs) (by decide) (by decide))) (by rw [O.eN, O.es]; exact blkOk_by hok)
    (fun s H C cl fp => pg_name (i := 6) (by rw [(OB s H C cl fp).eN]; exact (OB s H C cl fp).nd) (by rw [(OB s H C cl fp).eN]; rfl) (loc_of (OB s H C cl fp) hv2) (fn_of_loc (OB s H C cl fp) hv2))
    (fun s H C cl fp => pts_one (pt_val (pe_dget (by have := (OB s H C cl fp).room.un; omega) (pe_var (i := 4) (by rw [(OB s H C cl fp).eN]; rfl) (by rw [(OB s H C cl fp).es]; exact hv1) (by decide) (by decide)) (pe_var (i := 6) (by rw [(OB s H C cl fp).eN]; rfl) (by rw [(OB s H C cl fp).es]; exact hv3) (by decide) (by decide)) (fun _ _ => rfl))))
    (fun s H C cl fp => pe_var (i := 6) (by rw [(OB s H C cl fp).eN]; rfl) (by rw [(OB s H C cl fp).es]; exact hv3) (by decide) (by decide)))) ?_
  refine ⟨d, .dK kvs, hk, trivial, fun od => ?_⟩
  refine ⟨_, hd, d, od, rfl, .inl ⟨kvs, upd_same, fun L hL => ?_⟩⟩
  have hLd : L ≠ d := fun z => by rw [z, upd_same] at hL; cases hL
  have hL' : H L = none := by rw [upd_ne hLd] at hL; exact hL
  have wl : ∀ i, i ≠ 6 → (wipe σ [6])[i]? = σ[i]? := fun i hi => wipe_out (by simp; exact hi)
  refine lc_it (g := gName 6) (tt := fun σ2 H2 Q => tDGet (tVar 4) (tVar 6) σ2 H2 fun v H3 => ∃ z, v = .bl z ∧ Q z H3) (te := tVar 6) (vs := [6]) (σ := σ) (H1 := upd H d (.frz od (.dK kvs))) (D := L) (Qd := fun H' => H' d = some (.frz od (.dK kvs)) ∧ D.nx (σ.set 5 (some (.ref L))) (upd H' d (.dK kvs))) walk_keys (fun i H' => H' d = some (.frz od (.dK kvs)) ∧ (∀ b' o, H b' = some o → b' ≠ d → H' b' = some o) ∧ H' L = some (.lst (yesW (kvs.take i)))) ⟨?_, ?_, ?_⟩ (fun i H' _ p => p.1) (fun i x H' H'' hi g y => ?_) (fun H' g => ?_)
  · rw [upd_ne (Ne.symm hLd), upd_same]
  · intro b' o e hb'
    rw [upd_ne (ne_of_none e hL'), upd_ne hb']; exact e
  · exact upd_same
  · obtain ⟨g1, g2, g3⟩ := g
    obtain ⟨eH, kk, vv, gk, gx⟩ := y
    subst eH gx
    obtain ⟨z, hz⟩ := hb _ (List.mem_of_getElem? gk)
    simp only at hz
    subst hz
    have e6 : ((wipe σ [6]).set 6 (some (kV kk)))[6]? = some (some (kV kk)) := List.getElem?_set_self (by rw [wipe_length, h.len]; decide)
    have e4 : ((wipe σ [6]).set 6 (some (kV kk)))[4]? = some (some (.ref d)) := by rw [List.getElem?_set_ne (by decide), wl 4 (by decide)]; exact hd
    have gv : valV kvs kk = some (.bl z) := by
      clear g3 hi
      induction kvs generalizing i with
      | nil => simp at gk
      | cons p r ih =>
        cases i with
        | zero =>
          simp only [List.getElem?_cons_zero, Option.some.injEq] at gk
          subst gk
          exact valV_pos rfl
        | succ i =>
          simp only [List.getElem?_cons_succ] at gk
          have hm := List.mem_of_getElem? gk
          simp only [List.map_cons, List.nodup_cons] at nd
          have hne : ¬ p.1 = kk := fun z => nd.1 (by rw [z]; exact List.mem_map.mpr ⟨_, hm, rfl⟩)
          obtain ⟨p1, p2⟩ := p
          rw [valV_neg hne]
          unfold valV
          cases hf : r.find? fun kv => decide (kv.1 = kk) with
          | none =>
            have := List.find?_eq_none.mp hf _ hm
            simp at this
          | some w =>
            have hw := List.mem_of_find?_eq_some hf
            have hp := List.find?_some hf
            simp only [decide_eq_true_eq] at hp
            obtain ⟨i1, e1⟩ := List.getElem?_of_mem hw
            have : i1 = i := by
              have n2 := nd.2
              have a1 : (r.map (·.1))[i1]? = some kk := by rw [List.getElem?_map, e1]; simp [hp]
              have a2 : (r.map (·.1))[i]? = some kk := by rw [List.getElem?_map, gk]; rfl
              have l1 := (List.getElem?_eq_some_iff.mp a1).1
              exact (List.getElem?_inj l1 n2).mp (a1.trans a2.symm)
            subst this
            rw [gk] at e1
            cases e1
            rfl
    refine ⟨?_, _, e4, _, e6, d, .bl z, rfl, .inl ⟨kvs, kk, .inr ⟨od, g1⟩, rfl, gv.symm⟩, z, rfl, ?_⟩
    · rw [wipe_set (by decide)]
      apply List.ext_getElem?
      intro j
      by_cases hj : j ∈ [6]
      · rw [wipe_in hj, wipe_in hj, wipe_length]
      · simp only [wipe_out hj]
    · have tk : kvs.take (i + 1) = kvs.take i ++ [(kk, .bl z)] := by rw [List.take_add_one, gk]; rfl
      have nn : ∀ b' o, H b' = some o → b' ≠ L := fun b' o e => ne_of_none e hL'
      cases z with
      | true =>
        refine iteT ⟨_, e6, _, g3, ?_, ?_, ?_, ?_⟩
        · refine Nat.lt_of_le_of_lt (Nat.le_trans (by unfold yesW; rw [List.length_map]; exact List.length_filter_le _ _) (Nat.le_trans (List.length_take_le _ _) (Nat.le_of_lt hi))) (small1000 hl)
        · rw [upd_ne (Ne.symm hLd)]; exact g1
        · intro b' o e hb'
          rw [upd_ne (nn b' o e)]; exact g2 b' o e hb'
        · rw [upd_same, tk]
          simp [yesW]
      | false =>
        refine iteF ⟨g1, g2, ?_⟩
        rw [g3, tk]
        simp [yesW]
  · obtain ⟨g1, g2, g3⟩ := g
    refine ⟨g1, q _ _ L ⟨?_, ?_, h.ec, fun b' o e => ?_, ?_⟩ ?_ ?_⟩
    · rw [List.getElem?_set_ne (by decide)]; exact h.r
    · rw [upd_ne (Ne.symm hda)]; exact g2 a _ h.ex (Ne.symm hda)
    · rw [upd_ne (ne_of_none e h0)]; exact g2 b' o (h.up b' o e) (ne_of_none e h0)
    · rw [List.length_set]; exact h.len
    · exact List.getElem?_set_self (by rw [h.len]; decide)
    · rw [upd_ne hLd, g3, List.take_length]
/-- return (names[0],) if len(names) == 1 and isinstance(refused, ValueError) else ("is wrong",) -/
theorem h_ret {w : Str} {e2 : Expr} {n : Addr} {t2 : Nat} (O : Ok [] G Ngh sg k X) (hi : Free G "isinstance") (hln : Free G "len") (hve : Free G "ValueError") (hgi : sg.names.lookup ("isinstance" : Str) = some .globalImplicit) (hgl : sg.names.lookup ("len" : Str) = some .globalImplicit) (hgv : sg.names.lookup ("ValueError" : Str) = some .globalImplicit)
    (hr : Vis sg "refused") (hn : Vis sg "names") (hk : PySem.W.kitOne G.K (.ref C) (.type "ValueError") = some true)
    {σ : St} {H : Hp} {D : Ends} (h : Hs X.K H1 a C σ H) (h5 : σ[5]? = some (some (.ref n))) (hN : H n = some (.lst [.str w])) (q : ∀ p, H p = none → D.rt (.ref p) (upd H p (.tup [.str w]))) :
    wpS X (.Return (some (.IfExp (.BoolOp .And [.Compare (.Call (.Name "len" p) [.Name "names" p1] [] p2) [.Eq] [.Constant (.int 1) j1 p3] p4, .Call (.Name "isinstance" p5) [.Name "refused" p6, .Name "ValueError" p7] [] p8] p9)
      (.Tuple [.Subscript (.Name "names" q1) (.Constant (.int 0) j2 q2) q3] t2 q4) e2 q5)) q6) D σ H := by
  have hv : PE X (.Call (.Name "isinstance" p5) [.Name "refused" p6, .Name "ValueError" p7] [] p8) (fun σ H Q => σ[1]? = some (some (.ref a)) ∧ H a = some (ExH (.ref C) a) ∧ ExcC X.K C ∧ Q (.bl true) H) := by
    have h := pe_callB (X := X) (p := p5) (pos := p8) call_isK (by show X.env.scope.names.lookup ("isinstance" : Str) = _; rw [O.es]; exact hgi) (by rw [O.em]; exact hi) (by decide +kernel : bootBuiltins "isinstance" = some (.builtin "isinstance"))
      (pa_cons (pe_var (i := 1) (pos := p6) (by rw [O.eN]; rfl) (by rw [O.es]; exact hr) (by decide) (by decide)) (pa_cons (pe_bltn (v := .ty "ValueError") (pos := p7) (by show X.env.scope.names.lookup ("ValueError" : Str) = _; rw [O.es]; exact hgv) (by rw [O.em]; exact hve) (by decide +kernel : bootBuiltins "ValueError" = some (.type "ValueError")) rfl) pa_nil))
    exact ⟨fun pins s σ H Q I ⟨e1, e2, e3, e4⟩ => h.run pins s σ H Q I ⟨_, e1, a, C, .ty "ValueError", .type "ValueError", true, rfl, e2, e3, fun u r => r, by rw [O.eK]; exact hk, e4⟩⟩
  refine wpS_of (ps_ret (pe_ifExp (PW.pt (pw_and (pt_cmpR op_eq (pe_callB call_len_seq (by show X.env.scope.names.lookup ("len" : Str) = _; rw [O.es]; exact hgl) (by rw [O.em]; exact hln) (by decide +kernel) (pa_cons (pe_var (i := 5) (by rw [O.eN]; rfl) (by rw [O.es]; exact hn) (by decide) (by decide)) pa_nil)) pe_int (nomark _)) (pw_and1 (pt_val hv))))
    (pe_tup (pa_cons (pe_ix ix_list (pe_var (i := 5) (by rw [O.eN]; rfl) (by rw [O.es]; exact hn) (by decide) (by decide)) pe_int (fun _ _ => rfl)) pa_nil)) pe_w)) ?_
  refine ⟨_, h5, n, _, rfl, .inl (SqL.of hN), rfl, _, rfl, iteT ⟨h.r, h.ex, h.ec, true, rfl, iteT ?_⟩⟩
  exact ⟨_, h5, n, _, _, _, rfl, rfl, SqL.of hN, rfl, by show 1 ≤ sizeLine; decide, q⟩
end
end Pu
/-! ### _law_heard(lambda: e) -/
namespace Pu
open PySem PySem.Spec PyProof.Rows L2
/-- the table of the def in which lambdas are made -/
structure LamOk (τ : Tn) (X : Cx) (c P : Addr) (q : Str) : Prop where
  TB : LamX.TabB X.base X.mg c P
  cd : X.env.code = .ref c
  hq : q = X.env.qual ++ "<lambda>"
  ad : τ.ad P
  tab : ∀ H, τ.inv H → LamX.TabS H P q
  keep : ∀ H H1, τ.inv H → (∀ b o, H b = some o → b ≠ P → H1 b = some o) → LamX.TabS H1 P q → τ.inv H1
theorem lamOk_tw {T R c P : Addr} {Ts : List (Addr × Str)} {z : Hp → Prop} {X : Cx} {q : Str} {G : Gx} {cd : Value} {qx : Str} (em : X.mg = G.mg) (eb : X.base = G.base) (TB : LamX.TabB G.base G.mg c P) (at_ : AtC X cd qx) (hcd : cd = .ref c) (hq : q = qx ++ "<lambda>") (hm : (P, q) ∈ Ts) (hu : ∀ p ∈ Ts, p.1 = P → p.2 = q) : LamOk (tw T R Ts z) X c P q where
  TB := by rw [em, eb]; exact TB
  cd := at_.code.trans hcd
  hq := by rw [at_.qual]; exact hq
  ad := .inr (.inr ⟨_, hm, rfl⟩)
  tab := fun H h => h.2 _ hm
  keep := fun H H1 h up t => by
    obtain ⟨⟨n, c0, kvs, h1, h2, h3⟩, ht⟩ := h
    obtain ⟨ps, g1, _, _⟩ := ht _ hm
    have nT : T ≠ P := fun e => by rw [e, g1] at h1; cases h1
    have nR : R ≠ P := fun e => by rw [e, g1] at h2; cases h2
    refine ⟨⟨n, c0, kvs, up T _ h1 nT, up R _ h2 nR, h3⟩, fun p hp => ?_⟩
    by_cases e : p.1 = P
    · rw [hu p hp e, e]; exact t
    · obtain ⟨ps', f1, f2, f3⟩ := ht p hp
      refine ⟨ps', up _ _ f1 e, f2, fun pos cv hc => ?_⟩
      obtain ⟨c1, e1, e2⟩ := f3 pos cv hc
      exact ⟨c1, e1, up _ _ e2 fun e => by rw [e, g1] at e2; cases e2⟩
/-- all is laid still -/
def frzS : Sl → Sl
  | .lst ds => .dat (.list ds)
  | .dic _ => .un
  | .dtc _ => .un
  | s => s
theorem Rep.freeze {K : PySem.W.Frag} {τ : Tn} {H0 H : Hp} {γ : List (V × D)} {σ : St} {ρ : En} {z : Hp → Prop} (r : Rep K τ H0 γ H σ ρ) (hz : z H) : Rep K (τ.at_ z) H [] H σ (ρ.map frzS) := by
  have nown : ∀ {i : Nat} {s : Sl}, (ρ.map frzS)[i]? = some s → s.isOwn = false := fun {i s} h => by
    rw [List.getElem?_map] at h
    obtain ⟨u, _, rfl⟩ := Option.map_eq_some_iff.mp h
    cases u <;> rfl
  have only : ∀ a, own (τ.at_ z) σ (ρ.map frzS) a → τ.ad a := fun a h => by
    rcases h with h | ⟨i, s, h1, h2, _⟩
    · exact h
    · rw [nown h1] at h2; cases h2
  have le : Same (res H (own τ σ ρ)) (res H (own (τ.at_ z) σ (ρ.map frzS))) := res_mono fun a o n e => ⟨fun y => n (own_ad (only a y)), e⟩
  refine ⟨by rw [List.length_map]; exact r.len, fun _ _ e _ => e, r.inv, fun i s h => ?_, fun i j s t a h1 _ h3 => ?_, (fun p hp => by cases hp), hz⟩
  · rw [List.getElem?_map] at h
    obtain ⟨u, hu, rfl⟩ := Option.map_eq_some_iff.mp h
    have q := r.sl i u hu
    cases u with
    | un => trivial
    | dat d =>
      obtain ⟨v, e1, e2⟩ := q
      exact ⟨v, e1, dp_same le _ _ e2⟩
    | lst ds =>
      obtain ⟨a, vs, e1, _, hn, e2, e3⟩ := q
      exact ⟨_, e1, .lst (.inl (.inl (res_put (fun y => hn (only a y)) e2))) (dpAll_same le _ _ e3)⟩
    | dic kds => trivial
    | town => exact q
    | ldc kds =>
      obtain ⟨a, od, kvs, e1, e2, e3⟩ := q
      exact ⟨a, od, kvs, e1, le _ _ e2, KvOk.same le e3⟩
    | dtc kds => trivial
  · rw [nown h1] at h3; cases h3
/-- the refusal C is heard as w -/
def keysH : List (Str × Str) := [("NoDate", "no date"), ("BadWay", "bad way"), ("NoText", "no text"), ("NoEdition", "no edition"), ("NoZone", "no zone"), ("NoComing", "no coming"), ("NoWork", "no work"), ("BadRate", "bad rate"), ("BadZones", "bad zones"), ("BadName", "bad name"), ("Taken", "taken"), ("BadWish", "bad wish"), ("BadTask", "bad task"), ("NoWish", "no wish"), ("NoRing", "no ring"), ("NoBack", "no back")]
def kvN (bs : Str → Bool) (n : Nat) : List (Key × V) := (keysH.take n).map fun y => ((.inr y.2 : Key), V.bl (bs y.1))
theorem kvN_len {bs : Str → Bool} {n : Nat} : (kvN bs n).length ≤ 1000 := by
  unfold kvN
  rw [List.length_map, List.length_take]
  exact Nat.le_trans (Nat.min_le_right _ _) (by decide)
theorem kvN_bl {bs : Str → Bool} {n : Nat} : ∀ p ∈ kvN bs n, ∃ z, p.2 = V.bl z := fun p hp => by
  obtain ⟨y, _, rfl⟩ := List.mem_map.mp hp
  exact ⟨_, rfl⟩
structure HearOk (G : Gx) (C : Addr) (bs : Str → Bool) (w : Str) : Prop where
  ec : ExcC G.K C
  te : ∃ CT, G.mg "TimeError" = some (.ref CT) ∧ PySem.W.exmOne G.K (.ref C) (.ref CT) = some true
  ve : PySem.W.kitOne G.K (.ref C) (.type "ValueError") = some true
  kl : ∀ y ∈ keysH, Kl G C y.1 (bs y.1)
  yes : yesW (keysH.map fun y => ((.inr y.2 : Key), V.bl (bs y.1))) = [.str w]
/-- how the heard refusals are called -/
abbrev Hn := Str → Option Str
def HearAll (G : Gx) (hn : Hn) : Prop := ∀ x C w, ExC G x C → hn x = some w → ∃ bs, HearOk G C bs w
def HearE (G : Gx) (Q : VK) : XK := fun cls d H' => ∃ C bs w, d = none ∧ cls = .ref C ∧ HearOk G C bs w ∧ ∀ p H'', Same H' H'' → H' p = none → H'' p = some (.tup [.str w]) → Q (.ref p) H''
def HearQ (Q : VK) : VK := fun v H' => ∀ p, H' p = none → Q (.ref p) (upd H' p (.tup [.str "told", v]))
def TTh (G : Gx) : Tel → Hp → VK → Prop := fun tl H Q => ∀ H0, Same H H0 → ∀ (Ech : XK) (Qn : VK), (∀ cls d H', HearE G Q cls d H' → Ech cls d H') → (∀ v H', HearQ Q v H' → Qn v H') → tl Ech H0 Qn
/-- what is known of the def _law_heard -/
structure HearD (G : Gx) (g : Addr) : Prop where
  ex : ∃ (oc dV kV doc pm cdv ct : Value) (od an : Option Addr) (osl : Array (Option Value)) (pg : Arguments) (bg : List Stmt) (sg : Scope), G.mg "_law_heard" = some (.ref g) ∧ PySem.W.keepIn G.K (.ref g) = true ∧
    G.K.lookup g = some ⟨oc, od, .func (PySem.W.fnOf "_law_heard" "_law_heard" pg bg sg dV kV doc pm an cdv ct), osl⟩ ∧ PySem.W.codeIn G.K cdv "_law_heard" = true ∧ L2.Binds G.K (PySem.W.fnOf "_law_heard" "_law_heard" pg bg sg dV kV doc pm an cdv ct) ["deed"] [] ∧
    FnScope Ngh ["deed"] sg ∧ Vis sg "deed" ∧ ∀ (X : Cx) (q : Str), X.prog = G.P → X.w = G.w → X.K = G.K → X.mg = G.mg → X.base = G.base → Room 1 X.A → LamX.GivesTo X Ngh "_law_heard" sg g cdv bg "deed" q (TTh G)
def eHeard (hn : Hn) (tb : Xw → UV) : UV := fun ρ C => tb (fun x => ∃ w, hn x = some w ∧ C (.tuple [.str w])) (ρ.map frzS) fun d => lf d = true ∧ C (.tuple [.str "told", d])
section
variable {τ : Tn} {G : Gx} {cp : List Str} {N : List Str} {sc lsc : Scope} {k j : Nat} {X : Cx} {e : Expr} {args : Arguments} {p lpos pos : Pos} {g c P : Addr} {q : Str} {hn : Hn} {tb : Xw → UV}
theorem jd_heard (O : Ok cp G N sc k X) (L : LamOk τ X c P q) (Hd : HearD G g) (Ha : HearAll G hn) (hb : ∀ z X' ξ, Ok [] G N lsc j X' → XOk G (τ.at_ z) ξ X' → JD (τ.at_ z) X' e (tb ξ)) (hj : j + 2 ≤ k := by decide)
    (hL : LamX.lamSB sc lsc = true := by decide +kernel) (hg : sc.names.lookup ("_law_heard" : Str) = some .globalImplicit := by rfl) (hdf : ∀ env : Env, defaultsOf args env = ([], []) := by intro _; rfl)
    (hbd : ∀ (q : Str) (cl : List (Str × Addr)) (pm cv ctv : Value), bindArgs (PySem.W.kla_fn "<lambda>" q args e lsc cl pm cv ctv) ⟨[], []⟩ = pure [] := by intro _ _ _ _ _; rfl) :
    JD τ X (.Call (.Name "_law_heard" p) [.Lambda args e lsc lpos] [] pos) (eHeard hn tb) := by
  obtain ⟨oc, dV, kV, doc, pm, cdv, ct, od, an, osl, pg, bg, sg, h1, h2, h3, h4, h5, h6, h7, h8⟩ := Hd.ex
  have LS : LamX.LamS X.env.scope lsc := by rw [O.es]; exact LamX.lamS_by hL
  intro ρ C cc H0 γ σ H r Q qq
  refine wpE_of (pe_hand (k := j) (t := fun E σ H Q => ∀ (A : Around) (outer : List Env) (s : Shared) (HH : Hp) (f c' : Addr), Room j (A.deeper (LamX.lamEnv X lsc s.heap.objs.size f c')) → wpE (LamX.lamCx X A outer s HH E lsc f c') e σ H Q) L.hq (by show X.env.scope.names.lookup _ = _; rw [O.es]; exact hg) (by rw [O.em]; exact h1) (by rw [O.eK]; exact h2) (by rw [O.eK]; exact h3) (by rw [O.eK]; exact h4) (by rw [O.eK]; exact h5) h6 rfl h7
    (h8 X q O.eP O.ew O.eK O.em O.eb (O.room.mono (by omega))) L.TB L.cd (O.room.mono hj) LS (hdf _) hbd (fun A outer s HH E f c' hr => ⟨fun pins s' σ H' Q I h => pe_w.run pins s' σ H' Q I (h A outer s HH f c' hr)⟩)) ?_
  refine ⟨L.tab H r.inv, fun H1 up t1 H2 s2 Ech Qn hE hQ A outer s HH f c' hr => ?_⟩
  have e1 : Ext τ H H1 := ⟨fun a o ea na => up a o ea fun z => na (by rw [z]; exact L.ad), fun hi => L.keep H H1 hi up t1⟩
  have e2 : Ext τ H1 H2 := .of_same s2
  have r2 := (r.after e1).after e2
  have rf : Rep X.K (τ.at_ fun H0 => H0 = H2) H2 [] H2 σ (ρ.map frzS) := r2.freeze rfl
  have O' : ∀ E, Ok [] G N lsc j (LamX.lamCx X A outer s HH E lsc f c') := fun E => ⟨O.eP, O.ew, O.eK, O.em, O.eb, O.eN, O.nd, rfl, LS.kind, rfl, hr, fun x hx _ => absurd rfl (LS.own _ (PySem.mem_of_lookup hx)).2, PassesOwn.leaving⟩
  refine hb (fun H0 => H0 = H2) _ (fun x => ∃ w, hn x = some w ∧ C (.tuple [.str w])) (O' _) ⟨fun cls d _ H => _, takes_of rfl rfl rfl rfl, fun x u σ' H0' H' hz hξ hu he hi => ?_⟩ _ _ cc H2 [] σ H2 rf _ fun d v H3 cd e3 b => ?_
  · cases hz
    obtain ⟨w, hw, hC⟩ := hξ
    obtain ⟨Ca, rfl, hEx⟩ := hu
    obtain ⟨bs, hok⟩ := Ha x Ca w hEx hw
    refine hE _ _ _ ⟨Ca, bs, w, rfl, rfl, hok, fun p' H'' sm hp hp' => ?_⟩
    have e3 : Ext τ H2 H' := ⟨he, fun _ => hi⟩
    have e4 : Ext τ H' H'' := .of_same sm
    have e5 := ((e1.trans e2).trans e3).trans e4
    have r5 := r.after e5
    have r3 := r.after ((e1.trans e2).trans e3)
    have no : ¬ own τ σ ρ p' := fun z => by
      obtain ⟨o, eo, _⟩ := r3.ownMut z
      rw [hp] at eo; cases eo
    exact qq _ _ _ hC e5 (.tup (.inl (.inl (res_put no hp' ⟨_, rfl, fun _ z => nomatch z⟩))) (.cons (.str _) .nil))
  · refine hQ _ _ fun p' hp' => ?_
    have e3' : Ext τ H2 H3 := e3.of_at
    have e5 := ((e1.trans e2).trans e3').trans (Ext.new (τ := τ) (o := .tup [.str "told", v]) hp')
    have r3 := r.after ((e1.trans e2).trans e3')
    have r5 := r.after e5
    refine qq _ _ _ cd.2 e5 (.tup (.inl (.inl (res_put (r3.notOwn hp') upd_same ⟨_, rfl, fun _ z => nomatch z⟩))) (.cons (.str _) (.cons ?_ .nil)))
    exact dp_after (Ext.new hp') (r3.lfRes (fun a z => r3.ownMut z) res_le (fun _ _ => res_ok) cd.1 b)
end
end Pu
namespace Pu
open PySem PySem.Spec PyProof.Rows L2
/-- the first three statements of _law_heard -/
def tnF (f : Addr) : Tn := ⟨fun _ => False, fun _ => True, .ref f, fun _ h => h.elim, fun _ _ => trivial, fun _ => True⟩
section
variable {G : Gx} {sg : Scope} {g : Addr} {cdv : Value} {q : Str} {p1 p2 p3 p4 p5 p6 p7 p8 p9 q0 q1 q2 q3 q4 q5 q6 q7 q8 q9 r0 r1 r2 r3 : Pos} {t1 t2 t3 j1 j2 j3 j4 : Nat} {rest : List Stmt}
theorem hear_gives {X : Cx} (eP : X.prog = G.P) (ew : X.w = G.w) (eK : X.K = G.K) (em : X.mg = G.mg) (eb : X.base = G.base) (hr : Room 1 X.A) (S : FnScope Ngh ["deed"] sg) (hd : Vis sg "deed") (hv1 : sg.names.lookup ("refused" : Str) = some .local) (hv2 : sg.names.lookup ("found" : Str) = some .local) (hv3 : sg.names.lookup ("e" : Str) = some .local)
    (hT : sg.names.lookup ("TimeError" : Str) = some .globalImplicit) (hTm : ∃ CT, G.mg "TimeError" = some (.ref CT))
    (hw : swappedStores [.Tuple [.Name "refused" p1, .Name "found" p2] t1 p3] (.Tuple [.Constant .none j1 p4, .Constant .none j2 p5] t2 p6) { (default : Env) with scope := sg } = pure none)
    (hs0 : ∀ env : Env, swapsWithSole [.Tuple [.Name "refused" p1, .Name "found" p2] t1 p3] (.Tuple [.Constant .none j1 p4, .Constant .none j2 p5] t2 p6) p7.line env = pure false)
    (hs1 : ∀ env : Env, swapsWith (.Name "e" r1) (some (.Name "refused" r0)) r2.line env = pure false) (hs2 : ∀ env : Env, swapsWith (.Call (.Name "deed" p9) [] [] q0) (some (.Name "found" p8)) q1.line env = pure false)
    (hrest : ∀ (Y : Cx) (H1 : Hp) (a C : Addr) (bs : Str → Bool) (w : Str) (σ : St) (D : Ends), Ok [] G Ngh sg 0 Y → HearOk G C bs w → Hs Y.K H1 a C σ H1 → (∀ p H'', Same H1 H'' → H1 p = none → H'' p = some (.tup [.str w]) → D.rt (.ref p) H'') → wpSs Y rest D σ H1) :
    LamX.GivesTo X Ngh "_law_heard" sg g cdv (.Assign [.Tuple [.Name "refused" p1, .Name "found" p2] t1 p3] (.Tuple [.Constant .none j1 p4, .Constant .none j2 p5] t2 p6) p7 ::
      .Try [.Assign [.Name "found" p8] (.Call (.Name "deed" p9) [] [] q0) q1] [.ExceptHandler (some (.Name "TimeError" q2)) (some "e") [.Assign [.Name "refused" r0] (.Name "e" r1) r2] q4] [] [] q5 ::
      .If (.Compare (.Name "refused" q6) [.Is] [.Constant .none j3 q7] q8) [.Return (some (.Tuple [.Constant (.str "told") j4 q9, .Name "found" r3] t3 q3)) p1'] [] p2' :: rest) "deed" q (TTh G) := by
  intro f c' s H Q tl act hc hTT
  obtain ⟨CT, hCT⟩ := hTm
  have O : Ok [] G Ngh sg 0 (cxOf C8.CX0 X.prog X.w X.K X.mg X.base Ngh "_law_heard" sg g cdv X.A X.stack s H C8.E0).nox := ⟨eP, ew, eK, em, eb, rfl, S.nd, rfl, S.kind, rfl, hr.deeper _, fun _ _ _ => rfl, PassesOwn.never⟩
  generalize hY : (cxOf C8.CX0 X.prog X.w X.K X.mg X.base Ngh "_law_heard" sg g cdv X.A X.stack s H C8.E0).nox = Y at O
  refine ⟨wpSs Y _, pss_w, ?_⟩
  have j0 : JS (tnF f) Y (.Assign [.Tuple [.Name "refused" p1, .Name "found" p2] t1 p3] (.Tuple [.Constant .none j1 p4, .Constant .none j2 p5] t2 p6) p7) (sAsg (dC (.tuple [.none, .none])) (gTupl 2 (gsCons (gNam 1) (gsCons (gNam 2) gsNil)))) :=
    js_asgC O (jd_lit 40 rfl) (jg_tup O (jgs_cons (jg_name O 1 rfl (.inl hv1)) (jgs_cons (jg_name O 2 rfl (.inl hv2)) jgs_nil))) hw (hs0 _)
  have rep0 : Rep Y.K (tnF f) H [] H (L2.start Ngh [.ref f]) [.town, .un, .un, .un, .un, .un, .un] := by
    refine ⟨rfl, fun _ _ e _ => e, trivial, fun i s h => ?_, fun i j s t a h1 h2 h3 => ?_, (fun p hp => by cases hp), trivial⟩
    · match i, h with
      | 0, h => cases h; rfl
      | 1, h => cases h; trivial
      | 2, h => cases h; trivial
      | 3, h => cases h; trivial
      | 4, h => cases h; trivial
      | 5, h => cases h; trivial
      | 6, h => cases h; trivial
    · match i, h1 with
      | 0, h => cases h; cases h3
      | 1, h => cases h; cases h3
      | 2, h => cases h; cases h3
      | 3, h => cases h; cases h3
      | 4, h => cases h; cases h3
      | 5, h => cases h; cases h3
      | 6, h => cases h; cases h3
  refine wpSs_of (pss_cons ps_w pss_w) (j0 [.town, .un, .un, .un, .un, .un, .un] { nx := fun ρ => ρ = [.town, .dat .none, .dat .none, .un, .un, .un, .un], rt := fun _ => False } ⟨rfl, rfl⟩ H [] _ H rep0 _ ⟨fun ρ σ H' c r => ?_, fun _ _ _ c => c.elim, fun _ _ _ c => c.elim, fun _ _ _ c => c.elim⟩)
  subst c
  have s0 : σ[0]? = some (some (.ref f)) := r.sl 0 _ rfl
  have l7 : σ.length = 7 := r.len
  have sm : Same H H' := fun a o e => r.ext a o e id
  have s1 : σ[1]? = some (some .non) := by
    obtain ⟨v, e1, e2⟩ := r.sl 1 _ rfl
    cases e2; exact e1
  have tt := hTT H' sm
  clear rep0 j0 r
  have tail : ∀ (σ : St) (H' : Hp) (a : Addr), H' a = none → σ.length = 7 → ∀ (C : Addr) (bs : Str → Bool) (w : Str), HearOk G C bs w → (∀ p H'', Same H' H'' → H' p = none → H'' p = some (.tup [.str w]) → Q (.ref p) H'') →
      wpSs Y (.If (.Compare (.Name "refused" q6) [.Is] [.Constant .none j3 q7] q8) [.Return (some (.Tuple [.Constant (.str "told") j4 q9, .Name "found" r3] t3 q3)) p1'] [] p2' :: rest) { nx := fun _ H' => Q .non H', rt := Q } (((σ.set 3 (some (.ref a))).set 1 (some (.ref a))).set 3 none) (upd H' a (ExH (.ref C) a)) := by
    intro σ H' a ha hl C bs w hok hq
    have e1 : (((σ.set 3 (some (.ref a))).set 1 (some (.ref a))).set 3 none)[1]? = some (some (.ref a)) := by
      rw [List.getElem?_set_ne (by decide), List.getElem?_set_self (by rw [List.length_set, hl]; decide)]
    refine wpSs_of (pss_cons (ps_if (pt_cmpR op_isN (pe_var (i := 1) (by rw [O.eN]; rfl) (by rw [O.es]; exact .inl hv1) (by decide) (by decide)) pe_non (nomark _)) pss_w pss_nil) pss_w) ?_
    refine ⟨_, e1, rfl, _, rfl, iteF (hrest Y _ a C bs w _ _ O hok ⟨e1, upd_same, by rw [O.eK]; exact hok.ec, fun _ _ e => e, by simp [hl]⟩ fun p H'' sm2 hp hp2 => ?_)⟩
    have np : p ≠ a := fun z => by rw [z, upd_same] at hp; cases hp
    refine hq p H'' (fun b o e => sm2 b o (by rw [upd_ne (ne_of_none e ha)]; exact e)) (by rw [upd_ne np] at hp; exact hp) hp2
  subst hY
  refine wpSs_of (pss_cons (ps_try_keep (X := (cxOf C8.CX0 X.prog X.w X.K X.mg X.base Ngh "_law_heard" sg g cdv X.A X.stack s H C8.E0).nox) (i := 3) (j := 1) (c := .ref CT)
    (tb := fun W D σ H => ∃ Ech : XK, (∀ cls d σ' H', Ech cls d H' → W cls d σ' H') ∧ σ[0]? = some (some (.ref f)) ∧ H c' = some (LamX.CodeO c' q) ∧ tl Ech H fun v H' => D.nx (σ.set 2 (some v)) H')
    rfl rfl rfl O.nd rfl rfl (by decide) hv3 hv1 ⟨hT, by decide, .inl (by show X.mg _ = _; rw [em]; exact hCT)⟩ hs1 (by decide) (by decide) fun W pn xe tk _ => ?_) pss_w) ?_
  · refine ⟨fun pins t σ H D I ⟨Ech, hW, h1, h2, h3⟩ => ?_⟩
    have hp := act W pn xe Ech p9 q0 tk hW
    exact (pss_one (ps_set (i := 2) (pos := q1) O.nd rfl (.inl hv2) hp (hs2 _) (.inr hv2))).run pins t σ H D I ⟨h1, h2, h3⟩
  · refine ⟨HearE G Q, fun cls d σ' H2 ⟨C, bs, w, hd, hcl, hok, hq⟩ => ?_, s0, sm _ _ hc, tt _ _ (fun _ _ _ h => h) fun v H2 hq => ?_⟩
    · subst hd hcl
      obtain ⟨CT', g1, g2⟩ := hok.te
      rw [hCT] at g1
      cases g1
      refine ⟨rfl, by rw [O.eK]; exact g2, fun a ha hl => tail _ _ a ha hl C bs w hok hq⟩
    · refine wpSs_of (pss_cons (ps_if (pt_cmpR op_isN (pe_var (i := 1) rfl (.inl hv1) (by decide) (by decide)) pe_non (nomark _)) (pss_one (ps_ret (pe_tup (pa_cons pe_str (pa_cons (pe_var (i := 2) rfl (.inl hv2) (by decide) (by decide)) pa_nil))))) pss_nil) pss_w) ?_
      refine ⟨.non, by rw [List.getElem?_set_ne (by decide)]; exact s1, rfl, _, rfl, iteT ⟨v, List.getElem?_set_self (by rw [l7]; decide), by show 2 ≤ sizeLine; decide, hq⟩⟩
end
end Pu
namespace Pu
open PySem PySem.Spec PyProof.Rows L2
def excCB (K : PySem.W.Frag) (C : Addr) : Bool := He.eqO (PySem.W.findIn K (.ref C) "__getattribute__") (some (some (.builtin "BaseException.__getattribute__"))) && (He.eqO (PySem.W.findIn K (.ref C) "__getattr__") (some none) && (decide (PySem.W.subIn K (.ref C) (.type "BaseException") = some true) && (PySem.W.hasDictIn K C && (He.eqO (PySem.W.findIn K (.ref C) "__class__") (some (some (.builtin "object.__class__"))) &&
  (He.eqO (PySem.W.specialIn K (.builtin "object.__class__") "__get__") (some (some (.builtin "getset_descriptor.__get__"))) && (decide (PySem.W.takesIn K (.builtin "object.__class__") = some true) && decide (PySem.W.mroIn K C (.type "object") = some true)))))))
theorem excCB_ok {K : PySem.W.Frag} {C : Addr} (h : excCB K C = true) : ExcC K C := by
  obtain ⟨h1, h⟩ := He.ba h
  obtain ⟨h2, h⟩ := He.ba h
  obtain ⟨h3, h⟩ := He.ba h
  obtain ⟨h4, h⟩ := He.ba h
  obtain ⟨h5, h⟩ := He.ba h
  obtain ⟨h6, h⟩ := He.ba h
  obtain ⟨h7, h8⟩ := He.ba h
  exact ⟨He.eqO_ok h1, He.eqO_ok h2, of_decide_eq_true h3, h4, He.eqO_ok h5, He.eqO_ok h6, of_decide_eq_true h7, of_decide_eq_true h8⟩
/-- the class p.1 is heard as p.2 -/
def hearB (K : PySem.W.Frag) (p : Str × Str) : Bool := excCB K (He.ga K p.1) && (decide (PySem.W.exmOne K (.ref (He.ga K p.1)) (.ref (He.ga K "TimeError")) = some true) && (decide (PySem.W.kitOne K (.ref (He.ga K p.1)) (.type "ValueError") = some true) &&
  (keysH.all (fun y => decide (PySem.W.kitOne K (.ref (He.ga K p.1)) (.ref (He.ga K y.1)) = some (y.1 == p.1)) && He.eqO (PySem.W.nsIn K mainGlobals y.1) (some (some (.ref (He.ga K y.1))))) && (decide (yesW (keysH.map fun y => ((.inr y.2 : Key), V.bl (y.1 == p.1))) = [.str p.2]) && (He.Fa.glo "TimeError").ok K))))
theorem hearB_ok {G : Gx} {h : Heap} (X : G.K.In h) (N : h.Ns mainGlobals G.mg) {p : Str × Str} (c : hearB G.K p = true) : HearOk G (He.ga G.K p.1) (fun y => y == p.1) p.2 := by
  obtain ⟨c1, c⟩ := He.ba c
  obtain ⟨c2, c⟩ := He.ba c
  obtain ⟨c3, c⟩ := He.ba c
  obtain ⟨c4, c⟩ := He.ba c
  obtain ⟨c5, c6⟩ := He.ba c
  refine ⟨excCB_ok c1, ⟨_, He.glo_ok X N c6, of_decide_eq_true c2⟩, of_decide_eq_true c3, fun y hy => ?_, of_decide_eq_true c5⟩
  obtain ⟨d1, d2⟩ := He.ba (List.all_eq_true.mp c4 y hy)
  exact ⟨_, PySem.W.mg_of X N (He.eqO_ok d2), of_decide_eq_true d1⟩
def hnOf (l : List (Str × Str)) : Hn := fun x => l.lookup x
theorem hearAll_of {G : Gx} {h : Heap} (X : G.K.In h) (N : h.Ns mainGlobals G.mg) {l : List (Str × Str)} (c : l.all (hearB G.K) = true) (gl : l.all (fun p => (He.Fa.glo p.1).ok G.K) = true) : HearAll G (hnOf l) := fun x C w hE hw => by
  have hm : (x, w) ∈ l := PySem.mem_of_lookup hw
  have e : G.mg x = some (.ref (He.ga G.K x)) := He.glo_ok X N (List.all_eq_true.mp gl _ hm)
  rw [hE.gl] at e
  cases e
  exact ⟨_, hearB_ok X N (List.all_eq_true.mp c _ hm)⟩
theorem exC_of {G : Gx} {h : Heap} (X : G.K.In h) (N : h.Ns mainGlobals G.mg) {x : Str} (c1 : (He.Fa.glo x).ok G.K = true) (c2 : (He.Fa.exc x).ok G.K = true) : ExC G x (He.ga G.K x) := by
  obtain ⟨d1, d2, d3, d4⟩ := He.exc_ok c2
  exact ⟨He.glo_ok X N c1, d1, d2, d3, d4⟩
theorem hearD_of {G : Gx} {pg : Arguments} {bg : List Stmt} {sg : Scope} {g : Addr} {fd : FuncData} (F : FunD G.K "_law_heard" "_law_heard" pg bg sg [] [] g fd) (gl : G.mg "_law_heard" = some (.ref g))
    (hb : ∀ (kV doc pm : Value) (an : Option Addr) (cdv ct : Value) (us : List Value), us.length = 1 → bindArgs (PySem.W.fnOf "_law_heard" "_law_heard" pg bg sg .none kV doc pm an cdv ct) ⟨us, []⟩ = pure ((["deed"] : List Str).zip us)) (S : FnScope Ngh ["deed"] sg) (hv : Vis sg "deed")
    (h : ∀ (X : Cx) (cdv : Value) (q : Str), X.prog = G.P → X.w = G.w → X.K = G.K → X.mg = G.mg → X.base = G.base → Room 1 X.A → LamX.GivesTo X Ngh "_law_heard" sg g cdv bg "deed" q (TTh G)) : HearD G g := by
  have B := F.bindsN (ps := ["deed"]) hb
  obtain ⟨oc, od, dV, kV, doc, pm, an, cdv, ct, osl, rfl, lk, hcd, hD, hK⟩ := F.ex
  exact ⟨⟨oc, dV, kV, doc, pm, cdv, ct, od, an, osl, pg, bg, sg, gl, F.kp, lk, hcd, B, S, hv, fun X q => h X cdv q⟩⟩
/-- a def's code object -/
theorem code_of {K : PySem.W.Frag} {x qual : Str} {params : Arguments} {body : List Stmt} {scope : Scope} {dvs : List V} {kws : List (Str × V)} {fd : FuncData} {p : Str × Option Str} (F : FunD K x qual params body scope dvs kws (He.fAd K p) fd) : fd.code = .ref (He.codeOf K p) := by
  obtain ⟨oc, od, dV, kV, doc, pm, an, cdv, ct, osl, rfl, lk, hcd, _, _⟩ := F.ex
  obtain ⟨c, rfl⟩ := He.codeIn_ref hcd
  rw [He.codeOf_eq (c := c) lk rfl]
/-- the tables of the defs tf, each with the name of its lambdas -/
def tabsOf (K : PySem.W.Frag) (tf : List (Str × Scope)) : List (Addr × Str) := tf.map fun p => ((He.cT K (p.1, none)).2, qOf p.1 p.2 ++ "<lambda>")
theorem tabs_u {K : PySem.W.Frag} {tf : List (Str × Scope)} (h : decide (((tabsOf K tf).map Prod.fst).Nodup) = true) {P : Addr} {q : Str} (hm : (P, q) ∈ tabsOf K tf) : ∀ p ∈ tabsOf K tf, p.1 = P → p.2 = q := fun p hp e => by
  have nd : ((tabsOf K tf).map Prod.fst).Nodup := of_decide_eq_true h
  clear h
  generalize tabsOf K tf = l at *
  induction l with
  | nil => cases hp
  | cons a r ih =>
    simp only [List.map_cons, List.nodup_cons, List.mem_map, not_exists, not_and] at nd
    rcases List.mem_cons.mp hm with h1 | h1
    · rcases List.mem_cons.mp hp with h2 | h2
      · rw [h2, ← h1]
      · exact absurd (by rw [e, ← h1]) (nd.1 p h2)
    · rcases List.mem_cons.mp hp with h2 | h2
      · exact absurd (show (P, q).1 = a.1 by rw [← h2]; exact e.symm) (nd.1 _ h1)
      · exact ih h1 h2 nd.2
end Pu
namespace Pu
open PySem PySem.Spec PyProof.Rows L2
section
variable {t : Xw → US} {E : Ed} {ρ : En} {ta tb : UA} {R : Rs → Prop} {C : D → Prop} {S : SfX} {ξ : Xw} {x : Str} {n : Nat} {g : List Ar → List Ar → List Ar} {h : Hn} {tv : Xw → UV} {d : D} {ds : List D}
theorem c_sfxOf {N : List Str} {as : List Ar} : sfxOf N n t as R ξ = (as.length = n ∧ t ξ { nx := fun _ => R (.dat .none), rt := fun r => r.lf = true ∧ R r } (en0 N as)) := propext Iff.rfl
theorem c_sRaise : sRaise ξ x E ρ = ξ x := propext Iff.rfl
theorem c_eCallX : eCallX S ξ ta ρ R = ta ρ fun as => S as R ξ := propext Iff.rfl
theorem c_eCallXK : eCallXK S ξ g ta tb ρ R = ta ρ fun as => tb ρ fun bs => S (g as bs) R ξ := propext Iff.rfl
theorem c_eHeard : eHeard h tv ρ C = tv (fun x => ∃ w, h x = some w ∧ C (.tuple [.str w])) (ρ.map frzS) fun d => lf d = true ∧ C (.tuple [.str "told", d]) := propext Iff.rfl
theorem q_frz_d : frzS (.dat d) = .dat d := rfl
theorem q_frz_l : frzS (.lst ds) = .dat (.list ds) := rfl
theorem q_frz_u : frzS .un = .un := rfl
theorem q_frz_t : frzS .town = .town := rfl
end
end Pu
namespace Py
open PySem PySem.Spec PyProof.Rows L2 Pu
def q_is_whole_least_most : {α : Type} → List α → List α → List α → List α := fun us mv ws => us ++ (ws.drop 0).take 1 ++ (ws.drop 1).take 1
def g_is_whole_least_most : List Ar → List Ar → List Ar := fun as bs => q_is_whole_least_most as (List.replicate 0 (.dat .none)) bs
def q_is_whole_least : {α : Type} → List α → List α → List α → List α := fun us mv ws => us ++ (ws.drop 0).take 1 ++ (mv.drop 0).take 1
def g_is_whole_least : List Ar → List Ar → List Ar := fun as bs => q_is_whole_least as (List.replicate 1 (.dat .none)) bs
def q_is_whole : {α : Type} → List α → List α → List α → List α := fun us mv ws => us ++ (mv.drop 0).take 1 ++ (mv.drop 1).take 1
def g_is_whole : List Ar → List Ar → List Ar := fun as bs => q_is_whole as (List.replicate 2 (.dat .none)) bs
def c_MOST : D := .int (1000)
def hearL : List (Str × Str) := [("BadRate", "bad rate")]
abbrev hn : Hn := hnOf hearL
/-! _law_draw -/
def N__law_draw : List Str := ["script", "town", "many", "at", "rest", "number"]
def t__law_draw : US := sSeq (sTick 1) (sSeq (sSet 3 (eD (dIf (bTru (vVar 0)) (d2 fMod (dCount 1) (dE (eB (fLen) (lCons (vVar 0) (fun _ C => C []))))) (dC (.int (0)))))) (sSeq (sSet 4 (eD (dRest 1 (vVar 3) (dIf (bTru (vVar 0)) (d2 fIx (vVar 0) (vVar 3)) (dC (.int (0))))))) (sSeq (sIf (b2 (fGe) (vVar 4) (d2 fPow (dC (.int (10))) (dC (.int (18))))) (sSeq (sRest 1 (vVar 3) (d2 fDiv (vVar 4) (vVar 2))) (sRet (eD (d2 fMod (vVar 4) (vVar 2))))) (sNext)) (sSeq (sSet 5 (eD (d2 fMod (d2 fAdd (vVar 4) (d2 fMul (dC (.int (104729))) (dCount 1))) (dC (.int (4294967291)))))) (sSeq (sSet 5 (eD (d2 fMod (d2 fPow (vVar 5) (dC (.int (5)))) (dC (.int (4294967279)))))) (sRet (eD (d2 fMod (d2 fDiv (d2 fMod (d2 fAdd (d2 fMul (d2 fDiv (vVar 5) (dC (.int (64)))) (dC (.int (69621)))) (vVar 5)) (dC (.int (4294967231)))) (dC (.int (8)))) (vVar 2)))))))))
@[irreducible] def S__law_draw : Sf := sfOf N__law_draw 3 t__law_draw
/-! _law_a_clock -/
def N__law_a_clock : List Str := ["script", "town", "found", "tick", "shown", "k"]
def b__law_a_clock_1 : US := sSeq (sAppend 2 (dTup (lCons (dVar 3) (lCons (dVar 4) (lCons (d2 fAdd (dC (.int (1))) (dE (eCall S__law_draw (aCons (vVar 0) (aTown 1 (aCons (dC (.int (4))) (aNil))))))) (lCons (d2 fAdd (dC (.int (1))) (dE (eCall S__law_draw (aCons (vVar 0) (aTown 1 (aCons (dC (.int (4))) (aNil))))))) (fun _ C => C []))))))) (sPar2 3 4 (eAdd (d2 fAdd (vVar 3) (dC (.int (1)))) (dE (eCall S__law_draw (aCons (vVar 0) (aTown 1 (aCons (dC (.int (40))) (aNil))))))) (eD (d2 fSub (d2 fAdd (vVar 4) (dE (eCall S__law_draw (aCons (vVar 0) (aTown 1 (aCons (dC (.int (200))) (aNil))))))) (dC (.int (60))))))
def t__law_a_clock : US := sSeq (sPar3 2 3 4 (eLst (fun _ C => C [])) (eD (dC (.int (0)))) (eD (d2 fSub (dE (eCall S__law_draw (aCons (vVar 0) (aTown 1 (aCons (dC (.int (2000))) (aNil)))))) (dC (.int (1000)))))) (sSeq (sFor (iRange1 (d2 fAdd (dC (.int (1))) (dE (eCall S__law_draw (aCons (vVar 0) (aTown 1 (aCons (dC (.int (4))) (aNil)))))))) (gNam 5) b__law_a_clock_1) (sRet (eB (fTuple) (lCons (vVar 2) (fun _ C => C [])))))
@[irreducible] def S__law_a_clock : Sf := sfOf N__law_a_clock 2 t__law_a_clock
/-! by_row -/
def N_by_row : List Str := ["row", "tick"]
def t_by_row : US := sRet (eAdd (d2 fIx (vVar 0) (dC (.int (1)))) (d2 fDiv (d2 fMul (d2 fSub (vVar 1) (d2 fIx (vVar 0) (dC (.int (0))))) (d2 fIx (vVar 0) (dC (.int (2))))) (d2 fIx (vVar 0) (dC (.int (3))))))
@[irreducible] def S_by_row : Sf := sfOf N_by_row 2 t_by_row
/-! row_at -/
def N_row_at : List Str := ["clock", "tick", "row"]
def t_row_at : US := sRet (eD (d2 fIx (dE (eLc (iSeq (vVar 0)) (gNam 2) (b2 (fLe) (d2 fIx (vVar 2) (dC (.int (0)))) (vVar 1)) (dVar 2) [2])) (d1 fNeg (dC (.int (1))))))
@[irreducible] def S_row_at : Sf := sfOf N_row_at 2 t_row_at
/-! clock_shows -/
def N_clock_shows : List Str := ["clock", "tick"]
def t_clock_shows : US := sRet (eCall S_by_row (aCons (dE (eCall S_row_at (aCons (vVar 0) (aCons (vVar 1) (aNil))))) (aCons (vVar 1) (aNil))))
@[irreducible] def S_clock_shows : Sf := sfOf N_clock_shows 2 t_clock_shows
/-! first_tick -/
def N_first_tick : List Str := ["clock", "tick", "moment", "at", "row", "begin", "wait", "found"]
def b_first_tick_1 : US := sSeq (sSet 5 (eB (fMax2) (lCons (vVar 1) (lCons (d2 fIx (vVar 4) (dC (.int (0)))) (fun _ C => C []))))) (sSeq (sSet 6 (eD (d1 fNeg (d2 fDiv (d2 fMul (d2 fSub (d2 fIx (vVar 4) (dC (.int (1)))) (vVar 2)) (d2 fIx (vVar 4) (dC (.int (3))))) (d2 fIx (vVar 4) (dC (.int (2)))))))) (sSeq (sSet 7 (eB (fMax2) (lCons (vVar 5) (lCons (d2 fAdd (d2 fIx (vVar 4) (dC (.int (0)))) (vVar 6)) (fun _ C => C []))))) (sIf (bOr (b2 (fEq false) (d2 fAdd (vVar 3) (dC (.int (1)))) (dE (eB (fLen) (lCons (vVar 0) (fun _ C => C []))))) (b2 (fLt) (vVar 7) (d2 fIx (d2 fIx (vVar 0) (d2 fAdd (vVar 3) (dC (.int (1))))) (dC (.int (0)))))) (sRetV 7) (sNext))))
def t_first_tick : US := sSeq (sFor (iEnumS (dVar 0)) (gTupl 2 (gsCons (gNam 3) (gsCons (gNam 4) (gsNil)))) b_first_tick_1) (sRet (eD (dC .none)))
@[irreducible] def S_first_tick : Sf := sfOf N_first_tick 3 t_first_tick
/-! is_whole -/
def N_is_whole : List Str := ["thing", "least", "most"]
def t_is_whole : US := sSeq (sIf (bOr (bNot (bTru (d1 (fIsi "int") (vVar 0)))) (bTru (d1 (fIsi "bool") (vVar 0)))) (sRet (eD (dC (.bool false)))) (sNext)) (sRet (eD (dAnd (dOr (dB (b2 (fIs false) (vVar 1) (dC .none))) (dB (b2 (fGe) (vVar 0) (vVar 1)))) (dOr (dB (b2 (fIs false) (vVar 2) (dC .none))) (dB (b2 (fLe) (vVar 0) (vVar 2)))))))
@[irreducible] def S_is_whole : Sf := sfOf N_is_whole 3 t_is_whole
/-! is_row -/
def N_is_row : List Str := ["thing"]
def t_is_row : US := sSeq (sIf (bOr (bNot (bTru (d1 (fIsi "tuple") (vVar 0)))) (bOr (b2 (fEq true) (dE (eB (fLen) (lCons (vVar 0) (fun _ C => C [])))) (dC (.int (4)))) (bOr (bNot (bTru (dE (eCallK S_is_whole g_is_whole_least (aCons (d2 fIx (vVar 0) (dC (.int (0)))) (aNil)) (aCons (dC (.int (0))) (aNil)))))) (bNot (bTru (dE (eCallK S_is_whole g_is_whole (aCons (d2 fIx (vVar 0) (dC (.int (1)))) (aNil)) (aNil)))))))) (sRet (eD (dC (.bool false)))) (sNext)) (sRet (eD (dAnd (dE (eCallK S_is_whole g_is_whole_least_most (aCons (d2 fIx (vVar 0) (dC (.int (2)))) (aNil)) (aCons (dC (.int (1))) (aCons (dC c_MOST) (aNil))))) (dE (eCallK S_is_whole g_is_whole_least_most (aCons (d2 fIx (vVar 0) (dC (.int (3)))) (aNil)) (aCons (dC (.int (1))) (aCons (dC c_MOST) (aNil))))))))
@[irreducible] def S_is_row : Sf := sfOf N_is_row 1 t_is_row
/-! is_clock -/
def N_is_clock : List Str := ["thing", "row", "one", "other"]
def t_is_clock : US := sSeq (sIf (bOr (bNot (bTru (d1 (fIsi "tuple") (vVar 0)))) (bOr (b2 (fEq false) (vVar 0) (dC (.tuple []))) (bOr (bNot (bTru (dE (eB (fAllB fun bs => bs.all id) (lCons (dE (eLc (iSeq (vVar 0)) (gNam 1) (bYes) (dE (eCall S_is_row (aCons (vVar 1) (aNil)))) [1])) (fun _ C => C [])))))) (b2 (fEq true) (d2 fIx (d2 fIx (vVar 0) (dC (.int (0)))) (dC (.int (0)))) (dC (.int (0))))))) (sRet (eD (dC (.bool false)))) (sNext)) (sRet (eB (fAllB fun bs => bs.all id) (lCons (dE (eLc (iZip2 (vVar 0) (dE (eCut (vVar 0) (oSome (dC (.int (1)))) (oNone)))) (gTupl 2 (gsCons (gNam 2) (gsCons (gNam 3) (gsNil)))) (bYes) (dB (b2 (fLt) (d2 fIx (vVar 2) (dC (.int (0)))) (d2 fIx (vVar 3) (dC (.int (0)))))) [2, 3])) (fun _ C => C []))))
@[irreducible] def S_is_clock : Sf := sfOf N_is_clock 1 t_is_clock
/-! jumps_of -/
def N_jumps_of : List Str := ["clock", "found", "one", "other", "by"]
def b_jumps_of_1 : US := sSeq (sSet 4 (eD (d2 fSub (d2 fIx (vVar 3) (dC (.int (1)))) (dE (eCall S_by_row (aCons (vVar 2) (aCons (d2 fIx (vVar 3) (dC (.int (0)))) (aNil)))))))) (sIf (b2 (fEq true) (vVar 4) (dC (.int (0)))) (sAppend 1 (dTup (lCons (d2 fIx (vVar 3) (dC (.int (0)))) (lCons (dVar 4) (fun _ C => C []))))) (sNext))
def t_jumps_of : US := sSeq (sSet 1 (eLst (fun _ C => C []))) (sSeq (sFor (iZip2 (dVar 0) (dE (eCut (vVar 0) (oSome (dC (.int (1)))) (oNone)))) (gTupl 2 (gsCons (gNam 2) (gsCons (gNam 3) (gsNil)))) b_jumps_of_1) (sRet (eB (fTuple) (lCons (vVar 1) (fun _ C => C [])))))
@[irreducible] def S_jumps_of : Sf := sfOf N_jumps_of 1 t_jumps_of
/-! kept_rows -/
def N_kept_rows : List Str := ["clock", "tick", "row"]
def t_kept_rows : US := sRet (eB (fTuple) (lCons (dE (eLc (iSeq (vVar 0)) (gNam 2) (b2 (fLt) (d2 fIx (vVar 2) (dC (.int (0)))) (vVar 1)) (dVar 2) [2])) (fun _ C => C [])))
@[irreducible] def S_kept_rows : Sf := sfOf N_kept_rows 2 t_kept_rows
/-! set_to -/
def N_set_to : List Str := ["clock", "tick", "moment"]
def t_set_to : US := sRet (eAdd (dE (eCall S_kept_rows (aCons (vVar 0) (aCons (vVar 1) (aNil))))) (dTup (lCons (d2 fAdd (dTup (lCons (dVar 1) (lCons (dVar 2) (fun _ C => C [])))) (dE (eCut (dE (eCall S_row_at (aCons (vVar 0) (aCons (vVar 1) (aNil))))) (oSome (dC (.int (2)))) (oNone)))) (fun _ C => C []))))
@[irreducible] def S_set_to : Sf := sfOf N_set_to 3 t_set_to
/-! divisor -/
def N_divisor : List Str := ["one", "other"]
def w_divisor_1 : UT := bTru (vVar 1)
def b_divisor_1 : US := sPar2 0 1 (eD (dVar 1)) (eD (d2 fMod (vVar 0) (vVar 1)))
def t_divisor : US := sSeq (sWhile w_divisor_1 b_divisor_1) (sRetV 0)
@[irreducible] def S_divisor : Sf := sfOf N_divisor 2 t_divisor
/-! look_rate -/
def N_look_rate : List Str := ["top", "bottom"]
def t_look_rate : US := sIf (bOr (bNot (bTru (dE (eCallK S_is_whole g_is_whole_least_most (aCons (vVar 0) (aNil)) (aCons (dC (.int (1))) (aCons (dC c_MOST) (aNil))))))) (bNot (bTru (dE (eCallK S_is_whole g_is_whole_least_most (aCons (vVar 1) (aNil)) (aCons (dC (.int (1))) (aCons (dC c_MOST) (aNil)))))))) (sNever) (sNext)
@[irreducible] def S_look_rate : Sf := sfOf N_look_rate 2 t_look_rate
def tx_look_rate (ξ : Xw) : US := sIf (bOr (bNot (bTru (dE (eCallK S_is_whole g_is_whole_least_most (aCons (vVar 0) (aNil)) (aCons (dC (.int (1))) (aCons (dC c_MOST) (aNil))))))) (bNot (bTru (dE (eCallK S_is_whole g_is_whole_least_most (aCons (vVar 1) (aNil)) (aCons (dC (.int (1))) (aCons (dC c_MOST) (aNil)))))))) (sRaise ξ "BadRate") (sNext)
@[irreducible] def X_look_rate : SfX := sfxOf N_look_rate 2 tx_look_rate
abbrev U_look_rate : SfX := orX S_look_rate X_look_rate
/-! led_softly -/
def N_led_softly : List Str := ["clock", "tick", "by", "over", "row", "top", "bottom", "shared", "soft", "end"]
def t_led_softly : US := sSeq (sSet 4 (eCall S_row_at (aCons (vVar 0) (aCons (vVar 1) (aNil))))) (sSeq (sPar2 5 6 (eAdd (d2 fMul (d2 fIx (vVar 4) (dC (.int (2)))) (vVar 3)) (d2 fMul (vVar 2) (d2 fIx (vVar 4) (dC (.int (3)))))) (eD (d2 fMul (d2 fIx (vVar 4) (dC (.int (3)))) (vVar 3)))) (sSeq (sIf (b2 (fLe) (vVar 5) (dC (.int (0)))) (sNever) (sNext)) (sSeq (sSet 7 (eCall S_divisor (aCons (vVar 5) (aCons (vVar 6) (aNil))))) (sSeq (sPar2 5 6 (eD (d2 fDiv (vVar 5) (vVar 7))) (eD (d2 fDiv (vVar 6) (vVar 7)))) (sSeq (sDrop (eCall S_look_rate (aCons (vVar 5) (aCons (vVar 6) (aNil))))) (sSeq (sPar2 8 9 (eD (dTup (lCons (dVar 1) (lCons (dE (eCall S_by_row (aCons (vVar 4) (aCons (vVar 1) (aNil))))) (lCons (dVar 5) (lCons (dVar 6) (fun _ C => C []))))))) (eAdd (vVar 1) (vVar 3))) (sRet (eAdd (dE (eCall S_kept_rows (aCons (vVar 0) (aCons (vVar 1) (aNil))))) (dTup (lCons (dVar 8) (lCons (d2 fAdd (dTup (lCons (dVar 9) (lCons (d2 fAdd (dE (eCall S_by_row (aCons (vVar 4) (aCons (vVar 9) (aNil))))) (vVar 2)) (fun _ C => C [])))) (dE (eCut (vVar 4) (oSome (dC (.int (2)))) (oNone)))) (fun _ C => C []))))))))))))
@[irreducible] def S_led_softly : Sf := sfOf N_led_softly 4 t_led_softly
def tx_led_softly (ξ : Xw) : US := sSeq (sSet 4 (eCall S_row_at (aCons (vVar 0) (aCons (vVar 1) (aNil))))) (sSeq (sPar2 5 6 (eAdd (d2 fMul (d2 fIx (vVar 4) (dC (.int (2)))) (vVar 3)) (d2 fMul (vVar 2) (d2 fIx (vVar 4) (dC (.int (3)))))) (eD (d2 fMul (d2 fIx (vVar 4) (dC (.int (3)))) (vVar 3)))) (sSeq (sIf (b2 (fLe) (vVar 5) (dC (.int (0)))) (sRaise ξ "BadRate") (sNext)) (sSeq (sSet 7 (eCall S_divisor (aCons (vVar 5) (aCons (vVar 6) (aNil))))) (sSeq (sPar2 5 6 (eD (d2 fDiv (vVar 5) (vVar 7))) (eD (d2 fDiv (vVar 6) (vVar 7)))) (sSeq (sDrop (eCallX U_look_rate ξ (aCons (vVar 5) (aCons (vVar 6) (aNil))))) (sSeq (sPar2 8 9 (eD (dTup (lCons (dVar 1) (lCons (dE (eCall S_by_row (aCons (vVar 4) (aCons (vVar 1) (aNil))))) (lCons (dVar 5) (lCons (dVar 6) (fun _ C => C []))))))) (eAdd (vVar 1) (vVar 3))) (sRet (eAdd (dE (eCall S_kept_rows (aCons (vVar 0) (aCons (vVar 1) (aNil))))) (dTup (lCons (dVar 8) (lCons (d2 fAdd (dTup (lCons (dVar 9) (lCons (d2 fAdd (dE (eCall S_by_row (aCons (vVar 4) (aCons (vVar 9) (aNil))))) (vVar 2)) (fun _ C => C [])))) (dE (eCut (vVar 4) (oSome (dC (.int (2)))) (oNone)))) (fun _ C => C []))))))))))))
@[irreducible] def X_led_softly : SfX := sfxOf N_led_softly 4 tx_led_softly
abbrev U_led_softly : SfX := orX S_led_softly X_led_softly
/-! law -/
def N_law : List Str := ["script", "town", "k", "clock", "jumps", "tick", "fall", "moment", "found", "same_so", "by", "over", "told", "soft", "later", "one"]
def b_law_1 : US := sIf (b2 (fLt) (dE (eCall S_clock_shows (aCons (vVar 13) (aCons (vVar 15) (aNil))))) (dE (eCall S_clock_shows (aCons (vVar 13) (aCons (d2 fSub (vVar 15) (dC (.int (1)))) (aNil)))))) (sRet (eD (dC (.bool false)))) (sNext)
def b_law_2 : US := sSeq (sSet 6 (eD (dB (b2 (fLt) (dE (eCall S_clock_shows (aCons (vVar 3) (aCons (vVar 5) (aNil))))) (dE (eCall S_clock_shows (aCons (vVar 3) (aCons (d2 fSub (vVar 5) (dC (.int (1)))) (aNil))))))))) (sIf (bAnd (bTru (vVar 6)) (b2 (fGe) (dGet2 4 (dVar 5) (dC (.int (0)))) (dC (.int (0))))) (sRet (eD (dC (.bool false)))) (sNext))
def b_law_3 : US := sSeq (sSet 3 (eCall S__law_a_clock (aCons (vVar 0) (aTown 1 (aNil))))) (sSeq (sSet 4 (eB (fDictT) (lCons (dE (eCall S_jumps_of (aCons (vVar 3) (aNil)))) (fun _ C => C [])))) (sSeq (sFor (iRange2 (dC (.int (1))) (dC (.int (160)))) (gNam 5) b_law_2) (sSeq (sAsg (dTup (lCons (dE (eCall S__law_draw (aCons (vVar 0) (aTown 1 (aCons (dC (.int (150))) (aNil)))))) (lCons (d2 fSub (dE (eCall S__law_draw (aCons (vVar 0) (aTown 1 (aCons (dC (.int (3000))) (aNil)))))) (dC (.int (1500)))) (fun _ C => C [])))) (gTupl 2 (gsCons (gNam 5) (gsCons (gNam 7) (gsNil))))) (sSeq (sSet 8 (eCall S_first_tick (aCons (vVar 3) (aCons (vVar 5) (aCons (vVar 7) (aNil)))))) (sSeq (sIf (b2 (fLt) (vVar 8) (vVar 5)) (sRet (eD (dC (.bool false)))) (sNext)) (sSeq (sIf (b2 (fLt) (dE (eCall S_clock_shows (aCons (vVar 3) (aCons (vVar 8) (aNil))))) (vVar 7)) (sRet (eD (dC (.bool false)))) (sNext)) (sSeq (sIf (b2 (fLt) (dE (eCall S_first_tick (aCons (vVar 3) (aCons (vVar 5) (aCons (d2 fAdd (vVar 7) (dE (eCall S__law_draw (aCons (vVar 0) (aTown 1 (aCons (dC (.int (50))) (aNil))))))) (aNil)))))) (vVar 8)) (sRet (eD (dC (.bool false)))) (sNext)) (sSeq (sIf (b2 (fEq true) (dE (eLc (iRange2 (vVar 5) (dE (eB (fMin2) (lCons (vVar 8) (lCons (d2 fAdd (vVar 5) (dC (.int (200)))) (fun _ C => C [])))))) (gNam 15) (b2 (fGe) (dE (eCall S_clock_shows (aCons (vVar 3) (aCons (vVar 15) (aNil))))) (vVar 7)) (dVar 15) [15])) (dE (eLst (fun _ C => C [])))) (sRet (eD (dC (.bool false)))) (sNext)) (sSeq (sSet 9 (eCall S_set_to (aCons (vVar 3) (aCons (vVar 5) (aCons (dE (eCall S_clock_shows (aCons (vVar 3) (aCons (vVar 5) (aNil))))) (aNil)))))) (sSeq (sIf (bOr (bNot (bTru (dE (eCall S_is_clock (aCons (vVar 9) (aNil)))))) (b2 (fEq true) (dE (eCall S_clock_shows (aCons (vVar 9) (aCons (vVar 5) (aNil))))) (dE (eCall S_clock_shows (aCons (vVar 3) (aCons (vVar 5) (aNil))))))) (sRet (eD (dC (.bool false)))) (sNext)) (sSeq (sAsg (dTup (lCons (d2 fSub (dE (eCall S__law_draw (aCons (vVar 0) (aTown 1 (aCons (dC (.int (40))) (aNil)))))) (dC (.int (10)))) (lCons (d2 fAdd (dC (.int (30))) (dE (eCall S__law_draw (aCons (vVar 0) (aTown 1 (aCons (dC (.int (40))) (aNil))))))) (fun _ C => C [])))) (gTupl 2 (gsCons (gNam 10) (gsCons (gNam 11) (gsNil))))) (sSeq (sSet 12 (eD (eHeard hn (fun ξ => dE (eCallX U_led_softly ξ (aCons (dE (eCut (vVar 3) (oNone) (oSome (dC (.int (1)))))) (aCons (vVar 5) (aCons (vVar 10) (aCons (vVar 11) (aNil)))))))))) (sIf (b2 (fEq false) (d2 fIx (vVar 12) (dC (.int (0)))) (dC (.str "told"))) (sSeq (sPar2 13 14 (eD (d2 fIx (vVar 12) (dC (.int (1))))) (eAdd (d2 fAdd (vVar 5) (vVar 11)) (dE (eCall S__law_draw (aCons (vVar 0) (aTown 1 (aCons (dC (.int (90))) (aNil)))))))) (sSeq (sIf (bOr (bNot (bTru (dE (eCall S_is_clock (aCons (vVar 13) (aNil)))))) (b2 (fGtU) (dE (eB (fAbs) (lCons (d2 fSub (d2 fSub (dE (eCall S_clock_shows (aCons (vVar 13) (aCons (vVar 14) (aNil))))) (dE (eCall S_clock_shows (aCons (dE (eCut (vVar 3) (oNone) (oSome (dC (.int (1)))))) (aCons (vVar 14) (aNil)))))) (vVar 10)) (fun _ C => C [])))) (dC (.int (1))))) (sRet (eD (dC (.bool false)))) (sNext)) (sSeq (sIf (b2 (fEq true) (dE (eCall S_clock_shows (aCons (vVar 13) (aCons (d2 fAdd (vVar 5) (vVar 11)) (aNil))))) (d2 fAdd (dE (eCall S_clock_shows (aCons (dE (eCut (vVar 3) (oNone) (oSome (dC (.int (1)))))) (aCons (d2 fAdd (vVar 5) (vVar 11)) (aNil))))) (vVar 10))) (sRet (eD (dC (.bool false)))) (sNext)) (sSeq (sFor (iRange2 (d2 fAdd (vVar 5) (dC (.int (1)))) (d2 fAdd (d2 fAdd (vVar 5) (vVar 11)) (dC (.int (2))))) (gNam 15) b_law_1) (sIf (bAnd (b2 (fGtU) (vVar 5) (dC (.int (0)))) (b2 (fEq true) (dE (eCall S_clock_shows (aCons (vVar 13) (aCons (d2 fSub (vVar 5) (dC (.int (1)))) (aNil))))) (dE (eCall S_clock_shows (aCons (dE (eCut (vVar 3) (oNone) (oSome (dC (.int (1)))))) (aCons (d2 fSub (vVar 5) (dC (.int (1)))) (aNil))))))) (sRet (eD (dC (.bool false)))) (sNext)))))) (sNext))))))))))))))
def t_law : US := sSeq (sFor (iRange1 (dC (.int (2)))) (gNam 2) b_law_3) (sRet (eD (dC (.bool true))))
local macro_rules | `(tactic| walk_at "pu") => `(tactic| try simp -implicitDefEqProofs only [c_sfOf, en0, Ar.sl, List.map_cons, List.map_nil, List.length_cons, List.length_nil, List.replicate, List.cons_append, List.nil_append, List.set_cons_zero, List.set_cons_succ, List.set_nil, List.getElem?_cons_zero, List.getElem?_cons_succ, List.getElem?_nil, List.drop_zero, List.drop_succ_cons, List.drop_nil, List.take_zero, List.take_succ_cons, List.take_nil, List.append_nil, Nat.reduceAdd, Nat.reduceSub, Nat.zero_add, true_and, and_true, false_and, and_false, q_sl_d, q_sl_l, q_lf_d, q_lf_l, lf, lfAll, lf_app, cut_f1, cut_f2, cut_f3, cut_t1, cut_t2, cut_t3, cut_f4, cut_f5, cut_f6, cut_f7, cut_f8, cut_t4, cut_t5, cut_t6, cut_t7, cut_t8, Bool.and_true, Bool.true_and, c_sNext, c_sSeq, c_sNever, c_sBreak, c_sCont, c_sDrop, c_sRet, c_sRetN, c_sIf, c_sSet, c_gNam, c_gsNil, c_gsCons, c_gTupl, c_sAsg, c_sPar2, c_sPar3, c_sExtend, c_sFor, c_sFrz, c_iSeq, c_iRange1, c_iRange2, c_iEnumS, c_iZip2, c_eLc, wipeS, bYes, c_eD, c_dE, c_lCons, q_vVar, q_dVar, vSl_d, vSl_l, dSl_d, q_retV, rSl_d, rSl_l, q_aug, aSl_d, lSl_l, q_append, q_pop, c_dC, c_dTup, c_eLst, c_d2, c_d1, c_dB, c_b2, c_b3, c_bTru, c_bAnd, c_bOr, c_bNot, c_dAnd, c_dOr, c_dNot, c_eIf, c_dIf, c_oNone, c_eCut, c_aNil, c_aCons, c_aTown, c_eCall, c_eCallK, c_eB, c_sTick, c_dCount, c_dRest, c_sRest, ixC_some, ixC_none, q_add_i, q_add_s, q_add_t, q_add_l, q_rep, c_gLstl, q_sorted, c_eAdd, q_adde_i, q_adde_s, q_adde_t, q_adde_l, q_min_t, q_min_l, q_max_t, q_max_l, q_sub, q_int, q_i0, q_neg, q_ord, q_lt_i, q_lt_s, q_lt_t, q_gt_i, q_gt_t, q_ix_t, q_ix_l, q_eqf_i, q_eqt_i, q_is_nn, q_is_in, q_is_sn, q_is_ln, q_is_tn, q_is_bn, q_is_bb, q_in_t, q_in_l, q_in_s, q_bk, q_cut_l, q_cut_t, q_cut_s, q_osome, q_len_l, q_len_t, q_len_s, q_i1, q_i2, q_tup_l, q_tup_t, q_list_l, q_list_t, q_divmod, q_int1_i, q_int1_b, q_sum_l, q_sum_t, q_all, q_cold_d, q_cold_l, q_seq_l, q_seq0_l, q_seq0_t, q_seq_s, q_seq_t, q_zip_l, q_zip_t, q_zip_m, q_tru_b, q_tru_i, q_tru_l, q_tru_t, q_own_nil, q_own_cons, ownN_un, ownN_dat, ownN_town, ownN_none, at0, at1, at2, at3, at4, PyData.int.injEq, exists_eq_left', exists_eq_left, q_isi, tyName, kit_NoneType_bool, kit_NoneType_int, kit_NoneType_str, kit_NoneType_list, kit_NoneType_tuple, kit_bool_bool, kit_bool_int, kit_bool_str, kit_bool_list, kit_bool_tuple, kit_int_bool, kit_int_int, kit_int_str, kit_int_list, kit_int_tuple, kit_str_bool, kit_str_int, kit_str_str, kit_str_list, kit_str_tuple, kit_list_bool, kit_list_int, kit_list_str, kit_list_list, kit_list_tuple, kit_tuple_bool, kit_tuple_int, kit_tuple_str, kit_tuple_list, kit_tuple_tuple, Bool.not_true, Bool.not_false, forall_const, false_implies, true_implies, reduceCtorEq, eq_self, Bool.not_eq_true', Bool.not_eq_false', decide_eq_true_eq, decide_eq_false_iff_not, if_true, if_false, ite_true, ite_false, Bool.false_eq_true, if_pos, Bool.not_not, not_true_eq_false, not_false_eq_true, tSl_t, xRs_l, frSl_l, frSl_d, Option.some.injEq, c_sfxOf, c_sRaise, c_eCallX, c_eCallXK, c_eHeard, q_frz_d, q_frz_l, q_frz_u, q_frz_t, c_eRev, c_dGet2, c_eDic0, c_eNo, c_iRangeN, c_sDPutD, c_sDUpd, c_eSortK, c_dDGet, q_dictp, kSl_d, kRs_d, sl_dic, q_rev_l, q_rev_t, q_sortd_l, q_sortd_t])
theorem cmul_r {i j : Int} (h1 : -1000000000000000000 ≤ j) (h2 : j ≤ 1000000000000000000) : CMul i j := .inr ⟨by omega, by omega⟩
theorem cmul_l {i j : Int} (h1 : -1000000000000000000 ≤ i) (h2 : i ≤ 1000000000000000000) : CMul i j := .inl ⟨by omega, by omega⟩
def optD : Option Int → D
  | none => .none
  | some l => .int l
def wholeB (i : Int) : Option Int → Option Int → Bool
  | none, none => true
  | some l, none => decide (l ≤ i)
  | none, some h => decide (i ≤ h)
  | some l, some h => decide (l ≤ i) && decide (i ≤ h)
theorem m_is_whole {i : Int} {lo hi : Option Int} {C : Rs → Prop} (hc : C (.dat (.bool (wholeB i lo hi)))) : S_is_whole [.dat (.int i), .dat (optD lo), .dat (optD hi)] C := by
  unfold S_is_whole t_is_whole N_is_whole
  cases lo <;> cases hi <;> simp only [optD] <;> walk_at "pu" <;> unfold wholeB at hc
  · exact hc
  · exact hc
  · exact ⟨fun h => by simpa [h] using hc, fun h => by simpa [h] using hc⟩
  · exact ⟨fun h => by simpa [h] using hc, fun h => by simpa [h] using hc⟩

abbrev Row := Int × Int × Int × Int
def rowD (r : Row) : D := .tuple [.int r.1, .int r.2.1, .int r.2.2.1, .int r.2.2.2]
def clkD (rs : List Row) : D := .tuple (rs.map rowD)
theorem rowD_ap (r : Row) : rowD r = .tuple [.int r.1, .int r.2.1, .int r.2.2.1, .int r.2.2.2] := rfl
theorem clkD_ap (rs : List Row) : clkD rs = .tuple (rs.map rowD) := rfl
def byRow (r : Row) (t : Int) : Int := r.2.1 + (t - r.1) * r.2.2.1 / r.2.2.2
/-- rates within bounds -/
def RowOk (r : Row) : Prop := 1 ≤ r.2.2.1 ∧ r.2.2.1 ≤ 1000000 ∧ 1 ≤ r.2.2.2 ∧ r.2.2.2 ≤ 1000000
theorem m_by_row {r : Row} {t : Int} {C : Rs → Prop} (ok : RowOk r) (hc : C (.dat (.int (byRow r t)))) : S_by_row [.dat (rowD r), .dat (.int t)] C := by
  obtain ⟨h1, h2, h3, h4⟩ := ok
  unfold S_by_row t_by_row N_by_row rowD
  walk_at "pu"
  exact ⟨cmul_r (by omega) (by omega), ⟨by omega, by omega⟩, hc⟩
def rowAt (rs : List Row) (t : Int) : Option Row := (rs.filter fun r => decide (r.1 ≤ t)).getLast?
theorem lf_row (r : Row) : lf (rowD r) = true := rfl
theorem m_row_at {rs : List Row} {t : Int} {r : Row} {C : Rs → Prop} (h : rowAt rs t = some r) (hc : C (.dat (rowD r))) : S_row_at [.dat (clkD rs), .dat (.int t)] C := by
  unfold S_row_at t_row_at N_row_at clkD
  walk_at "pu"
  refine lcC_map rowD (fun r => decide (r.1 ≤ t)) rowD rs [] (fun a _ P1 P2 h1 h2 => ?_) ?_
  · unfold rowD
    walk_at "pu"
    exact ⟨fun h => h1 (decide_eq_true h), fun h => h2 (decide_eq_false h)⟩
  · rw [atm1, List.nil_append, List.getLast?_map]
    unfold rowAt at h
    rw [h]
    exact ⟨lf_row r, hc⟩
theorem lf_rows (rs : List Row) : lfAll (rs.map rowD) = true := by
  induction rs with
  | nil => rfl
  | cons r rs ih => simp [lfAll, ih, lf_row]
theorem m_kept_rows {rs : List Row} {t : Int} {C : Rs → Prop} (hc : C (.dat (clkD (rs.filter fun r => decide (r.1 < t))))) : S_kept_rows [.dat (clkD rs), .dat (.int t)] C := by
  unfold S_kept_rows t_kept_rows N_kept_rows clkD
  walk_at "pu"
  refine lcC_map rowD (fun r => decide (r.1 < t)) rowD rs [] (fun a _ P1 P2 h1 h2 => ?_) ?_
  · unfold rowD
    walk_at "pu"
    exact ⟨fun h => h1 (decide_eq_true h), fun h => h2 (decide_eq_false h)⟩
  · exact ⟨lf_rows _, hc⟩
theorem m_clock_shows {rs : List Row} {t : Int} {r : Row} {C : Rs → Prop} (h : rowAt rs t = some r) (ok : RowOk r) (hc : C (.dat (.int (byRow r t)))) : S_clock_shows [.dat (clkD rs), .dat (.int t)] C := by
  unfold S_clock_shows t_clock_shows N_clock_shows
  walk_at "pu"
  refine m_row_at h ?_
  walk_at "pu"
  exact m_by_row ok ⟨rfl, hc⟩
def keptTo (rs : List Row) (t : Int) : List Row := rs.filter fun r => decide (r.1 < t)
theorem m_set_to {rs : List Row} {t m : Int} {r : Row} {C : Rs → Prop} (h : rowAt rs t = some r) (hl : rs.length ≤ 1000) (hc : C (.dat (clkD (keptTo rs t ++ [(t, m, r.2.2.1, r.2.2.2)])))) : S_set_to [.dat (clkD rs), .dat (.int t), .dat (.int m)] C := by
  unfold S_set_to t_set_to N_set_to
  walk_at "pu"
  refine m_kept_rows ?_
  walk_at "pu"
  refine m_row_at h ?_
  unfold rowD clkD
  walk_at "pu"
  have e := List.length_filter_le (fun r : Row => decide (r.1 < t)) rs
  refine ⟨by decide, by rw [List.length_map]; omega, lf_rows _, ?_⟩
  unfold clkD keptTo at hc
  rw [List.map_append] at hc
  exact hc

theorem m_look_rate {a b : Int} {C : Rs → Prop} (h1 : 1 ≤ a) (h2 : a ≤ 1000) (h3 : 1 ≤ b) (h4 : b ≤ 1000) (hc : C (.dat .none)) : S_look_rate [.dat (.int a), .dat (.int b)] C := by
  unfold S_look_rate t_look_rate N_look_rate g_is_whole_least_most q_is_whole_least_most c_MOST
  walk_at "pu"
  refine m_is_whole (lo := some 1) (hi := some 1000) ?_
  walk_at "pu"
  refine ⟨fun h => by simp [wholeB] at h; omega, fun h => ?_⟩
  refine m_is_whole (lo := some 1) (hi := some 1000) ?_
  walk_at "pu"
  refine ⟨fun h => by simp [wholeB] at h; omega, fun h => hc⟩

theorem draw_tail {many : Int} {C : Rs → Prop} (h0 : 0 < many) (hC : ∀ r, 0 ≤ r → r < many → C (.dat (.int r))) (rest count : Int) :
    CMul 104729 count ∧ 0 < (4294967291 : Int) ∧ CPow ((rest + 104729 * count) % 4294967291) 5 ∧ 0 < (4294967279 : Int) ∧ CDiv (((rest + 104729 * count) % 4294967291) ^ Int.toNat 5 % 4294967279) 64 ∧
      CMul (((rest + 104729 * count) % 4294967291) ^ Int.toNat 5 % 4294967279 / 64) 69621 := by
  refine ⟨cmul_l (by omega) (by omega), by decide, ⟨by decide, by decide, ?_⟩, by decide, ⟨by decide, by decide⟩, cmul_r (by decide) (by decide)⟩
  omega
theorem m_draw {ns : List Int} {many : Int} {C : Rs → Prop} (hl : ns.length ≤ 63) (h0 : 0 < many) (h1 : many < 1073741824) (hC : ∀ r, 0 ≤ r → r < many → C (.dat (.int r))) : S__law_draw [.dat (scrD ns), .town, .dat (.int many)] C := by
  unfold S__law_draw t__law_draw N__law_draw scrD
  have last : ∀ n : Int, C (.dat (.int (n % many))) := fun n => hC _ (Int.emod_nonneg _ (by omega)) (Int.emod_lt_of_pos _ h0)
  walk_at "pu"
  have tl := draw_tail (C := C) h0 hC
  have d8 : ∀ i : Int, CDiv i 8 := fun i => ⟨by decide, by decide⟩
  have p1 : CPow 10 18 := ⟨by decide, by decide, by decide⟩
  have rest : ∀ (x n : Int), 0 ≤ x → x < 64 → CPow 10 18 ∧
      (10 ^ Int.toNat 18 ≤ n → CDiv n many ∧ 0 ≤ x ∧ x < 64 ∧ 0 < many ∧ C (Rs.dat (PyData.int (n % many)))) ∧
      (¬10 ^ Int.toNat 18 ≤ n → ∀ (c : Int), CMul 104729 c ∧ 0 < (4294967291 : Int) ∧ CPow ((n + 104729 * c) % 4294967291) 5 ∧ 0 < (4294967279 : Int) ∧ CDiv (((n + 104729 * c) % 4294967291) ^ Int.toNat 5 % 4294967279) 64 ∧
        CMul (((n + 104729 * c) % 4294967291) ^ Int.toNat 5 % 4294967279 / 64) 69621 ∧ 0 < (4294967231 : Int) ∧
        CDiv ((((n + 104729 * c) % 4294967291) ^ Int.toNat 5 % 4294967279 / 64 * 69621 + ((n + 104729 * c) % 4294967291) ^ Int.toNat 5 % 4294967279) % 4294967231) 8 ∧ 0 < many ∧
        C (Rs.dat (PyData.int ((((n + 104729 * c) % 4294967291) ^ Int.toNat 5 % 4294967279 / 64 * 69621 + ((n + 104729 * c) % 4294967291) ^ Int.toNat 5 % 4294967279) % 4294967231 / 8 % many)))) := by
    intro x n hx hx2
    refine ⟨p1, fun _ => ⟨⟨h0, h1⟩, hx, hx2, h0, last _⟩, fun _ c => ?_⟩
    obtain ⟨t1, t2, t3, t4, t5, t6⟩ := tl n c
    exact ⟨t1, t2, t3, t4, t5, t6, by decide, d8 _, h0, last _⟩
  refine ⟨fun hne c => ?_, fun he => ?_⟩
  · have hlen : 0 < ((List.map PyData.int ns).length : Int) := by
      cases ns with
      | nil => simp at hne
      | cons a b => simp
    have hlt : c % ((List.map PyData.int ns).length : Int) < ((List.map PyData.int ns).length : Int) := Int.emod_lt_of_pos _ hlen
    have hge : 0 ≤ c % ((List.map PyData.int ns).length : Int) := Int.emod_nonneg _ (by omega)
    have hml : (List.map PyData.int ns).length = ns.length := List.length_map ..
    refine ⟨hlen, fun _ => ?_, fun he => by rw [he] at hne; cases hne⟩
    generalize hk : c % ((List.map PyData.int ns).length : Int) = k at hlt hge ⊢
    obtain ⟨j, rfl⟩ : ∃ j : Nat, k = (j : Int) := ⟨k.toNat, by omega⟩
    have hj : j < ns.length := by omega
    rw [atI_nat (v := PyData.int ns[j]) (by simp [hj])]
    exact ⟨_, rfl, fun n => rest _ n hge (by omega)⟩
  · refine ⟨fun hne => (by rw [he] at hne; cases hne), fun _ n => ?_⟩
    exact rest 0 n (by decide) (by decide)


def max2 (i j : Int) : Int := if j > i then j else i
def ftFound (r : Row) (t m : Int) : Int := max2 (max2 t r.1) (r.1 + -((r.2.1 - m) * r.2.2.2 / r.2.2.1))
def firstTick : List Row → Int → Int → Option Int
  | [], _, _ => none
  | [r], t, m => some (ftFound r t m)
  | r :: r2 :: rest, t, m => if ftFound r t m < r2.1 then some (ftFound r t m) else firstTick (r2 :: rest) t m
theorem first_loop {E : Ed} {rs : List Row} {t m x : Int} (hr : E.rt (.dat (.int x))) (ok : ∀ r ∈ rs, RowOk r) : ∀ (pre suf : List Row), rs = pre ++ suf → firstTick suf t m = some x → ∀ (a b c d e : Sl),
    forC (gTupl 2 (gsCons (gNam 3) (gsCons (gNam 4) gsNil))) b_first_tick_1 E (enumF pre.length (suf.map rowD)) [.dat (clkD rs), .dat (.int t), .dat (.int m), a, b, c, d, e]
  | pre, [], h, hf, a, b, c, d, e => by cases hf
  | pre, r :: suf, h, hf, a, b, c, d, e => by
    have hr0 : RowOk r := ok r (by rw [h]; simp)
    obtain ⟨k1, k2, k3, k4⟩ := hr0
    rw [List.map_cons]
    unfold enumF forC
    simp only [rowD_ap r, clkD_ap]
    unfold b_first_tick_1
    walk_at "pu"
    refine ⟨cmul_r (by omega) (by omega), ⟨by omega, by omega⟩, ?_⟩
    have hl : (rs.map rowD).length = pre.length + 1 + suf.length := by rw [h]; simp; omega
    have e1 : ∀ z : Int, (if (r.1 + -((r.2.1 - m) * r.2.2.2 / r.2.2.1)) > (if r.1 > t then r.1 else t) then (r.1 + -((r.2.1 - m) * r.2.2.2 / r.2.2.1)) else if r.1 > t then r.1 else t) = ftFound r t m := fun _ => rfl
    rw [e1 0]
    cases suf with
    | nil =>
      simp only [firstTick, Option.some.injEq] at hf
      rw [hf]
      refine ⟨fun _ => hr, fun z => absurd (by rw [hl]; simp) z⟩
    | cons r2 suf =>
      refine ⟨fun z => ?_, fun z => ?_⟩
      · rw [hl] at z; simp at z; omega
      · have e2 : ((pre.length : Int) + 1) = ((pre.length + 1 : Nat) : Int) := by simp
        rw [e2, atI_nat (v := rowD r2) (by rw [h]; simp)]
        simp only [rowD_ap r2]
        walk_at "pu"
        simp only [firstTick] at hf
        refine ⟨fun w => ?_, fun w => ?_⟩
        · rw [if_pos w] at hf
          cases hf
          exact hr
        · rw [if_neg w] at hf
          have := first_loop hr ok (pre ++ [r]) (r2 :: suf) (by rw [h]; simp) hf
          rw [List.length_append] at this
          exact this _ _ _ _ _
theorem m_first_tick {rs : List Row} {t m x : Int} {C : Rs → Prop} (ok : ∀ r ∈ rs, RowOk r) (h : firstTick rs t m = some x) (hc : C (.dat (.int x))) : S_first_tick [.dat (clkD rs), .dat (.int t), .dat (.int m)] C := by
  unfold S_first_tick t_first_tick N_first_tick
  simp only [clkD_ap]
  walk_at "pu"
  rw [enumD_eq]
  refine first_loop (rs := rs) (t := t) (m := m) (x := x) ?_ ok [] rs rfl h _ _ _ _ _
  exact ⟨rfl, hc⟩
def jumps : List Row → List (Int × Int)
  | r :: r2 :: rest => (if r2.2.1 - byRow r r2.1 = 0 then [] else [(r2.1, r2.2.1 - byRow r r2.1)]) ++ jumps (r2 :: rest)
  | _ => []
def pairD (p : Int × Int) : D := .tuple [.int p.1, .int p.2]
theorem jumps_loop {E : Ed} {clk : Sl} : ∀ (rs : List Row) (acc : List (Int × Int)) (a b c : Sl), (∀ r ∈ rs, RowOk r) → acc.length + rs.length ≤ 10000 → (∀ a b c, E.nx [clk, .lst ((acc ++ jumps rs).map pairD), a, b, c]) →
    forC (gTupl 2 (gsCons (gNam 2) (gsCons (gNam 3) gsNil))) b_jumps_of_1 E (zipD (rs.map rowD) ((rs.map rowD).drop 1)) [clk, .lst (acc.map pairD), a, b, c]
  | [], acc, a, b, c, _, _, hn => by
    have := hn a b c
    simp only [jumps, List.append_nil] at this
    exact this
  | [r], acc, a, b, c, _, _, hn => by
    have := hn a b c
    simp only [jumps, List.append_nil] at this
    exact this
  | r :: r2 :: rest, acc, a, b, c, ok, hl, hn => by
    simp only [List.map_cons, List.drop_succ_cons, List.drop_zero, zipD_cons]
    unfold forC b_jumps_of_1
    walk_at "pu"
    simp only [rowD_ap r2]
    walk_at "pu"
    refine m_by_row (ok r (by simp)) ?_
    walk_at "pu"
    simp only [List.length_cons] at hl
    have ih := jumps_loop (E := E) (clk := clk) (r2 :: rest)
    simp only [List.map_cons, List.drop_succ_cons, List.drop_zero] at ih
    simp only [rowD_ap r2] at ih
    refine ⟨fun z => ⟨by rw [List.length_map]; omega, ?_⟩, fun z => ?_⟩
    · have := ih (acc ++ [(r2.1, r2.2.1 - byRow r r2.1)]) (.dat (rowD r)) (.dat (.tuple [.int r2.1, .int r2.2.1, .int r2.2.2.1, .int r2.2.2.2])) (.dat (.int (r2.2.1 - byRow r r2.1))) (fun x hx => ok x (by simp [hx])) (by simp; omega) ?_
      · simp only [List.map_append, List.map_cons, List.map_nil] at this
        exact this
      · intro a b c
        have := hn a b c
        unfold jumps at this
        rw [if_neg z] at this
        simpa using this
    · refine ih acc _ _ _ (fun x hx => ok x (by simp [hx])) (by simp; omega) ?_
      intro a b c
      have := hn a b c
      unfold jumps at this
      rw [if_pos z] at this
      simpa using this
theorem lf_pairs (ps : List (Int × Int)) : lfAll (ps.map pairD) = true := by
  induction ps with
  | nil => rfl
  | cons r rs ih =>
    simp only [List.map_cons, lfAll, ih, Bool.and_true]
    rfl
theorem m_jumps_of {rs : List Row} {C : Rs → Prop} (ok : ∀ r ∈ rs, RowOk r) (hl : rs.length ≤ 1000) (hc : C (.dat (.tuple ((jumps rs).map pairD)))) : S_jumps_of [.dat (clkD rs)] C := by
  unfold S_jumps_of t_jumps_of N_jumps_of
  simp only [clkD_ap]
  walk_at "pu"
  refine jumps_loop rs [] _ _ _ ok (by simp; omega) (fun a b c => ?_)
  walk_at "pu"
  exact ⟨lf_pairs _, hc⟩
theorem div_loop {E : Ed} {g : Nat} (hn : ∀ b : Sl, E.nx [.dat (.int g), b]) : ∀ (n : Nat) (a b : Nat), b < n → Nat.gcd a b = g → whC w_divisor_1 b_divisor_1 E n [.dat (.int a), .dat (.int b)]
  | 0, a, b, h, _ => by omega
  | n + 1, a, b, h, hg => by
    unfold whC w_divisor_1 b_divisor_1
    walk_at "pu"
    refine ⟨fun z => ?_, fun z => ?_⟩
    · have hb : 0 < b := by
        have z : ((b : Int) != 0) = true := z
        simp at z; omega
      refine ⟨by omega, ?_⟩
      have e : ((a : Int) % (b : Int)) = ((a % b : Nat) : Int) := by simp
      rw [e]
      exact div_loop hn n b (a % b) (by have := Nat.mod_lt a hb; omega) (by rw [← hg, Nat.gcd_comm a b, Nat.gcd_rec b a, Nat.gcd_comm])
    · have z : ((b : Int) != 0) = false := z
      have hb : b = 0 := by simp at z; omega
      subst hb
      rw [Nat.gcd_zero_right] at hg
      subst hg
      exact hn _
theorem m_divisor {a b : Nat} {C : Rs → Prop} (hc : C (.dat (.int (Nat.gcd a b)))) : S_divisor [.dat (.int a), .dat (.int b)] C := by
  unfold S_divisor t_divisor N_divisor
  walk_at "pu"
  refine ⟨b + 1, div_loop (g := Nat.gcd a b) (fun s => ?_) (b + 1) a b (by omega) rfl⟩
  walk_at "pu"
  exact hc
theorem m_led_softly {rs : List Row} {t b o : Int} {r : Row} {p q : Nat} (P Q : Int) {C : Rs → Prop} (h : rowAt rs t = some r) (ok : RowOk r) (hl : rs.length ≤ 1000) (hb1 : -1000000 ≤ b) (hb2 : b ≤ 1000000) (ho1 : -1000000 ≤ o) (ho2 : o ≤ 1000000)
    (hp : r.2.2.1 * o + b * r.2.2.2 = (p : Int)) (hq : r.2.2.2 * o = (q : Int)) (hp0 : 0 < p) (hg : Nat.gcd p q < 1000000000) (hP : (p : Int) / (Nat.gcd p q : Int) = P) (hQ : (q : Int) / (Nat.gcd p q : Int) = Q) (h1 : 1 ≤ P) (h2 : P ≤ 1000) (h3 : 1 ≤ Q) (h4 : Q ≤ 1000)
    (hc : C (.dat (clkD (keptTo rs t ++ [(t, byRow r t, P, Q), (t + o, byRow r (t + o) + b, r.2.2.1, r.2.2.2)])))) : S_led_softly [.dat (clkD rs), .dat (.int t), .dat (.int b), .dat (.int o)] C := by
  have ok' := ok
  obtain ⟨k1, k2, k3, k4⟩ := ok'
  unfold S_led_softly t_led_softly N_led_softly
  walk_at "pu"
  refine m_row_at h ?_
  simp only [rowD_ap r]
  walk_at "pu"
  refine ⟨cmul_r (by omega) (by omega), cmul_l (by omega) (by omega), cmul_r (by omega) (by omega), ?_⟩
  rw [hp, hq]
  refine ⟨fun z => by omega, fun _ => ?_⟩
  refine m_divisor ?_
  walk_at "pu"
  have hg0 : 0 < Nat.gcd p q := Nat.gcd_pos_of_pos_left _ hp0
  refine ⟨⟨by omega, by omega⟩, ⟨by omega, by omega⟩, ?_⟩
  rw [hP, hQ]
  refine m_look_rate h1 h2 h3 h4 ?_
  walk_at "pu"
  refine m_by_row (r := r) ok ?_
  walk_at "pu"
  refine m_kept_rows ?_
  walk_at "pu"
  refine m_by_row (r := r) ok ?_
  simp only [clkD_ap]
  walk_at "pu"
  have e := List.length_filter_le (fun r : Row => decide (r.1 < t)) rs
  refine ⟨by simp, by rw [List.length_map]; omega, lf_rows _, ?_⟩
  unfold clkD keptTo at hc
  rw [List.map_append] at hc
  exact hc

def wholeD (d : D) (lo hi : Option Int) : Bool := match d with
  | .int i => wholeB i lo hi
  | _ => false
theorem sh_nd {n : Nat} {d : D} (h : sh n d = true) : ∀ kvs, d ≠ .dict kvs := fun kvs z => by
  subst z
  unfold sh at h
  cases h
theorem m_whole_d {d : D} {lo hi : Option Int} {C : Rs → Prop} {n : Nat} (nd : sh n d = true) (hc : C (.dat (.bool (wholeD d lo hi)))) : S_is_whole [.dat d, .dat (optD lo), .dat (optD hi)] C := by
  cases d with
  | int i => exact m_is_whole hc
  | none => unfold S_is_whole t_is_whole N_is_whole; walk_at "pu"; exact hc
  | bool b => unfold S_is_whole t_is_whole N_is_whole; walk_at "pu"; exact hc
  | str x => unfold S_is_whole t_is_whole N_is_whole; walk_at "pu"; exact hc
  | list ds => unfold S_is_whole t_is_whole N_is_whole; walk_at "pu"; exact hc
  | tuple ds => unfold S_is_whole t_is_whole N_is_whole; walk_at "pu"; exact hc
  | dict kvs => exact absurd rfl (sh_nd nd kvs)
def risB (ns : List Int) : Bool := (ns.zip (ns.drop 1)).all fun p => decide (p.1 < p.2)
theorem all_whole {lo hi : Option Int} : ∀ {ds : List D}, (ds.all fun d => wholeD d lo hi) = true → ∃ ns : List Int, ds = ns.map PyData.int
  | [], _ => ⟨[], rfl⟩
  | d :: ds, h => by
    simp only [List.all_cons, Bool.and_eq_true] at h
    obtain ⟨ns, rfl⟩ := all_whole h.2
    cases d with
    | int i => exact ⟨i :: ns, rfl⟩
    | none => simp [wholeD] at h
    | bool b => simp [wholeD] at h
    | str x => simp [wholeD] at h
    | list ds => simp [wholeD] at h
    | tuple ds => simp [wholeD] at h
    | dict kvs => simp [wholeD] at h
def dRis (ds : List D) : Bool := match intsOf ds with
  | some ns => risB ns
  | none => false
def numsB (d : D) (lo hi : Option Int) : Bool := match d with
  | .tuple ds => (ds.all fun x => wholeD x lo hi) && dRis ds
  | _ => false
/-- all of a comprehension of is_whole -/
theorem lc_det {g : UG} {te : UV} {C : List D → Prop} {ρ : En} (val : D → D) : ∀ (ds acc : List D), (∀ d ∈ ds, ∀ P1 : D → Prop, P1 (val d) → g d ρ fun ρ2 => te ρ2 P1) → C (acc ++ ds.map val) → lcC g bYes te C ρ ds acc := fun ds acc h hc => by
  have := lcC_yes (g := g) (te := te) (C := C) (ρ := ρ) (fun d : D => d) val ds acc h hc
  rwa [List.map_id'] at this
def intD : D → Int
  | .int i => i
  | _ => 0
theorem whole_int {d : D} {lo hi : Option Int} (h : wholeD d lo hi = true) : ∃ i, d = .int i := by
  cases d with
  | int i => exact ⟨i, rfl⟩
  | none => cases h
  | bool b => cases h
  | str x => cases h
  | list ds => cases h
  | tuple ds => cases h
  | dict kvs => cases h

theorem rngD_zero {lo : Int} : rngD lo 0 = [] := rfl
theorem rngD_succ {lo : Int} {n : Nat} : rngD lo (n + 1) = .int lo :: rngD (lo + 1) n := by
  unfold rngD
  rw [List.range_succ_eq_map, List.map_cons, List.map_map]
  simp only [Int.ofNat_eq_natCast, Int.natCast_zero, Int.add_zero, Function.comp_def]
  congr 1
  apply List.map_congr_left
  intro i _
  congr 1
  push_cast
  omega
/-- a loop over a range, by the number that comes -/
theorem forC_rng {g : UG} {tb : US} {E : Ed} (I : Int → En → Prop) (hi : Int)
    (h : ∀ i ρ, i < hi → I i ρ → ∀ K : En → Prop, (∀ ρ', I (i + 1) ρ' → K ρ') → g (.int i) ρ fun ρ' => tb { E with nx := K, ct := K, bk := E.nx } ρ') (hn : ∀ ρ, I hi ρ → E.nx ρ) : ∀ (n : Nat) (lo : Int) (ρ : En), lo + n = hi → I lo ρ → forC g tb E (rngD lo n) ρ
  | 0, lo, ρ, e, i => by
    have : lo = hi := by omega
    subst this
    exact hn ρ i
  | n + 1, lo, ρ, e, i => by
    rw [rngD_succ]
    unfold forC
    exact h lo ρ (by omega) i _ fun ρ' i' => forC_rng I hi h hn n (lo + 1) ρ' (by omega) i'

def RowG (r : Row) : Prop := 0 ≤ r.1 ∧ 1 ≤ r.2.2.1 ∧ r.2.2.1 ≤ 1000 ∧ 1 ≤ r.2.2.2 ∧ r.2.2.2 ≤ 1000
theorem RowG.ok {r : Row} (h : RowG r) : RowOk r := ⟨h.2.1, by have := h.2.2.1; omega, h.2.2.2.1, by have := h.2.2.2.2; omega⟩
theorem m_is_row {r : Row} {C : Rs → Prop} (h : RowG r) (hc : C (.dat (.bool true))) : S_is_row [.dat (rowD r)] C := by
  obtain ⟨h0, h1, h2, h3, h4⟩ := h
  unfold S_is_row t_is_row N_is_row g_is_whole g_is_whole_least g_is_whole_least_most q_is_whole q_is_whole_least q_is_whole_least_most c_MOST
  simp only [rowD_ap r]
  walk_at "pu"
  refine ⟨fun z => by simp at z, fun _ => ?_⟩
  refine m_is_whole (lo := some 0) (hi := none) ?_
  walk_at "pu"
  refine ⟨fun z => by simp [wholeB] at z; omega, fun _ => ?_⟩
  refine m_is_whole (lo := none) (hi := none) ?_
  walk_at "pu"
  refine ⟨fun z => by simp [wholeB] at z, fun _ => ?_⟩
  refine m_is_whole (lo := some 1) (hi := some 1000) ?_
  have e1 : wholeB r.2.2.1 (some 1) (some 1000) = true := by simp [wholeB]; omega
  have e2 : wholeB r.2.2.2 (some 1) (some 1000) = true := by simp [wholeB]; omega
  rw [e1]
  walk_at "pu"
  refine m_is_whole (lo := some 1) (hi := some 1000) ?_
  rw [e2]
  walk_at "pu"
  exact hc
theorem sh_row (r : Row) (n : Nat) : sh (n + 1) (rowD r) = true := rfl
theorem sh_rows (n : Nat) : ∀ rs : List Row, shAll (n + 1) (rs.map rowD) = true
  | [] => rfl
  | r :: rs => by simp [shAll, sh_row, sh_rows n rs]
theorem sh_clk (rs : List Row) : sh 32 (clkD rs) = true := by
  simp only [clkD_ap, sh]
  exact sh_rows 30 rs
structure ClkOk (rs : List Row) : Prop where
  ne : ∃ r rest, rs = r :: rest ∧ r.1 = 0
  srt : rs.Pairwise fun a b => a.1 < b.1
  row : ∀ r ∈ rs, RowG r
theorem zip_lt : ∀ {rs : List Row}, (rs.Pairwise fun a b => a.1 < b.1) → ((rs.zip (rs.drop 1)).all fun p => decide (p.1.1 < p.2.1)) = true
  | [], _ => rfl
  | [r], _ => rfl
  | r :: r2 :: rest, h => by
    obtain ⟨h1, h2⟩ := List.pairwise_cons.mp h
    have ih := zip_lt h2
    simp only [List.drop_succ_cons, List.drop_zero, List.zip_cons_cons, List.all_cons, Bool.and_eq_true] at ih ⊢
    exact ⟨decide_eq_true (h1 r2 (by simp)), ih⟩
theorem m_is_clock {rs : List Row} {C : Rs → Prop} (h : ClkOk rs) (hc : C (.dat (.bool true))) : S_is_clock [.dat (clkD rs)] C := by
  obtain ⟨r, rest, rfl, hr0⟩ := h.ne
  unfold S_is_clock t_is_clock N_is_clock
  simp only [clkD_ap]
  walk_at "pu"
  rw [q_eq]
  refine ⟨sh_clk _, rfl, ?_⟩
  refine ⟨fun z => by simp [PyData.eqv, PyData.eqvAll] at z, fun _ => ?_⟩
  refine lcC_yes rowD (fun _ => .bool true) (r :: rest) [] (fun a ha P1 h1 => ?_) ?_
  · walk_at "pu"
    exact m_is_row (h.row a ha) h1
  · rw [List.nil_append, bools_map (fun _ => true)]
    have e : (true :: rest.map fun _ => true).all id = true := by simp
    walk_at "pu"
    rw [e]
    walk_at "pu"
    simp only [rowD_ap r]
    walk_at "pu"
    refine ⟨fun z => absurd hr0 z, fun _ => ?_⟩
    have e2 : zipD (PyData.tuple [.int r.1, .int r.2.1, .int r.2.2.1, .int r.2.2.2] :: rest.map rowD) (rest.map rowD) = ((r :: rest).zip rest).map fun p => .tuple [rowD p.1, rowD p.2] := zipD_map (f := rowD) (r :: rest) rest
    rw [e2]
    refine lcC_yes _ (fun p : Row × Row => .bool (decide (p.1.1 < p.2.1))) _ [] (fun a ha P1 h1 => ?_) ?_
    · simp only [rowD_ap]
      walk_at "pu"
      exact h1
    · rw [List.nil_append, bools_map]
      walk_at "pu"
      have e3 := zip_lt h.srt
      simp only [List.drop_succ_cons, List.drop_zero] at e3
      rw [List.all_map]
      show C (.dat (.bool (((r :: rest).zip rest).all fun p => decide (p.1.1 < p.2.1))))
      rw [e3]
      exact hc
theorem kept_ok {rs : List Row} (h : ClkOk rs) {t m c d : Int} (ht : 0 ≤ t) (hc : 1 ≤ c ∧ c ≤ 1000) (hd : 1 ≤ d ∧ d ≤ 1000) : ClkOk (keptTo rs t ++ [(t, m, c, d)]) := by
  refine ⟨?_, ?_, ?_⟩
  · obtain ⟨r, rest, e, hr0⟩ := h.ne
    by_cases h0 : 0 < t
    · refine ⟨r, keptTo rest t ++ [(t, m, c, d)], ?_, hr0⟩
      have : r.1 < t := by omega
      subst e
      simp [keptTo, this]
    · have e0 : t = 0 := by omega
      refine ⟨(t, m, c, d), [], ?_, e0⟩
      have : keptTo rs t = [] := by
        unfold keptTo
        rw [List.filter_eq_nil_iff]
        intro a ha z
        have := (h.row a ha).1
        have := of_decide_eq_true z
        omega
      rw [this]; rfl
  · refine List.pairwise_append.mpr ⟨h.srt.filter _, by simp, fun a ha b hb => ?_⟩
    rw [List.mem_singleton.mp hb]
    exact of_decide_eq_true (List.mem_filter.mp ha).2
  · intro r hr
    rcases List.mem_append.mp hr with hr | hr
    · exact h.row r (List.mem_filter.mp hr).1
    · rw [List.mem_singleton.mp hr]
      exact ⟨ht, hc.1, hc.2, hd.1, hd.2⟩
theorem rowAt_new {ks : List Row} {t m c d z : Int} (hz : t ≤ z) : rowAt (ks ++ [(t, m, c, d)]) z = some (t, m, c, d) := by
  simp [rowAt, List.filter_append, hz]
theorem rowAt_old {rs : List Row} {t m c d z : Int} (hz : z < t) : rowAt (keptTo rs t ++ [(t, m, c, d)]) z = rowAt rs z := by
  have h1 : ¬ t ≤ z := by omega
  have h2 : (rs.filter fun r => decide (r.1 < t)).filter (fun r => decide (r.1 ≤ z)) = rs.filter fun r => decide (r.1 ≤ z) := by
    rw [List.filter_filter]
    congr 1
    funext r
    by_cases h : r.1 ≤ z
    · have : r.1 < t := by omega
      simp [h, this]
    · simp [h]
  simp only [rowAt, keptTo, List.filter_append, h2]
  simp [h1]
theorem kept_again {rs : List Row} {t m c d : Int} : keptTo (keptTo rs t ++ [(t, m, c, d)]) t = keptTo rs t := by
  simp [keptTo, List.filter_append, List.filter_filter]
theorem rowAt_some {rs : List Row} (h : ClkOk rs) {z : Int} (hz : 0 ≤ z) : ∃ r, rowAt rs z = some r ∧ r ∈ rs := by
  obtain ⟨r, rest, e, hr0⟩ := h.ne
  have hm : r ∈ rs.filter fun r => decide (r.1 ≤ z) := by
    rw [List.mem_filter]
    exact ⟨by rw [e]; simp, decide_eq_true (by omega)⟩
  unfold rowAt
  cases q : (rs.filter fun r => decide (r.1 ≤ z)).getLast? with
  | none => rw [List.getLast?_eq_none_iff] at q; rw [q] at hm; cases hm
  | some x => exact ⟨x, rfl, (List.mem_filter.mp (List.mem_of_getLast? q)).1⟩
def shiftR (f : Int) (r : Row) : Row := (r.1, r.2.1 + f, r.2.2.1, r.2.2.2)
theorem rowAt_shift {rs : List Row} {f z : Int} : rowAt (rs.map (shiftR f)) z = (rowAt rs z).map (shiftR f) := by
  unfold rowAt
  rw [List.filter_map, List.getLast?_map]
  rfl
theorem byRow_shift {r : Row} {f z : Int} : byRow (shiftR f r) z = byRow r z + f := by
  simp only [byRow, shiftR]; omega
theorem ft_shift {r : Row} {f t m : Int} : ftFound (shiftR f r) t (m + f) = ftFound r t m := by
  have e : r.2.1 + f - (m + f) = r.2.1 - m := by omega
  simp only [ftFound, shiftR, e]
theorem firstTick_shift {f t m : Int} : ∀ rs : List Row, firstTick (rs.map (shiftR f)) t (m + f) = firstTick rs t m
  | [] => rfl
  | [r] => by simp only [List.map_cons, List.map_nil, firstTick, ft_shift]
  | r :: r2 :: rest => by
    have ih := firstTick_shift (f := f) (t := t) (m := m) (r2 :: rest)
    simp only [List.map_cons] at ih
    simp only [List.map_cons, firstTick, ft_shift, ih]
    rfl
theorem jumps_shift {f : Int} : ∀ rs : List Row, jumps (rs.map (shiftR f)) = jumps rs
  | [] => rfl
  | [r] => rfl
  | r :: r2 :: rest => by
    have ih := jumps_shift (f := f) (r2 :: rest)
    simp only [List.map_cons] at ih
    have e : (shiftR f r2).2.1 - byRow (shiftR f r) (shiftR f r2).1 = r2.2.1 - byRow r r2.1 := by
      rw [byRow_shift]; simp only [shiftR]; omega
    simp only [List.map_cons, jumps, ih, e]
    rfl
theorem firstTick_some : ∀ (rs : List Row) (t m : Int), rs ≠ [] → ∃ x, firstTick rs t m = some x
  | [], _, _, h => absurd rfl h
  | [r], t, m, _ => ⟨_, rfl⟩
  | r :: r2 :: rest, t, m, _ => by
    obtain ⟨x, hx⟩ := firstTick_some (r2 :: rest) t m (by simp)
    simp only [firstTick]
    split
    · exact ⟨_, rfl⟩
    · exact ⟨x, hx⟩
theorem ft_ge {r : Row} {t m : Int} : t ≤ ftFound r t m := by
  unfold ftFound max2
  split <;> split <;> omega
theorem firstTick_last {t m s a b : Int} : ∀ (ks : List Row), (∀ r ∈ ks, r.1 ≤ t) → firstTick (ks ++ [(t, s, a, b)]) t m = some (ftFound (t, s, a, b) t m)
  | [], _ => rfl
  | [r], h => by
    have := ft_ge (r := r) (t := t) (m := m)
    simp only [List.cons_append, List.nil_append, firstTick]
    rw [if_neg (by omega)]
  | r :: r2 :: rest, h => by
    have := ft_ge (r := r) (t := t) (m := m)
    have h2 := h r2 (by simp)
    have ih := firstTick_last (t := t) (m := m) (s := s) (a := a) (b := b) (r2 :: rest) (fun x hx => h x (by simp [hx]))
    simp only [List.cons_append] at ih
    simp only [List.cons_append, firstTick]
    rw [if_neg (by omega)]
    exact ih
theorem sh_pairs (n : Nat) : ∀ ps : List (Int × Int), shAll (n + 1) (ps.map pairD) = true
  | [] => rfl
  | p :: ps => by
    simp only [List.map_cons, shAll, sh_pairs n ps, Bool.and_true]
    rfl
theorem sh_jumps (ps : List (Int × Int)) : sh 32 (.tuple (ps.map pairD)) = true := by
  simp only [sh]
  exact sh_pairs 30 ps

theorem max2_eq (i j : Int) : max2 i j = max i j := by unfold max2; omega
def inOrder (rs : List Row) (tick : Int) : Prop := (rs.Pairwise fun a b => a.1 < b.1) ∧ (∀ r ∈ rs, RowG r ∧ r.1 < tick) ∧ ((rs = [] ∧ tick = 0) ∨ (0 < tick ∧ ∃ r rest, rs = r :: rest ∧ r.1 = 0))
theorem inOrder.clk {rs : List Row} {tick : Int} (h : inOrder rs tick) (hn : rs ≠ []) : ClkOk rs :=
  ⟨h.2.2.elim (fun z => absurd z.1 hn) (fun z => z.2), h.1, fun r hr => (h.2.1 r hr).1⟩
theorem m_a_clock {ns : List Int} {C : Rs → Prop} (hl : ns.length ≤ 63) (hc : ∀ rs, ClkOk rs → rs.length ≤ 10 → C (.dat (clkD rs))) : S__law_a_clock [.dat (scrD ns), .town] C := by
  unfold S__law_a_clock t__law_a_clock N__law_a_clock
  walk_at "pu"
  refine m_draw hl (by decide) (by decide) fun a a0 a1 => ?_
  walk_at "pu"
  refine m_draw hl (by decide) (by decide) fun b b0 b1 => ?_
  walk_at "pu"
  refine ⟨by omega, by omega, ?_⟩
  refine forC_inv (fun ds ρ => ds.length ≤ 4 ∧ ∃ (rs : List Row) (tick shown : Int) (k : Sl), ρ = [.dat (scrD ns), .town, .lst (rs.map rowD), .dat (.int tick), .dat (.int shown), k] ∧ rs.length + ds.length ≤ 4 ∧ 1 ≤ rs.length + ds.length ∧ inOrder rs tick) ?_ ?_ _ _ ?_
  · rintro d rest ρ ⟨h1, rs, tick, shown, k, rfl, h2, h3, h4⟩ K hK
    unfold b__law_a_clock_1
    walk_at "pu"
    refine m_draw hl (by decide) (by decide) fun c c0 c1 => ?_
    walk_at "pu"
    refine m_draw hl (by decide) (by decide) fun e e0 e1 => ?_
    walk_at "pu"
    simp only [List.length_cons] at h1 h2 h3
    refine ⟨by rw [List.length_map]; omega, ?_⟩
    refine m_draw hl (by decide) (by decide) fun f f0 f1 => ?_
    walk_at "pu"
    refine m_draw hl (by decide) (by decide) fun g g0 g1 => ?_
    walk_at "pu"
    refine hK _ ⟨by omega, rs ++ [(tick, shown, 1 + c, 1 + e)], tick + 1 + f, shown + g - 60, .dat d, ?_, by simp; omega, by simp; omega, ?_⟩
    · simp only [List.map_append, List.map_cons, List.map_nil, rowD_ap]
    · obtain ⟨s1, s2, s3⟩ := h4
      have ht : 0 ≤ tick := by rcases s3 with ⟨_, z⟩ | ⟨z, _⟩ <;> omega
      refine ⟨List.pairwise_append.mpr ⟨s1, by simp, fun x hx y hy => ?_⟩, fun x hx => ?_, .inr ⟨by omega, ?_⟩⟩
      · rw [List.mem_singleton.mp hy]
        exact (s2 x hx).2
      · rcases List.mem_append.mp hx with hx | hx
        · exact ⟨(s2 x hx).1, by have := (s2 x hx).2; omega⟩
        · rw [List.mem_singleton.mp hx]
          exact ⟨⟨ht, by show (1 : Int) ≤ 1 + c; omega, by show 1 + c ≤ (1000 : Int); omega, by show (1 : Int) ≤ 1 + e; omega, by show 1 + e ≤ (1000 : Int); omega⟩, by show tick < _; omega⟩
      · rcases s3 with ⟨rfl, z⟩ | ⟨_, r, rest, rfl, z⟩
        · exact ⟨_, [], rfl, z⟩
        · exact ⟨r, _, rfl, z⟩
  · rintro ρ ⟨h1, rs, tick, shown, k, rfl, h2, h3, h4⟩
    walk_at "pu"
    refine ⟨lf_rows _, hc rs (h4.clk fun z => ?_) (by simp at h2; omega)⟩
    subst z
    simp at h3
  · refine ⟨by rw [rngD_len]; omega, [], 0, a - 1000, .un, rfl, by rw [rngD_len]; simp; omega, by rw [rngD_len]; simp; omega, List.Pairwise.nil, (fun r hr => by cases hr), .inl ⟨rfl, rfl⟩⟩

/-! the first tick is the first one -/
theorem byRow_ge {r : Row} {m y : Int} (h1 : 1 ≤ r.2.2.1) (h2 : 1 ≤ r.2.2.2) : m ≤ byRow r y ↔ r.1 + -((r.2.1 - m) * r.2.2.2 / r.2.2.1) ≤ y := by
  have a1 : m - r.2.1 ≤ (y - r.1) * r.2.2.1 / r.2.2.2 ↔ (m - r.2.1) * r.2.2.2 ≤ (y - r.1) * r.2.2.1 := Int.le_ediv_iff_mul_le (by omega)
  have a2 : -(y - r.1) ≤ (r.2.1 - m) * r.2.2.2 / r.2.2.1 ↔ -(y - r.1) * r.2.2.1 ≤ (r.2.1 - m) * r.2.2.2 := Int.le_ediv_iff_mul_le (by omega)
  rw [Int.neg_mul] at a2
  have e : (r.2.1 - m) * r.2.2.2 = -((m - r.2.1) * r.2.2.2) := by rw [← Int.neg_mul]; congr 1; omega
  rw [e] at a2 ⊢
  unfold byRow
  constructor
  · intro h
    have := a1.mp (by omega)
    have := a2.mpr (by omega)
    omega
  · intro h
    have := a2.mp (by omega)
    have := a1.mpr (by omega)
    omega
def shL (rs : List Row) (y : Int) : Int := match rowAt rs y with
  | some r => byRow r y
  | none => 0
theorem shL_eq {rs : List Row} {y : Int} {r : Row} (h : rowAt rs y = some r) : shL rs y = byRow r y := by
  unfold shL
  rw [h]
theorem rowAt_first {r : Row} {rest : List Row} {y : Int} (h1 : r.1 ≤ y) (h2 : ∀ x ∈ rest, y < x.1) : rowAt (r :: rest) y = some r := by
  have e : rest.filter (fun r => decide (r.1 ≤ y)) = [] := by
    rw [List.filter_eq_nil_iff]
    intro x hx z
    have := h2 x hx
    have := of_decide_eq_true z
    omega
  simp [rowAt, h1, e]
theorem rowAt_next {r r2 : Row} {rest : List Row} {y : Int} (h2 : r2.1 ≤ y) : rowAt (r :: r2 :: rest) y = rowAt (r2 :: rest) y := by
  unfold rowAt
  by_cases h : r.1 ≤ y
  · simp [h, h2]
  · simp [h]
theorem ft_spec {t m x : Int} : ∀ (r : Row) (rest : List Row), ((r :: rest).Pairwise fun a b => a.1 < b.1) → (∀ a ∈ r :: rest, 1 ≤ a.2.2.1 ∧ 1 ≤ a.2.2.2) → firstTick (r :: rest) t m = some x →
    t ≤ x ∧ r.1 ≤ x ∧ m ≤ shL (r :: rest) x ∧ ∀ y, t ≤ y → r.1 ≤ y → y < x → shL (r :: rest) y < m
  | r, [], hs, ok, h => by
    simp only [firstTick, Option.some.injEq] at h
    subst h
    obtain ⟨o1, o2⟩ := ok r (by simp)
    have hx : ∀ y, r.1 ≤ y → shL [r] y = byRow r y := fun y hy => shL_eq (rowAt_first hy (by simp))
    have g := fun y => byRow_ge (r := r) (m := m) (y := y) o1 o2
    simp only [ftFound, max2_eq]
    refine ⟨by omega, by omega, ?_, fun y h1 h2 h3 => ?_⟩
    · rw [hx _ (by omega)]
      exact (g _).mpr (by omega)
    · rw [hx _ h2]
      have := g y
      omega
  | r, r2 :: rest, hs, ok, h => by
    obtain ⟨o1, o2⟩ := ok r (by simp)
    obtain ⟨s1, s2⟩ := List.pairwise_cons.mp hs
    have hx : ∀ y, r.1 ≤ y → y < r2.1 → shL (r :: r2 :: rest) y = byRow r y := fun y hy h2 => shL_eq (rowAt_first hy fun z hz => by
      rcases List.mem_cons.mp hz with rfl | hz
      · exact h2
      · have := (List.pairwise_cons.mp s2).1 z hz
        omega)
    have g := fun y => byRow_ge (r := r) (m := m) (y := y) o1 o2
    have hf : ftFound r t m = max (max t r.1) (r.1 + -((r.2.1 - m) * r.2.2.2 / r.2.2.1)) := by simp only [ftFound, max2_eq]
    simp only [firstTick] at h
    have h12 := s1 r2 (by simp)
    by_cases hc : ftFound r t m < r2.1
    · rw [if_pos hc] at h
      cases h
      rw [hf] at hc ⊢
      refine ⟨by omega, by omega, ?_, fun y h1 h2 h3 => ?_⟩
      · rw [hx _ (by omega) hc]
        exact (g _).mpr (by omega)
      · rw [hx _ h2 (by omega)]
        have := g y
        omega
    · rw [if_neg hc] at h
      obtain ⟨i1, i2, i3, i4⟩ := ft_spec r2 rest s2 (fun a ha => ok a (by simp [List.mem_cons.mp ha])) h
      have hy : ∀ y, r2.1 ≤ y → shL (r :: r2 :: rest) y = shL (r2 :: rest) y := fun y hy => by
        unfold shL
        rw [rowAt_next hy]
      refine ⟨i1, by omega, by rw [hy _ i2]; exact i3, fun y h1 h2 h3 => ?_⟩
      by_cases h4 : r2.1 ≤ y
      · rw [hy _ h4]
        exact i4 y h1 h4 h3
      · rw [hx _ h2 (by omega)]
        have := g y
        omega

theorem mx_look_rate {a b : Int} {C : Rs → Prop} {ξ : Xw} (h : ¬ (1 ≤ a ∧ a ≤ 1000 ∧ 1 ≤ b ∧ b ≤ 1000)) (hx : ξ "BadRate") : X_look_rate [.dat (.int a), .dat (.int b)] C ξ := by
  unfold X_look_rate tx_look_rate N_look_rate g_is_whole_least_most q_is_whole_least_most c_MOST
  walk_at "pu"
  refine m_is_whole (lo := some 1) (hi := some 1000) ?_
  walk_at "pu"
  refine ⟨fun _ => hx, fun h1 => ?_⟩
  refine m_is_whole (lo := some 1) (hi := some 1000) ?_
  walk_at "pu"
  refine ⟨fun _ => hx, fun h2 => ?_⟩
  simp only [wholeB, Bool.and_eq_true, decide_eq_true_eq] at h1 h2
  omega
theorem m_row_last {rs : List Row} {t : Int} {r : Row} (h : rowAt rs t = some r) : (rs.filter fun r => decide (r.1 ≤ t)).getLast? = some r := h
theorem mx_led_low {rs : List Row} {t b o : Int} {r : Row} {C : Rs → Prop} {ξ : Xw} (h : rowAt rs t = some r) (ok : RowOk r) (hb1 : -1000000 ≤ b) (hb2 : b ≤ 1000000) (ho1 : -1000000 ≤ o) (ho2 : o ≤ 1000000) (hp : r.2.2.1 * o + b * r.2.2.2 ≤ 0) (hx : ξ "BadRate") :
    X_led_softly [.dat (clkD rs), .dat (.int t), .dat (.int b), .dat (.int o)] C ξ := by
  obtain ⟨k1, k2, k3, k4⟩ := ok
  unfold X_led_softly tx_led_softly N_led_softly
  walk_at "pu"
  refine m_row_at h ?_
  simp only [rowD_ap r]
  walk_at "pu"
  refine ⟨cmul_r (by omega) (by omega), cmul_l (by omega) (by omega), cmul_r (by omega) (by omega), ?_⟩
  exact ⟨fun _ => hx, fun z => absurd hp z⟩
theorem mx_led_rate {rs : List Row} {t b o : Int} {r : Row} {p q : Nat} {C : Rs → Prop} {ξ : Xw} (h : rowAt rs t = some r) (ok : RowOk r) (hb1 : -1000000 ≤ b) (hb2 : b ≤ 1000000) (ho1 : -1000000 ≤ o) (ho2 : o ≤ 1000000)
    (hp : r.2.2.1 * o + b * r.2.2.2 = (p : Int)) (hq : r.2.2.2 * o = (q : Int)) (hp0 : 0 < p) (hg : Nat.gcd p q < 1000000000)
    (hb : ¬ (1 ≤ (p : Int) / (Nat.gcd p q : Int) ∧ (p : Int) / (Nat.gcd p q : Int) ≤ 1000 ∧ 1 ≤ (q : Int) / (Nat.gcd p q : Int) ∧ (q : Int) / (Nat.gcd p q : Int) ≤ 1000)) (hx : ξ "BadRate") :
    X_led_softly [.dat (clkD rs), .dat (.int t), .dat (.int b), .dat (.int o)] C ξ := by
  obtain ⟨k1, k2, k3, k4⟩ := ok
  unfold X_led_softly tx_led_softly N_led_softly
  walk_at "pu"
  refine m_row_at h ?_
  simp only [rowD_ap r]
  walk_at "pu"
  refine ⟨cmul_r (by omega) (by omega), cmul_l (by omega) (by omega), cmul_r (by omega) (by omega), ?_⟩
  rw [hp, hq]
  refine ⟨fun z => by omega, fun _ => ?_⟩
  refine m_divisor ?_
  walk_at "pu"
  have hg0 : 0 < Nat.gcd p q := Nat.gcd_pos_of_pos_left _ hp0
  refine ⟨⟨by omega, by omega⟩, ⟨by omega, by omega⟩, ?_⟩
  exact .inr (mx_look_rate hb hx)

theorem seq_cut {t u : US} {E : Ed} {ρ : En} (I : En → Prop) (h2 : ∀ U : En → Prop, (∀ ρ', I ρ' → U ρ') → t { E with nx := U } ρ) (h1 : ∀ ρ', I ρ' → u E ρ') : sSeq t u E ρ := h2 (u E) h1

/-! comprehensions of drawn things -/
theorem lcC_dm {α : Type} {g : UG} {te : UV} {C : List D → Prop} {ρ : En} (mk : α → D) (Q : D → Prop) : ∀ (as : List α) (acc : List D),
    (∀ a ∈ as, ∀ P1 : D → Prop, (∀ v, Q v → P1 v) → g (mk a) ρ fun ρ2 => te ρ2 P1) → (∀ vs, vs.length = as.length → (∀ v ∈ vs, Q v) → C (acc ++ vs)) → lcC g bYes te C ρ (as.map mk) acc
  | [], acc, _, hc => by
    have := hc [] rfl (fun _ h => by cases h)
    simpa [lcC] using this
  | d :: ds, acc, h, hc => by
    rw [List.map_cons]
    unfold lcC
    simp only [bYes, forall_const, reduceCtorEq, false_implies, and_true, true_implies]
    refine h d (List.mem_cons_self ..) _ fun v hv => ?_
    refine lcC_dm mk Q ds _ (fun d hd => h d (List.mem_cons_of_mem _ hd)) fun vs hl hq => ?_
    have := hc (v :: vs) (by simp [hl]) (fun x hx => by
      rcases List.mem_cons.mp hx with rfl | hx
      · exact hv
      · exact hq x hx)
    simpa using this
theorem all_mk {α : Type} (mk : α → D) (P : α → Prop) : ∀ (vs : List D), (∀ v ∈ vs, ∃ a, v = mk a ∧ P a) → ∃ as : List α, vs = as.map mk ∧ ∀ a ∈ as, P a
  | [], _ => ⟨[], rfl, fun _ h => by cases h⟩
  | v :: vs, h => by
    obtain ⟨n, rfl, h1⟩ := h v (by simp)
    obtain ⟨ns, rfl, h3⟩ := all_mk mk P vs fun x hx => h x (by simp [hx])
    exact ⟨n :: ns, rfl, fun x hx => by
      rcases List.mem_cons.mp hx with rfl | hx
      · exact h1
      · exact h3 x hx⟩
/-- a comprehension over a range whose things are drawn -/
theorem lcC_rng {α : Type} {g : UG} {te : UV} {C : List D → Prop} {ρ : En} (mk : α → D) (P : α → Prop) (lo : Int) (n : Nat)
    (h : ∀ i : Int, lo ≤ i → i < lo + n → ∀ P1 : D → Prop, (∀ a, P a → P1 (mk a)) → g (.int i) ρ fun ρ2 => te ρ2 P1) (hc : ∀ as : List α, as.length = n → (∀ a ∈ as, P a) → C (as.map mk)) : lcC g bYes te C ρ (rngD lo n) [] := by
  have e : rngD lo n = ((List.range n).map fun (i : Nat) => lo + (i : Int)).map PyData.int := by
    unfold rngD
    rw [List.map_map]
    rfl
  rw [e]
  refine lcC_dm PyData.int (fun v => ∃ a, v = mk a ∧ P a) _ [] (fun i hi P1 hP => ?_) fun vs hl hq => ?_
  · obtain ⟨j, hj, rfl⟩ := List.mem_map.mp hi
    have := List.mem_range.mp hj
    exact h _ (by omega) (by omega) P1 fun a ha => hP _ ⟨a, rfl, ha⟩
  · obtain ⟨as, rfl, ha⟩ := all_mk mk P vs hq
    rw [List.nil_append]
    exact hc as (by simpa using hl) ha
theorem lf_intsX (ns : List Int) : lfAll (ns.map PyData.int) = true := by
  induction ns with
  | nil => rfl
  | cons n ns ih => simp [lfAll, lf, ih]
theorem intsOf_mapX (zs : List Int) : intsOf (zs.map PyData.int) = some zs := by
  induction zs with
  | nil => rfl
  | cons z zs ih => simp only [List.map_cons, intsOf, ih, Option.map_some]
theorem ne_nilL {ds : List D} {P Q : Prop} (s : shAll 31 ds = true) (h1 : ds ≠ [] → P) (h2 : ds = [] → Q) : fEq true (.list ds) (.list []) fun z => (z = true → P) ∧ (z = false → Q) := by
  cases ds with
  | nil => exact eq_same rfl rfl ⟨fun z => (by cases z), fun _ => h2 rfl⟩
  | cons d ds =>
    refine ⟨s, rfl, ?_⟩
    have e : PyData.eqv (.list (d :: ds)) (.list []) = false := by simp [PyData.eqv, PyData.eqvAll]
    rw [e]
    exact ⟨fun _ => h1 (by simp), fun z => (by cases z)⟩
theorem shAll_map {α : Type} {n : Nat} {mk : α → D} (h : ∀ a, sh n (mk a) = true) : ∀ as : List α, shAll n (as.map mk) = true
  | [] => rfl
  | a :: as => by simp [shAll, h a, shAll_map h as]
theorem lfAll_map {α : Type} {mk : α → D} (h : ∀ a, lf (mk a) = true) : ∀ as : List α, lfAll (as.map mk) = true
  | [] => rfl
  | a :: as => by simp [lfAll, h a, lfAll_map h as]
theorem nodup_len : ∀ {ms zs : List Int}, ms.Nodup → (∀ x ∈ ms, x ∈ zs) → ms.length ≤ zs.length
  | [], _, _, _ => Nat.zero_le _
  | x :: ms, zs, hn, h => by
    have hx := h x (by simp)
    have h2 := List.nodup_cons.mp hn
    have := nodup_len (ms := ms) (zs := zs.erase x) h2.2 fun y hy => (List.mem_erase_of_ne (fun e : y = x => h2.1 (by rw [← e]; exact hy))).mpr (h y (by simp [hy]))
    rw [List.length_erase_of_mem hx] at this
    have := List.length_pos_of_mem hx
    simp only [List.length_cons]
    omega

/-! a dict of distinct whole keys; falls are jumps -/
theorem byRow_mono {r : Row} {x y : Int} (h1 : 1 ≤ r.2.2.1) (h2 : 1 ≤ r.2.2.2) (h : x ≤ y) : byRow r x ≤ byRow r y := by
  unfold byRow
  have := Int.mul_le_mul_of_nonneg_right (show x - r.1 ≤ y - r.1 by omega) (show 0 ≤ r.2.2.1 by omega)
  have := Int.ediv_le_ediv (show 0 < r.2.2.2 by omega) this
  omega
theorem byRow_self (r : Row) : byRow r r.1 = r.2.1 := by simp [byRow]
theorem fall_jump {t : Int} : ∀ (r : Row) (rest : List Row), ((r :: rest).Pairwise fun a b => a.1 < b.1) → (∀ a ∈ r :: rest, 1 ≤ a.2.2.1 ∧ 1 ≤ a.2.2.2) → r.1 < t → shL (r :: rest) t < shL (r :: rest) (t - 1) → ∃ j, j < 0 ∧ (t, j) ∈ jumps (r :: rest)
  | r, [], hs, ok, ht, h => by
    obtain ⟨o1, o2⟩ := ok r (by simp)
    rw [shL_eq (rowAt_first (by omega) (by simp)), shL_eq (rowAt_first (by omega) (by simp))] at h
    have := byRow_mono (r := r) o1 o2 (show t - 1 ≤ t by omega)
    omega
  | r, r2 :: rest, hs, ok, ht, h => by
    obtain ⟨o1, o2⟩ := ok r (by simp)
    obtain ⟨s1, s2⟩ := List.pairwise_cons.mp hs
    have s3 := (List.pairwise_cons.mp s2).1
    have h12 := s1 r2 (by simp)
    have hx : ∀ y, r.1 ≤ y → y < r2.1 → shL (r :: r2 :: rest) y = byRow r y := fun y hy h2 => shL_eq (rowAt_first hy fun z hz => by
      rcases List.mem_cons.mp hz with rfl | hz
      · exact h2
      · have := s3 z hz
        omega)
    have hy : ∀ y, r2.1 ≤ y → shL (r :: r2 :: rest) y = shL (r2 :: rest) y := fun y hy => by
      unfold shL
      rw [rowAt_next hy]
    rcases Int.lt_trichotomy t r2.1 with c | c | c
    · rw [hx t (by omega) c, hx (t - 1) (by omega) (by omega)] at h
      have := byRow_mono (r := r) o1 o2 (show t - 1 ≤ t by omega)
      omega
    · rw [hy t (by omega), hx (t - 1) (by omega) (by omega), shL_eq (rowAt_first (by omega) fun z hz => by have := s3 z hz; omega), c, byRow_self] at h
      have := byRow_mono (r := r) o1 o2 (show r2.1 - 1 ≤ r2.1 by omega)
      refine ⟨r2.2.1 - byRow r r2.1, by omega, ?_⟩
      have hne : ¬ r2.2.1 - byRow r r2.1 = 0 := by omega
      unfold jumps
      rw [c, if_neg hne]
      simp
    · rw [hy t (by omega), hy (t - 1) (by omega)] at h
      obtain ⟨j, j0, hj⟩ := fall_jump r2 rest s2 (fun a ha => ok a (List.mem_cons_of_mem _ ha)) c h
      refine ⟨j, j0, ?_⟩
      unfold jumps
      exact List.mem_append.mpr (.inr hj)
theorem jump_ge {x : Int × Int} : ∀ (r : Row) (rest : List Row), ((r :: rest).Pairwise fun a b => a.1 < b.1) → x ∈ jumps (r :: rest) → r.1 < x.1
  | r, [], _, h => by simp [jumps] at h
  | r, r2 :: rest, hs, h => by
    obtain ⟨s1, s2⟩ := List.pairwise_cons.mp hs
    have h12 := s1 r2 (by simp)
    unfold jumps at h
    rcases List.mem_append.mp h with h | h
    · split at h
      · cases h
      · rw [List.mem_singleton.mp h]
        exact h12
    · have := jump_ge r2 rest s2 h
      omega
theorem jump_pw : ∀ (r : Row) (rest : List Row), ((r :: rest).Pairwise fun a b => a.1 < b.1) → (jumps (r :: rest)).Pairwise fun a b => a.1 < b.1
  | r, [], _ => by simp [jumps]
  | r, r2 :: rest, hs => by
    obtain ⟨s1, s2⟩ := List.pairwise_cons.mp hs
    have ih := jump_pw r2 rest s2
    unfold jumps
    refine List.pairwise_append.mpr ⟨?_, ih, fun x hx y hy => ?_⟩
    · split
      · exact .nil
      · exact List.pairwise_singleton ..
    · have := jump_ge r2 rest s2 hy
      split at hx
      · cases hx
      · rw [List.mem_singleton.mp hx]
        exact this
def kjO (p : Int × Int) : Key × D := (.inl p.1, .int p.2)
theorem jK : ∀ ps : List (Int × Int), pairsK (ps.map pairD) = some (ps.map kjO)
  | [] => rfl
  | p :: ps => by
    have := jK ps
    simp only [List.map_cons]
    simp only [pairD, pairsK, keyD, this]
    rfl
theorem get_put_ne {kds : List (Key × D)} {k k' : Key} {d : D} (h : k ≠ k') : getD? (putD kds k' d) k = getD? kds k := by
  unfold putD getD?
  split
  · rename_i hany
    congr 1
    clear hany
    induction kds with
    | nil => rfl
    | cons p ps ih =>
      simp only [List.map_cons, List.find?_cons]
      by_cases hp : p.1 = k'
      · rw [if_pos hp]
        simp only
        have : ¬ p.1 = k := fun e => h (e.symm.trans hp)
        rw [decide_eq_false this]
        exact ih
      · rw [if_neg hp]
        by_cases hk : p.1 = k
        · rw [decide_eq_true hk]
        · rw [decide_eq_false hk]
          exact ih
  · congr 1
    rw [List.find?_append]
    have : List.find? (fun p : Key × D => decide (p.1 = k)) [(k', d)] = none := by simp [Ne.symm h]
    rw [this]
    cases List.find? (fun p : Key × D => decide (p.1 = k)) kds <;> rfl
theorem merge_get : ∀ {ps : List (Int × Int)} {acc : List (Key × D)} {t j : Int}, ps.Pairwise (fun a b => a.1 < b.1) → (t, j) ∈ ps → getD? acc (.inl t) = none → (∀ p ∈ ps, ∀ q ∈ acc, q.1 ≠ .inl p.1) → getD? (mergeD acc (ps.map kjO)) (.inl t) = some (.int j)
  | p :: ps, acc, t, j, hp, h, h0, hd => by
    obtain ⟨h1, h2⟩ := List.pairwise_cons.mp hp
    have later : ∀ (qs : List (Int × Int)) (acc : List (Key × D)), (∀ q ∈ qs, q.1 ≠ t) → getD? (mergeD acc (qs.map kjO)) (.inl t) = getD? acc (.inl t) := fun qs => by
      induction qs with
      | nil => intro acc _; rfl
      | cons q qs ih =>
        intro acc hq
        show getD? (mergeD (putD acc (kjO q).1 (kjO q).2) (qs.map kjO)) (.inl t) = _
        rw [ih _ fun x hx => hq x (List.mem_cons_of_mem _ hx)]
        exact get_put_ne fun e => hq q (by simp) (Sum.inl.inj e).symm
    have hany : acc.any (fun q => decide (q.1 = (.inl p.1 : Key))) = false := by
      rw [Bool.eq_false_iff]
      intro hh
      obtain ⟨q, hq, hq2⟩ := List.any_eq_true.mp hh
      exact hd p (by simp) q hq (of_decide_eq_true hq2)
    have eput : putD acc (.inl p.1) (.int p.2) = acc ++ [(.inl p.1, .int p.2)] := by
      unfold putD
      rw [hany]
      rfl
    show getD? (mergeD (putD acc (.inl p.1) (.int p.2)) (ps.map kjO)) (.inl t) = _
    rcases List.mem_cons.mp h with h | h
    · subst h
      rw [later ps _ fun q hq => by have := h1 q hq; dsimp only at this; omega, eput]
      unfold getD? at h0 ⊢
      rw [List.find?_append]
      have hn : List.find? (fun p : Key × D => decide (p.1 = .inl t)) acc = none := by
        cases hh : List.find? (fun p : Key × D => decide (p.1 = .inl t)) acc with
        | none => rfl
        | some v => rw [hh] at h0; cases h0
      rw [hn]
      simp
    · have hlt := h1 _ h
      refine merge_get h2 h ?_ fun q hq a ha => ?_
      · rw [get_put_ne fun e => by have := Sum.inl.inj e; dsimp only at hlt; omega]
        exact h0
      · rw [eput] at ha
        rcases List.mem_append.mp ha with ha | ha
        · exact hd q (by simp [hq]) a ha
        · rw [List.mem_singleton.mp ha]
          intro e
          have := Sum.inl.inj e
          have := h1 q hq
          omega

theorem lcC_none {α : Type} {g : UG} {tt : UT} {te : UV} {C : List D → Prop} {ρ : En} (mk : α → D) (as : List α) (h : ∀ a ∈ as, ∀ (P1 : D → Prop) (P2 : Prop), P2 → g (mk a) ρ fun ρ2 => tt ρ2 fun z => (z = true → te ρ2 P1) ∧ (z = false → P2)) (hc : C []) : lcC g tt te C ρ (as.map mk) [] := by
  refine lcC_map mk (fun _ => false) (fun _ => .none) as [] (fun a ha P1 P2 _ g2 => h a ha P1 P2 (g2 rfl)) ?_
  rw [List.filter_eq_nil_iff.mpr (fun _ _ => by simp)]
  exact hc

/-! a clock led softly -/
theorem floor_add {x y b : Int} (hb : 0 < b) : x / b + y / b ≤ (x + y) / b ∧ (x + y) / b ≤ x / b + y / b + 1 := by
  have h1 := Int.ediv_mul_le x (show b ≠ 0 by omega)
  have h2 := Int.ediv_mul_le y (show b ≠ 0 by omega)
  have h3 := Int.lt_ediv_add_one_mul_self x hb
  have h4 := Int.lt_ediv_add_one_mul_self y hb
  constructor
  · rw [Int.le_ediv_iff_mul_le hb, Int.add_mul]
    omega
  · have : (x + y) / b < x / b + y / b + 2 := by
      rw [Int.ediv_lt_iff_lt_mul hb]
      have e : (x / b + y / b + 2) * b = (x / b + 1) * b + (y / b + 1) * b := by rw [← Int.add_mul]; congr 1; omega
      rw [e]
      omega
    omega
theorem byRow_add {r : Row} {u v : Int} (hb : 1 ≤ r.2.2.2) : byRow r u + v * r.2.2.1 / r.2.2.2 ≤ byRow r (u + v) ∧ byRow r (u + v) ≤ byRow r u + v * r.2.2.1 / r.2.2.2 + 1 := by
  have h := floor_add (x := (u - r.1) * r.2.2.1) (y := v * r.2.2.1) (b := r.2.2.2) (by omega)
  have e : (u + v - r.1) * r.2.2.1 = (u - r.1) * r.2.2.1 + v * r.2.2.1 := by rw [← Int.add_mul]; congr 1; omega
  unfold byRow
  rw [e]
  omega
/-- the soft rows -/
def sftR (r : Row) (t o b P Q : Int) : List Row := keptTo [r] t ++ [(t, byRow r t, P, Q), (t + o, byRow r (t + o) + b, r.2.2.1, r.2.2.2)]
theorem sft_facts {r : Row} {t o b P Q : Int} (ok : ClkOk [r]) (ht : 0 ≤ t) (ho : 1 ≤ o) (hP : 1 ≤ P ∧ P ≤ 1000) (hQ : 1 ≤ Q ∧ Q ≤ 1000) :
    ClkOk (sftR r t o b P Q) ∧ (∀ z, t + o ≤ z → shL (sftR r t o b P Q) z = byRow (t + o, byRow r (t + o) + b, r.2.2.1, r.2.2.2) z) ∧ (∀ z, t ≤ z → z < t + o → shL (sftR r t o b P Q) z = byRow (t, byRow r t, P, Q) z) ∧ ∀ z, 0 ≤ z → z < t → shL (sftR r t o b P Q) z = shL [r] z := by
  obtain ⟨g0, g1, g2, g3, g4⟩ := ok.row r (by simp)
  have ok1 := kept_ok (m := byRow r t) ok ht hP hQ
  have ek : keptTo (keptTo [r] t ++ [(t, byRow r t, P, Q)]) (t + o) = keptTo [r] t ++ [(t, byRow r t, P, Q)] := List.filter_eq_self.mpr fun a ha => by
    rcases List.mem_append.mp ha with h | h
    · have := of_decide_eq_true (List.mem_filter.mp h).2
      exact decide_eq_true (by omega)
    · rw [List.mem_singleton.mp h]
      exact decide_eq_true (by dsimp only; omega)
  have es : sftR r t o b P Q = keptTo (keptTo [r] t ++ [(t, byRow r t, P, Q)]) (t + o) ++ [(t + o, byRow r (t + o) + b, r.2.2.1, r.2.2.2)] := by
    rw [ek]
    unfold sftR
    simp
  rw [es]
  refine ⟨kept_ok ok1 (by omega) ⟨g1, g2⟩ ⟨g3, g4⟩, fun z hz => shL_eq (rowAt_new hz), fun z h1 h2 => shL_eq ((rowAt_old h2).trans (rowAt_new h1)), fun z h1 h2 => ?_⟩
  unfold shL
  rw [rowAt_old (by omega), rowAt_old h2]
theorem sft_rate {a b c o : Int} {p q g : Nat} (ho : 1 ≤ o) (hb : 1 ≤ b) (hp : a * o + c * b = (p : Int)) (hq : b * o = (q : Int)) (hg : 0 < g) (h1 : g ∣ p) (h2 : g ∣ q) : o * ((p : Int) / (g : Int)) / ((q : Int) / (g : Int)) = o * a / b + c := by
  obtain ⟨p', rfl⟩ := h1
  obtain ⟨q', rfl⟩ := h2
  have e1 : ((g * p' : Nat) : Int) / (g : Int) = (p' : Int) := by rw [Int.natCast_mul, Int.mul_ediv_cancel_left _ (by omega)]
  have e2 : ((g * q' : Nat) : Int) / (g : Int) = (q' : Int) := by rw [Int.natCast_mul, Int.mul_ediv_cancel_left _ (by omega)]
  rw [e1, e2]
  rw [Int.natCast_mul] at hp hq
  have h3 : o * (p' : Int) / (q' : Int) = ((g : Int) * (o * (p' : Int))) / ((g : Int) * (q' : Int)) := (Int.mul_ediv_mul_of_pos _ _ (by omega)).symm
  have h4 : (g : Int) * (o * (p' : Int)) = o * (a * o + c * b) := by rw [hp, Int.mul_left_comm]
  rw [h3, h4, ← hq, Int.mul_comm b o, Int.mul_ediv_mul_of_pos _ _ (by omega), Int.add_mul_ediv_right _ _ (by omega), Int.mul_comm a o]
theorem sft_up {r : Row} {t o b P Q : Int} (ok : ClkOk [r]) (ht : 0 ≤ t) (ho : 1 ≤ o) (hP : 1 ≤ P ∧ P ≤ 1000) (hQ : 1 ≤ Q ∧ Q ≤ 1000) (hr : o * P / Q = o * r.2.2.1 / r.2.2.2 + b) {z : Int} (h1 : t + 1 ≤ z) : shL (sftR r t o b P Q) (z - 1) ≤ shL (sftR r t o b P Q) z := by
  obtain ⟨g0, g1, g2, g3, g4⟩ := ok.row r (by simp)
  obtain ⟨_, f1, f2, _⟩ := sft_facts (b := b) ok ht ho hP hQ
  have mX : ∀ x y : Int, x ≤ y → byRow (t, byRow r t, P, Q) x ≤ byRow (t, byRow r t, P, Q) y := fun x y h => byRow_mono hP.1 hQ.1 h
  rcases Int.lt_trichotomy z (t + o) with c | c | c
  · rw [f2 z (by omega) c, f2 (z - 1) (by omega) (by omega)]
    exact mX _ _ (by omega)
  · rw [f1 z (by omega), f2 (z - 1) (by omega) (by omega)]
    have h2 := mX (z - 1) (t + o) (by omega)
    have h3 : byRow (t, byRow r t, P, Q) (t + o) = byRow r t + o * P / Q := by
      unfold byRow
      dsimp only
      rw [show t + o - t = o by omega]
    have h4 := (byRow_add (r := r) (u := t) (v := o) g3).1
    have h5 := byRow_self (t + o, byRow r (t + o) + b, r.2.2.1, r.2.2.2)
    dsimp only at h5
    rw [c, h5]
    rw [c] at h2
    omega
  · rw [f1 z (by omega), f1 (z - 1) (by omega)]
    exact byRow_mono g1 g3 (by omega)
theorem sft_late {r : Row} {t o b z : Int} (hb : 1 ≤ r.2.2.2) : -1 ≤ byRow (t + o, byRow r (t + o) + b, r.2.2.1, r.2.2.2) z - byRow r z - b ∧ byRow (t + o, byRow r (t + o) + b, r.2.2.1, r.2.2.2) z - byRow r z - b ≤ 1 := by
  have h := byRow_add (r := r) (u := t + o) (v := z - (t + o)) hb
  rw [show t + o + (z - (t + o)) = z by omega] at h
  have e : byRow (t + o, byRow r (t + o) + b, r.2.2.1, r.2.2.2) z = byRow r (t + o) + b + (z - (t + o)) * r.2.2.1 / r.2.2.2 := rfl
  rw [e]
  omega
theorem bad_told {B : Bool → Prop} (hb : B false) : fEq false (.str "bad rate") (.str "told") B := by
  rw [q_eq]
  refine ⟨by decide +kernel, by decide +kernel, ?_⟩
  have : PyData.eqv (.str "bad rate") (.str "told") = false := by decide +kernel
  rw [this]
  exact hb
theorem told_told {B : Bool → Prop} (hb : B true) : fEq false (.str "told") (.str "told") B := eq_same rfl (by decide +kernel) hb

theorem shows_ok {rs : List Row} {t : Int} {C : Rs → Prop} (ok : ClkOk rs) (ht : 0 ≤ t) (hc : C (.dat (.int (shL rs t)))) : S_clock_shows [.dat (clkD rs), .dat (.int t)] C := by
  obtain ⟨r, hr, hrm⟩ := rowAt_some ok ht
  rw [shL_eq hr] at hc
  exact m_clock_shows hr (ok.row r hrm).ok hc
theorem law_math (ns : List Int) (hl : ns.length ≤ 63) : t_law edLaw (enLaw N_law 1 ns) := by
  unfold t_law enLaw edLaw N_law
  walk_at "pu"
  refine ⟨by decide, by decide, ?_⟩
  refine forC_inv (fun _ ρ => ∃ a2 a3 a4 a5 a6 a7 a8 a9 a10 a11 a12 a13 a14 a15, ρ = [.dat (scrD ns), .town, a2, a3, a4, a5, a6, a7, a8, a9, a10, a11, a12, a13, a14, a15] ∧ ownN (some a15)) ?_ ?_ _ _ ⟨_, _, _, _, _, _, _, _, _, _, _, _, _, _, rfl, rfl⟩
  · rintro kv rest ρ ⟨a2, a3, a4, a5, a6, a7, a8, a9, a10, a11, a12, a13, a14, a15, rfl, ow⟩ K hK
    unfold b_law_3
    walk_at "pu"
    refine m_a_clock hl fun rs ok hlen => ?_
    walk_at "pu"
    have okr : ∀ r ∈ rs, RowOk r := fun r hr => (ok.row r hr).ok
    refine m_jumps_of okr (by omega) ?_
    walk_at "pu"
    refine ⟨_, jK _, ?_⟩
    walk_at "pu"
    refine ⟨1, 160, rfl, rfl, by decide, by decide, by decide, by decide, by decide, ?_⟩
    obtain ⟨r0, rs0, e0, hr0⟩ := ok.ne
    have okp : ∀ a ∈ rs, 1 ≤ a.2.2.1 ∧ 1 ≤ a.2.2.2 := fun a ha => ⟨(ok.row a ha).2.1, (ok.row a ha).2.2.2.1⟩
    have srt := ok.srt
    generalize hJ : mergeD [] ((jumps rs).map kjO) = J
    refine forC_inv (fun ds ρ => (∀ x ∈ ds, ∃ b, x = .int b ∧ 1 ≤ b ∧ b < 160) ∧ ∃ s5 s6, ρ = [.dat (scrD ns), .town, .dat kv, .dat (clkD rs), .dic J, s5, s6, a7, a8, a9, a10, a11, a12, a13, a14, a15]) ?_ ?_ _ _ ⟨fun x hx => ?_, _, _, rfl⟩
    rotate_left 2
    · obtain ⟨i, hi, rfl⟩ := mem_rngD hx
      exact ⟨_, rfl, by omega, by omega⟩
    · rintro d rest1 ρ ⟨hm, s5, s6, rfl⟩ Q hQ
      obtain ⟨t, rfl, t1, t2⟩ := hm d (by simp)
      have nxt : ∀ s6, Q [.dat (scrD ns), .town, .dat kv, .dat (clkD rs), .dic J, .dat (.int t), s6, a7, a8, a9, a10, a11, a12, a13, a14, a15] := fun s6 => hQ _ ⟨fun z hz => hm z (by simp [hz]), _, _, rfl⟩
      unfold b_law_2
      walk_at "pu"
      refine shows_ok ok (by omega) ?_
      walk_at "pu"
      refine shows_ok ok (by omega) ?_
      walk_at "pu"
      refine ⟨fun hf => ?_, fun _ => nxt _⟩
      obtain ⟨j, j0, hj⟩ : ∃ j, j < 0 ∧ (t, j) ∈ jumps rs := by
        rw [e0] at hf srt okp ⊢
        exact fall_jump r0 rs0 srt okp (by omega) hf
      have pw : (jumps rs).Pairwise fun a b => a.1 < b.1 := by
        rw [e0] at srt ⊢
        exact jump_pw r0 rs0 srt
      have g : getD? J (.inl t) = some (.int j) := by
        rw [← hJ]
        exact merge_get pw hj rfl fun p _ q hq => by cases hq
      refine ⟨.inl t, rfl, ?_⟩
      rw [g]
      simp only [Option.getD_some]
      walk_at "pu"
      exact ⟨fun h => by omega, fun _ => nxt _⟩
    · rintro ρ ⟨_, s5, s6, rfl⟩
      walk_at "pu"
      refine m_draw hl (by decide) (by decide) fun tick t0 t1 => ?_
      walk_at "pu"
      refine m_draw hl (by decide) (by decide) fun mo mo0 mo1 => ?_
      walk_at "pu"
      generalize hmo : mo - 1500 = mom
      have ft : ∀ m, ∃ x, firstTick rs tick m = some x ∧ tick ≤ x ∧ m ≤ shL rs x ∧ ∀ y, tick ≤ y → 0 ≤ y → y < x → shL rs y < m := fun m => by
        obtain ⟨x, hx⟩ := firstTick_some rs tick m (by rw [e0]; simp)
        rw [e0] at hx srt okp ⊢
        obtain ⟨x1, x2, x3, x4⟩ := ft_spec r0 rs0 srt okp hx
        exact ⟨x, hx, x1, x3, fun y h1 h2 h3 => x4 y h1 (by omega) h3⟩
      obtain ⟨x, hx, x1, x3, x4⟩ := ft mom
      refine m_first_tick okr hx ?_
      walk_at "pu"
      refine ⟨fun h => by omega, fun _ => ?_⟩
      refine shows_ok ok (by omega) ?_
      walk_at "pu"
      refine ⟨fun h => by omega, fun _ => ?_⟩
      refine m_draw hl (by decide) (by decide) fun mr mr0 mr1 => ?_
      walk_at "pu"
      obtain ⟨x', hx', y1, y3, y4⟩ := ft (mom + mr)
      refine m_first_tick okr hx' ?_
      walk_at "pu"
      refine ⟨fun h => ?_, fun _ => ?_⟩
      · exfalso
        have := x4 x' y1 (by omega) h
        omega
      have hn : ∃ n : Int, (if tick + 200 < x then tick + 200 else x) = n ∧ tick ≤ n ∧ n ≤ tick + 200 ∧ n ≤ x := ⟨_, rfl, by split <;> omega, by split <;> omega, by split <;> omega⟩
      obtain ⟨n, en, n1, n2, n3⟩ := hn
      rw [en]
      refine ⟨ow, tick, n, rfl, rfl, by omega, by omega, by omega, by omega, by omega, ?_⟩
      refine lcC_none (fun i : Nat => (.int (tick + (i : Int)) : D)) (List.range (n - tick).toNat) (fun i hi P1 P2 g => ?_) ?_
      · have hi := List.mem_range.mp hi
        walk_at "pu"
        refine shows_ok ok (by omega) ?_
        walk_at "pu"
        have := x4 (tick + (i : Int)) (by omega) (by omega) (by omega)
        exact ⟨fun h => by omega, fun _ => g⟩
      refine eq_same rfl rfl ⟨fun h => (by cases h), fun _ => ?_⟩
      obtain ⟨r, hr, hrm⟩ := rowAt_some ok t0
      obtain ⟨_, g1, g2, g3, g4⟩ := ok.row r hrm
      refine shows_ok ok t0 ?_
      walk_at "pu"
      refine m_set_to hr (by omega) ?_
      walk_at "pu"
      refine m_is_clock (kept_ok ok t0 ⟨g1, g2⟩ ⟨g3, g4⟩) ?_
      walk_at "pu"
      refine m_clock_shows (rowAt_new (Int.le_refl _)) ⟨g1, by dsimp only; omega, g3, by dsimp only; omega⟩ ?_
      walk_at "pu"
      refine shows_ok ok t0 ?_
      walk_at "pu"
      have eb : byRow (tick, shL rs tick, r.2.2.1, r.2.2.2) tick = shL rs tick := byRow_self _
      refine ⟨fun h => absurd eb h, fun _ => ?_⟩
      refine m_draw hl (by decide) (by decide) fun b b0 b1 => ?_
      walk_at "pu"
      refine m_draw hl (by decide) (by decide) fun o o0 o1 => ?_
      walk_at "pu"
      generalize hB : b - 10 = by_
      generalize hO : 30 + o = over
      simp only [clkD_ap rs]
      walk_at "pu"
      rw [e0, List.map_cons]
      have et : PyData.tuple (List.take 1 (rowD r0 :: rs0.map rowD)) = clkD [r0] := rfl
      simp only [et]
      have ok0 : ClkOk [r0] := ⟨⟨r0, [], rfl, hr0⟩, List.pairwise_singleton .., fun a ha => by rw [List.mem_singleton.mp ha]; exact ok.row r0 (by rw [e0]; simp)⟩
      have hr00 : rowAt [r0] tick = some r0 := rowAt_first (by omega) (by simp)
      obtain ⟨_, k1, k2, k3, k4⟩ := ok0.row r0 (by simp)
      have hro : RowOk r0 := (ok0.row r0 (by simp)).ok
      by_cases hp : r0.2.2.1 * over + by_ * r0.2.2.2 ≤ 0
      · refine .inr (mx_led_low (rs := [r0]) hr00 hro (by omega) (by omega) (by omega) (by omega) hp ⟨"bad rate", rfl, ?_⟩)
        refine bad_told ⟨fun h => (by cases h), fun _ => hK _ ⟨_, _, _, _, _, _, _, _, _, _, _, _, _, _, rfl, by first | exact ow | rfl⟩⟩
      obtain ⟨p, hpp⟩ : ∃ p : Nat, r0.2.2.1 * over + by_ * r0.2.2.2 = (p : Int) := ⟨(r0.2.2.1 * over + by_ * r0.2.2.2).toNat, by omega⟩
      have hq1 : 0 < r0.2.2.2 * over := Int.mul_pos (by omega) (by omega)
      have hq2 : r0.2.2.2 * over ≤ 1000 * over := Int.mul_le_mul_of_nonneg_right k4 (by omega)
      obtain ⟨q, hqq⟩ : ∃ q : Nat, r0.2.2.2 * over = (q : Int) := ⟨(r0.2.2.2 * over).toNat, by omega⟩
      have hp0 : 0 < p := by omega
      have hq0 : 0 < q := by omega
      have hg : Nat.gcd p q < 1000000000 := by
        have := Nat.gcd_le_right (m := p) (n := q) hq0
        omega
      have hg0 : 0 < Nat.gcd p q := Nat.gcd_pos_of_pos_left _ hp0
      have hrate := sft_rate (a := r0.2.2.1) (b := r0.2.2.2) (c := by_) (o := over) (p := p) (q := q) (g := Nat.gcd p q) (by omega) k3 hpp hqq hg0 (Nat.gcd_dvd_left p q) (Nat.gcd_dvd_right p q)
      by_cases hb : 1 ≤ (p : Int) / (Nat.gcd p q : Int) ∧ (p : Int) / (Nat.gcd p q : Int) ≤ 1000 ∧ 1 ≤ (q : Int) / (Nat.gcd p q : Int) ∧ (q : Int) / (Nat.gcd p q : Int) ≤ 1000
      rotate_left
      · refine .inr (mx_led_rate (rs := [r0]) hr00 hro (by omega) (by omega) (by omega) (by omega) hpp hqq hp0 hg hb ⟨"bad rate", rfl, ?_⟩)
        refine bad_told ⟨fun h => (by cases h), fun _ => hK _ ⟨_, _, _, _, _, _, _, _, _, _, _, _, _, _, rfl, by first | exact ow | rfl⟩⟩
      obtain ⟨hP1, hP2, hQ1, hQ2⟩ := hb
      refine .inl (m_led_softly (rs := [r0]) (p := p) (q := q) _ _ hr00 hro (by simp) (by omega) (by omega) (by omega) (by omega) hpp hqq hp0 hg rfl rfl hP1 hP2 hQ1 hQ2 ?_)
      generalize (p : Int) / (Nat.gcd p q : Int) = P at hrate hP1 hP2 ⊢
      generalize (q : Int) / (Nat.gcd p q : Int) = Q at hrate hQ1 hQ2 ⊢
      have eS : keptTo [r0] tick ++ [(tick, byRow r0 tick, P, Q), (tick + over, byRow r0 (tick + over) + by_, r0.2.2.1, r0.2.2.2)] = sftR r0 tick over by_ P Q := rfl
      rw [eS]
      obtain ⟨okS, f1, f2, f3⟩ := sft_facts (b := by_) ok0 t0 (show 1 ≤ over by omega) ⟨hP1, hP2⟩ ⟨hQ1, hQ2⟩
      have up : ∀ z, tick + 1 ≤ z → shL (sftR r0 tick over by_ P Q) (z - 1) ≤ shL (sftR r0 tick over by_ P Q) z := fun z hz => sft_up ok0 t0 (by omega) ⟨hP1, hP2⟩ ⟨hQ1, hQ2⟩ hrate hz
      have s0 : ∀ z, 0 ≤ z → shL [r0] z = byRow r0 z := fun z hz => shL_eq (rowAt_first (by omega) (by simp))
      generalize sftR r0 tick over by_ P Q = S at okS f1 f2 f3 up ⊢
      have lfS : lf (clkD S) = true := lf_rows S
      walk_at "pu"
      refine ⟨lfS, told_told ⟨fun _ => ?_, fun h => (by cases h)⟩⟩
      refine m_draw hl (by decide) (by decide) fun la la0 la1 => ?_
      walk_at "pu"
      generalize hz : tick + over + la = later
      refine ⟨lfS, ?_⟩
      refine m_is_clock okS ?_
      walk_at "pu"
      refine shows_ok okS (by omega) ?_
      walk_at "pu"
      refine shows_ok ok0 (by omega) ?_
      walk_at "pu"
      rw [f1 later (by omega), s0 later (by omega)]
      have hlate := sft_late (r := r0) (t := tick) (o := over) (b := by_) (z := later) k3
      generalize byRow (tick + over, byRow r0 (tick + over) + by_, r0.2.2.1, r0.2.2.2) later - byRow r0 later - by_ = dd at hlate ⊢
      refine ⟨fun h => by exfalso; revert h; split <;> omega, fun _ => ?_⟩
      refine shows_ok okS (by omega) ?_
      walk_at "pu"
      refine shows_ok ok0 (by omega) ?_
      walk_at "pu"
      have e9 : byRow (tick + over, byRow r0 (tick + over) + by_, r0.2.2.1, r0.2.2.2) (tick + over) = byRow r0 (tick + over) + by_ := byRow_self _
      rw [f1 (tick + over) (Int.le_refl _), s0 (tick + over) (by omega), e9]
      refine ⟨fun h => absurd rfl h, fun _ => ?_⟩
      refine ⟨tick + 1, tick + over + 2, rfl, rfl, by omega, by omega, by omega, by omega, by omega, ?_⟩
      generalize keptTo (r0 :: rs0) tick ++ [(tick, shL (r0 :: rs0) tick, r.2.2.1, r.2.2.2)] = W
      refine forC_inv (fun ds ρ => (∀ y ∈ ds, ∃ c, y = .int c ∧ tick + 1 ≤ c) ∧ ∃ s15, ρ = [.dat (scrD ns), .town, .dat kv, .dat (.tuple (rowD r0 :: rs0.map rowD)), .dic J, .dat (.int tick), s6, .dat (.int mom), .dat (.int x), .dat (clkD W), .dat (.int by_), .dat (.int over), .dat (.tuple [.str "told", clkD S]), .dat (clkD S), .dat (.int later), s15] ∧ ownN (some s15)) ?_ ?_ _ _ ⟨fun y hy => ?_, _, rfl, ow⟩
      rotate_left 2
      · obtain ⟨j, hj, rfl⟩ := mem_rngD hy
        exact ⟨_, rfl, by omega⟩
      · rintro d rest1 ρ ⟨hm, s15, rfl, ow2⟩ Q2 hQ2
        obtain ⟨c, rfl, hc⟩ := hm d (by simp)
        have nxt : Q2 [.dat (scrD ns), .town, .dat kv, .dat (.tuple (rowD r0 :: rs0.map rowD)), .dic J, .dat (.int tick), s6, .dat (.int mom), .dat (.int x), .dat (clkD W), .dat (.int by_), .dat (.int over), .dat (.tuple [.str "told", clkD S]), .dat (clkD S), .dat (.int later), .dat (.int c)] := hQ2 _ ⟨fun z hz => hm z (by simp [hz]), _, rfl, rfl⟩
        unfold b_law_1
        walk_at "pu"
        refine shows_ok okS (by omega) ?_
        walk_at "pu"
        refine shows_ok okS (by omega) ?_
        walk_at "pu"
        have := up c hc
        exact ⟨fun h => by omega, fun _ => nxt⟩
      · rintro ρ ⟨_, s15, rfl, ow⟩
        walk_at "pu"
        refine ⟨fun ht => ?_, fun _ => hK _ ⟨_, _, _, _, _, _, _, _, _, _, _, _, _, _, rfl, ow⟩⟩
        refine shows_ok okS (by omega) ?_
        walk_at "pu"
        refine shows_ok (rs := [r0]) ok0 (by omega) ?_
        walk_at "pu"
        exact ⟨fun h => absurd (f3 (tick - 1) (by omega) (by omega)) h, fun _ => hK _ ⟨_, _, _, _, _, _, _, _, _, _, _, _, _, _, rfl, ow⟩⟩
  · rintro ρ ⟨a2, a3, a4, a5, a6, a7, a8, a9, a10, a11, a12, a13, a14, a15, rfl, ow⟩
    walk_at "pu"

def top (i : Nat) : Stmt := PySem.Challenge.pw_momentyard_k45_whole_clocks.main.body.getD i (.Pass ⟨0, 0, 0, 0⟩)
structure Fc (G : Gx) : Prop where
  fr_ValueError : Free G "ValueError"
  fr_abs : Free G "abs"
  fr_all : Free G "all"
  fr_bool : Free G "bool"
  fr_dict : Free G "dict"
  fr_enumerate : Free G "enumerate"
  fr_int : Free G "int"
  fr_isinstance : Free G "isinstance"
  fr_len : Free G "len"
  fr_max : Free G "max"
  fr_min : Free G "min"
  fr_range : Free G "range"
  fr_tuple : Free G "tuple"
  fr_zip : Free G "zip"
  gc_MOST : GC G "MOST" c_MOST
  ex_BadRate : ExC G "BadRate" (He.ga G.K "BadRate")
  plk : PlK G.K
  te : ∃ CT, G.mg "TimeError" = some (.ref CT)
abbrev st__law_heard : Stmt := top 35
abbrev sg_heard : Scope := defScope st__law_heard
theorem hear_rest {G : Gx} (F : Fc G) (Y : Cx) (H1 : Hp) (a C : Addr) (bs : Str → Bool) (w : Str) (σ : Pu.St) (D : Ends) (O : Ok [] G Ngh sg_heard 0 Y) (ok : HearOk G C bs w) (h : Hs Y.K H1 a C σ H1) (q : ∀ p H'', Same H1 H'' → H1 p = none → H'' p = some (.tup [.str w]) → D.rt (.ref p) H'') : wpSs Y ((defBody st__law_heard).drop 3) D σ H1 := by
  refine wpSs_of (pss_cons ps_w pss_w) (h_some O F.fr_isinstance (ok.kl ("NoDate", "no date") (by decide +kernel)) (ok.kl ("BadWay", "bad way") (by decide +kernel)) rfl rfl rfl (.inl rfl) (by first | exact .inl rfl | exact .inr ⟨rfl, rfl⟩) (by decide) (by decide) (by decide) (fun _ => rfl) h fun σ0 H0 h0 => ?_)
  refine wpSs_of (pss_cons ps_w pss_w) (h_upd (kvs := kvN bs 2) (kvs' := kvN bs 4) O F.fr_isinstance (ok.kl ("NoText", "no text") (by decide +kernel)) (ok.kl ("NoEdition", "no edition") (by decide +kernel)) rfl rfl rfl (.inl rfl) (by first | exact .inl rfl | exact .inr (.inl rfl)) (by decide) (by decide) (by decide) kvN_len (by kernel_rfl) rfl (fun _ => rfl) h0 fun σ1 H11 h1 => ?_)
  refine wpSs_of (pss_cons ps_w pss_w) (h_upd (kvs := kvN bs 4) (kvs' := kvN bs 6) O F.fr_isinstance (ok.kl ("NoZone", "no zone") (by decide +kernel)) (ok.kl ("NoComing", "no coming") (by decide +kernel)) rfl rfl rfl (.inl rfl) (by first | exact .inl rfl | exact .inr (.inl rfl)) (by decide) (by decide) (by decide) kvN_len (by kernel_rfl) rfl (fun _ => rfl) h1 fun σ2 H12 h2 => ?_)
  refine wpSs_of (pss_cons ps_w pss_w) (h_upd (kvs := kvN bs 6) (kvs' := kvN bs 8) O F.fr_isinstance (ok.kl ("NoWork", "no work") (by decide +kernel)) (ok.kl ("BadRate", "bad rate") (by decide +kernel)) rfl rfl rfl (.inl rfl) (by first | exact .inl rfl | exact .inr (.inl rfl)) (by decide) (by decide) (by decide) kvN_len (by kernel_rfl) rfl (fun _ => rfl) h2 fun σ3 H13 h3 => ?_)
  refine wpSs_of (pss_cons ps_w pss_w) (h_upd (kvs := kvN bs 8) (kvs' := kvN bs 10) O F.fr_isinstance (ok.kl ("BadZones", "bad zones") (by decide +kernel)) (ok.kl ("BadName", "bad name") (by decide +kernel)) rfl rfl rfl (.inl rfl) (by first | exact .inl rfl | exact .inr (.inl rfl)) (by decide) (by decide) (by decide) kvN_len (by kernel_rfl) rfl (fun _ => rfl) h3 fun σ4 H14 h4 => ?_)
  refine wpSs_of (pss_cons ps_w pss_w) (h_upd (kvs := kvN bs 10) (kvs' := kvN bs 12) O F.fr_isinstance (ok.kl ("Taken", "taken") (by decide +kernel)) (ok.kl ("BadWish", "bad wish") (by decide +kernel)) rfl rfl rfl (.inl rfl) (by first | exact .inl rfl | exact .inr (.inl rfl)) (by decide) (by decide) (by decide) kvN_len (by kernel_rfl) rfl (fun _ => rfl) h4 fun σ5 H15 h5 => ?_)
  refine wpSs_of (pss_cons ps_w pss_w) (h_upd (kvs := kvN bs 12) (kvs' := kvN bs 14) O F.fr_isinstance (ok.kl ("BadTask", "bad task") (by decide +kernel)) (ok.kl ("NoWish", "no wish") (by decide +kernel)) rfl rfl rfl (.inl rfl) (by first | exact .inl rfl | exact .inr (.inl rfl)) (by decide) (by decide) (by decide) kvN_len (by kernel_rfl) rfl (fun _ => rfl) h5 fun σ6 H16 h6 => ?_)
  refine wpSs_of (pss_cons ps_w pss_w) (h_upd (kvs := kvN bs 14) (kvs' := kvN bs 16) O F.fr_isinstance (ok.kl ("NoRing", "no ring") (by decide +kernel)) (ok.kl ("NoBack", "no back") (by decide +kernel)) rfl rfl rfl (.inl rfl) (by first | exact .inl rfl | exact .inr (.inl rfl)) (by decide) (by decide) (by decide) kvN_len (by kernel_rfl) rfl (fun _ => rfl) h6 fun σ7 H17 h7 => ?_)
  refine wpSs_of (pss_cons ps_w pss_w) (h_names (kvs := kvN bs 16) O (by first | exact .inl rfl | exact .inr (.inl rfl)) rfl (by decide +kernel) rfl (by decide +kernel) (by first | exact .inl rfl | exact .inr (.inl rfl) | exact .inr (.inr rfl)) (by first | exact .inl rfl | exact .inr ⟨rfl, rfl⟩) (by first | exact .inl rfl | exact .inr (.inl rfl) | exact .inr (.inr rfl)) (by show (keysH.map fun y => (.inr y.2 : Key)).Nodup; decide +kernel) kvN_bl kvN_len h7 fun σ8 H8 n h8 e5 eN => ?_)
  have ey : yesW (kvN bs 16) = [.str w] := ok.yes
  rw [ey] at eN
  refine wpSs_of (pss_one ps_w) (h_ret O F.fr_isinstance F.fr_len F.fr_ValueError rfl rfl rfl (.inl rfl) (.inl rfl) ok.ve h8 e5 eN fun p hp => q p _ (fun b o e => ?_) ?_ upd_same)
  · rw [upd_ne (ne_of_none (h8.up b o e) hp)]; exact h8.up b o e
  · cases e : H1 p with
    | none => rfl
    | some o => rw [h8.up p o e] at hp; cases hp
theorem sc_heard : FnScope Ngh ["deed"] sg_heard := ⟨rfl, rfl, rfl, by decide +kernel, rfl, by decide +kernel, by decide +kernel⟩
theorem hear_all {G : Gx} (F : Fc G) {g : Addr} (X : Cx) (cdv : Value) (q : Str) (e1 : X.prog = G.P) (e2 : X.w = G.w) (e3 : X.K = G.K) (e4 : X.mg = G.mg) (e5 : X.base = G.base) (hr : Room 1 X.A) : LamX.GivesTo X Ngh "_law_heard" sg_heard g cdv (defBody st__law_heard) "deed" q (TTh G) :=
  hear_gives e1 e2 e3 e4 e5 hr sc_heard (.inl rfl) rfl rfl rfl rfl F.te (by rfl) (fun _ => rfl) (fun _ => rfl) (fun _ => rfl) (fun Y H1 a C bs w σ D O ok h q => hear_rest F Y H1 a C bs w σ D O ok h q)
abbrev st__law_draw : Stmt := top 36
theorem sc__law_draw : FnScope N__law_draw ["script", "town", "many"] (defScope st__law_draw) := ⟨rfl, rfl, rfl, by decide +kernel, rfl, by decide +kernel, by decide +kernel⟩
theorem j__law_draw {G : Gx} {T R : Addr} {Ts : List (Addr × Str)} {z : Hp → Prop} {X : Cx} (F : Fc G)  (O : Ok [] G N__law_draw (defScope st__law_draw) 0 X) : JSs (tw T R Ts z) X (defBody st__law_draw) t__law_draw :=
  jss_cons (js_tick O 1) (jss_cons (js_set O 3 (je_d (jd_if (jt_tru (jv_var O 0)) (jd_mod (jv_d (jd_count O 1)) (jv_e (je_blt O call_len fLen_ok F.fr_len (jvs_cons (jv_var O 0) (jvs_nil)) (by decide +kernel)))) (jd_int)))) (jss_cons (js_set O 4 (je_d (jd_rest O 1 (jv_var O 3) (jv_d (jd_if (jt_tru (jv_var O 0)) (jd_ix (jv_var O 0) (jv_var O 3)) (jd_int)))))) (jss_cons (js_if (jt_cmp (op_ge) fOrd_ok (jv_var O 4) (jv_d (jd_pow (jv_d (jd_int)) (jv_d (jd_int)))) rfl) (jss_cons (js_rest O 1 (jv_var O 3) (jv_d (jd_div (jv_var O 4) (jv_var O 2)))) (jss_one (js_ret (je_d (jd_mod (jv_var O 4) (jv_var O 2)))))) (jss_nil)) (jss_cons (js_set O 5 (je_d (jd_mod (jv_d (jd_add (jv_var O 4) (jv_d (jd_mul (jv_d (jd_int)) (jv_d (jd_count O 1)))))) (jv_d (jd_int)))) (hs := sw_BinOp)) (jss_cons (js_set O 5 (je_d (jd_mod (jv_d (jd_pow (jv_var O 5) (jv_d (jd_int)))) (jv_d (jd_int)))) (hs := sw_BinOp)) (jss_one (js_ret (je_d (jd_mod (jv_d (jd_div (jv_d (jd_mod (jv_d (jd_add (jv_d (jd_mul (jv_d (jd_div (jv_var O 5) (jv_d (jd_int)))) (jv_d (jd_int)))) (jv_var O 5))) (jv_d (jd_int)))) (jv_d (jd_int)))) (jv_var O 2))))))))))
abbrev st__law_a_clock : Stmt := top 38
theorem sc__law_a_clock : FnScope N__law_a_clock ["script", "town"] (defScope st__law_a_clock) := ⟨rfl, rfl, rfl, by decide +kernel, rfl, by decide +kernel, by decide +kernel⟩
theorem j__law_a_clock {G : Gx} {τ : Tn} {X : Cx} (F : Fc G) (h__law_draw : FnD G τ 1 "_law_draw" ["script", "town", "many"] S__law_draw) (O : Ok [] G N__law_a_clock (defScope st__law_a_clock) 1 X) : JSs τ X (defBody st__law_a_clock) t__law_a_clock :=
  jss_cons (js_par3 O 2 3 4 (je_lst (jds_nil)) (je_d (jd_int)) (je_d (jd_sub (jv_e (je_call O h__law_draw (ja_cons (jv_var O 0) (ja_town O 1 (ja_cons (jv_d (jd_int)) (ja_nil)))))) (jv_d (jd_int))))) (jss_cons (js_for O (ji_range1 O F.fr_range (jv_d (jd_add (jv_d (jd_int)) (jv_e (je_call O h__law_draw (ja_cons (jv_var O 0) (ja_town O 1 (ja_cons (jv_d (jd_int)) (ja_nil))))))))) (jg_name O 5) (jss_cons (js_append O 2 (jd_tup (jds_cons (jd_var O 3) (jds_cons (jd_var O 4) (jds_cons (jd_add (jv_d (jd_int)) (jv_e (je_call O h__law_draw (ja_cons (jv_var O 0) (ja_town O 1 (ja_cons (jv_d (jd_int)) (ja_nil))))))) (jds_cons (jd_add (jv_d (jd_int)) (jv_e (je_call O h__law_draw (ja_cons (jv_var O 0) (ja_town O 1 (ja_cons (jv_d (jd_int)) (ja_nil))))))) (jds_nil) se_BinOp) se_BinOp) se_Name) se_Name))) (jss_one (js_par2 O 3 4 (je_add (jv_d (jd_add (jv_var O 3) (jv_d (jd_int)))) (jv_e (je_call O h__law_draw (ja_cons (jv_var O 0) (ja_town O 1 (ja_cons (jv_d (jd_int)) (ja_nil))))))) (je_d (jd_sub (jv_d (jd_add (jv_var O 4) (jv_e (je_call O h__law_draw (ja_cons (jv_var O 0) (ja_town O 1 (ja_cons (jv_d (jd_int)) (ja_nil)))))))) (jv_d (jd_int)))))))) (jss_one (js_ret (je_bty O call_tupP fTuple_ok F.fr_tuple (jvs_cons (jv_var O 2) (jvs_nil)) (by decide +kernel)))))
abbrev st_by_row : Stmt := top 25
theorem sc_by_row : FnScope N_by_row ["row", "tick"] (defScope st_by_row) := ⟨rfl, rfl, rfl, by decide +kernel, rfl, by decide +kernel, by decide +kernel⟩
theorem j_by_row {G : Gx} {τ : Tn} {X : Cx} (F : Fc G)  (O : Ok [] G N_by_row (defScope st_by_row) 0 X) : JSs τ X (defBody st_by_row) t_by_row :=
  jss_one (js_ret (je_add (jv_d (jd_ix (jv_var O 0) (jv_d (jd_int)))) (jv_d (jd_div (jv_d (jd_mul (jv_d (jd_sub (jv_var O 1) (jv_d (jd_ix (jv_var O 0) (jv_d (jd_int)))))) (jv_d (jd_ix (jv_var O 0) (jv_d (jd_int)))))) (jv_d (jd_ix (jv_var O 0) (jv_d (jd_int))))))))
abbrev st_row_at : Stmt := top 24
theorem sc_row_at : FnScope N_row_at ["clock", "tick"] (defScope st_row_at) := ⟨rfl, rfl, rfl, by decide +kernel, rfl, by decide +kernel, by decide +kernel⟩
theorem j_row_at {G : Gx} {τ : Tn} {X : Cx} (F : Fc G)  (O : Ok [] G N_row_at (defScope st_row_at) 0 X) : JSs τ X (defBody st_row_at) t_row_at :=
  jss_one (js_ret (je_d (jd_ix (jv_e (je_lc [("row", 2)] O (jix_seq (jv_var O 0)) (fun _ O1 => jgc_name O1 2) (fun _ O1 => jts_one (jt_cmp (op_le) fOrd_ok (jv_d (jd_ix (jv_var O1 2) (jv_d (jd_int)))) (jv_var O1 1) rfl)) (fun _ O1 => jd_var O1 2))) (jv_d (jd_neg (jv_d (jd_int)))))))
abbrev st_clock_shows : Stmt := top 26
theorem sc_clock_shows : FnScope N_clock_shows ["clock", "tick"] (defScope st_clock_shows) := ⟨rfl, rfl, rfl, by decide +kernel, rfl, by decide +kernel, by decide +kernel⟩
theorem j_clock_shows {G : Gx} {τ : Tn} {X : Cx} (F : Fc G) (h_by_row : FnD G τ 1 "by_row" ["row", "tick"] S_by_row) (h_row_at : FnD G τ 1 "row_at" ["clock", "tick"] S_row_at) (O : Ok [] G N_clock_shows (defScope st_clock_shows) 1 X) : JSs τ X (defBody st_clock_shows) t_clock_shows :=
  jss_one (js_ret (je_call O h_by_row (ja_cons (jv_e (je_call O h_row_at (ja_cons (jv_var O 0) (ja_cons (jv_var O 1) (ja_nil))))) (ja_cons (jv_var O 1) (ja_nil)))))
abbrev st_first_tick : Stmt := top 30
theorem sc_first_tick : FnScope N_first_tick ["clock", "tick", "moment"] (defScope st_first_tick) := ⟨rfl, rfl, rfl, by decide +kernel, rfl, by decide +kernel, by decide +kernel⟩
theorem j_first_tick {G : Gx} {τ : Tn} {X : Cx} (F : Fc G)  (O : Ok [] G N_first_tick (defScope st_first_tick) 0 X) : JSs τ X (defBody st_first_tick) t_first_tick :=
  jss_cons (js_for O (ji_enum O F.fr_enumerate (jd_var O 0)) (jg_tup O (jgs_cons (jg_name O 3) (jgs_cons (jg_name O 4) (jgs_nil)))) (jss_cons (js_set O 5 (je_blt O (call_max2 O.calm) fI2_ok F.fr_max (jvs_cons (jv_var O 1) (jvs_cons (jv_d (jd_ix (jv_var O 4) (jv_d (jd_int)))) (jvs_nil))) (by decide +kernel))) (jss_cons (js_set O 6 (je_d (jd_neg (jv_d (jd_div (jv_d (jd_mul (jv_d (jd_sub (jv_d (jd_ix (jv_var O 4) (jv_d (jd_int)))) (jv_var O 2))) (jv_d (jd_ix (jv_var O 4) (jv_d (jd_int)))))) (jv_d (jd_ix (jv_var O 4) (jv_d (jd_int))))))))) (jss_cons (js_set O 7 (je_blt O (call_max2 O.calm) fI2_ok F.fr_max (jvs_cons (jv_var O 5) (jvs_cons (jv_d (jd_add (jv_d (jd_ix (jv_var O 4) (jv_d (jd_int)))) (jv_var O 6))) (jvs_nil))) (by decide +kernel))) (jss_one (js_if (jt_w (jw_or (jt_cmp (op_eqD O.room.units) fEq_ok (jv_d (jd_add (jv_var O 3) (jv_d (jd_int)))) (jv_e (je_blt O call_len fLen_ok F.fr_len (jvs_cons (jv_var O 0) (jvs_nil)) (by decide +kernel))) rfl) (jw_or1 (jt_cmp (op_ltU O) fLt_ok (jv_var O 7) (jv_d (jd_ix (jv_d (jd_ix (jv_var O 0) (jv_d (jd_add (jv_var O 3) (jv_d (jd_int)))))) (jv_d (jd_int)))) rfl)))) (jss_one (js_retV O 7)) (jss_nil))))))) (jss_one (js_ret (je_d (jd_non))))
abbrev st_is_whole : Stmt := top 19
theorem sc_is_whole : FnScope N_is_whole ["thing", "least", "most"] (defScope st_is_whole) := ⟨rfl, rfl, rfl, by decide +kernel, rfl, by decide +kernel, by decide +kernel⟩
theorem j_is_whole {G : Gx} {τ : Tn} {X : Cx} (F : Fc G)  (O : Ok [] G N_is_whole (defScope st_is_whole) 0 X) : JSs τ X (defBody st_is_whole) t_is_whole :=
  jss_cons (js_if (jt_w (jw_or (jt_not (jt_tru (jv_d (jd_isi O F.fr_isinstance F.fr_int (jv_var O 0) (by decide +kernel))))) (jw_or1 (jt_tru (jv_d (jd_isi O F.fr_isinstance F.fr_bool (jv_var O 0) (by decide +kernel))))))) (jss_one (js_ret (je_d (jd_bl)))) (jss_nil)) (jss_one (js_ret (je_d (jd_and (jv_d (jd_or (jv_d (jd_cmp (op_isU) fIs_ok (jv_var O 1) (jv_d (jd_non)) rfl)) (jd_one (jd_cmp (op_ge) fOrd_ok (jv_var O 0) (jv_var O 1) rfl)))) (jd_one (jd_or (jv_d (jd_cmp (op_isU) fIs_ok (jv_var O 2) (jv_d (jd_non)) rfl)) (jd_one (jd_cmp (op_le) fOrd_ok (jv_var O 0) (jv_var O 2) rfl))))))))
abbrev st_is_row : Stmt := top 22
theorem sc_is_row : FnScope N_is_row ["thing"] (defScope st_is_row) := ⟨rfl, rfl, rfl, by decide +kernel, rfl, by decide +kernel, by decide +kernel⟩
theorem j_is_row {G : Gx} {τ : Tn} {X : Cx} (F : Fc G) (h_is_whole_least_most : FnK G τ 1 "is_whole" ["thing", "least", "most"] S_is_whole 1 ["least", "most"] g_is_whole_least_most) (h_is_whole_least : FnK G τ 1 "is_whole" ["thing", "least", "most"] S_is_whole 1 ["least"] g_is_whole_least) (h_is_whole : FnK G τ 1 "is_whole" ["thing", "least", "most"] S_is_whole 1 [] g_is_whole) (O : Ok [] G N_is_row (defScope st_is_row) 1 X) : JSs τ X (defBody st_is_row) t_is_row :=
  jss_cons (js_if (jt_w (jw_or (jt_not (jt_tru (jv_d (jd_isi O F.fr_isinstance F.fr_tuple (jv_var O 0) (by decide +kernel))))) (jw_or (jt_cmp (op_neD O.room.units) fNe_ok (jv_e (je_blt O call_len fLen_ok F.fr_len (jvs_cons (jv_var O 0) (jvs_nil)) (by decide +kernel))) (jv_d (jd_int)) rfl) (jw_or (jt_not (jt_tru (jv_e (je_callK O h_is_whole_least (ja_cons (jv_d (jd_ix (jv_var O 0) (jv_d (jd_int)))) (ja_nil)) (jk_cons (jv_d (jd_int)) (jk_nil)))))) (jw_or1 (jt_not (jt_tru (jv_e (je_callK O h_is_whole (ja_cons (jv_d (jd_ix (jv_var O 0) (jv_d (jd_int)))) (ja_nil)) (jk_nil)))))))))) (jss_one (js_ret (je_d (jd_bl)))) (jss_nil)) (jss_one (js_ret (je_d (jd_and (jv_e (je_callK O h_is_whole_least_most (ja_cons (jv_d (jd_ix (jv_var O 0) (jv_d (jd_int)))) (ja_nil)) (jk_cons (jv_d (jd_int)) (jk_cons (jv_d (jd_glob O F.gc_MOST)) (jk_nil))))) (jd_one (jd_e (je_callK O h_is_whole_least_most (ja_cons (jv_d (jd_ix (jv_var O 0) (jv_d (jd_int)))) (ja_nil)) (jk_cons (jv_d (jd_int)) (jk_cons (jv_d (jd_glob O F.gc_MOST)) (jk_nil))))))))))
abbrev st_is_clock : Stmt := top 23
theorem sc_is_clock : FnScope N_is_clock ["thing"] (defScope st_is_clock) := ⟨rfl, rfl, rfl, by decide +kernel, rfl, by decide +kernel, by decide +kernel⟩
theorem j_is_clock {G : Gx} {τ : Tn} {X : Cx} (F : Fc G) (h_is_row : FnD G τ 2 "is_row" ["thing"] S_is_row) (O : Ok [] G N_is_clock (defScope st_is_clock) 2 X) : JSs τ X (defBody st_is_clock) t_is_clock :=
  jss_cons (js_if (jt_w (jw_or (jt_not (jt_tru (jv_d (jd_isi O F.fr_isinstance F.fr_tuple (jv_var O 0) (by decide +kernel))))) (jw_or (jt_cmp (op_eqD O.room.units) fEq_ok (jv_var O 0) (jv_d (jd_lit 40 (by kernel_rfl))) rfl) (jw_or (jt_not (jt_tru (jv_e (je_blt O (cr_all O.calm) fAll_ok F.fr_all (jvs_cons (jv_e (je_lc [("row", 1)] O (jix_seq (jv_var O 0)) (fun _ O1 => jgc_name O1 1) (fun _ O1 => jts_nil) (fun _ O1 => jd_e (je_call O1 h_is_row (ja_cons (jv_var O1 1) (ja_nil)))))) (jvs_nil)) (by decide +kernel))))) (jw_or1 (jt_cmp (op_neD O.room.units) fNe_ok (jv_d (jd_ix (jv_d (jd_ix (jv_var O 0) (jv_d (jd_int)))) (jv_d (jd_int)))) (jv_d (jd_int)) rfl)))))) (jss_one (js_ret (je_d (jd_bl)))) (jss_nil)) (jss_one (js_ret (je_blt O (cr_all O.calm) fAll_ok F.fr_all (jvs_cons (jv_e (je_lc [("one", 2), ("other", 3)] O (jix_zip O F.fr_zip (jv_var O 0) (jv_e (je_cut (jv_var O 0) (jo_some (jv_d (jd_int))) (jo_none)))) (fun _ O1 => jgc_tup O1 (jgcs_cons (jgc_name O1 2) (jgcs_cons (jgc_name O1 3) (jgcs_nil)))) (fun _ O1 => jts_nil) (fun _ O1 => jd_cmp (op_ltU O1) fLt_ok (jv_d (jd_ix (jv_var O1 2) (jv_d (jd_int)))) (jv_d (jd_ix (jv_var O1 3) (jv_d (jd_int)))) rfl))) (jvs_nil)) (by decide +kernel))))
abbrev st_jumps_of : Stmt := top 31
theorem sc_jumps_of : FnScope N_jumps_of ["clock"] (defScope st_jumps_of) := ⟨rfl, rfl, rfl, by decide +kernel, rfl, by decide +kernel, by decide +kernel⟩
theorem j_jumps_of {G : Gx} {τ : Tn} {X : Cx} (F : Fc G) (h_by_row : FnD G τ 1 "by_row" ["row", "tick"] S_by_row) (O : Ok [] G N_jumps_of (defScope st_jumps_of) 1 X) : JSs τ X (defBody st_jumps_of) t_jumps_of :=
  jss_cons (js_set O 1 (je_lst (jds_nil)) (hs := sw_List)) (jss_cons (js_for O (ji_zip O F.fr_zip (jd_var O 0) (jd_e (je_cut (jv_var O 0) (jo_some (jv_d (jd_int))) (jo_none)))) (jg_tup O (jgs_cons (jg_name O 2) (jgs_cons (jg_name O 3) (jgs_nil)))) (jss_cons (js_set O 4 (je_d (jd_sub (jv_d (jd_ix (jv_var O 3) (jv_d (jd_int)))) (jv_e (je_call O h_by_row (ja_cons (jv_var O 2) (ja_cons (jv_d (jd_ix (jv_var O 3) (jv_d (jd_int)))) (ja_nil))))))) (hs := sw_BinOp)) (jss_one (js_if (jt_cmp (op_neD O.room.units) fNe_ok (jv_var O 4) (jv_d (jd_int)) rfl) (jss_one (js_append O 1 (jd_tup (jds_cons (jd_ix (jv_var O 3) (jv_d (jd_int))) (jds_cons (jd_var O 4) (jds_nil) se_Name))))) (jss_nil))))) (jss_one (js_ret (je_bty O call_tupP fTuple_ok F.fr_tuple (jvs_cons (jv_var O 1) (jvs_nil)) (by decide +kernel)))))
abbrev st_kept_rows : Stmt := top 27
theorem sc_kept_rows : FnScope N_kept_rows ["clock", "tick"] (defScope st_kept_rows) := ⟨rfl, rfl, rfl, by decide +kernel, rfl, by decide +kernel, by decide +kernel⟩
theorem j_kept_rows {G : Gx} {τ : Tn} {X : Cx} (F : Fc G)  (O : Ok [] G N_kept_rows (defScope st_kept_rows) 0 X) : JSs τ X (defBody st_kept_rows) t_kept_rows :=
  jss_one (js_ret (je_bty O call_tupP fTuple_ok F.fr_tuple (jvs_cons (jv_e (je_lc [("row", 2)] O (jix_seq (jv_var O 0)) (fun _ O1 => jgc_name O1 2) (fun _ O1 => jts_one (jt_cmp (op_ltU O1) fLt_ok (jv_d (jd_ix (jv_var O1 2) (jv_d (jd_int)))) (jv_var O1 1) rfl)) (fun _ O1 => jd_var O1 2))) (jvs_nil)) (by decide +kernel)))
abbrev st_set_to : Stmt := top 28
theorem sc_set_to : FnScope N_set_to ["clock", "tick", "moment"] (defScope st_set_to) := ⟨rfl, rfl, rfl, by decide +kernel, rfl, by decide +kernel, by decide +kernel⟩
theorem j_set_to {G : Gx} {τ : Tn} {X : Cx} (F : Fc G) (h_kept_rows : FnD G τ 1 "kept_rows" ["clock", "tick"] S_kept_rows) (h_row_at : FnD G τ 1 "row_at" ["clock", "tick"] S_row_at) (O : Ok [] G N_set_to (defScope st_set_to) 1 X) : JSs τ X (defBody st_set_to) t_set_to :=
  jss_one (js_ret (je_add (jv_e (je_call O h_kept_rows (ja_cons (jv_var O 0) (ja_cons (jv_var O 1) (ja_nil))))) (jv_d (jd_tup (jds_cons (jd_add (jv_d (jd_tup (jds_cons (jd_var O 1) (jds_cons (jd_var O 2) (jds_nil) se_Name) se_Name))) (jv_e (je_cut (jv_e (je_call O h_row_at (ja_cons (jv_var O 0) (ja_cons (jv_var O 1) (ja_nil))))) (jo_some (jv_d (jd_int))) (jo_none)))) (jds_nil) se_BinOp)))))
abbrev st_divisor : Stmt := top 32
theorem sc_divisor : FnScope N_divisor ["one", "other"] (defScope st_divisor) := ⟨rfl, rfl, rfl, by decide +kernel, rfl, by decide +kernel, by decide +kernel⟩
theorem j_divisor {G : Gx} {τ : Tn} {X : Cx} (F : Fc G)  (O : Ok [] G N_divisor (defScope st_divisor) 0 X) : JSs τ X (defBody st_divisor) t_divisor :=
  jss_cons (js_while O (jt_tru (jv_var O 1)) (jss_one (js_par2 O 0 1 (je_d (jd_var O 1)) (je_d (jd_mod (jv_var O 0) (jv_var O 1)))))) (jss_one (js_retV O 0))
abbrev st_look_rate : Stmt := top 29
theorem sc_look_rate : FnScope N_look_rate ["top", "bottom"] (defScope st_look_rate) := ⟨rfl, rfl, rfl, by decide +kernel, rfl, by decide +kernel, by decide +kernel⟩
theorem j_look_rate {G : Gx} {τ : Tn} {X : Cx} (F : Fc G) (h_is_whole_least_most : FnK G τ 1 "is_whole" ["thing", "least", "most"] S_is_whole 1 ["least", "most"] g_is_whole_least_most) (O : Ok [] G N_look_rate (defScope st_look_rate) 1 X) : JSs τ X (defBody st_look_rate) t_look_rate :=
  jss_one (js_if (jt_w (jw_or (jt_not (jt_tru (jv_e (je_callK O h_is_whole_least_most (ja_cons (jv_var O 0) (ja_nil)) (jk_cons (jv_d (jd_int)) (jk_cons (jv_d (jd_glob O F.gc_MOST)) (jk_nil))))))) (jw_or1 (jt_not (jt_tru (jv_e (je_callK O h_is_whole_least_most (ja_cons (jv_var O 1) (ja_nil)) (jk_cons (jv_d (jd_int)) (jk_cons (jv_d (jd_glob O F.gc_MOST)) (jk_nil)))))))))) (jss_never) (jss_nil))
abbrev st_led_softly : Stmt := top 33
theorem sc_led_softly : FnScope N_led_softly ["clock", "tick", "by", "over"] (defScope st_led_softly) := ⟨rfl, rfl, rfl, by decide +kernel, rfl, by decide +kernel, by decide +kernel⟩
theorem j_led_softly {G : Gx} {τ : Tn} {X : Cx} (F : Fc G) (h_by_row : FnD G τ 1 "by_row" ["row", "tick"] S_by_row) (h_divisor : FnD G τ 1 "divisor" ["one", "other"] S_divisor) (h_kept_rows : FnD G τ 1 "kept_rows" ["clock", "tick"] S_kept_rows) (h_look_rate : FnD G τ 2 "look_rate" ["top", "bottom"] S_look_rate) (h_row_at : FnD G τ 1 "row_at" ["clock", "tick"] S_row_at) (O : Ok [] G N_led_softly (defScope st_led_softly) 2 X) : JSs τ X (defBody st_led_softly) t_led_softly :=
  jss_cons (js_set O 4 (je_call O h_row_at (ja_cons (jv_var O 0) (ja_cons (jv_var O 1) (ja_nil))))) (jss_cons (js_par2 O 5 6 (je_add (jv_d (jd_mul (jv_d (jd_ix (jv_var O 4) (jv_d (jd_int)))) (jv_var O 3))) (jv_d (jd_mul (jv_var O 2) (jv_d (jd_ix (jv_var O 4) (jv_d (jd_int))))))) (je_d (jd_mul (jv_d (jd_ix (jv_var O 4) (jv_d (jd_int)))) (jv_var O 3)))) (jss_cons (js_if (jt_cmp (op_le) fOrd_ok (jv_var O 5) (jv_d (jd_int)) rfl) (jss_never) (jss_nil)) (jss_cons (js_set O 7 (je_call O h_divisor (ja_cons (jv_var O 5) (ja_cons (jv_var O 6) (ja_nil))))) (jss_cons (js_par2 O 5 6 (je_d (jd_div (jv_var O 5) (jv_var O 7))) (je_d (jd_div (jv_var O 6) (jv_var O 7)))) (jss_cons (js_expr (je_call O h_look_rate (ja_cons (jv_var O 5) (ja_cons (jv_var O 6) (ja_nil))))) (jss_cons (js_par2 O 8 9 (je_d (jd_tup (jds_cons (jd_var O 1) (jds_cons (jd_e (je_call O h_by_row (ja_cons (jv_var O 4) (ja_cons (jv_var O 1) (ja_nil))))) (jds_cons (jd_var O 5) (jds_cons (jd_var O 6) (jds_nil) se_Name) se_Name)) se_Name))) (je_add (jv_var O 1) (jv_var O 3))) (jss_one (js_ret (je_add (jv_e (je_call O h_kept_rows (ja_cons (jv_var O 0) (ja_cons (jv_var O 1) (ja_nil))))) (jv_d (jd_tup (jds_cons (jd_var O 8) (jds_cons (jd_add (jv_d (jd_tup (jds_cons (jd_var O 9) (jds_cons (jd_add (jv_e (je_call O h_by_row (ja_cons (jv_var O 4) (ja_cons (jv_var O 9) (ja_nil))))) (jv_var O 2)) (jds_nil) se_BinOp) se_Name))) (jv_e (je_cut (jv_var O 4) (jo_some (jv_d (jd_int))) (jo_none)))) (jds_nil) se_BinOp) se_Name))))))))))))
abbrev st_law : Stmt := top 40
theorem sc_law : FnScope N_law ["script"] (defScope st_law) := ⟨rfl, rfl, rfl, by decide +kernel, rfl, by decide +kernel, by decide +kernel⟩
theorem j_law {G : Gx} {τ : Tn} {X : Cx} (F : Fc G) (h__law_a_clock : FnD G τ 2 "_law_a_clock" ["script", "town"] S__law_a_clock) (h__law_draw : FnD G τ 1 "_law_draw" ["script", "town", "many"] S__law_draw) (h_clock_shows : FnD G τ 2 "clock_shows" ["clock", "tick"] S_clock_shows) (h_first_tick : FnD G τ 1 "first_tick" ["clock", "tick", "moment"] S_first_tick) (h_is_clock : FnD G τ 3 "is_clock" ["thing"] S_is_clock) (h_jumps_of : FnD G τ 2 "jumps_of" ["clock"] S_jumps_of) (h_set_to : FnD G τ 2 "set_to" ["clock", "tick", "moment"] S_set_to) (hx_led_softly : FnX G τ 3 "led_softly" ["clock", "tick", "by", "over"] U_led_softly) {cc PP gg : Addr} {qq : Str} (LM : LamOk τ X cc PP qq) (HD : HearD G gg) (HA : HearAll G hn) (O : Ok [] G N_law (defScope st_law) 5 X) : JSs τ X ((defBody st_law).tail) t_law :=
  jss_cons (js_for O (ji_range1 O F.fr_range (jv_d (jd_int))) (jg_name O 2) (jss_cons (js_set O 3 (je_call O h__law_a_clock (ja_cons (jv_var O 0) (ja_town O 1 (ja_nil))))) (jss_cons (js_set O 4 (je_bty O (call_dictPT O.calm (by rw [O.eK]; exact F.plk)) fDictT_ok F.fr_dict (jvs_cons (jv_e (je_call O h_jumps_of (ja_cons (jv_var O 3) (ja_nil)))) (jvs_nil)) (by decide +kernel))) (jss_cons (js_for O (ji_range2 O F.fr_range (jv_d (jd_int)) (jv_d (jd_int))) (jg_name O 5) (jss_cons (js_set O 6 (je_d (jd_cmp (op_ltU O) fLt_ok (jv_e (je_call O h_clock_shows (ja_cons (jv_var O 3) (ja_cons (jv_var O 5) (ja_nil))))) (jv_e (je_call O h_clock_shows (ja_cons (jv_var O 3) (ja_cons (jv_d (jd_sub (jv_var O 5) (jv_d (jd_int)))) (ja_nil))))) rfl))) (jss_one (js_if (jt_w (jw_and (jt_tru (jv_var O 6)) (jw_and1 (jt_cmp (op_ge) fOrd_ok (jv_d (jd_get2 O 4 (jd_var O 5) (jd_int))) (jv_d (jd_int)) rfl)))) (jss_one (js_ret (je_d (jd_bl)))) (jss_nil))))) (jss_cons (js_asgC O (jd_tup (jds_cons (jd_e (je_call O h__law_draw (ja_cons (jv_var O 0) (ja_town O 1 (ja_cons (jv_d (jd_int)) (ja_nil)))))) (jds_cons (jd_sub (jv_e (je_call O h__law_draw (ja_cons (jv_var O 0) (ja_town O 1 (ja_cons (jv_d (jd_int)) (ja_nil)))))) (jv_d (jd_int))) (jds_nil) se_BinOp))) (jg_tup O (jgs_cons (jg_name O 5) (jgs_cons (jg_name O 7) (jgs_nil))))) (jss_cons (js_set O 8 (je_call O h_first_tick (ja_cons (jv_var O 3) (ja_cons (jv_var O 5) (ja_cons (jv_var O 7) (ja_nil)))))) (jss_cons (js_if (jt_cmp (op_ltU O) fLt_ok (jv_var O 8) (jv_var O 5) rfl) (jss_one (js_ret (je_d (jd_bl)))) (jss_nil)) (jss_cons (js_if (jt_cmp (op_ltU O) fLt_ok (jv_e (je_call O h_clock_shows (ja_cons (jv_var O 3) (ja_cons (jv_var O 8) (ja_nil))))) (jv_var O 7) rfl) (jss_one (js_ret (je_d (jd_bl)))) (jss_nil)) (jss_cons (js_if (jt_cmp (op_ltU O) fLt_ok (jv_e (je_call O h_first_tick (ja_cons (jv_var O 3) (ja_cons (jv_var O 5) (ja_cons (jv_d (jd_add (jv_var O 7) (jv_e (je_call O h__law_draw (ja_cons (jv_var O 0) (ja_town O 1 (ja_cons (jv_d (jd_int)) (ja_nil)))))))) (ja_nil)))))) (jv_var O 8) rfl) (jss_one (js_ret (je_d (jd_bl)))) (jss_nil)) (jss_cons (js_if (jt_cmp (op_neD O.room.units) fNe_ok (jv_e (je_lc [("one", 15)] O (jix_of (ji_range2 O F.fr_range (jv_var O 5) (jv_e (je_blt O (call_min2 O.calm) fI2_ok F.fr_min (jvs_cons (jv_var O 8) (jvs_cons (jv_d (jd_add (jv_var O 5) (jv_d (jd_int)))) (jvs_nil))) (by decide +kernel))))) (fun _ O1 => jgc_name O1 15) (fun _ O1 => jts_one (jt_cmp (op_ge) fOrd_ok (jv_e (je_call O1 h_clock_shows (ja_cons (jv_var O1 3) (ja_cons (jv_var O1 15) (ja_nil))))) (jv_var O1 7) rfl)) (fun _ O1 => jd_var O1 15))) (jv_e (je_lst (jds_nil))) rfl) (jss_one (js_ret (je_d (jd_bl)))) (jss_nil)) (jss_cons (js_set O 9 (je_call O h_set_to (ja_cons (jv_var O 3) (ja_cons (jv_var O 5) (ja_cons (jv_e (je_call O h_clock_shows (ja_cons (jv_var O 3) (ja_cons (jv_var O 5) (ja_nil))))) (ja_nil)))))) (jss_cons (js_if (jt_w (jw_or (jt_not (jt_tru (jv_e (je_call O h_is_clock (ja_cons (jv_var O 9) (ja_nil)))))) (jw_or1 (jt_cmp (op_neD O.room.units) fNe_ok (jv_e (je_call O h_clock_shows (ja_cons (jv_var O 9) (ja_cons (jv_var O 5) (ja_nil))))) (jv_e (je_call O h_clock_shows (ja_cons (jv_var O 3) (ja_cons (jv_var O 5) (ja_nil))))) rfl)))) (jss_one (js_ret (je_d (jd_bl)))) (jss_nil)) (jss_cons (js_asgC O (jd_tup (jds_cons (jd_sub (jv_e (je_call O h__law_draw (ja_cons (jv_var O 0) (ja_town O 1 (ja_cons (jv_d (jd_int)) (ja_nil)))))) (jv_d (jd_int))) (jds_cons (jd_add (jv_d (jd_int)) (jv_e (je_call O h__law_draw (ja_cons (jv_var O 0) (ja_town O 1 (ja_cons (jv_d (jd_int)) (ja_nil))))))) (jds_nil) se_BinOp) se_BinOp)) (jg_tup O (jgs_cons (jg_name O 10) (jgs_cons (jg_name O 11) (jgs_nil))))) (jss_cons (js_set O 12 (je_d (jd_heard (j := 3) O LM HD HA (fun _ _ ξ OL xo => jd_e (je_callX OL xo hx_led_softly.at_ (ja_cons (jv_e (je_cut (jv_var OL 3) (jo_none) (jo_some (jv_d (jd_int))))) (ja_cons (jv_var OL 5) (ja_cons (jv_var OL 10) (ja_cons (jv_var OL 11) (ja_nil)))))))))) (jss_one (js_if (jt_cmp (op_eqD O.room.units) fEq_ok (jv_d (jd_ix (jv_var O 12) (jv_d (jd_int)))) (jv_d (jd_str)) rfl) (jss_cons (js_par2 O 13 14 (je_d (jd_ix (jv_var O 12) (jv_d (jd_int)))) (je_add (jv_d (jd_add (jv_var O 5) (jv_var O 11))) (jv_e (je_call O h__law_draw (ja_cons (jv_var O 0) (ja_town O 1 (ja_cons (jv_d (jd_int)) (ja_nil)))))))) (jss_cons (js_if (jt_w (jw_or (jt_not (jt_tru (jv_e (je_call O h_is_clock (ja_cons (jv_var O 13) (ja_nil)))))) (jw_or1 (jt_cmp (op_gtU O) fGtU_ok (jv_e (je_blt O call_abs fAbs_ok F.fr_abs (jvs_cons (jv_d (jd_sub (jv_d (jd_sub (jv_e (je_call O h_clock_shows (ja_cons (jv_var O 13) (ja_cons (jv_var O 14) (ja_nil))))) (jv_e (je_call O h_clock_shows (ja_cons (jv_e (je_cut (jv_var O 3) (jo_none) (jo_some (jv_d (jd_int))))) (ja_cons (jv_var O 14) (ja_nil))))))) (jv_var O 10))) (jvs_nil)) (by decide +kernel))) (jv_d (jd_int)) rfl)))) (jss_one (js_ret (je_d (jd_bl)))) (jss_nil)) (jss_cons (js_if (jt_cmp (op_neD O.room.units) fNe_ok (jv_e (je_call O h_clock_shows (ja_cons (jv_var O 13) (ja_cons (jv_d (jd_add (jv_var O 5) (jv_var O 11))) (ja_nil))))) (jv_d (jd_add (jv_e (je_call O h_clock_shows (ja_cons (jv_e (je_cut (jv_var O 3) (jo_none) (jo_some (jv_d (jd_int))))) (ja_cons (jv_d (jd_add (jv_var O 5) (jv_var O 11))) (ja_nil))))) (jv_var O 10))) rfl) (jss_one (js_ret (je_d (jd_bl)))) (jss_nil)) (jss_cons (js_for O (ji_range2 O F.fr_range (jv_d (jd_add (jv_var O 5) (jv_d (jd_int)))) (jv_d (jd_add (jv_d (jd_add (jv_var O 5) (jv_var O 11))) (jv_d (jd_int))))) (jg_name O 15) (jss_one (js_if (jt_cmp (op_ltU O) fLt_ok (jv_e (je_call O h_clock_shows (ja_cons (jv_var O 13) (ja_cons (jv_var O 15) (ja_nil))))) (jv_e (je_call O h_clock_shows (ja_cons (jv_var O 13) (ja_cons (jv_d (jd_sub (jv_var O 15) (jv_d (jd_int)))) (ja_nil))))) rfl) (jss_one (js_ret (je_d (jd_bl)))) (jss_nil)))) (jss_one (js_if (jt_w (jw_and (jt_cmp (op_gtU O) fGtU_ok (jv_var O 5) (jv_d (jd_int)) rfl) (jw_and1 (jt_cmp (op_neD O.room.units) fNe_ok (jv_e (je_call O h_clock_shows (ja_cons (jv_var O 13) (ja_cons (jv_d (jd_sub (jv_var O 5) (jv_d (jd_int)))) (ja_nil))))) (jv_e (je_call O h_clock_shows (ja_cons (jv_e (je_cut (jv_var O 3) (jo_none) (jo_some (jv_d (jd_int))))) (ja_cons (jv_d (jd_sub (jv_var O 5) (jv_d (jd_int)))) (ja_nil))))) rfl)))) (jss_one (js_ret (je_d (jd_bl)))) (jss_nil))))))) (jss_nil))))))))))))))))) (jss_one (js_ret (je_d (jd_bl))))
abbrev st__law_begun : Stmt := top 37
theorem sc__law_begun : FnScope [] [] (defScope st__law_begun) := ⟨rfl, rfl, rfl, by decide +kernel, rfl, by decide +kernel, by decide +kernel⟩
theorem jx_look_rate {G : Gx} {τ : Tn} {X : Cx} {ξ : Xw} (F : Fc G) (h_is_whole_least_most : FnK G τ 1 "is_whole" ["thing", "least", "most"] S_is_whole 1 ["least", "most"] g_is_whole_least_most) (O : Ok [] G N_look_rate (defScope st_look_rate) 1 X) (xo : XOk G τ ξ X) : JSs τ X (defBody st_look_rate) (tx_look_rate ξ) :=
  jss_one (js_if (jt_w (jw_or (jt_not (jt_tru (jv_e (je_callK O h_is_whole_least_most (ja_cons (jv_var O 0) (ja_nil)) (jk_cons (jv_d (jd_int)) (jk_cons (jv_d (jd_glob O F.gc_MOST)) (jk_nil))))))) (jw_or1 (jt_not (jt_tru (jv_e (je_callK O h_is_whole_least_most (ja_cons (jv_var O 1) (ja_nil)) (jk_cons (jv_d (jd_int)) (jk_cons (jv_d (jd_glob O F.gc_MOST)) (jk_nil)))))))))) (jss_one (js_raise O xo F.ex_BadRate)) (jss_nil))
theorem jx_led_softly {G : Gx} {τ : Tn} {X : Cx} {ξ : Xw} (F : Fc G) (h_by_row : FnD G τ 1 "by_row" ["row", "tick"] S_by_row) (h_divisor : FnD G τ 1 "divisor" ["one", "other"] S_divisor) (h_kept_rows : FnD G τ 1 "kept_rows" ["clock", "tick"] S_kept_rows) (h_row_at : FnD G τ 1 "row_at" ["clock", "tick"] S_row_at) (hx_look_rate : FnX G τ 2 "look_rate" ["top", "bottom"] U_look_rate) (O : Ok [] G N_led_softly (defScope st_led_softly) 2 X) (xo : XOk G τ ξ X) : JSs τ X (defBody st_led_softly) (tx_led_softly ξ) :=
  jss_cons (js_set O 4 (je_call O h_row_at (ja_cons (jv_var O 0) (ja_cons (jv_var O 1) (ja_nil))))) (jss_cons (js_par2 O 5 6 (je_add (jv_d (jd_mul (jv_d (jd_ix (jv_var O 4) (jv_d (jd_int)))) (jv_var O 3))) (jv_d (jd_mul (jv_var O 2) (jv_d (jd_ix (jv_var O 4) (jv_d (jd_int))))))) (je_d (jd_mul (jv_d (jd_ix (jv_var O 4) (jv_d (jd_int)))) (jv_var O 3)))) (jss_cons (js_if (jt_cmp (op_le) fOrd_ok (jv_var O 5) (jv_d (jd_int)) rfl) (jss_one (js_raise O xo F.ex_BadRate)) (jss_nil)) (jss_cons (js_set O 7 (je_call O h_divisor (ja_cons (jv_var O 5) (ja_cons (jv_var O 6) (ja_nil))))) (jss_cons (js_par2 O 5 6 (je_d (jd_div (jv_var O 5) (jv_var O 7))) (je_d (jd_div (jv_var O 6) (jv_var O 7)))) (jss_cons (js_expr (je_callX O xo hx_look_rate (ja_cons (jv_var O 5) (ja_cons (jv_var O 6) (ja_nil))))) (jss_cons (js_par2 O 8 9 (je_d (jd_tup (jds_cons (jd_var O 1) (jds_cons (jd_e (je_call O h_by_row (ja_cons (jv_var O 4) (ja_cons (jv_var O 1) (ja_nil))))) (jds_cons (jd_var O 5) (jds_cons (jd_var O 6) (jds_nil) se_Name) se_Name)) se_Name))) (je_add (jv_var O 1) (jv_var O 3))) (jss_one (js_ret (je_add (jv_e (je_call O h_kept_rows (ja_cons (jv_var O 0) (ja_cons (jv_var O 1) (ja_nil))))) (jv_d (jd_tup (jds_cons (jd_var O 8) (jds_cons (jd_add (jv_d (jd_tup (jds_cons (jd_var O 9) (jds_cons (jd_add (jv_e (je_call O h_by_row (ja_cons (jv_var O 4) (ja_cons (jv_var O 9) (ja_nil))))) (jv_var O 2)) (jds_nil) se_BinOp) se_Name))) (jv_e (je_cut (jv_var O 4) (jo_some (jv_d (jd_int))) (jo_none)))) (jds_nil) se_BinOp) se_Name))))))))))))
def dd__law_heard : He.DefD := ⟨("_law_heard", none), "_law_heard", "_law_heard", defArgs st__law_heard, defBody st__law_heard, defScope st__law_heard, [], []⟩
def dd__law_draw : He.DefD := ⟨("_law_draw", none), "_law_draw", "_law_draw", defArgs st__law_draw, defBody st__law_draw, defScope st__law_draw, [], []⟩
def dd__law_a_clock : He.DefD := ⟨("_law_a_clock", none), "_law_a_clock", "_law_a_clock", defArgs st__law_a_clock, defBody st__law_a_clock, defScope st__law_a_clock, [], []⟩
def dd_by_row : He.DefD := ⟨("by_row", none), "by_row", "by_row", defArgs st_by_row, defBody st_by_row, defScope st_by_row, [], []⟩
def dd_row_at : He.DefD := ⟨("row_at", none), "row_at", "row_at", defArgs st_row_at, defBody st_row_at, defScope st_row_at, [], []⟩
def dd_clock_shows : He.DefD := ⟨("clock_shows", none), "clock_shows", "clock_shows", defArgs st_clock_shows, defBody st_clock_shows, defScope st_clock_shows, [], []⟩
def dd_first_tick : He.DefD := ⟨("first_tick", none), "first_tick", "first_tick", defArgs st_first_tick, defBody st_first_tick, defScope st_first_tick, [], []⟩
def dd_is_whole : He.DefD := ⟨("is_whole", none), "is_whole", "is_whole", defArgs st_is_whole, defBody st_is_whole, defScope st_is_whole, [], [("least", .non), ("most", .non)]⟩
def dd_is_row : He.DefD := ⟨("is_row", none), "is_row", "is_row", defArgs st_is_row, defBody st_is_row, defScope st_is_row, [], []⟩
def dd_is_clock : He.DefD := ⟨("is_clock", none), "is_clock", "is_clock", defArgs st_is_clock, defBody st_is_clock, defScope st_is_clock, [], []⟩
def dd_jumps_of : He.DefD := ⟨("jumps_of", none), "jumps_of", "jumps_of", defArgs st_jumps_of, defBody st_jumps_of, defScope st_jumps_of, [], []⟩
def dd_kept_rows : He.DefD := ⟨("kept_rows", none), "kept_rows", "kept_rows", defArgs st_kept_rows, defBody st_kept_rows, defScope st_kept_rows, [], []⟩
def dd_set_to : He.DefD := ⟨("set_to", none), "set_to", "set_to", defArgs st_set_to, defBody st_set_to, defScope st_set_to, [], []⟩
def dd_divisor : He.DefD := ⟨("divisor", none), "divisor", "divisor", defArgs st_divisor, defBody st_divisor, defScope st_divisor, [], []⟩
def dd_look_rate : He.DefD := ⟨("look_rate", none), "look_rate", "look_rate", defArgs st_look_rate, defBody st_look_rate, defScope st_look_rate, [], []⟩
def dd_led_softly : He.DefD := ⟨("led_softly", none), "led_softly", "led_softly", defArgs st_led_softly, defBody st_led_softly, defScope st_led_softly, [], []⟩
def dd_law : He.DefD := ⟨("law", none), "law", "law", defArgs st_law, defBody st_law, defScope st_law, [], []⟩
def dd__law_begun : He.DefD := ⟨("_law_begun", none), "_law_begun", "_law_begun", defArgs st__law_begun, defBody st__law_begun, defScope st__law_begun, [], []⟩
def fn : List He.DefD := [dd__law_heard, dd__law_draw, dd__law_a_clock, dd_by_row, dd_row_at, dd_clock_shows, dd_first_tick, dd_is_whole, dd_is_row, dd_is_clock, dd_jumps_of, dd_kept_rows, dd_set_to, dd_divisor, dd_look_rate, dd_led_softly, dd_law, dd__law_begun]
def fa : List He.Fa := [.glo "_law_heard", .glo "_law_draw", .glo "_law_a_clock", .glo "by_row", .glo "row_at", .glo "clock_shows", .glo "first_tick", .glo "is_whole", .glo "is_row", .glo "is_clock", .glo "jumps_of", .glo "kept_rows", .glo "set_to", .glo "divisor", .glo "look_rate", .glo "led_softly", .glo "law", .glo "_law_begun", .free "ValueError", .free "abs", .free "all", .free "bool", .free "dict", .free "enumerate", .free "int", .free "isinstance", .free "len", .free "max", .free "min", .free "range", .free "tuple", .free "zip", .glo "BadRate", .exc "BadRate", .glo "TimeError"]
def cs : List (Str × D) := [("MOST", c_MOST), ("", .none)]
abbrev Rw : PySem.W.OpenRow := PySem.W.OpenLaw.row PySem.Challenge.rw_momentyard_k45_whole_clocks
def tfs : List (Str × Scope) := [("law", defScope st_law)]
def tf : List He.Defn := [("law", none)]
def exB (K : PySem.W.Frag) : Bool := cs.all (conG K) && (hearL.all (hearB K) && (hearL.all (fun p => (He.Fa.glo p.1).ok K) && decide (((tabsOf K tfs).map Prod.fst).Nodup)))
abbrev hk : PySem.W.Hook := He.hookX 4 fa fn [] tf exB
def ob (s : PySem.W.SharedT) : He.AlX := He.obsX 4 fa fn [] tf exB (HandSHeadRun.getT s)
theorem ob_eq (s : PySem.W.SharedT) : ob s = hk.obs s.abs := He.obsX_eq (HandSHeadRun.getT_eq s)
def loose : List Str := (["TimeError", "NoDate", "BadWay", "NoText", "NoEdition", "NoZone", "NoComing", "NoWork", "BadRate", "BadZones", "BadName", "Taken", "BadWish", "BadTask", "NoWish"] : List Str) ++ (["NoRing", "NoBack", "is_whole", "MOST", "is_row", "is_clock", "row_at", "by_row", "clock_shows", "kept_rows", "set_to", "look_rate", "first_tick", "jumps_of", "divisor"] : List Str) ++ (["led_softly", "_law_heard", "_law_draw", "_law_begun", "_law_a_clock", "_law_shows"] : List Str)
theorem run (w : World) : HandSHeadRun.RunEq Rw (PySem.W.view Rw.prog [40]) hk ob 20000 loose w := by
  intro os
  kernel_rfl
theorem facts {P : Program} {w : World} {K : PySem.W.Frag} {h : Heap} {mg : Str → Option Value} {f : Addr} (X : K.In h) (G0 : h.Ns mainGlobals mg) (hfa : mg ("law" : Str) = some (.ref f)) (c : He.SaysX fa fn [] tf exB w h K) :
    ∃ fd : FuncData, (∀ (s : Shared) (v : Value), BindsTo s fd ⟨[v], []⟩ [("script", v)]) ∧ ∀ base : Heap, K.In base → base.Ns mainGlobals mg → (∀ p ∈ tf.map (He.cT K), LamX.TabB base mg p.1 p.2) → FnOk P w K mg base CX0 6 f fd ["script"] (spLaw K (tabsOf K tfs)) := by
  obtain ⟨fd__law_heard, F__law_heard⟩ := c.t.d.def_ 0 (d := dd__law_heard) rfl
  obtain ⟨fd__law_draw, F__law_draw⟩ := c.t.d.def_ 1 (d := dd__law_draw) rfl
  obtain ⟨fd__law_a_clock, F__law_a_clock⟩ := c.t.d.def_ 2 (d := dd__law_a_clock) rfl
  obtain ⟨fd_by_row, F_by_row⟩ := c.t.d.def_ 3 (d := dd_by_row) rfl
  obtain ⟨fd_row_at, F_row_at⟩ := c.t.d.def_ 4 (d := dd_row_at) rfl
  obtain ⟨fd_clock_shows, F_clock_shows⟩ := c.t.d.def_ 5 (d := dd_clock_shows) rfl
  obtain ⟨fd_first_tick, F_first_tick⟩ := c.t.d.def_ 6 (d := dd_first_tick) rfl
  obtain ⟨fd_is_whole, F_is_whole⟩ := c.t.d.def_ 7 (d := dd_is_whole) rfl
  obtain ⟨fd_is_row, F_is_row⟩ := c.t.d.def_ 8 (d := dd_is_row) rfl
  obtain ⟨fd_is_clock, F_is_clock⟩ := c.t.d.def_ 9 (d := dd_is_clock) rfl
  obtain ⟨fd_jumps_of, F_jumps_of⟩ := c.t.d.def_ 10 (d := dd_jumps_of) rfl
  obtain ⟨fd_kept_rows, F_kept_rows⟩ := c.t.d.def_ 11 (d := dd_kept_rows) rfl
  obtain ⟨fd_set_to, F_set_to⟩ := c.t.d.def_ 12 (d := dd_set_to) rfl
  obtain ⟨fd_divisor, F_divisor⟩ := c.t.d.def_ 13 (d := dd_divisor) rfl
  obtain ⟨fd_look_rate, F_look_rate⟩ := c.t.d.def_ 14 (d := dd_look_rate) rfl
  obtain ⟨fd_led_softly, F_led_softly⟩ := c.t.d.def_ 15 (d := dd_led_softly) rfl
  obtain ⟨fd_law, F_law⟩ := c.t.d.def_ 16 (d := dd_law) rfl
  obtain ⟨fd__law_begun, F__law_begun⟩ := c.t.d.def_ 17 (d := dd__law_begun) rfl
  have e := hfa.symm.trans (He.glo_ok X G0 (c.t.d.fact 16 (f := .glo "law") rfl))
  cases e
  have b := FunD.bindsA (ps := ["script"]) F_law fun _ _ _ _ _ _ us hl => match us, hl with | [_], _ => rfl
  refine ⟨fd_law, fun s v => b s [v] rfl, fun base hK hN TB => ?_⟩
  let G : Gx := ⟨P, w, K, mg, base⟩
  obtain ⟨m1, m⟩ := He.ba c.more
  obtain ⟨m2, m⟩ := He.ba m
  obtain ⟨m3, m4⟩ := He.ba m
  have F : Fc G := ⟨He.free_ok X G0 (c.t.d.fact 18 (f := .free "ValueError") rfl), He.free_ok X G0 (c.t.d.fact 19 (f := .free "abs") rfl), He.free_ok X G0 (c.t.d.fact 20 (f := .free "all") rfl), He.free_ok X G0 (c.t.d.fact 21 (f := .free "bool") rfl), He.free_ok X G0 (c.t.d.fact 22 (f := .free "dict") rfl), He.free_ok X G0 (c.t.d.fact 23 (f := .free "enumerate") rfl), He.free_ok X G0 (c.t.d.fact 24 (f := .free "int") rfl), He.free_ok X G0 (c.t.d.fact 25 (f := .free "isinstance") rfl), He.free_ok X G0 (c.t.d.fact 26 (f := .free "len") rfl), He.free_ok X G0 (c.t.d.fact 27 (f := .free "max") rfl), He.free_ok X G0 (c.t.d.fact 28 (f := .free "min") rfl), He.free_ok X G0 (c.t.d.fact 29 (f := .free "range") rfl), He.free_ok X G0 (c.t.d.fact 30 (f := .free "tuple") rfl), He.free_ok X G0 (c.t.d.fact 31 (f := .free "zip") rfl), conG_ok (G := G) X G0 (List.all_eq_true.mp m1 ("MOST", c_MOST) (List.mem_of_getElem? (i := 0) rfl)), exC_of (G := G) X G0 (c.t.d.fact 32 (f := .glo "BadRate") rfl) (c.t.d.fact 33 (f := .exc "BadRate") rfl), conG_pl (List.all_eq_true.mp m1 ("", .none) (List.mem_of_getElem? (i := 1) rfl)), ⟨_, He.glo_ok X G0 (c.t.d.fact 34 (f := .glo "TimeError") rfl)⟩⟩
  have HA : HearAll G hn := hearAll_of (G := G) X G0 m2 m3
  have HD : HearD G _ := hearD_of (G := G) F__law_heard (He.glo_ok X G0 (c.t.d.fact 0 (f := .glo "_law_heard") rfl)) (fun _ _ _ _ _ _ us hl => match us, hl with | [_], _ => rfl) sc_heard (.inl rfl) fun X cdv q e1 e2 e3 e4 e5 hr => hear_all F X cdv q e1 e2 e3 e4 e5 hr
  have HL_law : ∀ (T R : Addr) (X : Cx), Ok [] G N_law (defScope st_law) 5 X → AtC X fd_law.code (qOf "law" (defScope st_law)) → LamOk (tw T R (tabsOf K tfs) fun _ => True) X (He.cT K ("law", none)).1 (He.cT K ("law", none)).2 (qOf "law" (defScope st_law) ++ "<lambda>") := fun T R X O at_ =>
    lamOk_tw (G := G) O.em O.eb (TB _ (List.mem_map.mpr ⟨("law", none), List.mem_of_getElem? (i := 0) rfl, rfl⟩)) at_ (code_of F_law) rfl (List.mem_map.mpr ⟨("law", defScope st_law), List.mem_of_getElem? (i := 0) rfl, rfl⟩) (tabs_u m4 (List.mem_map.mpr ⟨("law", defScope st_law), List.mem_of_getElem? (i := 0) rfl, rfl⟩))
  have D__law_draw : Dn G "_law_draw" st__law_draw [] [] _ fd__law_draw := ⟨F__law_draw, He.glo_ok X G0 (c.t.d.fact 1 (f := .glo "_law_draw") rfl)⟩
  have D__law_a_clock : Dn G "_law_a_clock" st__law_a_clock [] [] _ fd__law_a_clock := ⟨F__law_a_clock, He.glo_ok X G0 (c.t.d.fact 2 (f := .glo "_law_a_clock") rfl)⟩
  have D_by_row : Dn G "by_row" st_by_row [] [] _ fd_by_row := ⟨F_by_row, He.glo_ok X G0 (c.t.d.fact 3 (f := .glo "by_row") rfl)⟩
  have D_row_at : Dn G "row_at" st_row_at [] [] _ fd_row_at := ⟨F_row_at, He.glo_ok X G0 (c.t.d.fact 4 (f := .glo "row_at") rfl)⟩
  have D_clock_shows : Dn G "clock_shows" st_clock_shows [] [] _ fd_clock_shows := ⟨F_clock_shows, He.glo_ok X G0 (c.t.d.fact 5 (f := .glo "clock_shows") rfl)⟩
  have D_first_tick : Dn G "first_tick" st_first_tick [] [] _ fd_first_tick := ⟨F_first_tick, He.glo_ok X G0 (c.t.d.fact 6 (f := .glo "first_tick") rfl)⟩
  have D_is_whole : Dn G "is_whole" st_is_whole [] [("least", .non), ("most", .non)] _ fd_is_whole := ⟨F_is_whole, He.glo_ok X G0 (c.t.d.fact 7 (f := .glo "is_whole") rfl)⟩
  have D_is_row : Dn G "is_row" st_is_row [] [] _ fd_is_row := ⟨F_is_row, He.glo_ok X G0 (c.t.d.fact 8 (f := .glo "is_row") rfl)⟩
  have D_is_clock : Dn G "is_clock" st_is_clock [] [] _ fd_is_clock := ⟨F_is_clock, He.glo_ok X G0 (c.t.d.fact 9 (f := .glo "is_clock") rfl)⟩
  have D_jumps_of : Dn G "jumps_of" st_jumps_of [] [] _ fd_jumps_of := ⟨F_jumps_of, He.glo_ok X G0 (c.t.d.fact 10 (f := .glo "jumps_of") rfl)⟩
  have D_kept_rows : Dn G "kept_rows" st_kept_rows [] [] _ fd_kept_rows := ⟨F_kept_rows, He.glo_ok X G0 (c.t.d.fact 11 (f := .glo "kept_rows") rfl)⟩
  have D_set_to : Dn G "set_to" st_set_to [] [] _ fd_set_to := ⟨F_set_to, He.glo_ok X G0 (c.t.d.fact 12 (f := .glo "set_to") rfl)⟩
  have D_divisor : Dn G "divisor" st_divisor [] [] _ fd_divisor := ⟨F_divisor, He.glo_ok X G0 (c.t.d.fact 13 (f := .glo "divisor") rfl)⟩
  have D_look_rate : Dn G "look_rate" st_look_rate [] [] _ fd_look_rate := ⟨F_look_rate, He.glo_ok X G0 (c.t.d.fact 14 (f := .glo "look_rate") rfl)⟩
  have D_led_softly : Dn G "led_softly" st_led_softly [] [] _ fd_led_softly := ⟨F_led_softly, He.glo_ok X G0 (c.t.d.fact 15 (f := .glo "led_softly") rfl)⟩
  have D__law_begun : Dn G "_law_begun" st__law_begun [] [] _ fd__law_begun := ⟨F__law_begun, He.glo_ok X G0 (c.t.d.fact 17 (f := .glo "_law_begun") rfl)⟩
  have H__law_draw : ∀ T R, FnD G (tw T R (tabsOf K tfs) fun _ => True) 1 "_law_draw" ["script", "town", "many"] S__law_draw := fun T R => by
    unfold S__law_draw
    exact fnD_of (fun _ => trivial) D__law_draw sc__law_draw (fun _ _ _ _ _ _ us hl => match us, hl with | [_, _, _], _ => rfl) (fun X O => j__law_draw F O)
  have H__law_a_clock : ∀ T R, FnD G (tw T R (tabsOf K tfs) fun _ => True) 2 "_law_a_clock" ["script", "town"] S__law_a_clock := fun T R => by
    unfold S__law_a_clock
    exact fnD_of (fun _ => trivial) D__law_a_clock sc__law_a_clock (fun _ _ _ _ _ _ us hl => match us, hl with | [_, _], _ => rfl) (fun X O => j__law_a_clock F ((H__law_draw T R)) O)
  have H_by_row : ∀ T R, FnD G (tw T R (tabsOf K tfs) fun _ => True) 1 "by_row" ["row", "tick"] S_by_row := fun T R => by
    unfold S_by_row
    exact fnD_of (fun _ => trivial) D_by_row sc_by_row (fun _ _ _ _ _ _ us hl => match us, hl with | [_, _], _ => rfl) (fun X O => j_by_row F O)
  have H_row_at : ∀ T R, FnD G (tw T R (tabsOf K tfs) fun _ => True) 1 "row_at" ["clock", "tick"] S_row_at := fun T R => by
    unfold S_row_at
    exact fnD_of (fun _ => trivial) D_row_at sc_row_at (fun _ _ _ _ _ _ us hl => match us, hl with | [_, _], _ => rfl) (fun X O => j_row_at F O)
  have H_clock_shows : ∀ T R, FnD G (tw T R (tabsOf K tfs) fun _ => True) 2 "clock_shows" ["clock", "tick"] S_clock_shows := fun T R => by
    unfold S_clock_shows
    exact fnD_of (fun _ => trivial) D_clock_shows sc_clock_shows (fun _ _ _ _ _ _ us hl => match us, hl with | [_, _], _ => rfl) (fun X O => j_clock_shows F ((H_by_row T R)) ((H_row_at T R)) O)
  have H_first_tick : ∀ T R, FnD G (tw T R (tabsOf K tfs) fun _ => True) 1 "first_tick" ["clock", "tick", "moment"] S_first_tick := fun T R => by
    unfold S_first_tick
    exact fnD_of (fun _ => trivial) D_first_tick sc_first_tick (fun _ _ _ _ _ _ us hl => match us, hl with | [_, _, _], _ => rfl) (fun X O => j_first_tick F O)
  have K_is_whole : ∀ T R, FnOk P w K mg base CX0 1 _ fd_is_whole ["thing", "least", "most"] (spD G (tw T R (tabsOf K tfs) fun _ => True) S_is_whole) := fun T R => by
    unfold S_is_whole
    exact fnOk_of (fun _ => trivial) (G := G) D_is_whole.fn sc_is_whole (fun X O => j_is_whole F O)
  have H_is_whole_least_most : ∀ T R, FnK G (tw T R (tabsOf K tfs) fun _ => True) 1 "is_whole" ["thing", "least", "most"] S_is_whole 1 ["least", "most"] g_is_whole_least_most := fun T R => fnK_of D_is_whole (K_is_whole T R) [] q_is_whole_least_most (by simp) (by simp) rfl (fun h1 h2 h3 => paired_app (paired_app (h1) (paired_take 1 (paired_drop 0 h3))) (paired_take 1 (paired_drop 1 h3)))
    (fun D doc pm an cdv ct us mv ws h1 h2 h3 => match us, mv, ws, h1, h2, h3 with | [_], [], [_, _], _, _, _ => rfl)
  have H_is_whole_least : ∀ T R, FnK G (tw T R (tabsOf K tfs) fun _ => True) 1 "is_whole" ["thing", "least", "most"] S_is_whole 1 ["least"] g_is_whole_least := fun T R => fnK_of D_is_whole (K_is_whole T R) [("most", .non)] q_is_whole_least (by simp) (by simp) rfl (fun h1 h2 h3 => paired_app (paired_app (h1) (paired_take 1 (paired_drop 0 h3))) (paired_take 1 (paired_drop 0 h2)))
    (fun D doc pm an cdv ct us mv ws h1 h2 h3 => match us, mv, ws, h1, h2, h3 with | [_], [_], [_], _, _, _ => ⟨_, _, _, _, _, _, rfl, rfl, rfl⟩)
  have H_is_whole : ∀ T R, FnK G (tw T R (tabsOf K tfs) fun _ => True) 1 "is_whole" ["thing", "least", "most"] S_is_whole 1 [] g_is_whole := fun T R => fnK_of D_is_whole (K_is_whole T R) [("least", .non), ("most", .non)] q_is_whole (by simp) (by simp) rfl (fun h1 h2 h3 => paired_app (paired_app (h1) (paired_take 1 (paired_drop 0 h2))) (paired_take 1 (paired_drop 1 h2)))
    (fun D doc pm an cdv ct us mv ws h1 h2 h3 => match us, mv, ws, h1, h2, h3 with | [_], [_, _], [], _, _, _ => ⟨_, _, _, _, _, _, rfl, rfl, _, _, _, _, _, _, rfl, rfl, rfl⟩)
  have H_is_row : ∀ T R, FnD G (tw T R (tabsOf K tfs) fun _ => True) 2 "is_row" ["thing"] S_is_row := fun T R => by
    unfold S_is_row
    exact fnD_of (fun _ => trivial) D_is_row sc_is_row (fun _ _ _ _ _ _ us hl => match us, hl with | [_], _ => rfl) (fun X O => j_is_row F ((H_is_whole_least_most T R)) ((H_is_whole_least T R)) ((H_is_whole T R)) O)
  have H_is_clock : ∀ T R, FnD G (tw T R (tabsOf K tfs) fun _ => True) 3 "is_clock" ["thing"] S_is_clock := fun T R => by
    unfold S_is_clock
    exact fnD_of (fun _ => trivial) D_is_clock sc_is_clock (fun _ _ _ _ _ _ us hl => match us, hl with | [_], _ => rfl) (fun X O => j_is_clock F ((H_is_row T R)) O)
  have H_jumps_of : ∀ T R, FnD G (tw T R (tabsOf K tfs) fun _ => True) 2 "jumps_of" ["clock"] S_jumps_of := fun T R => by
    unfold S_jumps_of
    exact fnD_of (fun _ => trivial) D_jumps_of sc_jumps_of (fun _ _ _ _ _ _ us hl => match us, hl with | [_], _ => rfl) (fun X O => j_jumps_of F ((H_by_row T R)) O)
  have H_kept_rows : ∀ T R, FnD G (tw T R (tabsOf K tfs) fun _ => True) 1 "kept_rows" ["clock", "tick"] S_kept_rows := fun T R => by
    unfold S_kept_rows
    exact fnD_of (fun _ => trivial) D_kept_rows sc_kept_rows (fun _ _ _ _ _ _ us hl => match us, hl with | [_, _], _ => rfl) (fun X O => j_kept_rows F O)
  have H_set_to : ∀ T R, FnD G (tw T R (tabsOf K tfs) fun _ => True) 2 "set_to" ["clock", "tick", "moment"] S_set_to := fun T R => by
    unfold S_set_to
    exact fnD_of (fun _ => trivial) D_set_to sc_set_to (fun _ _ _ _ _ _ us hl => match us, hl with | [_, _, _], _ => rfl) (fun X O => j_set_to F ((H_kept_rows T R)) ((H_row_at T R)) O)
  have H_divisor : ∀ T R, FnD G (tw T R (tabsOf K tfs) fun _ => True) 1 "divisor" ["one", "other"] S_divisor := fun T R => by
    unfold S_divisor
    exact fnD_of (fun _ => trivial) D_divisor sc_divisor (fun _ _ _ _ _ _ us hl => match us, hl with | [_, _], _ => rfl) (fun X O => j_divisor F O)
  have H_look_rate : ∀ T R, FnD G (tw T R (tabsOf K tfs) fun _ => True) 2 "look_rate" ["top", "bottom"] S_look_rate := fun T R => by
    unfold S_look_rate
    exact fnD_of (fun _ => trivial) D_look_rate sc_look_rate (fun _ _ _ _ _ _ us hl => match us, hl with | [_, _], _ => rfl) (fun X O => j_look_rate F ((H_is_whole_least_most T R)) O)
  have K_look_rate : ∀ T R, FnOk P w K mg base CX0 2 _ fd_look_rate ["top", "bottom"] (spD G (tw T R (tabsOf K tfs) fun _ => True) S_look_rate) := fun T R => by
    unfold S_look_rate
    exact fnOk_of (fun _ => trivial) (G := G) D_look_rate.fn sc_look_rate (fun X O => j_look_rate F ((H_is_whole_least_most T R)) O)
  have H_led_softly : ∀ T R, FnD G (tw T R (tabsOf K tfs) fun _ => True) 3 "led_softly" ["clock", "tick", "by", "over"] S_led_softly := fun T R => by
    unfold S_led_softly
    exact fnD_of (fun _ => trivial) D_led_softly sc_led_softly (fun _ _ _ _ _ _ us hl => match us, hl with | [_, _, _, _], _ => rfl) (fun X O => j_led_softly F ((H_by_row T R)) ((H_divisor T R)) ((H_kept_rows T R)) ((H_look_rate T R)) ((H_row_at T R)) O)
  have K_led_softly : ∀ T R, FnOk P w K mg base CX0 3 _ fd_led_softly ["clock", "tick", "by", "over"] (spD G (tw T R (tabsOf K tfs) fun _ => True) S_led_softly) := fun T R => by
    unfold S_led_softly
    exact fnOk_of (fun _ => trivial) (G := G) D_led_softly.fn sc_led_softly (fun X O => j_led_softly F ((H_by_row T R)) ((H_divisor T R)) ((H_kept_rows T R)) ((H_look_rate T R)) ((H_row_at T R)) O)
  have KX_look_rate : ∀ T R, FnOk P w K mg base (L2.CX P w) 2 _ fd_look_rate ["top", "bottom"] (spX G (tw T R (tabsOf K tfs) fun _ => True) U_look_rate) := fun T R => ok_or (G := G) (τ := (tw T R (tabsOf K tfs) fun _ => True)) (S := S_look_rate) (T := X_look_rate) (K_look_rate T R) (by
    unfold X_look_rate
    exact fnOkX_of (G := G) (τ := (tw T R (tabsOf K tfs) fun _ => True)) D_look_rate.fn sc_look_rate (fun z X ξ O xo => jx_look_rate F ((H_is_whole_least_most T R).at_) O xo))
  have HX_look_rate : ∀ T R, FnX G (tw T R (tabsOf K tfs) fun _ => True) 2 "look_rate" ["top", "bottom"] U_look_rate := fun T R => fnX_of D_look_rate (KX_look_rate T R) (fun _ _ _ _ _ _ us hl => match us, hl with | [_, _], _ => rfl)
  have KX_led_softly : ∀ T R, FnOk P w K mg base (L2.CX P w) 3 _ fd_led_softly ["clock", "tick", "by", "over"] (spX G (tw T R (tabsOf K tfs) fun _ => True) U_led_softly) := fun T R => ok_or (G := G) (τ := (tw T R (tabsOf K tfs) fun _ => True)) (S := S_led_softly) (T := X_led_softly) (K_led_softly T R) (by
    unfold X_led_softly
    exact fnOkX_of (G := G) (τ := (tw T R (tabsOf K tfs) fun _ => True)) D_led_softly.fn sc_led_softly (fun z X ξ O xo => jx_led_softly F ((H_by_row T R).at_) ((H_divisor T R).at_) ((H_kept_rows T R).at_) ((H_row_at T R).at_) ((HX_look_rate T R).at_) O xo))
  have HX_led_softly : ∀ T R, FnX G (tw T R (tabsOf K tfs) fun _ => True) 3 "led_softly" ["clock", "tick", "by", "over"] U_led_softly := fun T R => fnX_of D_led_softly (KX_led_softly T R) (fun _ _ _ _ _ _ us hl => match us, hl with | [_, _, _, _], _ => rfl)
  exact law_ok1 (G := G) (Ts := tabsOf K tfs) (i := 1) F_law sc_law rfl (begun_ok (G := G) (k := 0) F__law_begun sc__law_begun rfl) D__law_begun.gl F__law_begun.kp (F__law_begun.bindsN fun _ _ _ _ _ _ us hl => match us, hl with | [], _ => rfl) (fun T R X O at_ => j_law F ((H__law_a_clock T R)) ((H__law_draw T R)) ((H_clock_shows T R)) ((H_first_tick T R)) ((H_is_clock T R)) ((H_jumps_of T R)) ((H_set_to T R)) ((HX_led_softly T R)) (HL_law T R X O at_) HD HA O) law_math (by decide) rfl rfl (by decide) rfl (by decide) (fun _ => rfl)
end Py
open PySem PySem.W PySem.Calls PyProof.Rows
theorem PySem.Challenge.cw_momentyard_k45_whole_clocks_holds : PySem.Challenge.rw_momentyard_k45_whole_clocks.Holds := by
  w_on; o_law
  refine HandSHeadRun.head_any (r := OpenLaw.row PySem.Challenge.rw_momentyard_k45_whole_clocks) (q := view (OpenLaw.row PySem.Challenge.rw_momentyard_k45_whole_clocks).prog [40]) (H := Py.hk) (ob := Py.ob) (M := 20000) (loose := Py.loose) (d := HandSHeadRun.topDef (OpenLaw.row PySem.Challenge.rw_momentyard_k45_whole_clocks).prog 40) (kwd := []) Py.ob_eq
    (by kernel_rfl) (fun s => by kernel_rfl) Py.run (by kernel_rfl) (by kernel_rfl) (by kernel_rfl) (by rfl) (by first | assumption | decide +kernel) (by decide +kernel) ⟨rfl, rfl, rfl, rfl, rfl, by decide +kernel⟩ ?hw ?hc
  case hw => w_witness2
  case hc =>
    refine LamX.walk_ofTsE (l := PySem.Challenge.rw_momentyard_k45_whole_clocks) (n := 63) (k := 6) (x := "script") (CX := fun _ => L2.CX0) rfl (by decide) (by kernel_rfl) ⟨rfl, by decide, by decide⟩ ?F (fun _ _ _ _ _ z => z)
    intro w mg fa h Y G hmg0
    obtain ⟨K, KX, c⟩ := Y
    have hmg : mg ("law" : PySem.Str) = some (.ref fa) := by
      have e : (HandSHeadRun.topDef (OpenLaw.row PySem.Challenge.rw_momentyard_k45_whole_clocks).prog 40).name = ("law" : PySem.Str) := by kernel_rfl
      rw [← e]
      exact hmg0
    obtain ⟨fd, hb, hF⟩ := Py.facts (P := (PySem.Challenge.rw_momentyard_k45_whole_clocks).prog) (w := w) KX G hmg c
    refine ⟨K, KX, fd, Py.tf.map (He.cT K), Pu.spLaw K (Pu.tabsOf K Py.tfs), fun p hp => ?_, fun p hp => ?_, fun p hp => ?_, hb, fun H a ns hl _ hT hS => ⟨a, ns, rfl, hS, hl, fun p hp => ?_, fun _ => rfl⟩, hF⟩
    · obtain ⟨q, hq, rfl⟩ := List.mem_map.mp hp
      exact c.empty q hq
    · obtain ⟨q, hq, rfl⟩ := List.mem_map.mp hp
      exact c.out q hq
    · obtain ⟨q, hq, rfl⟩ := List.mem_map.mp hp
      exact PySem.W.codeHd_of_K KX (c.hd q hq)
    · obtain ⟨q, hq, rfl⟩ := List.mem_map.mp hp
      refine hT (He.cT K (q.1, none)) (List.mem_map.mpr ⟨(q.1, none), ?_, rfl⟩)
      have e : Py.tf = Py.tfs.map fun q => (q.1, none) := rfl
      rw [e]
      exact List.mem_map.mpr ⟨q, hq, rfl⟩
