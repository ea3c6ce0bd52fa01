import PyProof.Rows.All
import Wide.All
import OpenK.AllK
import Wide.FinOn
import HandS.ForMost
import KE.KDictKeyed
import HandS.Dict
import HandS.Lambda
import HandS.TupAny
import HandS.TupLe
import HandS.Wide
import HandS.Defaults
import KE.KTupSum
import HandS.IsInst
import KE.DataMinMax
import HandS.Style
import HandS.Zip
import KE.GoesMore
import KE.GoesEnum
import HandS.Head0
import HandS.Head1
import HandS.Head2
import HandS.HeadEnd
import HandS.HeadHook1
import HandS.HeadHook2
import HandS.WordsDict
import HandS.TryOnly
import HandS.TupMul
import KE.SortData
import PyProof.Transfer
import HandS.SetFor
import HandS.Strs
import HandS.More
import HandS.Iter
import KE.KDictPairs
import HandS.FStr
import PyProof.FString2
import HandS.Text
import HandS.StrMore
import HandS.StrSplit
import PyProof.Rows.StrPadFill
import PyProof.StrBlock2
import PyProof.CallType
import PyProof.Rows.CallKwBuiltin
import HandS.ExcOwn
import HandS.WordsExc
import HandS.ExcIs
import HandS.ExcValue
import HandS.Walk
import HandS.HeadHook4
import HandS.EndTab
import HandS.HeadWalk
import KE.KStateDown
import Lean
import HandS.Base
import HandS.Call
import HandS.Ends
import HandS.Words
import PySem.Challenge.RW_momentyard_k14_span_texts
set_option Elab.async false
set_option linter.all false
set_option maxRecDepth 100000
set_option maxHeartbeats 4000000
/-! dicts whose keys are None and ints, or tuples of such -/
namespace Pu
open PySem PySem.Spec PyProof.Rows L2
abbrev OI := Option Int
def oiV : OI → V
  | none => .non
  | some i => .int i
def oiL : OI → Leaf
  | none => .none
  | some i => .num i
def oiIs : OI → Value → Bool
  | none, .none => true
  | some i, .int j _ => decide (j = i)
  | _, _ => false
def oiHash : OI → Int
  | none => reduceHash 0xFCA86420
  | some i => hashInt i
theorem oiL_inj : ∀ {a b : OI}, oiL a = oiL b → a = b
  | none, none, _ => rfl
  | some _, some _, e => by injection e with e; rw [e]
  | none, some _, e => nomatch e
  | some _, none, e => nomatch e
theorem oiIs_leaf : ∀ {k : OI} {v : Value}, oiIs k v = true → Leaf.isOf (oiL k) v = true
  | none, v, e => by cases v <;> first | rfl | exact absurd e Bool.false_ne_true
  | some i, v, e => by cases v <;> first | exact e | exact absurd e Bool.false_ne_true
theorem oiHash_eq (w : World) : ∀ k : OI, oiHash k = (oiL k).key.hash w
  | none => rfl
  | some i => rfl
def optKind (prog : Program) (w : World) : PySem.KeyKind prog w OI where
  is := oiIs
  hash := oiHash
  inj := fun v a b ha hb => oiL_inj ((leafKind prog w).inj v _ _ (oiIs_leaf ha) (oiIs_leaf hb))
  byValue := fun _ _ h => Leaf.byValue (oiIs_leaf h)
  pyHash := fun {_ _ _ k _ _} hv h => pyHash_leaf (oiIs_leaf hv) (by rw [← oiHash_eq]; exact h)
  eqBool := fun {_ _ _ a b _ _ _} hu hv h => (leafKind prog w).eqBool (oiIs_leaf hu) (oiIs_leaf hv) (by
    have e : decide (oiL a = oiL b) = decide (a = b) := by
      by_cases q : a = b
      · rw [decide_eq_true q, decide_eq_true (congrArg oiL q)]
      · rw [decide_eq_false q, decide_eq_false fun r => q (oiL_inj r)]
    rw [e]
    exact h)
  «strs» := fun k x t v h => by cases k <;> exact absurd h Bool.false_ne_true
theorem oiV_is {k : OI} {u : Value} (r : RelV (oiV k) u) : oiIs k u = true := by
  cases k with
  | none => cases r; rfl
  | some i =>
    obtain ⟨t, rfl⟩ := r
    exact decide_eq_true rfl
theorem oiV_inj {a b : OI} (e : oiV a = oiV b) : a = b := by
  cases a <;> cases b <;> first | rfl | cases e
  rfl
theorem oiV_of {k : OI} {u : Value} (h : oiIs k u = true) : RelV (oiV k) u := by
  cases k with
  | none => cases u <;> first | rfl | exact absurd h Bool.false_ne_true
  | some i =>
    cases u with
    | int j t => exact ⟨t, by rw [of_decide_eq_true (show decide (j = i) = true from h)]⟩
    | _ => exact absurd h Bool.false_ne_true
abbrev otKind (prog : Program) (w : World) : HeapKind prog w (List OI) := tupleKind (optKind prog w)
def otHash (ks : List OI) : Int := reduceHash (Builtin.Tuple.tupleHashOf (ks.map oiHash))
theorem oi_items {P : Program} {w : World} : ∀ {ks : List OI} {us : List Value}, Vals (ks.map oiV) us → ItemsAre (optKind P w) ks us
  | [], _, .nil => .nil
  | _ :: _, _, .cons r t => .cons (oiV_is r) (oi_items t)
/-- at a: a dict, its keys None and ints | tuples of such, that lie where it is told -/
def isD1 (h : Heap) (a : Addr) (es : Array DictEntry) : Prop := ∃ o ep, h.get? a = some o ∧ o.ExactDict ∧ o.data = .dict es ep
def DLo (a : Addr) (kvs : List (OI × V)) : HO := .ext fun h => kvs.length ≤ sizeLine ∧ (a == sysModules) = false ∧ (kvs.map (·.1)).Nodup ∧ ∃ es, isD1 h a es ∧ Paired (fun (p : OI × V) (e : DictEntry) => e.hash = oiHash p.1 ∧ oiIs p.1 e.key = true ∧ RelV p.2 e.val) kvs es.toList
def DTo (a : Addr) (xs : List (List OI × Addr × V)) : HO := .ext fun h => xs.length ≤ sizeLine ∧ (a == sysModules) = false ∧ (xs.map (·.1)).Nodup ∧ ∃ es, isD1 h a es ∧ Paired (fun (p : List OI × Addr × V) (e : DictEntry) => e.hash = otHash p.1 ∧ e.key = .ref p.2.1 ∧ RelV p.2.2 e.val) xs es.toList
section
variable {P : Program} {w : World} {H : Hp} {h : Heap} {a : Addr}
theorem isD1.mk {h1 h2 : Heap} {es : Array DictEntry} (x : isD1 h1 a es) (k : ∀ o, h1.get? a = some o → h2.get? a = some o) : isD1 h2 a es := let ⟨o, ep, e, r⟩ := x; ⟨o, ep, k o e, r⟩
theorem dl_ok {kvs : List (OI × V)} {es : Array DictEntry} (z : kvs.length ≤ sizeLine) (hd : (a == sysModules) = false) (hn : (kvs.map (·.1)).Nodup) (x : isD1 h a es) (r : Paired (fun (p : OI × V) (e : DictEntry) => e.hash = oiHash p.1 ∧ oiIs p.1 e.key = true ∧ RelV p.2 e.val) kvs es.toList) : ObjOk P w H h a (DLo a kvs) := by
  have y := x
  obtain ⟨o, ep, e, _⟩ := y
  exact ⟨⟨z, hd, hn, es, x, r⟩, ⟨o, e⟩, fun h1 h2 ⟨z, hd, hn, es, x, r⟩ k => ⟨z, hd, hn, es, x.mk k, r⟩⟩
theorem dt_ok {xs : List (List OI × Addr × V)} {es : Array DictEntry} (z : xs.length ≤ sizeLine) (hd : (a == sysModules) = false) (hn : (xs.map (·.1)).Nodup) (x : isD1 h a es) (r : Paired (fun (p : List OI × Addr × V) (e : DictEntry) => e.hash = otHash p.1 ∧ e.key = .ref p.2.1 ∧ RelV p.2.2 e.val) xs es.toList) : ObjOk P w H h a (DTo a xs) := by
  have y := x
  obtain ⟨o, ep, e, _⟩ := y
  exact ⟨⟨z, hd, hn, es, x, r⟩, ⟨o, e⟩, fun h1 h2 ⟨z, hd, hn, es, x, r⟩ k => ⟨z, hd, hn, es, x.mk k, r⟩⟩
/-- as the library has it -/
theorem dl_lib : ∀ {kvs : List (OI × V)} {es : List DictEntry}, Paired (fun (p : OI × V) (e : DictEntry) => e.hash = oiHash p.1 ∧ oiIs p.1 e.key = true ∧ RelV p.2 e.val) kvs es → ∃ vs : List (OI × Value), KV kvs vs ∧ Pairs (optKind P w) es vs ∧ (∀ e ∈ es, ∃ k, oiIs k e.key = true ∧ e.hash = oiHash k)
  | _, _, .nil => ⟨[], .nil, .nil, fun _ h => by cases h⟩
  | p :: _, e :: _, .cons h t => by
    obtain ⟨vs, r1, r2, r3⟩ := dl_lib t
    exact ⟨(p.1, e.val) :: vs, .cons ⟨rfl, h.2.2⟩ r1, .cons h.2.1 rfl r2, fun x hx => by
      rcases List.mem_cons.mp hx with rfl | hx
      · exact ⟨p.1, h.2.1, h.1⟩
      · exact r3 x hx⟩
theorem dl_back : ∀ {kvs : List (OI × V)} {vs : List (OI × Value)} {es : List DictEntry}, KV kvs vs → Pairs (optKind P w) es vs → (∀ e ∈ es, ∃ k, (optKind P w).is k e.key = true ∧ e.hash = (optKind P w).hash k) → Paired (fun (p : OI × V) (e : DictEntry) => e.hash = oiHash p.1 ∧ oiIs p.1 e.key = true ∧ RelV p.2 e.val) kvs es
  | _, _, _, .nil, .nil, _ => .nil
  | p :: _, q :: _, e :: _, .cons h t, .cons h1 h2 h3, hk => .cons (by
      obtain ⟨k, g1, g2⟩ := hk e (List.mem_cons_self ..)
      have : k = q.1 := (optKind P w).inj _ _ _ g1 h1
      subst this
      exact ⟨by rw [h.1]; exact g2, by rw [h.1]; exact h1, by rw [h2]; exact h.2⟩) (dl_back t h3 fun x hx => hk x (List.mem_cons_of_mem _ hx))
theorem dl_of {kvs : List (OI × V)} (ok : HOk P w H h) (e : Rd H a (DLo a kvs)) : kvs.length ≤ sizeLine ∧ (a == sysModules) = false ∧ ∃ vs, KV kvs vs ∧ h.DictOf (optKind P w) a vs := by
  obtain ⟨⟨z, hd, hn, es, ⟨o, ep, x1, x2, x3⟩, r⟩, _⟩ := (show ObjOk P w H h a (DLo a kvs) from rd_of ok e)
  obtain ⟨vs, r1, r2, r3⟩ := dl_lib (P := P) (w := w) r
  refine ⟨z, hd, vs, r1, o, es, ep, x1, x2, x3, fun e he => ?_, r2, by rw [← r1.keys]; exact hn⟩
  obtain ⟨k, g1, g2⟩ := r3 e (by simpa using he)
  exact ⟨k, g1, g2⟩
theorem dl_mk {kvs : List (OI × V)} {vs : List (OI × Value)} (z : kvs.length ≤ sizeLine) (hd : (a == sysModules) = false) (rel : KV kvs vs) (dd : h.DictOf (optKind P w) a vs) : ObjOk P w H h a (DLo a kvs) := by
  obtain ⟨o, es, ep, x1, x2, x3, hk, hp, hn⟩ := dd
  exact dl_ok z hd (by rw [rel.keys]; exact hn) ⟨o, ep, x1, x2, x3⟩ (dl_back rel hp fun e he => hk e (by simpa using he))
abbrev XV : List (List OI × Addr × V) → List (List OI × Addr × Value) → Prop := Paired fun p q => p.1 = q.1 ∧ p.2.1 = q.2.1 ∧ RelV p.2.2 q.2.2
theorem dt_lib : ∀ {xs : List (List OI × Addr × V)} {es : List DictEntry}, Paired (fun (p : List OI × Addr × V) (e : DictEntry) => e.hash = otHash p.1 ∧ e.key = .ref p.2.1 ∧ RelV p.2.2 e.val) xs es → ∃ ys : List (List OI × Addr × Value), XV xs ys ∧ es = ys.map (entryOfKey (otKind P w))
  | _, _, .nil => ⟨[], .nil, rfl⟩
  | p :: _, e :: _, .cons h t => by
    obtain ⟨ys, r1, r2⟩ := dt_lib t
    refine ⟨(p.1, p.2.1, e.val) :: ys, .cons ⟨rfl, rfl, h.2.2⟩ r1, ?_⟩
    rw [List.map_cons, ← r2]
    congr 1
    obtain ⟨e1, e2, e3⟩ := e
    obtain ⟨g1, g2, g3⟩ := h
    cases g1
    cases g2
    rfl
theorem dt_back : ∀ {xs : List (List OI × Addr × V)} {ys : List (List OI × Addr × Value)}, XV xs ys → Paired (fun (p : List OI × Addr × V) (e : DictEntry) => e.hash = otHash p.1 ∧ e.key = .ref p.2.1 ∧ RelV p.2.2 e.val) xs (ys.map (entryOfKey (otKind P w)))
  | _, _, .nil => .nil
  | p :: _, q :: _, .cons h t => .cons ⟨by rw [h.1]; rfl, by rw [h.2.1]; rfl, h.2.2⟩ (dt_back t)
theorem XV.keys : ∀ {xs : List (List OI × Addr × V)} {ys : List (List OI × Addr × Value)}, XV xs ys → xs.map (·.1) = ys.map (·.1)
  | _, _, .nil => rfl
  | _, _, .cons h t => by rw [List.map_cons, List.map_cons, h.1, XV.keys t]
end
section
variable {X : Cx} {pins : List (Addr × Obj)} {σ : L2.St} {H : Hp} {s : Shared} {a : Addr}
/-- the keys lie there -/
def KeysAt (K : PySem.W.Frag) (H : Hp) (xs : List (List OI × Addr × V)) : Prop := ∀ x ∈ xs, SqT K H x.2.1 (x.1.map oiV)
theorem ot_key (I : Inv X pins σ H s) {b : Addr} {k : List OI} (e : SqT X.K H b (k.map oiV)) : (otKind X.prog X.w).is s.heap k b := by
  obtain ⟨its, rv, p, _⟩ := I.tuple e
  obtain ⟨o, h1, h2, n, h3⟩ := p
  exact ⟨o, its.toArray, n, h1, h2, h3, by simpa using oi_items rv⟩
theorem XV.is (I : Inv X pins σ H s) : ∀ {xs : List (List OI × Addr × V)} {ys : List (List OI × Addr × Value)}, XV xs ys → KeysAt X.K H xs → ∀ y ∈ ys, (otKind X.prog X.w).is s.heap y.1 y.2.1
  | _, _, .nil, _, _, hy => by cases hy
  | p :: _, q :: _, .cons h t, hx, y, hy => by
    rcases List.mem_cons.mp hy with rfl | hy
    · have g := ot_key I (hx p (List.mem_cons_self ..))
      rw [h.1, h.2.1] at g
      exact g
    · exact XV.is I t (fun x h => hx x (List.mem_cons_of_mem _ h)) y hy
theorem dt_of {xs : List (List OI × Addr × V)} (I : Inv X pins σ H s) (e : Rd H a (DTo a xs)) (hx : KeysAt X.K H xs) : xs.length ≤ sizeLine ∧ (a == sysModules) = false ∧ ∃ ys, XV xs ys ∧ s.heap.DictOfH (otKind X.prog X.w) a ys := by
  obtain ⟨⟨z, hd, hn, es, ⟨o, ep, x1, x2, x3⟩, r⟩, _⟩ := (show ObjOk X.prog X.w H s.heap a (DTo a xs) from rd_of I.hok e)
  obtain ⟨ys, r1, r2⟩ := dt_lib (P := X.prog) (w := X.w) r
  exact ⟨z, hd, ys, r1, o, es, ep, x1, x2, x3, r2, XV.is I r1 hx, by rw [← r1.keys]; exact hn⟩
theorem dt_mk {P : Program} {w : World} {h : Heap} {H : Hp} {xs : List (List OI × Addr × V)} {ys : List (List OI × Addr × Value)} (z : xs.length ≤ sizeLine) (hd : (a == sysModules) = false) (rel : XV xs ys) (dd : h.DictOfH (otKind P w) a ys) : ObjOk P w H h a (DTo a xs) := by
  obtain ⟨o, es, ep, x1, x2, x3, he, _, hn⟩ := dd
  exact dt_ok z hd (by rw [rel.keys]; exact hn) ⟨o, ep, x1, x2, x3⟩ (by rw [he]; exact dt_back rel)
def putX (xs : List (List OI × Addr × V)) (k : List OI) (b : Addr) (v : V) : List (List OI × Addr × V) :=
  if (xs.any fun x => decide (x.1 = k)) = true then xs.map (fun x => if x.1 = k then (x.1, x.2.1, v) else x) else xs ++ [(k, b, v)]
def valX (xs : List (List OI × Addr × V)) (k : List OI) : Option V := (xs.find? fun x => decide (x.1 = k)).map (·.2.2)
theorem XV.val : ∀ {xs : List (List OI × Addr × V)} {ys : List (List OI × Addr × Value)}, XV xs ys → ∀ k, RelO (valX xs k) ((atKey ys k).map (·.2))
  | _, _, .nil, k => trivial
  | p :: _, q :: _, .cons h t, k => by
    have ih := XV.val t k
    unfold valX atKey at ih ⊢
    rw [List.find?_cons, List.find?_cons, ← h.1]
    by_cases e : p.1 = k
    · rw [decide_eq_true e]
      exact h.2.2
    · rw [decide_eq_false e]
      exact ih
theorem XV.any : ∀ {xs : List (List OI × Addr × V)} {ys : List (List OI × Addr × Value)}, XV xs ys → ∀ k, (xs.any fun x => decide (x.1 = k)) = (atKey ys k).isSome
  | _, _, .nil, k => rfl
  | p :: _, q :: _, .cons h t, k => by
    have ih := XV.any t k
    unfold atKey at ih ⊢
    rw [List.any_cons, List.find?_cons, ← h.1, ih]
    by_cases e : p.1 = k
    · rw [decide_eq_true e]
      rfl
    · rw [decide_eq_false e]
      rfl
theorem XV.repl {k : List OI} {v : V} {u : Value} (rv : RelV v u) : ∀ {xs : List (List OI × Addr × V)} {ys : List (List OI × Addr × Value)}, XV xs ys → XV (xs.map fun x => if x.1 = k then (x.1, x.2.1, v) else x) (ys.map (putAt k u))
  | _, _, .nil => .nil
  | p :: _, q :: _, .cons h t => .cons (by
      unfold putAt
      dsimp only
      by_cases e : p.1 = k
      · rw [if_pos e, if_pos (h.1 ▸ e)]
        exact ⟨h.1, h.2.1, rv⟩
      · rw [if_neg e, if_neg (h.1 ▸ e)]
        exact h) (XV.repl rv t)
theorem XV.put {xs : List (List OI × Addr × V)} {ys : List (List OI × Addr × Value)} (r : XV xs ys) {k : List OI} {b : Addr} {v : V} {u : Value} (rv : RelV v u) : XV (putX xs k b v) (storedH ys k b u) := by
  unfold putX storedH
  rw [r.any k]
  by_cases e : (atKey ys k).isSome = true
  · rw [if_pos e, if_pos e]
    exact r.repl rv
  · rw [if_neg e, if_neg e]
    exact Paired.snoc r ⟨rfl, rfl, rv⟩
theorem putX_len {xs : List (List OI × Addr × V)} {k : List OI} {b : Addr} {v : V} : (putX xs k b v).length ≤ xs.length + 1 := by
  unfold putX
  split
  · rw [List.length_map]; omega
  · simp
/-- what the dict at a holds at y; behind a[y] = v -/
def OGet (K : PySem.W.Frag) (H : Hp) (a : Addr) (y : V) (r : Option V) : Prop :=
  (∃ kvs k, Rd H a (DLo a kvs) ∧ y = oiV k ∧ r = valV kvs k) ∨ ∃ xs k b, Rd H a (DTo a xs) ∧ KeysAt K H xs ∧ y = .ref b ∧ SqT K H b (k.map oiV) ∧ r = valX xs k
def OPut (K : PySem.W.Frag) (H : Hp) (a : Addr) (y v : V) (H' : Hp) : Prop :=
  (∃ kvs k, H a = some (DLo a kvs) ∧ y = oiV k ∧ kvs.length < sizeLine ∧ H' = upd H a (DLo a (putK kvs k v))) ∨
  ∃ xs k b, H a = some (DTo a xs) ∧ KeysAt K H xs ∧ y = .ref b ∧ SqT K H b (k.map oiV) ∧ xs.length < sizeLine ∧ H' = upd H a (DTo a (putX xs k b v))
def IsO (K : PySem.W.Frag) (H : Hp) (a : Addr) : Prop := (∃ kvs, Rd H a (DLo a kvs)) ∨ ∃ xs, Rd H a (DTo a xs) ∧ KeysAt K H xs
variable {y v d : V} {u r : Value} {o : Option V} {A : Around} {E : Value → Shared → Prop}
theorem OGet.isO (g : OGet X.K H a y o) : IsO X.K H a := by
  rcases g with ⟨kvs, k, e, _, _⟩ | ⟨xs, k, b, e, hx, _, _, _⟩
  · exact .inl ⟨kvs, e⟩
  · exact .inr ⟨xs, e, hx⟩
theorem isO_at (I : Inv X pins σ H s) (d : IsO X.K H a) :
    s.TypeIs (.ref a) "dict" ∧ (∀ b, Value.ref a = .ref b → ∃ ob, s.heap.get? b = some ob ∧ ob.dict = none) ∧ (a == sysModules) = false := by
  rcases d with ⟨kvs, e⟩ | ⟨xs, e, hx⟩
  · obtain ⟨_, hd, vs, _, dd⟩ := dl_of I.hok e
    refine ⟨dd.typeIs, fun b q => ?_, hd⟩
    cases q
    obtain ⟨ob, _, _, h1, h2, _⟩ := dd
    exact ⟨ob, h1, h2.2.1⟩
  · obtain ⟨_, hd, xs, _, dd⟩ := dt_of I e hx
    refine ⟨dd.typeIs, fun b q => ?_, hd⟩
    cases q
    obtain ⟨ob, _, _, h1, h2, _⟩ := dd
    exact ⟨ob, h1, h2.2.1⟩
theorem o_getItem {Q : Value → Shared → Prop} (hu : A.units + 1 < cLine) (I : Inv X pins σ H s) (g : OGet X.K H a y (some v)) (ry : RelV y u) (h : ∀ w' s', Inv X pins σ H s' → RelV v w' → Q w' s') :
    wpAny (model X.prog X.w) A (getItem (.ref a) u) Q E s := by
  rcases g with ⟨kvs, k, e, ey, l⟩ | ⟨xs, k, b, e, hx, ey, eb, l⟩
  · subst ey
    obtain ⟨z, hd, vs, rel, dd⟩ := dl_of I.hok e
    obtain ⟨w', hw, rw'⟩ := RelO.some_of (v := v) (o := valueAt vs k) (by rw [l]; exact rel.val k)
    exact wpAny_getItem_of (knd := optKind X.prog X.w) (oiV_is ry) dd.mapOf hw (h w' _ (I.tok _) rw')
  · subst ey
    cases (show u = Value.ref b from ry)
    obtain ⟨z, hd, ys, rel, dd⟩ := dt_of I e hx
    obtain ⟨w', hw, rw'⟩ := RelO.some_of (v := v) (o := (atKey ys k).map (·.2)) (by rw [l]; exact rel.val k)
    obtain ⟨p, hp, hp2⟩ := Option.map_eq_some_iff.mp hw
    refine wpAny_getItem_heap (tupleKind_room_in1 hu) (ot_key I eb) dd hp ?_
    rw [hp2]
    exact h w' _ (I.tok _) rw'
theorem o_in {Q : Value → Shared → Prop} (hu : A.units + 1 < cLine) (I : Inv X pins σ H s) (g : OGet X.K H a y o) (ry : RelV y u) (h : ∀ s', Inv X pins σ H s' → Q (.bool o.isSome) s') :
    wpAny (model X.prog X.w) A (compareOp .In u (.ref a)) Q E s := by
  rcases g with ⟨kvs, k, e, ey, l⟩ | ⟨xs, k, b, e, hx, ey, eb, l⟩
  · subst ey
    obtain ⟨z, hd, vs, rel, dd⟩ := dl_of I.hok e
    refine wpAny_in_of (knd := optKind X.prog X.w) (oiV_is ry) hd dd.mapOf ?_
    rw [← (rel.val k).isSome_eq, ← l]
    exact h _ (I.tok _)
  · subst ey
    cases (show u = Value.ref b from ry)
    obtain ⟨z, hd, ys, rel, dd⟩ := dt_of I e hx
    refine wpAny_in_heap (tupleKind_room_in1 hu) (ot_key I eb) hd dd ?_
    have q := (rel.val k).isSome_eq
    rw [Option.isSome_map] at q
    rw [← q, ← l]
    exact h _ (I.tok _)
theorem o_notIn {Q : Value → Shared → Prop} (hu : A.units + 1 < cLine) (I : Inv X pins σ H s) (g : OGet X.K H a y o) (ry : RelV y u) (h : ∀ s', Inv X pins σ H s' → Q (.bool (!o.isSome)) s') :
    wpAny (model X.prog X.w) A (compareOp .NotIn u (.ref a)) Q E s := by
  rcases g with ⟨kvs, k, e, ey, l⟩ | ⟨xs, k, b, e, hx, ey, eb, l⟩
  · subst ey
    obtain ⟨z, hd, vs, rel, dd⟩ := dl_of I.hok e
    refine wpAny_notIn_of (knd := optKind X.prog X.w) (oiV_is ry) hd dd.mapOf ?_
    rw [← (rel.val k).isSome_eq, ← l]
    exact h _ (I.tok _)
  · subst ey
    cases (show u = Value.ref b from ry)
    obtain ⟨z, hd, ys, rel, dd⟩ := dt_of I e hx
    refine wpAny_notIn_heap (tupleKind_room_in1 hu) (ot_key I eb) hd dd ?_
    have q := (rel.val k).isSome_eq
    rw [Option.isSome_map] at q
    rw [← q, ← l]
    exact h _ (I.tok _)
theorem o_get2 {Q : Value → Shared → Prop} (hu : A.units + 1 < cLine) (I : Inv X pins σ H s) (g : OGet X.K H a y o) (ry : RelV y u) (rd : RelV d r) (h : ∀ w' s', Inv X pins σ H s' → RelV (o.getD d) w' → Q w' s') :
    wpAny (model X.prog X.w) A (call (.builtin "dict.get") [.ref a, u, r]) Q E s := by
  rcases g with ⟨kvs, k, e, ey, l⟩ | ⟨xs, k, b, e, hx, ey, eb, l⟩
  · subst ey
    obtain ⟨z, hd, vs, rel, dd⟩ := dl_of I.hok e
    refine call_meetsIn PySem.F.slot_dict_get dd.typeIs PySem.F.entry_dict_get (PySem.F.args_dict_get_3 _ _ _) (meets_dict_get_default (optKind X.prog X.w) a (oiV_is ry) hd r) ⟨_, dd.mapOf, h _ _ (I.tok _) ?_⟩
    rw [l]
    exact (rel.val k).getD rd
  · subst ey
    cases (show u = Value.ref b from ry)
    obtain ⟨z, hd, ys, rel, dd⟩ := dt_of I e hx
    refine call_meetsIn PySem.F.slot_dict_get dd.typeIs PySem.F.entry_dict_get (PySem.F.args_dict_get_3 _ _ _) (meetsH_dict_get_default (otKind X.prog X.w) a b hd r) ⟨tupleKind_room_in1 hu, k, ys, ot_key I eb, dd, h _ _ (I.tok _) ?_⟩
    rw [l]
    exact (rel.val k).getD rd
theorem o_setItem {H' : Hp} {Q : Unit → Shared → Prop} (hu : A.units + 1 < cLine) (I : Inv X pins σ H s) (g : OPut X.K H a y v H') (ry : RelV y u) (rv : RelV v r) (h : ∀ s', Inv X pins σ H' s' → Q () s') :
    wpAny (model X.prog X.w) A (setItem (.ref a) u r) Q E s := by
  rcases g with ⟨kvs, k, e, ey, l, eH⟩ | ⟨xs, k, b, e, hx, ey, eb, l, eH⟩
  · subst ey eH
    obtain ⟨z, hd, vs, rel, dd⟩ := dl_of I.hok (.inl e)
    have hz : vs.length ≤ sizeLine := by rw [← rel.length]; exact z
    have hl : (putK kvs k v).length ≤ sizeLine := by have := length_putK kvs k v; omega
    refine wpAny_setItem_pairs (hsz := hz) (knd := optKind X.prog X.w) (oiV_is ry) dd fun h' dd' hs => h _ ?_
    have he : ∃ q, h'.get? a = some q := let ⟨q, _, _, hq, _⟩ := dd'; ⟨q, hq⟩
    exact d_write I (by rw [e]; exact True.intro) hs he (dl_mk hl hd (rel.put k rv) dd')
  · subst ey eH
    cases (show u = Value.ref b from ry)
    obtain ⟨z, hd, ys, rel, dd⟩ := dt_of I (.inl e) hx
    have hz : ys.length ≤ sizeLine := by rw [← Paired.length rel]; exact z
    have hl : (putX xs k b v).length ≤ sizeLine := by have := putX_len (xs := xs) (k := k) (b := b) (v := v); omega
    refine wpAny_setItem_heap (hsz := hz) (tupleKind_room_in1 hu) (ot_key I eb) dd fun h' dd' hs => h _ ?_
    have he : ∃ q, h'.get? a = some q := let ⟨q, _, _, hq, _⟩ := dd'; ⟨q, hq⟩
    exact d_write I (by rw [e]; exact True.intro) hs he (dt_mk hl hd (rel.put rv) dd')
/-- the empty dict -/
theorem ok_of_dk0 {P : Program} {w : World} {h : Heap} (x : ObjOk P w H h a (.dK [])) : ObjOk P w H h a (DLo a []) ∧ ObjOk P w H h a (DTo a []) := by
  obtain ⟨z, hd, vs, rel, o, es, ep, x1, x2, x3, hk, hp, hn⟩ := x
  cases rel
  have e0 : es = #[] := by
    have := hp.length
    simp only [List.length_nil] at this
    exact Array.eq_empty_of_size_eq_zero (by simpa using this)
  subst e0
  exact ⟨dl_ok (Nat.zero_le _) hd .nil ⟨o, ep, x1, x2, x3⟩ .nil, dt_ok (Nat.zero_le _) hd .nil ⟨o, ep, x1, x2, x3⟩ .nil⟩
/-! dict(d) -/
theorem call_dictH {prog : Program} {w : World} {K : Type} [DecidableEq K] {knd : HeapKind prog w K} {A : Around} {E : Value → Shared → Prop} {s : Shared} {o : Addr} {more : List (K × Addr × Value)} {Q : Value → Shared → Prop} (hu : knd.room A.in1.in1) (hoS : (o == sysModules) = false) (ho : s.heap.DictOfH knd o more) (hty : ∀ x ∈ more, s.TypeIs (.ref x.2.1) "tuple") (hap : (more.map fun x => knd.hash x.1).Nodup) (hsz : more.length ≤ sizeLine)
    (hst : ∀ h' : Heap, (∀ b q, s.heap.get? b = some q → h'.get? b = some q) → ∀ x ∈ more, knd.is h' x.1 x.2.1)
    (h : ∀ h', h'.DictOfH knd s.heap.objs.size more → (∀ b q, s.heap.get? b = some q → h'.get? b = some q) → Q (.ref s.heap.objs.size) { s with heap := h' }) :
    wpAny (model prog w) A (call (.type "dict") [.ref o]) Q E s := by
  refine callType_codes (Q₁ := fun obj s₁ => obj = .ref s.heap.objs.size ∧ s₁ = { s with heap := s.heap.push { cls := .type "dict", data := .dict #[] } }) PySem.F.kt_called_dict (PySem.F.kt_typeCall_dict_1 _) PySem.F.entry_dict_init (kt_code_dict_new _ ⟨rfl, rfl⟩) ?_
  rintro obj s₁ ⟨rfl, rfl⟩
  have hnew : (s.heap.push { cls := .type "dict", data := .dict #[] }).DictOfH knd s.heap.objs.size [] := Heap.DictOfH.new s.heap
  have up : ∀ b q, s.heap.get? b = some q → (s.heap.push { cls := .type "dict", data := .dict #[] }).get? b = some q := fun b q e => Heap.get?_push_of_some _ e
  have ho' : (s.heap.push { cls := .type "dict", data := .dict #[] }).DictOfH knd o more := by
    obtain ⟨ob, es, ep, g1, g2, g3, g4, g5, g6⟩ := ho
    exact ⟨ob, es, ep, up _ _ g1, g2, g3, g4, hst _ up, g6⟩
  have hdo : s.heap.objs.size ≠ o := by
    obtain ⟨_, _, _, hg, _⟩ := ho
    exact fun e => absurd (Heap.lt_size hg) (by rw [e]; exact Nat.lt_irrefl _)
  have hnd : (more.map (·.1)).Nodup := ho.nodup
  refine ⟨hnew.typeIs, PySem.F.args_dict_init_2 _ _, ?_⟩
  unfold Builtin.«dict.__init__»
  refine wpAny_bind ?_
  unfold Builtin.Dict.selfAndRest
  refine wpAny_bind (wpAny_notOrdered_dict hnew.typeIs ?_)
  show wpAny _ _ (pure (s.heap.objs.size, [Value.ref o])) _ _ _
  refine wpAny_pure ?_
  show wpAny _ _ (Builtin.Dict.updateFrom "dict.__init__" s.heap.objs.size (.ref o) [] .none) _ _ _
  unfold Builtin.Dict.updateFrom
  refine wpAny_bind (wpAny_typeOf ho'.typeIs ?_)
  rw [if_neg (by decide)]
  refine wpAny_bind ?_
  unfold Builtin.Dict.merge
  refine wpAny_bind ?_
  unfold Builtin.Dict.readDirectly
  refine wpAny_bind (wpAny_isInstance ho'.typeIs isSubtype_dict_dict ?_)
  simp only [Bool.not_true, Bool.false_eq_true, if_false]
  refine wpAny_bind (wpAny_specialOf ho'.typeIs PySem.F.slot_dict_iter.lookup (wpAny_pure ?_))
  simp only [beq_self_eq_true, if_true]
  refine wpAny_bind (wpAny_pure ?_)
  refine wpAny_mergeDict_heap (hsz := by simpa using hsz) hu hdo hoS hnew ho' (.inr ⟨fun x hx => ?_, hap⟩) fun h' hd' _ hs' => ?_
  · obtain ⟨ob, e, hc⟩ := hty x hx
    exact ⟨ob, up _ _ e, hc⟩
  · show wpAny _ _ (Builtin.Dict.addKeywords s.heap.objs.size [] >>= _) _ _ _
    rw [storedAllH_nil_of_nodup more hnd] at hd'
    exact wpAny_bind (wpAny_pure (wpAny_pure ⟨rfl, h h' hd' fun b q e => hs'.extBut b q (Nat.ne_of_lt (Heap.lt_size e)) (up _ _ e)⟩))
theorem o_copyOf {Q : Value → Shared → Prop} (hu : A.units + 2 < cLine) (I : Inv X pins σ H s) {xs : List (List OI × Addr × V)} (e : Rd H a (DTo a xs)) (hx : KeysAt X.K H xs) (hap : (xs.map fun x => otHash x.1).Nodup) (h : ∀ p s', H p = none → Inv X pins σ (upd H p (DTo p xs)) s' → Q (.ref p) s') : wpAny (model X.prog X.w) A (call (.type "dict") [.ref a]) Q E s := by
  obtain ⟨z, hd, ys, rel, dd⟩ := dt_of I e hx
  have ek : (ys.map fun y => (otKind X.prog X.w).hash y.1) = xs.map fun x => otHash x.1 := by
    have := rel.keys
    have h2 := congrArg (List.map otHash) this
    rw [List.map_map, List.map_map] at h2
    exact h2.symm
  refine call_dictH (tupleKind_room_in1 (A := A.in1) hu) hd dd (keyed_apart tupleKind_stays dd) (by rw [ek]; exact hap) (by rw [← Paired.length rel]; exact z) (fun h' hk y hy => ?_) fun h' dd' hk => ?_
  · obtain ⟨_, _, _, _, _, _, _, his, _⟩ := dd
    exact tupleKind_stays.stays (fun b o _ _ e _ => hk b o e) (his y hy)
  · exact h _ _ (I.hok.fresh (Nat.le_refl _)) (I.laid (a := s.heap.objs.size) (o := DTo s.heap.objs.size xs) (t' := s.toks) hk (Nat.le_refl _) (dt_mk z (beq_eq_false_iff_ne.mpr (Ne.symm (Nat.ne_of_lt I.big))) rel dd'))
end
/-! ### the rules of expressions -/
def tOGet (K : PySem.W.Frag) (td ty : TE) : TE := fun σ H Q => td σ H fun x H1 => ty σ H1 fun y H2 => ∃ a v, x = .ref a ∧ OGet K H2 a y (some v) ∧ Q v H2
def tOIn (K : PySem.W.Frag) (ty td : TE) : TE := fun σ H Q => ty σ H fun y H1 => td σ H1 fun x H2 => ∃ a o, x = .ref a ∧ OGet K H2 a y o ∧ Q (.bl o.isSome) H2
def tONotIn (K : PySem.W.Frag) (ty td : TE) : TE := fun σ H Q => ty σ H fun y H1 => td σ H1 fun x H2 => ∃ a o, x = .ref a ∧ OGet K H2 a y o ∧ Q (.bl (!o.isSome)) H2
def sOPutP (K : PySem.W.Frag) (td ty tv : TE) : TS := fun D σ H => tv σ H fun v H1 => td σ H1 fun x H2 => ty σ H2 fun y H3 => ∃ a H4, x = .ref a ∧ OPut K H3 a y v H4 ∧ D.nx σ H4
def tOGet2 (K : PySem.W.Frag) (td ty tx : TE) : TE := fun σ H Q => td σ H fun x H1 => ∃ a, x = .ref a ∧ IsO K H1 a ∧ ty σ H1 fun y H2 => tx σ H2 fun z H3 => ∃ o, OGet K H3 a y o ∧ Q (o.getD z) H3
section
variable {X : Cx} {o i e f value : Expr} {pos pos' tpos apos cpos : Pos} {td ty tv tx : TE}
theorem pe_oget (hu : X.A.units + 1 < cLine) (ho : PE X o td) (hi : PE X i ty) (hs : NoSl i) : PE X (.Subscript o i pos) (tOGet X.K td ty) := by
  refine ⟨fun pins s σ H Q I h => ?_⟩
  refine subD_of PySem.F.slot_dict_getitem.lookup hs (thn (ho.run pins s σ H _ I h) fun u s1 ⟨x, H1, I1, rx, q1⟩ => thn (hi.run pins s1 σ H1 _ I1 q1) fun iv s2 ⟨y, H2, I2, ry, a, v, ex, g, q2⟩ => ?_)
  subst ex
  obtain rfl : u = Value.ref a := rx
  exact ⟨(isO_at I2 g.isO).1, o_getItem hu I2 g ry fun w' s3 I3 rw' => ⟨v, H2, I3, rw', q2⟩⟩
theorem pc_oin (hu : X.A.units + 1 < cLine) (hi : PE X i ty) (ho : PE X o td) : PC X .In i o (tOIn X.K ty td) := by
  refine ⟨fun pins s σ H Q I h => ?_⟩
  refine thn (hi.run pins s σ H _ I h) fun iv s1 ⟨y, H1, I1, ry, q1⟩ => thn (ho.run pins s1 σ H1 _ I1 q1) fun u s2 ⟨x, H2, I2, rx, a, ov, ex, g, q2⟩ => ?_
  subst ex
  obtain rfl : u = Value.ref a := rx
  exact o_in hu I2 g ry fun s3 I3 => ⟨.bl ov.isSome, H2, I3, rfl, q2⟩
theorem pc_onotin (hu : X.A.units + 1 < cLine) (hi : PE X i ty) (ho : PE X o td) : PC X .NotIn i o (tONotIn X.K ty td) := by
  refine ⟨fun pins s σ H Q I h => ?_⟩
  refine thn (hi.run pins s σ H _ I h) fun iv s1 ⟨y, H1, I1, ry, q1⟩ => thn (ho.run pins s1 σ H1 _ I1 q1) fun u s2 ⟨x, H2, I2, rx, a, ov, ex, g, q2⟩ => ?_
  subst ex
  obtain rfl : u = Value.ref a := rx
  exact o_notIn hu I2 g ry fun s3 I3 => ⟨.bl (!ov.isSome), H2, I3, rfl, q2⟩
theorem ps_oput (hu : X.A.units + 1 < cLine) (ho : PE X o td) (hi : PE X i ty) (hv : PE X value tv) (hs : swapsWith value (some (.Subscript o i pos')) pos.line X.env = pure false) :
    PS X (.Assign [.Subscript o i pos'] value pos) (sOPutP X.K td ty tv) := by
  refine ⟨fun pins s σ H D I h => ?_⟩
  refine wpAny_Assign_Subscript (thn (hv.run pins s σ H _ I h) fun r s1 ⟨v, H1, I1, rv, q1⟩ => thn (ho.run pins s1 σ H1 _ I1 q1) fun u s2 ⟨x, H2, I2, rx, q2⟩ => thn (hi.run pins s2 σ H2 _ I2 q2) fun iv s3 ⟨y, H3, I3, ry, a, H4, ex, g, q3⟩ => ?_) hs
  subst ex
  obtain rfl : u = Value.ref a := rx
  exact o_setItem hu I3 g ry rv fun s4 I4 => ⟨σ, H4, I4, q3⟩
theorem pe_oget2 (hu : X.A.units + 1 < cLine) (ho : PE X o td) (he : PE X e ty) (hf : PE X f tx) (m : M2 X o "get" apos e f cpos) : PE X (.Call (.Attribute o "get" apos) [e, f] [] cpos) (tOGet2 X.K td ty tx) := by
  refine ⟨fun pins s σ H Q I h => ?_⟩
  refine wpAny_Call_method m.base m.few m.line PySem.F.plainAttrs_dict PySem.F.slot_dict_get PySem.F.type_dict_get (thn (ho.run pins s σ H _ I h) fun u s1 ⟨x, H1, I1, rx, a, ex, d, q1⟩ => ?_)
  subst ex
  obtain rfl : u = Value.ref a := rx
  obtain ⟨t1, t2, _⟩ := isO_at I1 d
  refine ⟨t1, t2, ?_⟩
  rw [m.trees]
  refine Calls.callWith_builtin rfl (Calls.evalArgs_plain (Calls.spliced_cons (thn (he.run pins s1 σ H1 _ I1 q1) fun iv s2 ⟨y, H2, I2, ry, q2⟩ =>
    Calls.spliced_cons (thn (hf.run pins s2 σ H2 _ I2 q2) fun fv s3 ⟨z, H3, I3, rz, ov, g, q3⟩ => Calls.spliced_nil ?_))))
  exact o_get2 hu I3 g ry rz fun w' s4 I4 rw' => ⟨_, H3, I4, rw', q3⟩
end
end Pu
/-! The data layer: what a piece of Python does, told over plain data; heaps and addresses stay below. -/
namespace Pu
open PySem PySem.Spec PyProof.Rows L2

abbrev D := PyData
abbrev St := L2.St

/-! ### the weakest readings -/
@[irreducible] def wpE (X : Cx) (e : Expr) : TE := fun σ H Q => ∀ (pins : List (Addr × Obj)) (s : Shared), Inv X pins σ H s → wpAny (model X.prog X.w) X.A (eval e X.env) (EP X pins σ Q) X.xe s
theorem pe_w {X : Cx} {e : Expr} : PE X e (wpE X e) := ⟨fun pins s _ _ _ I h => by unfold wpE at h; exact h pins s I⟩
theorem wpE_of {X : Cx} {e : Expr} {t : TE} (h : PE X e t) {σ : St} {H : Hp} {Q : VK} (q : t σ H Q) : wpE X e σ H Q := by
  unfold wpE
  exact fun pins s I => h.run pins s σ H Q I q
@[irreducible] def wpT (X : Cx) (e : Expr) : TT := fun σ H Q => ∀ (pins : List (Addr × Obj)) (s : Shared), Inv X pins σ H s → wpAny (model X.prog X.w) X.A (isTrue e X.env (eval e X.env)) (TP X pins σ Q) X.xe s
theorem pt_w {X : Cx} {e : Expr} : PT X e (wpT X e) := ⟨fun pins s _ _ _ I h => by unfold wpT at h; exact h pins s I⟩
theorem wpT_of {X : Cx} {e : Expr} {t : TT} (h : PT X e t) {σ : St} {H : Hp} {Q : Bool → Hp → Prop} (q : t σ H Q) : wpT X e σ H Q := by
  unfold wpT
  exact fun pins s I => h.run pins s σ H Q I q
@[irreducible] def wpW (X : Cx) (e : Expr) : TT := fun σ H Q => ∀ (wh : Sem Value) (pins : List (Addr × Obj)) (s : Shared), Inv X pins σ H s → wpAny (model X.prog X.w) X.A (isTrue e X.env wh) (TP X pins σ Q) X.xe s
theorem pw_w {X : Cx} {e : Expr} : PW X e (wpW X e) := ⟨fun wh pins s _ _ _ I h => by unfold wpW at h; exact h wh pins s I⟩
theorem wpW_of {X : Cx} {e : Expr} {t : TT} (h : PW X e t) {σ : St} {H : Hp} {Q : Bool → Hp → Prop} (q : t σ H Q) : wpW X e σ H Q := by
  unfold wpW
  exact fun wh pins s I => h.run wh pins s σ H Q I q
@[irreducible] def wpA (X : Cx) (es : List Expr) : TA := fun σ H Q => ∀ (pos : Pos) (pins : List (Addr × Obj)) (s : Shared), Inv X pins σ H s → wpAny (model X.prog X.w) X.A (spliced (backTo pos (starEach es X.env))) (AP X pins σ Q) X.xe s
theorem pa_w {X : Cx} {es : List Expr} : PA X es (wpA X es) := ⟨fun pos pins s _ _ _ I h => by unfold wpA at h; exact h pos pins s I⟩
theorem wpA_of {X : Cx} {es : List Expr} {t : TA} (h : PA X es t) {σ : St} {H : Hp} {Q : List V → Hp → Prop} (q : t σ H Q) : wpA X es σ H Q := by
  unfold wpA
  exact fun pos pins s I => h.run pos pins s σ H Q I q
@[irreducible] def wpS (X : Cx) (st : Stmt) : TS := fun D σ H => ∀ (pins : List (Addr × Obj)) (s : Shared), Inv X pins σ H s → wpAny (model X.prog X.w) X.A (exec st X.env) (SP X pins D) X.xe s
theorem ps_w {X : Cx} {st : Stmt} : PS X st (wpS X st) := ⟨fun pins s _ _ _ I h => by unfold wpS at h; exact h pins s I⟩
theorem wpS_of {X : Cx} {st : Stmt} {t : TS} (h : PS X st t) {σ : St} {H : Hp} {D : Ends} (q : t D σ H) : wpS X st D σ H := by
  unfold wpS
  exact fun pins s I => h.run pins s σ H D I q
@[irreducible] def wpSs (X : Cx) (st : List Stmt) : TS := fun D σ H => ∀ (pins : List (Addr × Obj)) (s : Shared), Inv X pins σ H s → wpAny (model X.prog X.w) X.A (execs st X.env) (SP X pins D) X.xe s
theorem pss_w {X : Cx} {st : List Stmt} : PSs X st (wpSs X st) := ⟨fun pins s _ _ _ I h => by unfold wpSs at h; exact h pins s I⟩
theorem wpSs_of {X : Cx} {st : List Stmt} {t : TS} (h : PSs X st t) {σ : St} {H : Hp} {D : Ends} (q : t D σ H) : wpSs X st D σ H := by
  unfold wpSs
  exact fun pins s I => h.run pins s σ H D I q
@[irreducible] def wpG (X : Cx) (tg : Expr) : TG := fun v σ H Q => ∀ (pins : List (Addr × Obj)) (s : Shared) (u : Value), Inv X pins σ H s → RelV v u → wpAny (model X.prog X.w) X.A (assign tg X.env u) (fun _ s' => ∃ σ' H', Inv X pins σ' H' s' ∧ Q σ' H') X.xe s
theorem pg_w {X : Cx} {tg : Expr} : PG X tg (wpG X tg) := ⟨fun pins s _ _ _ u _ I r h => by unfold wpG at h; exact h pins s u I r⟩
theorem wpG_of {X : Cx} {tg : Expr} {t : TG} (h : PG X tg t) {v : V} {σ : St} {H : Hp} {Q : St → Hp → Prop} (q : t v σ H Q) : wpG X tg v σ H Q := by
  unfold wpG
  exact fun pins s u I r => h.run pins s σ H v u Q I r q
@[irreducible] def wpGs (X : Cx) (ts : List Expr) : TGs := fun vs σ H Q => ∀ (pins : List (Addr × Obj)) (s : Shared) (us : List Value), Inv X pins σ H s → Vals vs us → wpAny (model X.prog X.w) X.A (assignInOrder ((assignEach ts X.env).map (·.2)) us) (fun _ s' => ∃ σ' H', Inv X pins σ' H' s' ∧ Q σ' H') X.xe s
theorem pgs_w {X : Cx} {ts : List Expr} : PGs X ts (wpGs X ts) := ⟨fun pins s _ _ _ us _ I r h => by unfold wpGs at h; exact h pins s us I r⟩
theorem wpGs_of {X : Cx} {ts : List Expr} {t : TGs} (h : PGs X ts t) {vs : List V} {σ : St} {H : Hp} {Q : St → Hp → Prop} (q : t vs σ H Q) : wpGs X ts vs σ H Q := by
  unfold wpGs
  exact fun pins s us I r => h.run pins s σ H vs us Q I r q
@[irreducible] def wpI (X : Cx) (tg iter : Expr) : TI := fun σ H R => ∀ (pins : List (Addr × Obj)) (s : Shared), Inv X pins σ H s →
    wpAny (model X.prog X.w) X.A (eval iter X.env) (fun v s1 => wpAny (model X.prog X.w) X.A (pyIter v) (PIE X pins σ tg R) X.xe s1) X.xe s
theorem pi_w {X : Cx} {tg iter : Expr} : PI X tg iter (wpI X tg iter) := ⟨fun pins s _ _ _ I h => by unfold wpI at h; exact h pins s I⟩
theorem wpI_of {X : Cx} {tg iter : Expr} {t : TI} (h : PI X tg iter t) {σ : St} {H : Hp} {R : It → Hp → Prop} (q : t σ H R) : wpI X tg iter σ H R := by
  unfold wpI
  exact fun pins s I => h.run pins s σ H R I q

/-! ### data in a heap -/
/-- a tuple is known to be plain, or begins with no object -/
def NPh (xs : List V) : Prop := ∃ x, xs.head? = some x ∧ ∀ b : Addr, x ≠ .ref b
def okT : HO → Prop
  | .tup xs => NPh xs
  | .frz o (.tup _) => o.dict = none
  | .ext φ => ∀ h : Heap, φ h → ∃ a o es ep, h.get? a = some o ∧ o.data = .dict es ep
  | _ => True
open Classical in
noncomputable def res (H : Hp) (ow : Addr → Prop) : Hp := fun a => if ow a ∨ ∃ o, H a = some o ∧ ¬ okT o then none else H a
theorem res_some {H : Hp} {ow : Addr → Prop} {a : Addr} {o : HO} : res H ow a = some o ↔ ¬ ow a ∧ H a = some o ∧ okT o := by
  unfold res
  by_cases h : ow a ∨ ∃ o, H a = some o ∧ ¬ okT o
  · rw [if_pos h]
    refine ⟨fun z => (nomatch z), fun z => ?_⟩
    rcases h with h | ⟨u, h1, h2⟩
    · exact absurd h z.1
    · rw [z.2.1] at h1; cases h1
      exact absurd z.2.2 h2
  · rw [if_neg h]
    refine ⟨fun z => ⟨fun y => h (.inl y), z, Classical.byContradiction fun y => h (.inr ⟨o, z, y⟩)⟩, fun z => z.2.1⟩
theorem res_put {H : Hp} {ow : Addr → Prop} {a : Addr} {o : HO} (n : ¬ ow a) (e : H a = some o) (k : okT o := by trivial) : res H ow a = some o := res_some.mpr ⟨n, e, k⟩
theorem res_at {H : Hp} {ow : Addr → Prop} {a : Addr} {o : HO} (h : res H ow a = some o) : H a = some o := (res_some.mp h).2.1
theorem res_ok {H : Hp} {ow : Addr → Prop} {a : Addr} {o : HO} (h : res H ow a = some o) : okT o := (res_some.mp h).2.2
theorem res_none {H : Hp} {ow : Addr → Prop} {a : Addr} (h : H a = none) : res H ow a = none := by
  unfold res
  split
  · rfl
  · exact h
theorem res_le {H : Hp} {ow : Addr → Prop} : Same (res H ow) H := fun _ _ e => res_at e
theorem res_mono {H H' : Hp} {ow ow' : Addr → Prop} (h : ∀ a o, ¬ ow a → H a = some o → ¬ ow' a ∧ H' a = some o) : Same (res H ow) (res H' ow') := fun a o e => by
  obtain ⟨n, e, k⟩ := res_some.mp e
  exact res_put (h a o n e).1 (h a o n e).2 k

variable {K : PySem.W.Frag}
theorem rd_same {H H' : Hp} {a : Addr} {u : HO} (e : Same H H') (h : Rd H a u) : Rd H' a u := by
  rcases h with h | ⟨o, h⟩
  · exact .inl (e _ _ h)
  · exact .inr ⟨o, e _ _ h⟩
theorem sqL_same {H H' : Hp} {a : Addr} {xs : List V} (e : Same H H') (h : SqL K H a xs) : SqL K H' a xs := by
  rcases h with h | h
  · exact .inl (rd_same e h)
  · exact .inr h
theorem sqT_same {H H' : Hp} {a : Addr} {xs : List V} (e : Same H H') (h : SqT K H a xs) : SqT K H' a xs := by
  rcases h with h | h
  · exact .inl (rd_same e h)
  · exact .inr h
mutual
theorem dp_same {H H' : Hp} (e : Same H H') : ∀ (d : D) (v : V), Dp K H v d → Dp K H' v d
  | .none, _, h => by cases h; exact .non
  | .bool b, _, h => by cases h; exact .bl b
  | .int i, _, h => by cases h; exact .int i
  | .str x, _, h => by cases h; exact .str x
  | .list ds, _, h => by
    cases h with
    | lst hs ha => exact .lst (sqL_same e hs) (dpAll_same e ds _ ha)
  | .tuple ds, _, h => by
    cases h with
    | tup hs ha => exact .tup (sqT_same e hs) (dpAll_same e ds _ ha)
  | .dict _, _, h => by cases h
theorem dpAll_same {H H' : Hp} (e : Same H H') : ∀ (ds : List D) (vs : List V), DpAll K H vs ds → DpAll K H' vs ds
  | [], _, h => by cases h; exact .nil
  | d :: ds, _, h => by
    cases h with
    | cons h1 h2 => exact .cons (dp_same e d _ h1) (dpAll_same e ds _ h2)
end
/-! data without lists -/
mutual
def lf : D → Bool
  | .none => true
  | .bool _ => true
  | .int _ => true
  | .str _ => true
  | .list _ => false
  | .tuple ds => lfAll ds
  | .dict _ => false
def lfAll : List D → Bool
  | [] => true
  | d :: ds => lf d && lfAll ds
end
theorem lfAll_iff : ∀ {ds : List D}, lfAll ds = true ↔ ∀ d ∈ ds, lf d = true
  | [] => by simp [lfAll]
  | d :: ds => by
    rw [lfAll, Bool.and_eq_true, lfAll_iff]
    simp
mutual
theorem dp_lf {H H' : Hp} (e : ∀ a xs, Rd H a (.tup xs) → Rd H' a (.tup xs)) : ∀ (d : D) (v : V), lf d = true → Dp K H v d → Dp K H' v d
  | .none, _, _, h => by cases h; exact .non
  | .bool b, _, _, h => by cases h; exact .bl b
  | .int i, _, _, h => by cases h; exact .int i
  | .str x, _, _, h => by cases h; exact .str x
  | .list ds, _, l, h => by simp [lf] at l
  | .tuple ds, _, l, h => by
    cases h with
    | tup hs ha =>
      refine .tup ?_ (dpAll_lf e ds _ (by simpa [lf] using l) ha)
      rcases hs with hs | hs
      · exact .inl (e _ _ hs)
      · exact .inr hs
  | .dict _, _, _, h => by cases h
theorem dpAll_lf {H H' : Hp} (e : ∀ a xs, Rd H a (.tup xs) → Rd H' a (.tup xs)) : ∀ (ds : List D) (vs : List V), lfAll ds = true → DpAll K H vs ds → DpAll K H' vs ds
  | [], _, _, h => by cases h; exact .nil
  | d :: ds, _, l, h => by
    cases h with
    | cons h1 h2 =>
      rw [lfAll, Bool.and_eq_true] at l
      exact .cons (dp_lf e d _ l.1 h1) (dpAll_lf e ds _ l.2 h2)
end
theorem dpAll_len {H : Hp} : ∀ {vs : List V} {ds : List D}, DpAll K H vs ds → vs.length = ds.length
  | _, [], h => by cases h; rfl
  | _, _ :: _, h => by
    cases h with
    | cons _ h2 => simp [dpAll_len h2]
theorem dpAll_get {H : Hp} : ∀ {vs : List V} {ds : List D} {i : Nat} {d : D}, DpAll K H vs ds → ds[i]? = some d → ∃ v, vs[i]? = some v ∧ Dp K H v d
  | _, [], _, _, _, e => by simp at e
  | _, _ :: _, 0, _, .cons h1 _, e => ⟨_, rfl, by
    have e' := Option.some.inj e
    exact e' ▸ h1⟩
  | _, _ :: ds, i + 1, d, .cons _ h2, e => by
    obtain ⟨v, a, b⟩ := dpAll_get (i := i) (d := d) h2 (by simpa using e)
    exact ⟨v, by simpa using a, b⟩
theorem dpAll_at {H : Hp} : ∀ {vs : List V} {ds : List D} {i : Nat} {v : V}, DpAll K H vs ds → vs[i]? = some v → ∃ d, ds[i]? = some d ∧ Dp K H v d
  | _, [], _, _, h, e => by cases h; simp at e
  | _, _ :: _, 0, _, .cons h1 _, e => ⟨_, rfl, by
    have e' := Option.some.inj e
    exact e' ▸ h1⟩
  | _, _ :: ds, i + 1, v, .cons _ h2, e => by
    obtain ⟨d, a, b⟩ := dpAll_at (i := i) (v := v) h2 (by simpa using e)
    exact ⟨d, by simpa using a, b⟩
theorem dpAll_append {H : Hp} : ∀ {vs ws : List V} {ds es : List D}, DpAll K H vs ds → DpAll K H ws es → DpAll K H (vs ++ ws) (ds ++ es)
  | _, _, [], _, .nil, h => h
  | _, _, _ :: _, _, .cons h1 h2, h => .cons h1 (dpAll_append h2 h)
theorem dpAll_take {H : Hp} : ∀ {vs : List V} {ds : List D} (n : Nat), DpAll K H vs ds → DpAll K H (vs.take n) (ds.take n)
  | _, _, 0, _ => .nil
  | _, _, _ + 1, .nil => .nil
  | _, _, n + 1, .cons h1 h2 => .cons h1 (dpAll_take n h2)
theorem dpAll_drop {H : Hp} : ∀ {vs : List V} {ds : List D} (n : Nat), DpAll K H vs ds → DpAll K H (vs.drop n) (ds.drop n)
  | _, _, 0, h => h
  | _, _, _ + 1, .nil => .nil
  | _, _, n + 1, .cons _ h2 => dpAll_drop n h2

/-! ### dicts whose keys are None and ints, or tuples of such -/
inductive Th where
  | dl (kds : List (OI × D))
  | dt (kds : List (List OI × D))
def KvOk {α : Type} (K : PySem.W.Frag) (H : Hp) : List (α × V) → List (α × D) → Prop := Paired fun p q => p.1 = q.1 ∧ Dp K H p.2 q.2
theorem KvOk.same {α : Type} {H H' : Hp} (e : Same H H') : ∀ {kvs : List (α × V)} {kds : List (α × D)}, KvOk K H kvs kds → KvOk K H' kvs kds
  | _, _, .nil => .nil
  | _, _, .cons h t => .cons ⟨h.1, dp_same e _ _ h.2⟩ (KvOk.same e t)
def XtOk (K : PySem.W.Frag) (H : Hp) : List (List OI × Addr × V) → List (List OI × D) → Prop := Paired fun x p => x.1 = p.1 ∧ SqT K H x.2.1 (x.1.map oiV) ∧ Dp K H x.2.2 p.2
def ThIs (K : PySem.W.Frag) (R : Hp) (a : Addr) (o : HO) : Th → Prop
  | .dl kds => ∃ kvs, o = DLo a kvs ∧ KvOk K R kvs kds
  | .dt kds => ∃ xs, o = DTo a xs ∧ XtOk K R xs kds
def Th.lf : Th → Bool
  | .dl kds => lfAll (kds.map (·.2))
  | .dt kds => lfAll (kds.map (·.2))
theorem XtOk.same {H H' : Hp} (e : Same H H') : ∀ {xs : List (List OI × Addr × V)} {kds : List (List OI × D)}, XtOk K H xs kds → XtOk K H' xs kds
  | _, _, .nil => .nil
  | _, _, .cons h t => .cons ⟨h.1, sqT_same e h.2.1, dp_same e _ _ h.2.2⟩ (XtOk.same e t)
theorem ThIs.same {H H' : Hp} {a : Addr} {o : HO} (e : Same H H') : ∀ {x : Th}, ThIs K H a o x → ThIs K H' a o x
  | .dl _, ⟨kvs, h1, h2⟩ => ⟨kvs, h1, KvOk.same e h2⟩
  | .dt _, ⟨xs, h1, h2⟩ => ⟨xs, h1, XtOk.same e h2⟩
theorem KvOk.lf {α : Type} {H H' : Hp} (e : ∀ a xs, Rd H a (.tup xs) → Rd H' a (.tup xs)) : ∀ {kvs : List (α × V)} {kds : List (α × D)}, lfAll (kds.map (·.2)) = true → KvOk K H kvs kds → KvOk K H' kvs kds
  | _, _, _, .nil => .nil
  | _, _, l, .cons h t => by
    simp only [List.map_cons, lfAll, Bool.and_eq_true] at l
    exact .cons ⟨h.1, dp_lf e _ _ l.1 h.2⟩ (KvOk.lf e l.2 t)
theorem XtOk.lf {H H' : Hp} (e : ∀ a xs, Rd H a (.tup xs) → Rd H' a (.tup xs)) : ∀ {xs : List (List OI × Addr × V)} {kds : List (List OI × D)}, lfAll (kds.map (·.2)) = true → XtOk K H xs kds → XtOk K H' xs kds
  | _, _, _, .nil => .nil
  | _, _, l, .cons h t => by
    simp only [List.map_cons, lfAll, Bool.and_eq_true] at l
    exact .cons ⟨h.1, h.2.1.imp (e _ _) id, dp_lf e _ _ l.1 h.2.2⟩ (XtOk.lf e l.2 t)
theorem ThIs.lf {H H' : Hp} {a : Addr} {o : HO} (e : ∀ a xs, Rd H a (.tup xs) → Rd H' a (.tup xs)) : ∀ {x : Th}, x.lf = true → ThIs K H a o x → ThIs K H' a o x
  | .dl _, l, ⟨kvs, h1, h2⟩ => ⟨kvs, h1, KvOk.lf e l h2⟩
  | .dt _, l, ⟨xs, h1, h2⟩ => ⟨xs, h1, XtOk.lf e l h2⟩
theorem ThIs.ext {H : Hp} {a : Addr} {o : HO} : ∀ {x : Th}, ThIs K H a o x → ∃ φ, o = .ext φ
  | .dl _, ⟨_, h, _⟩ => ⟨_, h⟩
  | .dt _, ⟨_, h, _⟩ => ⟨_, h⟩
/-- there, or walked -/
def ThAt (K : PySem.W.Frag) (R : Hp) (a : Addr) (x : Th) : Prop := ∃ o, Rd R a o ∧ ThIs K R a o x
theorem ThAt.same {H H' : Hp} {a : Addr} {x : Th} (e : Same H H') (h : ThAt K H a x) : ThAt K H' a x := let ⟨o, h1, h2⟩ := h; ⟨o, rd_same e h1, h2.same e⟩
/-! ### what draws change -/
/-- not a tuple | a list or a dict -/
def Mv : HO → Prop
  | .tup _ => False
  | .frz _ _ => False
  | _ => True
def Lk : HO → Prop
  | .lst _ => True
  | .dK _ => True
  | .dT _ => True
  | .set _ _ => True
  | .frz _ _ => True
  | .ext φ => ∀ h : Heap, φ h → ∃ a o, h.get? a = some o ∧ ∀ vs, o.data ≠ .fields vs
  | _ => False
theorem ThIs.lk {H : Hp} {a : Addr} {o : HO} : ∀ {x : Th}, ThIs K H a o x → Lk o
  | .dl _, ⟨_, h, _⟩ => by
    subst h
    exact fun h ⟨_, _, _, es, ⟨o, ep, e1, _, e2⟩, _⟩ => ⟨a, o, e1, fun vs z => by rw [e2] at z; cases z⟩
  | .dt _, ⟨_, h, _⟩ => by
    subst h
    exact fun h ⟨_, _, _, es, ⟨o, ep, e1, _, e2⟩, _⟩ => ⟨a, o, e1, fun vs z => by rw [e2] at z; cases z⟩
theorem ThIs.ok {H : Hp} {a : Addr} {o : HO} : ∀ {x : Th}, ThIs K H a o x → okT o
  | .dl _, ⟨_, h, _⟩ => by
    subst h
    exact fun h ⟨_, _, _, es, ⟨o, ep, e1, _, e2⟩, _⟩ => ⟨a, o, es, ep, e1, e2⟩
  | .dt _, ⟨_, h, _⟩ => by
    subst h
    exact fun h ⟨_, _, _, es, ⟨o, ep, e1, _, e2⟩, _⟩ => ⟨a, o, es, ep, e1, e2⟩
/-- a list that only one's own dict holds -/
def LLo (a : Addr) (vs : List V) : HO := .ext fun h => ∃ its n, Vals vs its ∧ h.get? a = some { cls := .type "list", data := .seq its.toArray n }
theorem rel_any (v : V) : ∃ u, RelV v u := by
  cases v with
  | non => exact ⟨_, rfl⟩
  | bl b => exact ⟨_, rfl⟩
  | int i => exact ⟨_, 0, rfl⟩
  | str x => exact ⟨_, 0, rfl⟩
  | byt b => exact ⟨_, 0, rfl⟩
  | flt b => exact ⟨_, 0, rfl⟩
  | ref a => exact ⟨_, rfl⟩
  | ty n => exact ⟨_, rfl⟩
theorem vals_any : ∀ vs : List V, ∃ us, Vals vs us
  | [] => ⟨[], .nil⟩
  | v :: vs => by
    obtain ⟨u, h⟩ := rel_any v
    obtain ⟨us, hs⟩ := vals_any vs
    exact ⟨u :: us, .cons h hs⟩
theorem heap_all (n : Nat) (ob : Obj) (hf : ∀ c d s, ob ≠ ⟨c, d, .freed, s⟩) (a : Addr) : Heap.get? ⟨Array.replicate n ob, {}⟩ a = if a < n then some ob else none := by
  unfold Heap.get?
  by_cases e : a < n
  · rw [if_pos e]
    simp only [Array.getElem?_replicate, e, if_true]
    split
    · rename_i h
      exact absurd (Option.some.inj h) (hf _ _ _)
    · rfl
  · rw [if_neg e]
    simp [Array.getElem?_replicate, e]
theorem llo_nok {a : Addr} {vs : List V} : ¬ okT (LLo a vs) := fun h => by
  obtain ⟨us, hu⟩ := vals_any vs
  have hg := heap_all (a + 1) { cls := .type "list", data := .seq us.toArray 0 } (fun c d s z => by cases z)
  obtain ⟨b, o, es, ep, e1, e2⟩ := h ⟨Array.replicate (a + 1) { cls := .type "list", data := .seq us.toArray 0 }, {}⟩ ⟨us, 0, hu, by rw [hg, if_pos (Nat.lt_succ_self a)]⟩
  rw [hg] at e1
  split at e1
  · cases e1
    cases e2
  · cases e1
theorem llo_inj {a : Addr} {vs ws : List V} (e : LLo a vs = LLo a ws) : vs = ws := by
  obtain ⟨us, hu⟩ := vals_any vs
  have hg := heap_all (a + 1) { cls := .type "list", data := .seq us.toArray 0 } (fun c d s z => by cases z)
  have e := HO.ext.inj e
  have h := congrFun e ⟨Array.replicate (a + 1) { cls := .type "list", data := .seq us.toArray 0 }, {}⟩
  obtain ⟨its, n, hv, he⟩ := (iff_of_eq h).mp ⟨us, 0, hu, by rw [hg, if_pos (Nat.lt_succ_self a)]⟩
  rw [hg, if_pos (Nat.lt_succ_self a)] at he
  have e2 : us = its := by
    injection he with he
    injection he with _ _ he _
    injection he with he _
    simpa using he
  subst e2
  exact Vals.inj hu hv
theorem llo_lk {a : Addr} {vs : List V} : Lk (LLo a vs) := fun h ⟨its, n, _, e⟩ => ⟨a, _, e, fun vs z => by cases z⟩
theorem codeO_nlk {c : Addr} {q : Str} : ¬ Lk (LamX.CodeO c q) := fun h => by
  have hg : ∀ a, (Heap.get? ⟨Array.replicate (c + 1) { cls := .none, data := .fields #[.none, .str q 0] }, {}⟩ a) = if a < c + 1 then some { cls := .none, data := .fields #[.none, .str q 0] } else none := fun a => by
    unfold Heap.get?
    by_cases e : a < c + 1
    · rw [if_pos e]
      simp [Array.getElem?_replicate, e]
    · rw [if_neg e]
      simp [Array.getElem?_replicate, e]
  obtain ⟨a, o, e1, e2⟩ := h ⟨Array.replicate (c + 1) { cls := .none, data := .fields #[.none, .str q 0] }, {}⟩ ⟨_, _, 0, by rw [hg, if_pos (Nat.lt_succ_self c)], rfl, rfl⟩
  rw [hg] at e1
  split at e1
  · cases e1
    exact e2 _ rfl
  · cases e1
structure Tn where
  ad : Addr → Prop
  inv : Hp → Prop
  val : V
  tr : ∀ {H : Hp} {a : Addr}, inv H → ad a → ∃ o, H a = some o ∧ Mv o
  dep : ∀ {H H' : Hp}, (∀ a o, H a = some o → ad a ∨ ¬ Lk o → H' a = some o) → inv H → inv H'
  /-- what is known of the heap at the def's beginning -/
  z : Hp → Prop
/-- none -/
def tn0 : Tn := ⟨fun _ => False, fun _ => True, .non, fun _ h => h.elim, fun _ h => h, fun _ => True⟩

/-! ### the state over data -/
inductive Sl where
  | un
  | dat (d : D)
  | lst (ds : List D)
  | dic (kds : List (Key × D))
  | town
  /-- a dict that is walked: read, not written -/
  | ldc (kds : List (Key × D))
  /-- a dict whose keys are tuples -/
  | dtc (kds : List (List Key × D))
  /-- one's own | looked at | walked -/
  | th (x : Th)
  | tv (x : Th)
  | tl (x : Th)
  /-- a dict whose values are lists of its own -/
  | dls (m : List (Key × List D))
def Sl.isOwn : Sl → Bool
  | .lst _ => true
  | .dic _ => true
  | .dtc _ => true
  | .th _ => true
  | .dls _ => true
  | _ => false
abbrev En := List Sl
/-- the addresses that may change -/
def own (τ : Tn) (σ : St) (ρ : En) (a : Addr) : Prop := τ.ad a ∨ ∃ (i : Nat) (s : Sl), ρ[i]? = some s ∧ s.isOwn = true ∧ σ[i]? = some (some (.ref a))
def DlsOk (K : PySem.W.Frag) (τ : Tn) (H0 H R : Hp) : List (Key × V) → List (Key × List D) → Prop := Paired fun p q => p.1 = q.1 ∧ ∃ L vs, p.2 = .ref L ∧ H0 L = none ∧ ¬ τ.ad L ∧ H L = some (LLo L vs) ∧ DpAll K R vs q.2
theorem DlsOk.mono {τ : Tn} {H0 H H' R R' : Hp} (e : Same R R') (k : ∀ L vs, ¬ τ.ad L → H L = some (LLo L vs) → H' L = some (LLo L vs)) : ∀ {kvs : List (Key × V)} {m : List (Key × List D)}, DlsOk K τ H0 H R kvs m → DlsOk K τ H0 H' R' kvs m
  | _, _, .nil => .nil
  | _, _, .cons h t => .cons (by
      obtain ⟨h1, L, vs, h2, h3, h4, h5, h6⟩ := h
      exact ⟨h1, L, vs, h2, h3, h4, k L vs h4 h5, dpAll_same e _ _ h6⟩) (DlsOk.mono e k t)
theorem DlsOk.re {τ τ' : Tn} {H0 H0' H H' R R' : Hp} (k : ∀ L vs, H0 L = none → ¬ τ.ad L → H L = some (LLo L vs) → H0' L = none ∧ ¬ τ'.ad L ∧ H' L = some (LLo L vs)) (f : ∀ vs ds, DpAll K R vs ds → DpAll K R' vs ds) : ∀ {kvs : List (Key × V)} {m : List (Key × List D)}, DlsOk K τ H0 H R kvs m → DlsOk K τ' H0' H' R' kvs m
  | _, _, .nil => .nil
  | _, _, .cons h t => .cons (by
      obtain ⟨h1, L, vs, h2, h3, h4, h5, h6⟩ := h
      obtain ⟨k1, k2, k3⟩ := k L vs h3 h4 h5
      exact ⟨h1, L, vs, h2, k1, k2, k3, f _ _ h6⟩) (DlsOk.re k f t)
def SlOk (K : PySem.W.Frag) (τ : Tn) (H0 H R : Hp) (ov : Option (Option V)) : Sl → Prop
  | .un => True
  | .dat d => ∃ v, ov = some (some v) ∧ Dp K R v d
  | .lst ds => ∃ a vs, ov = some (some (.ref a)) ∧ H0 a = none ∧ ¬ τ.ad a ∧ H a = some (.lst vs) ∧ DpAll K R vs ds
  | .dic kds => ∃ a kvs, ov = some (some (.ref a)) ∧ H0 a = none ∧ ¬ τ.ad a ∧ H a = some (.dK kvs) ∧ KvOk K R kvs kds
  | .town => ov = some (some τ.val)
  | .ldc kds => ∃ a od kvs, ov = some (some (.ref a)) ∧ R a = some (.frz od (.dK kvs)) ∧ KvOk K R kvs kds
  | .dtc kds => ∃ a kvs, ov = some (some (.ref a)) ∧ H0 a = none ∧ ¬ τ.ad a ∧ H a = some (.dT kvs) ∧ KvOk K R kvs kds
  | .th x => ∃ a o, ov = some (some (.ref a)) ∧ H0 a = none ∧ ¬ τ.ad a ∧ H a = some o ∧ ThIs K R a o x
  | .tv x => ∃ a, ov = some (some (.ref a)) ∧ ThAt K R a x
  | .tl x => ∃ a od o, ov = some (some (.ref a)) ∧ R a = some (.frz od o) ∧ ThIs K R a o x
  | .dls m => ∃ a kvs, ov = some (some (.ref a)) ∧ H0 a = none ∧ ¬ τ.ad a ∧ H a = some (.dK kvs) ∧ DlsOk K τ H0 H R kvs m ∧ (kvs.map (·.2)).Nodup ∧ (kvs.map (·.1)).Nodup
theorem SlOk.mono {τ : Tn} {H0 H H' R R' : Hp} {ov : Option (Option V)} (e : Same R R') : ∀ {s : Sl}, (s.isOwn = true → ∀ a o, (ov = some (some (.ref a)) ∨ ∃ vs, o = LLo a vs) → ¬ τ.ad a → H a = some o → H' a = some o) → SlOk K τ H0 H R ov s → SlOk K τ H0 H' R' ov s
  | .un, _, _ => trivial
  | .dat d, _, ⟨v, a, b⟩ => ⟨v, a, dp_same e d v b⟩
  | .lst ds, k, ⟨a, vs, h1, h2, h3, h4, h5⟩ => ⟨a, vs, h1, h2, h3, k rfl a _ (.inl h1) h3 h4, dpAll_same e ds vs h5⟩
  | .dic kds, k, ⟨a, vs, h1, h2, h3, h4, h5⟩ => ⟨a, vs, h1, h2, h3, k rfl a _ (.inl h1) h3 h4, KvOk.same e h5⟩
  | .town, _, h => h
  | .ldc kds, _, ⟨a, od, kvs, h1, h2, h3⟩ => ⟨a, od, kvs, h1, e _ _ h2, KvOk.same e h3⟩
  | .dtc kds, k, ⟨a, vs, h1, h2, h3, h4, h5⟩ => ⟨a, vs, h1, h2, h3, k rfl a _ (.inl h1) h3 h4, KvOk.same e h5⟩
  | .th x, k, ⟨a, o, h1, h2, h3, h4, h5⟩ => ⟨a, o, h1, h2, h3, k rfl a _ (.inl h1) h3 h4, h5.same e⟩
  | .tv x, _, ⟨a, h1, h2⟩ => ⟨a, h1, h2.same e⟩
  | .tl x, _, ⟨a, od, o, h1, h2, h3⟩ => ⟨a, od, o, h1, e _ _ h2, h3.same e⟩
  | .dls m, k, ⟨a, kvs, h1, h2, h3, h4, h5, h6⟩ => ⟨a, kvs, h1, h2, h3, k rfl a _ (.inl h1) h3 h4, h5.mono e fun L vs n z => k rfl L _ (.inr ⟨vs, rfl⟩) n z, h6⟩
structure Rep (K : PySem.W.Frag) (τ : Tn) (H0 : Hp) (γ : List (V × D)) (H : Hp) (σ : St) (ρ : En) : Prop where
  len : σ.length = ρ.length
  ext : ∀ a o, H0 a = some o → ¬ τ.ad a → H a = some o
  inv : τ.inv H
  sl : ∀ (i : Nat) (s : Sl), ρ[i]? = some s → SlOk K τ H0 H (res H (own τ σ ρ)) σ[i]? s
  sep : ∀ (i j : Nat) (s t : Sl) (a : Addr), ρ[i]? = some s → ρ[j]? = some t → s.isOwn = true → t.isOwn = true → σ[i]? = some (some (.ref a)) → σ[j]? = some (some (.ref a)) → i = j
  gh : ∀ p ∈ γ, Dp K (res H (own τ σ ρ)) p.1 p.2
  zz : τ.z H0
/-- all stays but what draws change -/
structure Ext (τ : Tn) (H H' : Hp) : Prop where
  kp : ∀ a o, H a = some o → ¬ τ.ad a → H' a = some o
  inv : τ.inv H → τ.inv H'
theorem Ext.refl {τ : Tn} {H : Hp} : Ext τ H H := ⟨fun _ _ h _ => h, fun h => h⟩
theorem Ext.trans {τ : Tn} {H H1 H2 : Hp} (a : Ext τ H H1) (b : Ext τ H1 H2) : Ext τ H H2 := ⟨fun x o h n => b.kp x o (a.kp x o h n) n, fun h => b.inv (a.inv h)⟩
theorem Ext.of_same {τ : Tn} {H H' : Hp} (h : Same H H') : Ext τ H H' := ⟨fun a o e _ => h a o e, fun i => τ.dep (fun a o e _ => h a o e) i⟩
theorem Ext.fresh {τ : Tn} {H H' : Hp} (e : Ext τ H H') (i : τ.inv H) {a : Addr} (h : H' a = none) : H a = none := by
  cases q : H a with
  | none => rfl
  | some o =>
    by_cases ha : τ.ad a
    · obtain ⟨o', e', _⟩ := τ.tr (e.inv i) ha
      rw [h] at e'; cases e'
    · rw [e.kp a o q ha] at h; cases h
theorem Ext.new {τ : Tn} {H : Hp} {p : Addr} {o : HO} (h : H p = none) : Ext τ H (upd H p o) := .of_same fun b u e => by
  rw [upd_ne (ne_of_none e h)]
  exact e
section
variable {τ : Tn} {H0 H H' : Hp} {γ : List (V × D)} {σ : St} {ρ : En}
theorem own_ad {a : Addr} (h : τ.ad a) : own τ σ ρ a := .inl h
theorem Rep.ownMut (r : Rep K τ H0 γ H σ ρ) {a : Addr} (h : own τ σ ρ a) : ∃ o, H a = some o ∧ Mv o := by
  rcases h with h | ⟨i, s, h1, h2, h3⟩
  · exact τ.tr r.inv h
  · have q := r.sl i s h1
    cases s with
    | lst ds =>
      obtain ⟨b, vs, e, _, _, e2, _⟩ := q
      rw [h3] at e; cases e
      exact ⟨_, e2, trivial⟩
    | dic kds =>
      obtain ⟨b, vs, e, _, _, e2, _⟩ := q
      rw [h3] at e; cases e
      exact ⟨_, e2, trivial⟩
    | un => cases h2
    | dat d => cases h2
    | town => cases h2
    | ldc kds => cases h2
    | dtc kds =>
      obtain ⟨b, vs, e, _, _, e2, _⟩ := q
      rw [h3] at e; cases e
      exact ⟨_, e2, trivial⟩
    | th x =>
      obtain ⟨b, o, e, _, _, e2, e3⟩ := q
      rw [h3] at e; cases e
      obtain ⟨φ, rfl⟩ := e3.ext
      exact ⟨_, e2, trivial⟩
    | tv x => cases h2
    | tl x => cases h2
    | dls m =>
      obtain ⟨b, kvs, e, _, _, e2, _⟩ := q
      rw [h3] at e; cases e
      exact ⟨_, e2, trivial⟩
/-- what one owns is no such list -/
theorem Rep.notL (r : Rep K τ H0 γ H σ ρ) {i : Nat} {s : Sl} {p : Addr} {vs : List V} (hi : ρ[i]? = some s) (hs : s.isOwn = true) (hv : σ[i]? = some (some (.ref p))) (h : H p = some (LLo p vs)) : False := by
  have q := r.sl i s hi
  rw [hv] at q
  cases s with
  | lst ds => obtain ⟨b, ws, e, _, _, e2, _⟩ := q; cases e; rw [h] at e2; cases e2
  | dic kds => obtain ⟨b, ws, e, _, _, e2, _⟩ := q; cases e; rw [h] at e2; cases e2
  | dtc kds => obtain ⟨b, ws, e, _, _, e2, _⟩ := q; cases e; rw [h] at e2; cases e2
  | dls m => obtain ⟨b, ws, e, _, _, e2, _⟩ := q; cases e; rw [h] at e2; cases e2
  | th x =>
    obtain ⟨b, o, e, _, _, e2, e3⟩ := q
    cases e
    rw [h] at e2
    cases e2
    exact llo_nok e3.ok
  | _ => cases hs
theorem Rep.notOwn (r : Rep K τ H0 γ H σ ρ) {a : Addr} (h : H a = none) : ¬ own τ σ ρ a := fun z => by
  obtain ⟨o, e, _⟩ := r.ownMut z
  rw [h] at e; cases e
theorem res_ext (e : Ext τ H H') {ow : Addr → Prop} (h : ∀ a, τ.ad a → ow a) : Same (res H ow) (res H' ow) := res_mono fun a o n q => ⟨n, e.kp a o q fun z => n (h a z)⟩
theorem Rep.after (r : Rep K τ H0 γ H σ ρ) (e : Ext τ H H') : Rep K τ H0 γ H' σ ρ where
  len := r.len
  ext := fun a o h n => e.kp a o (r.ext a o h n) n
  inv := e.inv r.inv
  sl := fun i s h => SlOk.mono (res_ext e fun a => own_ad) (fun _ a o _ n q => e.kp a o q n) (r.sl i s h)
  sep := r.sep
  gh := fun p hp => dp_same (res_ext e fun a => own_ad) _ _ (r.gh p hp)
  zz := r.zz
/-- what is told of an object without lists is true beside all that may change -/
theorem Rep.lfRes (r : Rep K τ H0 γ H σ ρ) {ow : Addr → Prop} {v : V} {d : D} (hm : ∀ a, ow a → ∃ o, H a = some o ∧ Mv o) {R : Hp} (hR : Same R H) (hO : ∀ a o, R a = some o → okT o) (l : lf d = true) (h : Dp K R v d) : Dp K (res H ow) v d :=
  dp_lf (fun a xs h => by
    have nm : ∀ u : HO, H a = some u → ¬ Mv u → ¬ ow a := fun u e n z => by
      obtain ⟨o, e', m⟩ := hm a z
      rw [e] at e'; cases e'
      exact n m
    rcases h with h | ⟨o, h⟩
    · exact .inl (res_put (nm _ (hR _ _ h) fun z => z) (hR _ _ h) (hO _ _ h))
    · exact .inr ⟨o, res_put (nm _ (hR _ _ h) fun z => z) (hR _ _ h) (hO _ _ h)⟩) d v l h
/-- the object of a tuple that was laid anew -/
def plT (its : List Value) : Obj := { cls := .type "tuple", data := .seq its.toArray }
theorem objOk_plT {P : Program} {w : World} {H : Hp} {h : Heap} {xs : List V} {its : List Value} (hz : xs.length ≤ sizeLine) (r : Vals xs its) : ObjOk P w (upd H h.objs.size (.frz (plT its) (.tup xs))) (h.push (plT its)) h.objs.size (.frz (plT its) (.tup xs)) :=
  ⟨Heap.get?_push_size _ rfl, hz, its, r, IsTup.new _ _⟩
theorem inv_plT {X : Cx} {pins : List (Addr × Obj)} {σ : St} {H : Hp} {s : Shared} {t' : Nat} {xs : List V} {its : List Value} (I : Inv X pins σ H s) (hz : xs.length ≤ sizeLine) (r : Vals xs its) :
    Inv X pins σ (upd H s.heap.objs.size (.frz (plT its) (.tup xs))) { s with heap := s.heap.push (plT its), toks := t' } :=
  I.laid (fun _ _ e => Heap.get?_push_of_some _ e) (Nat.le_refl _) (objOk_plT hz r)
end
end Pu
namespace Pu
open PySem PySem.Spec PyProof.Rows L2

/-! ### tuples laid plainly -/
def tTupP (t : TA) : TE := fun σ H Q => t σ H fun xs H1 => xs.length ≤ sizeLine ∧ ∀ p o, o.dict = none → H1 p = none → Q (.ref p) (upd H1 p (.frz o (.tup xs)))
theorem pe_tupP {X : Cx} {es : List Expr} {t : TA} {pos : Pos} {n : Nat} (h : PA X es t) : PE X (.Tuple es n pos) (tTupP t) := by
  refine ⟨fun pins s σ H Q I hq => wpAny_Tuple_spliced (thn (h.run pos pins s σ H _ I hq) fun us s1 ⟨xs, H1, I1, r, z, q⟩ => ?_)⟩
  refine ⟨by rw [← r.length]; exact z, .ref s1.heap.objs.size, _, inv_plT (t' := s1.toks) I1 z r, rfl, q _ _ rfl (I1.hok.fresh (Nat.le_refl _))⟩

/-! ### where one stands -/
structure Gx where
  P : Program
  w : World
  K : PySem.W.Frag
  mg : Str → Option Value
  base : Heap
structure Ok (cp : List Str) (G : Gx) (N : List Str) (sc : Scope) (k : Nat) (X : Cx) : Prop where
  eP : X.prog = G.P
  ew : X.w = G.w
  eK : X.K = G.K
  em : X.mg = G.mg
  eb : X.base = G.base
  eN : X.N = N
  nd : N.Nodup
  es : X.env.scope = sc
  kd : sc.kind = .function
  calm : X.calm = true
  room : Room k X.A
  fn : ∀ x, sc.names.lookup x = some .cell → cp.contains x = false → X.fn x = true
  po : PassesOwn (model X.prog X.w) X.A X.env X.xe

/-- x may be stored -/
def LocC (cp : List Str) (sc : Scope) (x : Str) : Prop := sc.names.lookup x = some .local ∨ (sc.names.lookup x = some .cell ∧ cp.contains x = false)

/-! ### results -/
inductive Rs where
  | dat (d : D)
  | lst (ds : List D)
  | dic (kds : List (Key × D))
  | th (x : Th)
  | dll (m : List (Key × List D))
def toK (m : List (Key × List D)) : List (Key × D) := m.map fun q => (q.1, .list q.2)
def FrV (Hs : Hp) (a : Addr) (kvs : List (Key × V)) : Prop := ∀ p ∈ kvs, ∃ L : Addr, p.2 = .ref L ∧ L ≠ a ∧ Hs L = none
def RsOk (K : PySem.W.Frag) (τ : Tn) (Hs H : Hp) (σ : St) (ρ : En) (v : V) : Rs → Prop
  | .dat d => Dp K (res H (own τ σ ρ)) v d
  | .lst ds => ∃ a vs, v = .ref a ∧ Hs a = none ∧ H a = some (.lst vs) ∧ DpAll K (res H (fun b => own τ σ ρ b ∨ b = a)) vs ds
  | .dic kds => ∃ a kvs, v = .ref a ∧ Hs a = none ∧ H a = some (.dK kvs) ∧ KvOk K (res H (fun b => own τ σ ρ b ∨ b = a)) kvs kds
  | .th x => ∃ a o, v = .ref a ∧ Hs a = none ∧ H a = some o ∧ ThIs K (res H (fun b => own τ σ ρ b ∨ b = a)) a o x
  | .dll m => ∃ a kvs, v = .ref a ∧ Hs a = none ∧ H a = some (.dK kvs) ∧ KvOk K (res H (fun b => own τ σ ρ b ∨ b = a)) kvs (toK m) ∧ FrV Hs a kvs
/-- a thing that is looked at -/
def Bo (K : PySem.W.Frag) (τ : Tn) (H R : Hp) (v : V) : D → Prop
  | .list ds => ∃ a vs, v = .ref a ∧ SqL K (res H τ.ad) a vs ∧ DpAll K R vs ds
  | .tuple ds => ∃ a vs, v = .ref a ∧ SqT K (res H τ.ad) a vs ∧ DpAll K R vs ds
  | .none => v = .non
  | .bool b => v = .bl b
  | .int i => v = .int i
  | .str x => v = .str x
  | .dict _ => False
section
variable {K : PySem.W.Frag} {τ : Tn} {H0 H H' : Hp} {γ : List (V × D)} {σ : St} {ρ : En} {v : V} {d : D}
theorem res_own_ad : Same (res H (own τ σ ρ)) (res H τ.ad) := res_mono fun a o n e => ⟨fun z => n (own_ad z), e⟩
theorem bo_of {R : Hp} (hR : Same R (res H τ.ad)) (h : Dp K R v d) : Bo K τ H R v d := by
  cases h with
  | non => rfl
  | bl b => rfl
  | int i => rfl
  | str x => rfl
  | lst hs ha => exact ⟨_, _, rfl, sqL_same hR hs, ha⟩
  | tup hs ha => exact ⟨_, _, rfl, sqT_same hR hs, ha⟩
theorem Bo.dp {R : Hp} (hR : Same R (res H τ.ad)) (h : Bo K τ H R v d) : Dp K (res H τ.ad) v d := by
  cases d with
  | none => cases h; exact .non
  | bool b => cases h; exact .bl b
  | int i => cases h; exact .int i
  | str x => cases h; exact .str x
  | list ds =>
    obtain ⟨a, vs, rfl, hs, ha⟩ := h
    exact .lst hs (dpAll_same hR _ _ ha)
  | tuple ds =>
    obtain ⟨a, vs, rfl, hs, ha⟩ := h
    exact .tup hs (dpAll_same hR _ _ ha)
  | dict _ => exact h.elim
theorem Bo.after (e : Ext τ H H') (h : Bo K τ H (res H (own τ σ ρ)) v d) : Bo K τ H' (res H' (own τ σ ρ)) v d := by
  have e1 : Same (res H τ.ad) (res H' τ.ad) := res_ext e fun _ z => z
  have e2 : Same (res H (own τ σ ρ)) (res H' (own τ σ ρ)) := res_ext e fun _ => own_ad
  cases d with
  | none => exact h
  | bool b => exact h
  | int i => exact h
  | str x => exact h
  | list ds =>
    obtain ⟨a, vs, rfl, hs, ha⟩ := h
    exact ⟨a, vs, rfl, sqL_same e1 hs, dpAll_same e2 _ _ ha⟩
  | tuple ds =>
    obtain ⟨a, vs, rfl, hs, ha⟩ := h
    exact ⟨a, vs, rfl, sqT_same e1 hs, dpAll_same e2 _ _ ha⟩
  | dict _ => exact h
theorem dp_after (e : Ext τ H H') (h : Dp K (res H (own τ σ ρ)) v d) : Dp K (res H' (own τ σ ρ)) v d := dp_same (res_ext e fun _ => own_ad) _ _ h
theorem dpAll_after {vs : List V} {ds : List D} (e : Ext τ H H') (h : DpAll K (res H (own τ σ ρ)) vs ds) : DpAll K (res H' (own τ σ ρ)) vs ds := dpAll_same (res_ext e fun _ => own_ad) _ _ h
/-- a result laid still -/
def Rs.cold : Rs → (D → Prop) → Prop
  | .dat d, C => C d
  | .lst ds, C => C (.list ds)
  | .dic _, _ => False
  | .th _, _ => False
  | .dll _, _ => False
theorem RsOk.cold {Hs : Hp} (r0 : Rep K τ H0 γ Hs σ ρ) {r : Rs} {C : D → Prop} (h : RsOk K τ Hs H σ ρ v r) (c : r.cold C) : ∃ d, C d ∧ Dp K (res H (own τ σ ρ)) v d := by
  cases r with
  | dat d => exact ⟨d, c, h⟩
  | lst ds =>
    obtain ⟨a, vs, rfl, hn, he, ha⟩ := h
    exact ⟨_, c, .lst (.inl (.inl (res_put (r0.notOwn hn) he))) (dpAll_same (res_mono fun b o n e => ⟨fun z => n (.inl z), e⟩) _ _ ha)⟩
  | dic kds => exact c.elim
  | th x => exact c.elim
  | dll m => exact c.elim
theorem RsOk.after {Hs : Hp} (r0 : Rep K τ H0 γ Hs σ ρ) {r : Rs} (e : Ext τ H H') (h : RsOk K τ Hs H σ ρ v r) : RsOk K τ Hs H' σ ρ v r := by
  cases r with
  | dat d => exact dp_after e h
  | lst ds =>
    obtain ⟨a, vs, rfl, hn, he, ha⟩ := h
    exact ⟨a, vs, rfl, hn, e.kp _ _ he fun z => r0.notOwn hn (own_ad z), dpAll_same (res_ext e fun b z => .inl (own_ad z)) _ _ ha⟩
  | dic kds =>
    obtain ⟨a, vs, rfl, hn, he, ha⟩ := h
    exact ⟨a, vs, rfl, hn, e.kp _ _ he fun z => r0.notOwn hn (own_ad z), KvOk.same (res_ext e fun b z => .inl (own_ad z)) ha⟩
  | th x =>
    obtain ⟨a, o, rfl, hn, he, ha⟩ := h
    exact ⟨a, o, rfl, hn, e.kp _ _ he fun z => r0.notOwn hn (own_ad z), ha.same (res_ext e fun b z => .inl (own_ad z))⟩
  | dll m =>
    obtain ⟨a, vs, rfl, hn, he, ha, hf⟩ := h
    exact ⟨a, vs, rfl, hn, e.kp _ _ he fun z => r0.notOwn hn (own_ad z), KvOk.same (res_ext e fun b z => .inl (own_ad z)) ha, hf⟩
end

/-! ### the judgements -/
abbrev UE := En → (Rs → Prop) → Prop
abbrev UV := En → (D → Prop) → Prop
abbrev UT := En → (Bool → Prop) → Prop
abbrev UL := En → (List D → Prop) → Prop
def JE (τ : Tn) (X : Cx) (e : Expr) (t : UE) : Prop := ∀ (ρ : En) (C : Rs → Prop), t ρ C → ∀ (H0 : Hp) (γ : List (V × D)) (σ : St) (H : Hp), Rep X.K τ H0 γ H σ ρ → ∀ Q : VK,
  (∀ r v H2, C r → Ext τ H H2 → RsOk X.K τ H H2 σ ρ v r → Q v H2) → wpE X e σ H Q
def JD (τ : Tn) (X : Cx) (e : Expr) (t : UV) : Prop := ∀ (ρ : En) (C : D → Prop), t ρ C → ∀ (H0 : Hp) (γ : List (V × D)) (σ : St) (H : Hp), Rep X.K τ H0 γ H σ ρ → ∀ Q : VK,
  (∀ d v H2, C d → Ext τ H H2 → Dp X.K (res H2 (own τ σ ρ)) v d → Q v H2) → wpE X e σ H Q
def JV (τ : Tn) (X : Cx) (e : Expr) (t : UV) : Prop := ∀ (ρ : En) (C : D → Prop), t ρ C → ∀ (H0 : Hp) (γ : List (V × D)) (σ : St) (H : Hp), Rep X.K τ H0 γ H σ ρ → ∀ Q : VK,
  (∀ d v H2, C d → Ext τ H H2 → Bo X.K τ H2 (res H2 (own τ σ ρ)) v d → Q v H2) → wpE X e σ H Q
def JT (τ : Tn) (X : Cx) (e : Expr) (t : UT) : Prop := ∀ (ρ : En) (C : Bool → Prop), t ρ C → ∀ (H0 : Hp) (γ : List (V × D)) (σ : St) (H : Hp), Rep X.K τ H0 γ H σ ρ → ∀ Q : Bool → Hp → Prop,
  (∀ b H2, C b → Ext τ H H2 → Q b H2) → wpT X e σ H Q
def JW (τ : Tn) (X : Cx) (e : Expr) (t : UT) : Prop := ∀ (ρ : En) (C : Bool → Prop), t ρ C → ∀ (H0 : Hp) (γ : List (V × D)) (σ : St) (H : Hp), Rep X.K τ H0 γ H σ ρ → ∀ Q : Bool → Hp → Prop,
  (∀ b H2, C b → Ext τ H H2 → Q b H2) → wpW X e σ H Q
/-- several things, strong | looked at -/
def JDs (τ : Tn) (X : Cx) (es : List Expr) (t : UL) : Prop := ∀ (ρ : En) (C : List D → Prop), t ρ C → ∀ (H0 : Hp) (γ : List (V × D)) (σ : St) (H : Hp), Rep X.K τ H0 γ H σ ρ → ∀ Q : List V → Hp → Prop,
  (∀ ds vs H2, ds.length = es.length → C ds → Ext τ H H2 → DpAll X.K (res H2 (own τ σ ρ)) vs ds → Q vs H2) → wpA X es σ H Q

section
variable {τ : Tn} {G : Gx} {cp : List Str} {N : List Str} {sc : Scope} {k : Nat} {X : Cx} {e e1 e2 e3 : Expr} {es : List Expr} {t u : UV} {te ue : UE} {pos : Pos}
theorem jv_d (h : JD τ X e t) : JV τ X e t := fun ρ C c H0 γ σ H r Q q => h ρ C c H0 γ σ H r Q fun d v H2 c e b => q d v H2 c e (bo_of res_own_ad b)
def eD (t : UV) : UE := fun ρ C => t ρ fun d => C (.dat d)
theorem je_d (h : JD τ X e t) : JE τ X e (eD t) := fun ρ C c H0 γ σ H r Q q => h ρ _ c H0 γ σ H r Q fun d v H2 c e b => q (.dat d) v H2 c e b
def dE (t : UE) : UV := fun ρ C => t ρ fun r => r.cold C
theorem jd_e (h : JE τ X e te) : JD τ X e (dE te) := fun ρ C c H0 γ σ H r Q q => h ρ _ c H0 γ σ H r Q fun rs v H2 c e b => by
  obtain ⟨d, cd, hd⟩ := b.cold r c
  exact q d v H2 cd e hd
theorem jv_e (h : JE τ X e te) : JV τ X e (dE te) := jv_d (jd_e h)
theorem jds_nil : JDs τ X [] fun _ C => C [] := fun ρ C c H0 γ σ H r Q q => wpA_of pa_nil (q [] [] H rfl c .refl .nil)
def lCons (t : UV) (ts : UL) : UL := fun ρ C => t ρ fun d => ts ρ fun ds => C (d :: ds)
theorem jds_cons {ts : UL} (h : JD τ X e t) (hs : JDs τ X es ts) (hst : starEach (e :: es) X.env = (false, eval e X.env) :: starEach es X.env := by rfl) : JDs τ X (e :: es) (lCons t ts) := fun ρ C c H0 γ σ H r Q q =>
  wpA_of (pa_cons pe_w pa_w hst) (h ρ _ c H0 γ σ H r _ fun d v H2 c e b => hs ρ _ c H0 γ σ H2 (r.after e) _ fun ds vs H3 hl c e2 b2 => q (d :: ds) (v :: vs) H3 (by simp [hl]) c (e.trans e2) (.cons (dp_after e2 b) b2))

/-! ### names, constants, displays -/
def dVar (i : Nat) : UV := fun ρ C => match ρ[i]? with
  | some (.dat d) => C d
  | _ => False
def vVar (i : Nat) : UV := fun ρ C => match ρ[i]? with
  | some (.dat d) => C d
  | some (.lst ds) => C (.list ds)
  | _ => False
theorem jd_var (S : Ok cp G N sc k X) (i : Nat) {x : Str} (hN : N[i]? = some x := by rfl) (hv : Vis sc x := by first | exact Or.inl rfl | exact Or.inr (Or.inl rfl) | exact Or.inr (Or.inr rfl)) (hd : (x == ("__debug__" : Str)) = false := by decide) (hcd : (x == ("__classdict__" : Str)) = false := by decide) :
    JD τ X (.Name x pos) (dVar i) := fun ρ C c H0 γ σ H r Q q => by
  refine wpE_of (pe_var (i := i) (by rw [S.eN]; exact hN) (by rw [S.es]; exact hv) hd hcd) ?_
  unfold dVar at c
  split at c
  · rename_i d hi
    obtain ⟨v, e, h⟩ := r.sl i _ hi
    exact ⟨v, e, q d v H c .refl h⟩
  · exact c.elim
theorem jv_var (S : Ok cp G N sc k X) (i : Nat) {x : Str} (hN : N[i]? = some x := by rfl) (hv : Vis sc x := by first | exact Or.inl rfl | exact Or.inr (Or.inl rfl) | exact Or.inr (Or.inr rfl)) (hd : (x == ("__debug__" : Str)) = false := by decide) (hcd : (x == ("__classdict__" : Str)) = false := by decide) :
    JV τ X (.Name x pos) (vVar i) := fun ρ C c H0 γ σ H r Q q => by
  refine wpE_of (pe_var (i := i) (by rw [S.eN]; exact hN) (by rw [S.es]; exact hv) hd hcd) ?_
  unfold vVar at c
  split at c
  · rename_i d hi
    obtain ⟨v, e, h⟩ := r.sl i _ hi
    exact ⟨v, e, q d v H c .refl (bo_of res_own_ad h)⟩
  · rename_i ds hi
    obtain ⟨a, vs, e, _, hn, h, h'⟩ := r.sl i _ hi
    exact ⟨_, e, q _ _ H c .refl ⟨a, vs, rfl, .inl (.inl (res_put hn h)), h'⟩⟩
  · exact c.elim
def dC (d : D) : UV := fun _ C => C d
theorem jd_c {v : V} {d : D} (h : PE X e (tC v)) (hd : ∀ H : Hp, Dp X.K H v d) : JD τ X e (dC d) := fun ρ C c H0 γ σ H r Q q => wpE_of h (q d v H c .refl (hd _))
theorem jd_int {i : Int} {j : Nat} : JD τ X (.Constant (.int i) j pos) (dC (.int i)) := jd_c pe_int fun _ => .int i
theorem jd_bl {b : Bool} {j : Nat} : JD τ X (.Constant (.bool b) j pos) (dC (.bool b)) := jd_c pe_bl fun _ => .bl b
theorem jd_non {j : Nat} : JD τ X (.Constant .none j pos) (dC .none) := jd_c pe_non fun _ => .non
theorem jd_str {x : Str} {j : Nat} : JD τ X (.Constant (.str x) j pos) (dC (.str x)) := jd_c pe_str fun _ => .str x
/-- a constant of the module -/
structure GC (G : Gx) (x : Str) (d : D) : Prop where
  ex : ∃ (v : V) (u : Value), G.mg x = some u ∧ RelV v u ∧ ∀ H : Hp, Dp G.K H v d
theorem jd_glob (S : Ok cp G N sc k X) {x : Str} {d : D} (h : GC G x d) (hg : sc.names.lookup x = some .globalImplicit := by rfl) (hd : (x == ("__debug__" : Str)) = false := by decide) : JD τ X (.Name x pos) (dC d) := by
  obtain ⟨v, u, h1, h2, h3⟩ := h.ex
  exact jd_c (pe_glob (by show X.env.scope.names.lookup x = _; rw [S.es]; exact hg) (by rw [S.em]; exact h1) h2 hd) (by rw [S.eK]; exact h3)
theorem small_line {n : Nat} (h : n ≤ 1000000) : n ≤ sizeLine := Nat.le_trans h (by decide)
def dTup (ts : UL) : UV := fun ρ C => ts ρ fun ds => C (.tuple ds)
theorem jd_tup {ts : UL} {x1 : Nat} (h : JDs τ X es ts) (hl : es.length ≤ 1000 := by decide) : JD τ X (.Tuple es x1 pos) (dTup ts) := fun ρ C c H0 γ σ H r Q q =>
  wpE_of (pe_tupP pa_w) (h ρ _ c H0 γ σ H r _ fun ds vs H2 el c e b => ⟨by rw [dpAll_len b, el]; exact small_line (by omega), fun p o ho hp =>
    q _ _ _ c (e.trans (.new hp)) (.tup (.inl (.inr ⟨o, res_put ((r.after e).notOwn hp) upd_same ho⟩)) (dpAll_after (.new hp) b))⟩)
def eLst (ts : UL) : UE := fun ρ C => ts ρ fun ds => C (.lst ds)
theorem je_lst {ts : UL} (h : JDs τ X es ts) (hl : es.length ≤ 1000 := by decide) : JE τ X (.List es pos) (eLst ts) := fun ρ C c H0 γ σ H r Q q =>
  wpE_of (pe_lst pa_w) (h ρ _ c H0 γ σ H r _ fun ds vs H2 el c e b => ⟨by rw [dpAll_len b, el]; exact small_line (by omega), fun p hp =>
    q _ _ _ c (e.trans (.new hp)) ⟨p, vs, rfl, e.fresh r.inv hp, upd_same, dpAll_same (res_mono fun a o n ea => by
      have hne : a ≠ p := ne_of_none ea hp
      exact ⟨fun z => z.elim n hne, by rw [upd_ne hne]; exact ea⟩) _ _ b⟩⟩)
end
end Pu
namespace Pu
open PySem PySem.Spec PyProof.Rows L2

/-! ### data that may be compared -/
mutual
def sh : Nat → D → Bool
  | _, .none => true
  | _, .bool _ => true
  | _, .int _ => true
  | _, .str x => PyData.canLay0 (.str x)
  | 0, .list _ => false
  | n + 1, .list ds => shAll n ds
  | 0, .tuple _ => false
  | n + 1, .tuple ds => shAll n ds
  | _, .dict _ => false
def shAll : Nat → List D → Bool
  | _, [] => true
  | n, d :: ds => sh n d && shAll n ds
end
theorem shAll_iff {n : Nat} : ∀ {ds : List D}, shAll n ds = true ↔ ∀ d ∈ ds, sh n d = true
  | [] => by simp [shAll]
  | d :: ds => by
    rw [shAll, Bool.and_eq_true, shAll_iff]
    simp
mutual
theorem sh_lay : ∀ (n : Nat) (d : D), sh n d = true → d.canLay0 = true ∧ d.depth ≤ n
  | _, .none, _ => ⟨by simp [PyData.canLay0], by simp [PyData.depth]⟩
  | _, .bool _, _ => ⟨by simp [PyData.canLay0], by simp [PyData.depth]⟩
  | _, .int _, _ => ⟨by simp [PyData.canLay0], by simp [PyData.depth]⟩
  | _, .str x, h => ⟨by simpa [sh] using h, by simp [PyData.depth]⟩
  | 0, .list _, h => by simp [sh] at h
  | n + 1, .list ds, h => by
    obtain ⟨a, b⟩ := shAll_lay n ds (by simpa [sh] using h)
    exact ⟨by simpa [PyData.canLay0] using a, by simp only [PyData.depth]; omega⟩
  | 0, .tuple _, h => by simp [sh] at h
  | n + 1, .tuple ds, h => by
    obtain ⟨a, b⟩ := shAll_lay n ds (by simpa [sh] using h)
    exact ⟨by simpa [PyData.canLay0] using a, by simp only [PyData.depth]; omega⟩
  | _, .dict _, h => by simp [sh] at h
theorem shAll_lay : ∀ (n : Nat) (ds : List D), shAll n ds = true → PyData.canLayAll0 ds = true ∧ PyData.depthAll ds ≤ n
  | _, [], _ => ⟨by simp [PyData.canLayAll0], by simp [PyData.depthAll]⟩
  | n, d :: ds, h => by
    rw [shAll, Bool.and_eq_true] at h
    obtain ⟨a, b⟩ := sh_lay n d h.1
    obtain ⟨a2, b2⟩ := shAll_lay n ds h.2
    exact ⟨by simp [PyData.canLayAll0, a, a2], by simp only [PyData.depthAll]; omega⟩
end
theorem sh_shaped {n : Nat} {d : D} (hn : n ≤ 64) (h : sh n d = true) : SeqAt.shaped d = true := by
  obtain ⟨a, b⟩ := sh_lay n d h
  show (d.canLay0 && decide (d.depth ≤ 64)) = true
  rw [Bool.and_eq_true]
  exact ⟨a, decide_eq_true (by omega)⟩

section
variable {τ : Tn} {G : Gx} {cp : List Str} {N : List Str} {sc : Scope} {k : Nat} {X : Cx} {a b c : Expr} {es : List Expr} {t u s : UV} {te ue : UE} {pos : Pos}
/-! ### operators -/
def Op2 (X : Cx) (r : R2) (f : D → D → (D → Prop) → Prop) : Prop := ∀ (τ : Tn) (H0 H : Hp) (γ : List (V × D)) (σ : St) (ρ : En) (v1 v2 : V) (d1 d2 : D) (C : D → Prop), Rep X.K τ H0 γ H σ ρ →
  Bo X.K τ H (res H (own τ σ ρ)) v1 d1 → Bo X.K τ H (res H (own τ σ ρ)) v2 d2 → f d1 d2 C → ∀ Q : VK, (∀ d v H2, C d → Ext τ H H2 → Dp X.K (res H2 (own τ σ ρ)) v d → Q v H2) → r v1 v2 H Q
def d2 (f : D → D → (D → Prop) → Prop) (t u : UV) : UV := fun ρ C => t ρ fun x => u ρ fun y => f x y C
theorem jd_op {op : Operator} {r : R2} {f : D → D → (D → Prop) → Prop} (ho : OpR X (binaryOp op) r) (hf : Op2 X r f) (ha : JV τ X a t) (hb : JV τ X b u) : JD τ X (.BinOp a op b pos) (d2 f t u) := fun ρ C c H0 γ σ H r Q q =>
  wpE_of (pe_op ho pe_w pe_w) (ha ρ _ c H0 γ σ H r _ fun d1 v1 H2 c e b1 => hb ρ _ c H0 γ σ H2 (r.after e) _ fun d2 v2 H3 c e2 b2 =>
    hf _ _ _ _ _ _ _ _ _ _ _ ((r.after e).after e2) (b1.after e2) b2 c Q fun d v H4 c e4 h => q d v H4 c ((e.trans e2).trans e4) h)
theorem sqT_of_mut {τ : Tn} {H0 H : Hp} {γ : List (V × D)} {σ : St} {ρ : En} {a : Addr} {vs : List V} (r : Rep X.K τ H0 γ H σ ρ) (h : SqT X.K (res H τ.ad) a vs) : SqT X.K (res H (own τ σ ρ)) a vs := by
  have nm : ∀ u : HO, H a = some u → ¬ Mv u → ¬ own τ σ ρ a := fun u e n z => by
    obtain ⟨o, e', m⟩ := r.ownMut z
    rw [e] at e'; cases e'
    exact n m
  rcases h with (h | ⟨o, h⟩) | h
  · have h' := res_at h
    exact .inl (.inl (res_put (nm _ h' fun z => z) h' (res_ok h)))
  · have h' := res_at h
    exact .inl (.inr ⟨o, res_put (nm _ h' fun z => z) h' (res_ok h)⟩)
  · exact .inr h
def fAdd : D → D → (D → Prop) → Prop
  | .int i, .int j, C => C (.int (i + j))
  | .str x, .str y, C => x.length + y.length ≤ 1000000 ∧ C (.str (x ++ y))
  | .tuple xs, .tuple ys, C => xs.length + ys.length ≤ 1000000 ∧ C (.tuple (xs ++ ys))
  | .list xs, .list ys, C => xs.length + ys.length ≤ 1000000 ∧ C (.list (xs ++ ys))
  | _, _, _ => False
/-- list + list, each of them any list -/
def rCatL (K : PySem.W.Frag) : R2 := fun x y H Q => ∃ a b xs ys, x = .ref a ∧ y = .ref b ∧ SqL K H a xs ∧ SqL K H b ys ∧ xs.length + ys.length ≤ sizeLine ∧ ∀ p, H p = none → Q (.ref p) (upd H p (.lst (xs ++ ys)))
theorem op_catL : OpR X (binaryOp .Add) (rCatL X.K) := by
  intro pins s σ H x y v u Q I rx ry h
  obtain ⟨l, b, xs, zs, rfl, rfl, hH, hB, hz, q⟩ := h
  cases rx
  cases ry
  obtain ⟨its, r, ⟨⟨cls, dd, data, sls⟩, n, ho, hc, hdn, hdt⟩, hl⟩ := I.list hH
  obtain ⟨its2, r2, ⟨⟨cls2, dd2, data2, sls2⟩, n2, ho2, hc2, hdn2, hdt2⟩, hl2⟩ := I.list hB
  simp only at hc hdt hc2 hdt2
  subst hc hdt hc2 hdt2
  have e1 := r.length
  have e2 := r2.length
  refine concat_meets ⟨_, ho, rfl⟩ ⟨_, ho2, rfl⟩ noFill_list_add seq_list_add PySem.F.slot_list_add PySem.F.entry_list_add (PySem.F.args_list_add_2 _ _) (list_addW l b its.toArray its2.toArray n n2 dd dd2 sls sls2 (by simp; omega)) ⟨ho, ho2, ?_⟩
  have ea : its.toArray ++ its2.toArray = (its ++ its2).toArray := by simp
  rw [ea]
  exact ⟨.ref _, _, I.lnew (t' := s.toks) (r.append r2) (by rw [List.length_append]; omega), rfl, q _ I.fresh⟩
/-- tuple + tuple, laid plainly -/
def rCatP (K : PySem.W.Frag) : R2 := fun x y H Q => ∃ a b xs ys, x = .ref a ∧ y = .ref b ∧ SqT K H a xs ∧ SqT K H b ys ∧ xs.length + ys.length ≤ sizeLine ∧
  (xs = [] → Q (.ref b) H) ∧ (ys = [] → Q (.ref a) H) ∧ ∀ p o, o.dict = none → H p = none → Q (.ref p) (upd H p (.frz o (.tup (xs ++ ys))))
theorem op_catP : OpR X (binaryOp .Add) (rCatP X.K) := by
  intro pins s σ H x y v u Q I rx ry h
  obtain ⟨a, b, xs, ys, rfl, rfl, ha, hb, hz, q0, q1, q2⟩ := h
  cases rx
  cases ry
  obtain ⟨us, r1, t1, _⟩ := I.tuple ha
  obtain ⟨ws, r2, t2, _⟩ := I.tuple hb
  by_cases hx : us = []
  · subst hx
    cases r1
    exact cat_tup0 t1 t2 ⟨.ref b, H, I, rfl, q0 rfl⟩
  · have l1 := r1.length
    have l2 := r2.length
    have I2 := inv_plT (t' := s.toks) I (xs := xs ++ ys) (by rw [List.length_append]; exact hz) (r1.append r2)
    exact HT.cat_tup t1 t2 hx (fun e => ⟨.ref a, H, I, rfl, q1 (List.eq_nil_of_length_eq_zero (by rw [e] at l2; exact l2))⟩) (fun _ => ⟨.ref s.heap.objs.size, _, I2, rfl, q2 _ _ rfl (I.hok.fresh (Nat.le_refl _))⟩) (by omega)
def rAddU (K : PySem.W.Frag) : R2 := fun x y H Q => rI0 (fun i j => .int (i + j)) x y H Q ∨ (∃ i j, x = .str i ∧ y = .str j ∧ i.length + j.length ≤ sizeLine ∧ Q (.str (i ++ j)) H) ∨ rCatP K x y H Q ∨ rCatL K x y H Q
theorem op_addU : OpR X (binaryOp .Add) (rAddU X.K) := op_add.or (op_add_str.or (op_catP.or op_catL))
theorem fAdd_ok : Op2 X (rAddU X.K) fAdd := fun τ H0 H γ σ ρ v1 v2 d1 d2 C r b1 b2 h Q q => by
  cases d1 <;> cases d2 <;> first | exact h.elim | skip
  · cases b1; cases b2
    exact .inl ⟨_, _, rfl, rfl, q _ _ H h .refl (.int _)⟩
  · cases b1; cases b2
    exact .inr (.inl ⟨_, _, rfl, rfl, small_line h.1, q _ _ H h.2 .refl (.str _)⟩)
  · obtain ⟨a, vs, rfl, hs, ha⟩ := b1
    obtain ⟨b, ws, rfl, ht, hb⟩ := b2
    refine .inr (.inr (.inr ⟨a, b, vs, ws, rfl, rfl, sqL_same res_le hs, sqL_same res_le ht, by rw [dpAll_len ha, dpAll_len hb]; exact small_line h.1, fun p hp => ?_⟩))
    exact q _ _ _ h.2 (.new hp) (.lst (.inl (.inl (res_put (r.notOwn hp) upd_same))) (dpAll_after (.new hp) (dpAll_append ha hb)))
  · obtain ⟨a, vs, rfl, hs, ha⟩ := b1
    obtain ⟨b, ws, rfl, ht, hb⟩ := b2
    refine .inr (.inr (.inl ⟨a, b, vs, ws, rfl, rfl, sqT_same res_le hs, sqT_same res_le ht, by rw [dpAll_len ha, dpAll_len hb]; exact small_line h.1, fun e => ?_, fun e2 => ?_, fun p o ho hp => ?_⟩))
    · subst e
      cases ha
      refine q _ _ H h.2 .refl ?_
      exact .tup (sqT_of_mut r ht) hb
    · subst e2
      cases hb
      refine q _ _ H (by simpa using h.2) .refl ?_
      exact .tup (sqT_of_mut r hs) ha
    · exact q _ _ _ h.2 (.new hp) (.tup (.inl (.inr ⟨o, res_put (r.notOwn hp) upd_same ho⟩)) (dpAll_after (.new hp) (dpAll_append ha hb)))
def fInt (P : Int → Int → Prop) (f : Int → Int → Int) : D → D → (D → Prop) → Prop
  | .int i, .int j, C => P i j ∧ C (.int (f i j))
  | _, _, _ => False
theorem fInt_ok {P P' : Int → Int → Prop} {f : Int → Int → Int} (hp : ∀ i j, P i j → P' i j) : Op2 X (rI P' fun i j => .int (f i j)) (fInt P f) := fun τ H0 H γ σ ρ v1 v2 d1 d2 C r b1 b2 h Q q => by
  cases d1 <;> cases d2 <;> first | exact h.elim | skip
  cases b1; cases b2
  exact ⟨_, _, rfl, rfl, hp _ _ h.1, q _ _ H h.2 .refl (.int _)⟩
def fSub : D → D → (D → Prop) → Prop
  | .int i, .int j, C => C (.int (i - j))
  | _, _, _ => False
theorem fSub_ok : Op2 X (rI0 fun i j => .int (i - j)) fSub := fun τ H0 H γ σ ρ v1 v2 d1 d2 C r b1 b2 h Q q => by
  cases d1 <;> cases d2 <;> first | exact h.elim | skip
  cases b1; cases b2
  exact ⟨_, _, rfl, rfl, q _ _ H h .refl (.int _)⟩
abbrev fMul := fInt CMul fun i j => i * j
abbrev fDiv := fInt CDiv fun i j => i / j
abbrev fMod := fInt (fun _ j => 0 < j) fun i j => i % j
abbrev fPow := fInt CPow fun i j => i ^ j.toNat
theorem jd_add (ha : JV τ X a t) (hb : JV τ X b u) : JD τ X (.BinOp a .Add b pos) (d2 fAdd t u) := jd_op op_addU fAdd_ok ha hb
theorem jd_sub (ha : JV τ X a t) (hb : JV τ X b u) : JD τ X (.BinOp a .Sub b pos) (d2 fSub t u) := jd_op op_sub fSub_ok ha hb
theorem jd_mul (ha : JV τ X a t) (hb : JV τ X b u) : JD τ X (.BinOp a .Mult b pos) (d2 fMul t u) := jd_op op_mul (fInt_ok fun _ _ h => h) ha hb
theorem jd_div (ha : JV τ X a t) (hb : JV τ X b u) : JD τ X (.BinOp a .FloorDiv b pos) (d2 fDiv t u) := jd_op op_fdiv (fInt_ok fun _ _ h => h) ha hb
theorem jd_mod (ha : JV τ X a t) (hb : JV τ X b u) : JD τ X (.BinOp a .Mod b pos) (d2 fMod t u) := jd_op op_mod (fInt_ok fun _ _ h => h) ha hb
theorem jd_pow (ha : JV τ X a t) (hb : JV τ X b u) : JD τ X (.BinOp a .Pow b pos) (d2 fPow t u) := jd_op op_pow (fInt_ok fun _ _ h => h) ha hb
def fNeg : D → (D → Prop) → Prop
  | .int i, C => C (.int (-i))
  | _, _ => False
def d1 (f : D → (D → Prop) → Prop) (t : UV) : UV := fun ρ C => t ρ fun x => f x C
theorem jd_neg (ha : JV τ X a t) : JD τ X (.UnaryOp .USub a pos) (d1 fNeg t) := fun ρ C c H0 γ σ H r Q q =>
  wpE_of (pe_un un_neg pe_w) (ha ρ _ c H0 γ σ H r _ fun d v H2 c e b => by
    cases d <;> first | exact c.elim | skip
    cases b
    exact ⟨_, rfl, q _ _ H2 c e (.int _)⟩)
/-! ### comparisons -/
def Cm2 (X : Cx) (r : R2) (f : D → D → (Bool → Prop) → Prop) : Prop := ∀ (τ : Tn) (H0 H : Hp) (γ : List (V × D)) (σ : St) (ρ : En) (v1 v2 : V) (d1 d2 : D) (C : Bool → Prop), Rep X.K τ H0 γ H σ ρ →
  Bo X.K τ H (res H (own τ σ ρ)) v1 d1 → Bo X.K τ H (res H (own τ σ ρ)) v2 d2 → f d1 d2 C → ∀ Q : VK, (∀ z, C z → Q (.bl z) H) → r v1 v2 H Q
def b2 (f : D → D → (Bool → Prop) → Prop) (t u : UV) : UT := fun ρ C => t ρ fun x => u ρ fun y => f x y C
def dB (t : UT) : UV := fun ρ C => t ρ fun z => C (.bool z)
theorem jd_cmp {op : CmpOp} {r : R2} {f : D → D → (Bool → Prop) → Prop} (ho : OpR X (compareOp op) r) (hf : Cm2 X r f) (ha : JV τ X a t) (hb : JV τ X b u) (hm : behindInMarks op b = false) : JD τ X (.Compare a [op] [b] pos) (dB (b2 f t u)) := fun ρ C c H0 γ σ H r Q q =>
  wpE_of (pe_cmpR ho pe_w pe_w hm) (ha ρ _ c H0 γ σ H r _ fun d1 v1 H2 c e b1 => hb ρ _ c H0 γ σ H2 (r.after e) _ fun d2 v2 H3 c e2 b2 =>
    hf _ _ _ _ _ _ _ _ _ _ _ ((r.after e).after e2) (b1.after e2) b2 c Q fun z c => q _ _ H3 c (e.trans e2) (.bl z))
theorem jt_cmp {op : CmpOp} {r : R2} {f : D → D → (Bool → Prop) → Prop} (ho : OpR X (compareOp op) r) (hf : Cm2 X r f) (ha : JV τ X a t) (hb : JV τ X b u) (hm : behindInMarks op b = false) : JT τ X (.Compare a [op] [b] pos) (b2 f t u) := fun ρ C c H0 γ σ H r Q q =>
  wpT_of (pt_cmpR ho pe_w pe_w hm) (ha ρ _ c H0 γ σ H r _ fun d1 v1 H2 c e b1 => hb ρ _ c H0 γ σ H2 (r.after e) _ fun d2 v2 H3 c e2 b2 =>
    hf _ _ _ _ _ _ _ _ _ _ _ ((r.after e).after e2) (b1.after e2) b2 c _ fun z c => ⟨z, rfl, q z H3 c (e.trans e2)⟩)
def b3 (f g : D → D → (Bool → Prop) → Prop) (t u s : UV) : UT := fun ρ C => t ρ fun x => u ρ fun y => f x y fun z => (z = true → s ρ fun w => g y w C) ∧ (z = false → C false)
theorem jd_chain {op op' : CmpOp} {r r' : R2} {f g : D → D → (Bool → Prop) → Prop} (ho : OpR X (compareOp op) r) (ho' : OpR X (compareOp op') r') (hf : Cm2 X r f) (hg : Cm2 X r' g) (ha : JV τ X a t) (hb : JV τ X b u) (hc : JV τ X c s)
    (hm : lastMarks [op, op'] [b, c] = false := by with_unfolding_all rfl) : JD τ X (.Compare a [op, op'] [b, c] pos) (dB (b3 f g t u s)) := fun ρ C c H0 γ σ H r Q q =>
  wpE_of (pe_chain ho ho' pe_w pe_w pe_w hm) (ha ρ _ c H0 γ σ H r _ fun d1 v1 H2 c e b1 => hb ρ _ c H0 γ σ H2 (r.after e) _ fun d2 v2 H3 c e2 b2 =>
    hf _ _ _ _ _ _ _ _ _ _ _ ((r.after e).after e2) (b1.after e2) b2 c _ fun z c => ⟨z, rfl, by
      cases z with
      | true => exact iteT (hc ρ _ (c.1 rfl) H0 γ σ H3 ((r.after e).after e2) _ fun d3 v3 H4 c e3 b3 => hg _ _ _ _ _ _ _ _ _ _ _ (((r.after e).after e2).after e3) (b2.after e3) b3 c Q fun z c => q _ _ H4 c ((e.trans e2).trans e3) (.bl z))
      | false => exact iteF (q _ _ H3 (c.2 rfl) (e.trans e2) (.bl false))⟩)
theorem jt_chain {op op' : CmpOp} {r r' : R2} {f g : D → D → (Bool → Prop) → Prop} (ho : OpR X (compareOp op) r) (ho' : OpR X (compareOp op') r') (hf : Cm2 X r f) (hg : Cm2 X r' g) (ha : JV τ X a t) (hb : JV τ X b u) (hc : JV τ X c s)
    (hm : lastMarks [op, op'] [b, c] = false := by with_unfolding_all rfl) : JT τ X (.Compare a [op, op'] [b, c] pos) (b3 f g t u s) := fun ρ C c H0 γ σ H r Q q =>
  wpT_of (pt_chain ho ho' pe_w pe_w pe_w hm) (ha ρ _ c H0 γ σ H r _ fun d1 v1 H2 c e b1 => hb ρ _ c H0 γ σ H2 (r.after e) _ fun d2 v2 H3 c e2 b2 =>
    hf _ _ _ _ _ _ _ _ _ _ _ ((r.after e).after e2) (b1.after e2) b2 c _ fun z c => ⟨z, rfl, by
      cases z with
      | true => exact iteT (hc ρ _ (c.1 rfl) H0 γ σ H3 ((r.after e).after e2) _ fun d3 v3 H4 c e3 b3 => hg _ _ _ _ _ _ _ _ _ _ _ (((r.after e).after e2).after e3) (b2.after e3) b3 c _ fun z c => ⟨z, rfl, q z H4 c ((e.trans e2).trans e3)⟩)
      | false => exact iteF ⟨false, rfl, q _ H3 (c.2 rfl) (e.trans e2)⟩⟩)
def fEq (neg : Bool) : D → D → (Bool → Prop) → Prop := fun x y C => sh 32 x = true ∧ sh 32 y = true ∧ C (if neg then !PyData.eqv x y else PyData.eqv x y)
theorem res_ad_le {H : Hp} : Same (res H τ.ad) H := res_le
theorem fEq_ok : Cm2 X (rEqD X.K) (fEq false) := fun τ H0 H γ σ ρ v1 v2 d1 d2 C r b1 b2 h Q q =>
  ⟨d1, d2, dp_same res_le _ _ (b1.dp res_own_ad), dp_same res_le _ _ (b2.dp res_own_ad), sh_shaped (by decide) h.1, sh_shaped (by decide) h.2.1, q _ h.2.2⟩
theorem fNe_ok : Cm2 X (rNeD X.K) (fEq true) := fun τ H0 H γ σ ρ v1 v2 d1 d2 C r b1 b2 h Q q =>
  ⟨d1, d2, dp_same res_le _ _ (b1.dp res_own_ad), dp_same res_le _ _ (b2.dp res_own_ad), sh_shaped (by decide) h.1, sh_shaped (by decide) h.2.1, q _ h.2.2⟩
/-- ints | tuples of ints -/
def intsOf : List D → Option (List Int)
  | [] => some []
  | .int i :: ds => (intsOf ds).map (i :: ·)
  | _ :: _ => none
theorem intsOf_dp {K : PySem.W.Frag} {H : Hp} : ∀ {ds : List D} {ns : List Int} {vs : List V}, intsOf ds = some ns → DpAll K H vs ds → vs = ns.map V.int
  | [], ns, vs, h, a => by
    cases a
    cases h
    rfl
  | .int i :: ds, ns, _, h, .cons h1 h2 => by
    simp only [intsOf, Option.map_eq_some_iff] at h
    obtain ⟨ms, e, rfl⟩ := h
    cases h1
    rw [intsOf_dp e h2]
    rfl
  | .none :: _, _, _, h, _ => by simp [intsOf] at h
  | .bool _ :: _, _, _, h, _ => by simp [intsOf] at h
  | .str _ :: _, _, _, h, _ => by simp [intsOf] at h
  | .list _ :: _, _, _, h, _ => by simp [intsOf] at h
  | .tuple _ :: _, _, _, h, _ => by simp [intsOf] at h
  | .dict _ :: _, _, _, h, _ => by simp [intsOf] at h
def fLt : D → D → (Bool → Prop) → Prop
  | .int i, .int j, C => C (decide (i < j))
  | .str x, .str y, C => C (decide (x.cps.toList < y.cps.toList))
  | .tuple xs, .tuple ys, C => ∃ ns ms, intsOf xs = some ns ∧ intsOf ys = some ms ∧ C (HT.lexLt ns ms)
  | _, _, _ => False
def rLtU (K : PySem.W.Frag) : R2 := fun x y H Q => rI0 (fun i j => .bl (decide (i < j))) x y H Q ∨ (∃ i j, x = .str i ∧ y = .str j ∧ Q (.bl (decide (i.cps.toList < j.cps.toList))) H) ∨ rLtT K x y H Q
theorem op_ltU (S : Ok cp G N sc k X) : OpR X (compareOp .Lt) (rLtU X.K) := op_lt.or (op_lt_str.or (op_ltT S.room.units0))
theorem fLt_ok : Cm2 X (rLtU X.K) fLt := fun τ H0 H γ σ ρ v1 v2 d1 d2 C r b1 b2 h Q q => by
  cases d1 <;> cases d2 <;> first | exact h.elim | skip
  · cases b1; cases b2
    exact .inl ⟨_, _, rfl, rfl, q _ h⟩
  · cases b1; cases b2
    exact .inr (.inl ⟨_, _, rfl, rfl, q _ h⟩)
  · obtain ⟨a, vs, rfl, hs, ha⟩ := b1
    obtain ⟨b, ws, rfl, ht, hb⟩ := b2
    obtain ⟨ns, ms, h1, h2, h3⟩ := h
    have e1 := intsOf_dp h1 ha
    have e2 := intsOf_dp h2 hb
    subst e1 e2
    exact .inr (.inr ⟨a, b, ns, ms, rfl, rfl, sqT_same res_le hs, sqT_same res_le ht, q _ h3⟩)
def fOrd (f : Int → Int → Bool) : D → D → (Bool → Prop) → Prop
  | .int i, .int j, C => C (f i j)
  | _, _, _ => False
theorem fOrd_ok {f : Int → Int → Bool} : Cm2 X (rI0 fun i j => .bl (f i j)) (fOrd f) := fun τ H0 H γ σ ρ v1 v2 d1 d2 C r b1 b2 h Q q => by
  cases d1 <;> cases d2 <;> first | exact h.elim | skip
  cases b1; cases b2
  exact ⟨_, _, rfl, rfl, q _ h⟩
abbrev fLe := fOrd fun i j => decide (i ≤ j)
abbrev fGt := fOrd fun i j => decide (j < i)
abbrev fGe := fOrd fun i j => decide (j ≤ i)
/-! x > y of ints or of tuples of ints -/
theorem lexAt_gt : ∀ (ns ms pn pm : List Int), pn.length = pm.length →
    Ob.lexAt (fun j => decide ((pn ++ ns).getD j 0 = (pm ++ ms).getD j 0)) (fun j => decide ((pm ++ ms).getD j 0 < (pn ++ ns).getD j 0)) (decide (ms.length < ns.length)) pn.length (min ns.length ms.length) = HT.lexLt ms ns
  | [], [], pn, pm, h => rfl
  | [], m :: ms, pn, pm, h => by simp [Ob.lexAt, HT.lexLt]
  | n :: ns, [], pn, pm, h => by simp [Ob.lexAt, HT.lexLt]
  | n :: ns, m :: ms, pn, pm, h => by
    have ih := lexAt_gt ns ms (pn ++ [n]) (pm ++ [m]) (by simp [h])
    have e1 : (pn ++ n :: ns).getD pn.length 0 = n := by simp
    have e2 : (pm ++ m :: ms).getD pn.length 0 = m := by rw [h]; simp
    have e3 : decide ((m :: ms).length < (n :: ns).length) = decide (ms.length < ns.length) := by simp
    have e4 : min (n :: ns).length (m :: ms).length = min ns.length ms.length + 1 := by simp only [List.length_cons]; omega
    rw [e3, e4, Ob.lexAt_succ]
    simp only [e1, e2, decide_eq_true_eq]
    rw [HT.lexLt_cons]
    simp only [List.append_assoc, List.cons_append, List.nil_append, List.length_append, List.length_cons, List.length_nil] at ih
    by_cases e : n = m
    · rw [if_pos e, if_pos e.symm]
      exact ih
    · rw [if_neg e, if_neg fun z => e z.symm]
def rGtT (K : PySem.W.Frag) : R2 := fun x y H Q => ∃ (a b : Addr) (ns ms : List Int), x = .ref a ∧ y = .ref b ∧ SqT K H a (ns.map V.int) ∧ SqT K H b (ms.map V.int) ∧ Q (.bl (HT.lexLt ms ns)) H
theorem op_gtT (hu : X.A.units < cLine) : OpR X (compareOp .Gt) (rGtT X.K) := by
  intro pins s σ H x y v u Q I rx ry ⟨a, b, ns, ms, ex, ey, ha, hb, q⟩
  subst ex ey
  cases rx; cases ry
  obtain ⟨is1, w1, t1, _⟩ := I.tuple ha
  obtain ⟨is2, w2, t2, _⟩ := I.tuple hb
  have i1 : IntsAre is1 ns := Vals.ints w1
  have i2 : IntsAre is2 ms := Vals.ints w2
  have g1 : ∀ j (h : j < is1.toArray.size), ∃ t, is1.toArray[j] = .int (ns.getD j 0) t := fun j h => IntsAre.int_at i1 _ _ (by simp at h; simp [h])
  have g2 : ∀ j (h : j < is2.toArray.size), ∃ t, is2.toArray[j] = .int (ms.getD j 0) t := fun j h => IntsAre.int_at i2 _ _ (by simp at h; simp [h])
  have R := Ob.RcOp.tuples_gt (A := X.A) (s := s) (e := fun j => decide (ns.getD j 0 = ms.getD j 0)) (r := fun j => decide (ms.getD j 0 < ns.getD j 0)) t1 t2 hu
    (fun j h1 h2 => by
      obtain ⟨u1, f1⟩ := g1 j h1
      obtain ⟨u2, f2⟩ := g2 j h2
      rw [f1, f2, show decide (ns.getD j 0 = ms.getD j 0) = (ns.getD j 0 == ms.getD j 0) from (by rw [Bool.eq_iff_iff, beq_iff_eq, decide_eq_true_eq])]
      exact SeqAt.EqAt.int_int _ _ _ _)
    (fun j h1 h2 _ => by
      obtain ⟨u1, f1⟩ := g1 j h1
      obtain ⟨u2, f2⟩ := g2 j h2
      rw [f1, f2]
      exact Ob.RcOp.gt_int _ _ _ _)
  have l1 : is1.toArray.size = ns.length := by rw [List.size_toArray]; exact i1.length
  have l2 : is2.toArray.size = ms.length := by rw [List.size_toArray]; exact i2.length
  rw [l1, l2] at R
  have e := lexAt_gt ns ms [] [] rfl
  simp only [List.nil_append, List.length_nil] at e
  have e' : decide (ns.length > ms.length) = decide (ms.length < ns.length) := rfl
  rw [e', e] at R
  exact R X.prog X.w X.xe (EP X pins σ Q) ⟨.bl _, H, I, rfl, q⟩
def fGtU : D → D → (Bool → Prop) → Prop
  | .int i, .int j, C => C (decide (j < i))
  | .tuple xs, .tuple ys, C => ∃ ns ms, intsOf xs = some ns ∧ intsOf ys = some ms ∧ C (HT.lexLt ms ns)
  | _, _, _ => False
def rGtU (K : PySem.W.Frag) : R2 := fun x y H Q => rI0 (fun i j => .bl (decide (j < i))) x y H Q ∨ rGtT K x y H Q
theorem op_gtU (S : Ok cp G N sc k X) : OpR X (compareOp .Gt) (rGtU X.K) := op_gt.or (op_gtT S.room.units0)
theorem fGtU_ok : Cm2 X (rGtU X.K) fGtU := fun τ H0 H γ σ ρ v1 v2 d1 d2 C r b1 b2 h Q q => by
  cases d1 <;> cases d2 <;> first | exact h.elim | skip
  · cases b1; cases b2
    exact .inl ⟨_, _, rfl, rfl, q _ h⟩
  · obtain ⟨a, vs, rfl, hs, ha⟩ := b1
    obtain ⟨b, ws, rfl, ht, hb⟩ := b2
    obtain ⟨ns, ms, h1, h2, h3⟩ := h
    have e1 := intsOf_dp h1 ha
    have e2 := intsOf_dp h2 hb
    subst e1 e2
    exact .inr ⟨a, b, ns, ms, rfl, rfl, sqT_same res_le hs, sqT_same res_le ht, q _ h3⟩
def fIs (neg : Bool) : D → D → (Bool → Prop) → Prop
  | .none, .none, C => C (!neg)
  | .bool a, .bool b, C => C (if neg then !decide (a = b) else decide (a = b))
  | .dict _, .none, _ => False
  | .list _, .none, C => C neg
  | .tuple _, .none, C => C neg
  | .int _, .none, C => C neg
  | .str _, .none, C => C neg
  | .bool _, .none, C => C neg
  | _, _, _ => False
def rIsU : R2 := fun x y H Q => (y = .non ∧ Q (.bl (decide (x = .non))) H) ∨ ∃ a b, x = .bl a ∧ y = .bl b ∧ Q (.bl (decide (a = b))) H
def rIsnU : R2 := fun x y H Q => (y = .non ∧ Q (.bl (!decide (x = .non))) H) ∨ ∃ a b, x = .bl a ∧ y = .bl b ∧ Q (.bl (!decide (a = b))) H
theorem op_isU : OpR X (compareOp .Is) rIsU := op_isN.or op_is_bl
theorem op_isnU : OpR X (compareOp .IsNot) rIsnU := op_notN.or op_isnot_bl
theorem fIs_ok : Cm2 X rIsU (fIs false) := fun τ H0 H γ σ ρ v1 v2 d1 d2 C r b1 b2 h Q q => by
  cases d1 <;> cases d2 <;> first | exact h.elim | skip
  · cases b1; cases b2; exact .inl ⟨rfl, q _ h⟩
  · cases b1; cases b2; exact .inl ⟨rfl, q _ h⟩
  · cases b1; cases b2; exact .inr ⟨_, _, rfl, rfl, q _ h⟩
  · cases b1; cases b2; exact .inl ⟨rfl, q _ h⟩
  · cases b1; cases b2; exact .inl ⟨rfl, q _ h⟩
  · obtain ⟨a, vs, rfl, _⟩ := b1; cases b2; exact .inl ⟨rfl, q _ h⟩
  · obtain ⟨a, vs, rfl, _⟩ := b1; cases b2; exact .inl ⟨rfl, q _ h⟩
theorem fIsn_ok : Cm2 X rIsnU (fIs true) := fun τ H0 H γ σ ρ v1 v2 d1 d2 C r b1 b2 h Q q => by
  cases d1 <;> cases d2 <;> first | exact h.elim | skip
  · cases b1; cases b2; exact .inl ⟨rfl, q _ h⟩
  · cases b1; cases b2; exact .inl ⟨rfl, q _ h⟩
  · cases b1; cases b2; exact .inr ⟨_, _, rfl, rfl, q _ h⟩
  · cases b1; cases b2; exact .inl ⟨rfl, q _ h⟩
  · cases b1; cases b2; exact .inl ⟨rfl, q _ h⟩
  · obtain ⟨a, vs, rfl, _⟩ := b1; cases b2; exact .inl ⟨rfl, q _ h⟩
  · obtain ⟨a, vs, rfl, _⟩ := b1; cases b2; exact .inl ⟨rfl, q _ h⟩
/-! x in (a list or tuple of flat things) -/
def flatD : D → Bool
  | .none => true
  | .bool _ => true
  | .int _ => true
  | .str _ => true
  | _ => false
def fIn (neg : Bool) : D → D → (Bool → Prop) → Prop
  | x, .tuple ds, C => (flatD x = true ∧ ds.all flatD = true ∨ sh 32 x = true ∧ shAll 31 ds = true) ∧ C (if neg then !ds.any (fun y => PyData.eqv y x) else ds.any fun y => PyData.eqv y x)
  | x, .list ds, C => (flatD x = true ∧ ds.all flatD = true ∨ sh 32 x = true ∧ shAll 31 ds = true) ∧ C (if neg then !ds.any (fun y => PyData.eqv y x) else ds.any fun y => PyData.eqv y x)
  | .str x, .str z, C => ∃ c, x = ⟨#[c]⟩ ∧ C (if neg then !decide (c ∈ z.cps.toList) else decide (c ∈ z.cps.toList))
  | _, _, _ => False
/-- x in a list or tuple of data of any depth -/
def rInA (K : PySem.W.Frag) (neg : Bool) : R2 := fun x y H Q => ∃ d c ds, Dp K H x d ∧ Dp K H y c ∧ (c = .list ds ∨ c = .tuple ds) ∧ SeqAt.shaped d = true ∧ SeqAt.shaped c = true ∧ Q (.bl (if neg then !ds.any (fun z => PyData.eqv z d) else ds.any fun z => PyData.eqv z d)) H
/-- a sign in a text -/
def rInSg (neg : Bool) : R2 := fun x y H Q => ∃ (c : Nat) (z : Str), x = .str ⟨#[c]⟩ ∧ y = .str z ∧ Q (.bl (if neg then !decide (c ∈ z.cps.toList) else decide (c ∈ z.cps.toList))) H
def rInU (K : PySem.W.Frag) (neg : Bool) : R2 := fun x y H Q => rIn K neg x y H Q ∨ rInA K neg x y H Q ∨ rInSg neg x y H Q
theorem op_inA (hu : X.A.units + 65 < cLine) : OpR X (compareOp .In) (rInA X.K false) := by
  intro pins s σ H x y v u Q I rx ry h
  obtain ⟨d, c, ds, hd, he, hc, sd, se, q⟩ := h
  obtain ⟨as, r1⟩ := Dp.reads I d x v hd rx
  obtain ⟨bs, r2⟩ := Dp.reads I c y u he ry
  rcases hc with rfl | rfl
  · exact SeqAt.in_list_reads r2 r1 (SeqAt.canLay_of_shaped se) (SeqAt.canLay_of_shaped sd) (room_in_shaped sd hu) ⟨.bl _, H, I, rfl, q⟩
  · exact SeqAt.in_tuple_reads r2 r1 (SeqAt.canLay_of_shaped se) (SeqAt.canLay_of_shaped sd) (room_in_shaped sd hu) ⟨.bl _, H, I, rfl, q⟩
theorem op_notInA (hu : X.A.units + 65 < cLine) : OpR X (compareOp .NotIn) (rInA X.K true) := by
  intro pins s σ H x y v u Q I rx ry h
  obtain ⟨d, c, ds, hd, he, hc, sd, se, q⟩ := h
  obtain ⟨as, r1⟩ := Dp.reads I d x v hd rx
  obtain ⟨bs, r2⟩ := Dp.reads I c y u he ry
  rcases hc with rfl | rfl
  · exact SeqAt.notIn_list_reads r2 r1 (SeqAt.canLay_of_shaped se) (SeqAt.canLay_of_shaped sd) (room_in_shaped sd hu) ⟨.bl _, H, I, rfl, q⟩
  · exact SeqAt.notIn_tuple_reads r2 r1 (SeqAt.canLay_of_shaped se) (SeqAt.canLay_of_shaped sd) (room_in_shaped sd hu) ⟨.bl _, H, I, rfl, q⟩
theorem op_inU (hu : X.A.units + 65 < cLine) : OpR X (compareOp .In) (rInU X.K false) := op_in_seq.or ((op_inA hu).or (r := rInA X.K false) op_in_sign)
theorem op_notInU (hu : X.A.units + 65 < cLine) : OpR X (compareOp .NotIn) (rInU X.K true) := op_notIn_seq.or ((op_notInA hu).or (r := rInA X.K true) op_notIn_sign)
theorem flat_dp {K : PySem.W.Frag} {H : Hp} {v : V} {d : D} (f : flatD d = true) (h : Dp K H v d) : flatV v = true := by
  cases h <;> first | rfl | (simp [flatD] at f)
theorem flat_bo {K : PySem.W.Frag} {τ : Tn} {H R : Hp} {v : V} {d : D} (f : flatD d = true) (h : Bo K τ H R v d) : Dp K R v d := by
  cases d <;> first | (simp [flatD] at f; done) | skip
  · cases h; exact .non
  · cases h; exact .bl _
  · cases h; exact .int _
  · cases h; exact .str _
theorem eqV_dp {K : PySem.W.Frag} {H H' : Hp} {v w : V} {d e : D} (fd : flatD d = true) (fe : flatD e = true) (h : Dp K H v d) (g : Dp K H' w e) : eqV v w = PyData.eqv d e := by
  cases h <;> cases g <;> first | (simp [flatD] at fd; done) | (simp [flatD] at fe; done) | (simp [eqV, PyData.eqv]; done) | (simp [eqV, PyData.eqv]; split <;> simp_all)
theorem all_flat {K : PySem.W.Frag} {H : Hp} : ∀ {vs : List V} {ds : List D}, ds.all flatD = true → DpAll K H vs ds → vs.all flatV = true
  | _, [], _, .nil => rfl
  | _, d :: ds, f, .cons h1 h2 => by
    simp only [List.all_cons, Bool.and_eq_true] at f ⊢
    exact ⟨flat_dp f.1 h1, all_flat f.2 h2⟩
theorem any_flat {K : PySem.W.Frag} {H H' : Hp} {w : V} {x : D} (fx : flatD x = true) (g : Dp K H' w x) : ∀ {vs : List V} {ds : List D}, ds.all flatD = true → DpAll K H vs ds → inV w vs = ds.any fun y => PyData.eqv y x
  | _, [], _, .nil => rfl
  | _, d :: ds, f, .cons h1 h2 => by
    simp only [List.all_cons, Bool.and_eq_true] at f
    have ih := any_flat fx g f.2 h2
    unfold inV at ih ⊢
    rw [List.any_cons, List.any_cons, ih, eqV_dp f.1 fx h1 g]
theorem fIn_ok {neg : Bool} : Cm2 X (rInU X.K neg) (fIn neg) := fun τ H0 H γ σ ρ v1 v2 d1 d2 C r b1 b2 h Q q => by
  cases d2 with
  | tuple ds =>
    obtain ⟨h1 | h1, h3⟩ := h
    · obtain ⟨a, vs, rfl, hs, ha⟩ := b2
      have g := flat_bo h1.1 b1
      refine .inl ⟨a, vs, rfl, .inr (sqT_same res_le hs), flat_dp h1.1 g, all_flat h1.2 ha, ?_⟩
      rw [any_flat h1.1 g h1.2 ha]
      exact q _ h3
    · exact .inr (.inl ⟨d1, _, ds, dp_same res_le _ _ (b1.dp res_own_ad), dp_same res_le _ _ (b2.dp res_own_ad), .inr rfl, sh_shaped (by decide) h1.1, sh_shaped (n := 32) (by decide) (by show shAll 31 ds = true; exact h1.2), q _ h3⟩)
  | list ds =>
    obtain ⟨h1 | h1, h3⟩ := h
    · obtain ⟨a, vs, rfl, hs, ha⟩ := b2
      have g := flat_bo h1.1 b1
      refine .inl ⟨a, vs, rfl, .inl (sqL_same res_le hs), flat_dp h1.1 g, all_flat h1.2 ha, ?_⟩
      rw [any_flat h1.1 g h1.2 ha]
      exact q _ h3
    · exact .inr (.inl ⟨d1, _, ds, dp_same res_le _ _ (b1.dp res_own_ad), dp_same res_le _ _ (b2.dp res_own_ad), .inl rfl, sh_shaped (by decide) h1.1, sh_shaped (n := 32) (by decide) (by show shAll 31 ds = true; exact h1.2), q _ h3⟩)
  | none => exact h.elim
  | bool _ => exact h.elim
  | int _ => exact h.elim
  | str z =>
    cases d1 <;> first | exact h.elim | skip
    obtain ⟨c, rfl, h3⟩ := h
    cases b1; cases b2
    exact .inr (.inr ⟨c, z, rfl, rfl, q _ h3⟩)
  | dict _ => exact h.elim
end
end Pu
namespace Pu
open PySem PySem.Spec PyProof.Rows L2
section
variable {τ : Tn} {G : Gx} {cp : List Str} {N : List Str} {sc : Scope} {k : Nat} {X : Cx} {a b c : Expr} {es rest : List Expr} {t u s : UV} {te ue : UE} {tt tu : UT} {pos : Pos}
/-! ### truth, and, or, not, if -/
def fTru : D → (Bool → Prop) → Prop
  | .none, C => C false
  | .bool b, C => C b
  | .int i, C => C (i != 0)
  | .str x, C => x.length ≤ 1000000 ∧ C ((x.length : Int) != 0)
  | .list ds, C => C (!ds.isEmpty)
  | .tuple ds, C => C (!ds.isEmpty)
  | .dict _, _ => False
def bTru (t : UV) : UT := fun ρ C => t ρ fun d => fTru d C
theorem empty_dp {K : PySem.W.Frag} {H : Hp} {vs : List V} {ds : List D} (h : DpAll K H vs ds) : vs.isEmpty = ds.isEmpty := by
  cases h <;> rfl
theorem jt_tru (ha : JV τ X a t) (he : ∀ whole, isTrue a X.env whole = (do let v ← whole; standAt a.pos; holding [v] (truthy v)) := by intro _; rfl) : JT τ X a (bTru t) := fun ρ C c H0 γ σ H r Q q =>
  wpT_of (pt_truth pe_w he) (ha ρ _ c H0 γ σ H r _ fun d v H2 c e b => by
    cases d with
    | none => cases b; exact ⟨_, rfl, q _ H2 c e⟩
    | bool _ => cases b; exact ⟨_, rfl, q _ H2 c e⟩
    | int _ => cases b; exact ⟨_, rfl, q _ H2 c e⟩
    | str _ => cases b; exact ⟨_, ⟨small_line c.1, rfl⟩, q _ H2 c.2 e⟩
    | list ds =>
      obtain ⟨p, vs, rfl, hs, ha⟩ := b
      exact ⟨_, .inl ⟨vs, sqL_same res_le hs, rfl⟩, q _ H2 (by rw [empty_dp ha]; exact c) e⟩
    | tuple ds =>
      obtain ⟨p, vs, rfl, hs, ha⟩ := b
      exact ⟨_, .inr (.inl ⟨vs, sqT_same res_le hs, rfl⟩), q _ H2 (by rw [empty_dp ha]; exact c) e⟩
    | dict _ => exact c.elim)
def bAnd (t u : UT) : UT := fun ρ C => t ρ fun z => (z = true → u ρ C) ∧ (z = false → C false)
def bOr (t u : UT) : UT := fun ρ C => t ρ fun z => (z = true → C true) ∧ (z = false → u ρ C)
def bNot (t : UT) : UT := fun ρ C => t ρ fun z => C (!z)
theorem jw_and1 (ha : JT τ X a tt) : JW τ X (.BoolOp .And [a] pos) tt := fun ρ C c H0 γ σ H r Q q => wpW_of (pw_and1 pt_w) (ha ρ C c H0 γ σ H r Q q)
theorem jw_or1 (ha : JT τ X a tt) : JW τ X (.BoolOp .Or [a] pos) tt := fun ρ C c H0 γ σ H r Q q => wpW_of (pw_or1 pt_w) (ha ρ C c H0 γ σ H r Q q)
theorem jw_and (ha : JT τ X a tt) (hb : JW τ X (.BoolOp .And (b :: rest) pos) tu) : JW τ X (.BoolOp .And (a :: b :: rest) pos) (bAnd tt tu) := fun ρ C c H0 γ σ H r Q q =>
  wpW_of (pw_and pt_w pw_w) (ha ρ _ c H0 γ σ H r _ fun z H2 c e => by
    cases z with
    | true => exact iteT (hb ρ C (c.1 rfl) H0 γ σ H2 (r.after e) Q fun b H3 c e2 => q b H3 c (e.trans e2))
    | false => exact iteF (q _ H2 (c.2 rfl) e))
theorem jw_or (ha : JT τ X a tt) (hb : JW τ X (.BoolOp .Or (b :: rest) pos) tu) : JW τ X (.BoolOp .Or (a :: b :: rest) pos) (bOr tt tu) := fun ρ C c H0 γ σ H r Q q =>
  wpW_of (pw_or pt_w pw_w) (ha ρ _ c H0 γ σ H r _ fun z H2 c e => by
    cases z with
    | true => exact iteT (q _ H2 (c.1 rfl) e)
    | false => exact iteF (hb ρ C (c.2 rfl) H0 γ σ H2 (r.after e) Q fun b H3 c e2 => q b H3 c (e.trans e2)))
theorem jt_w (h : JW τ X a tt) : JT τ X a tt := fun ρ C c H0 γ σ H r Q q => by
  unfold wpT
  exact fun pins s I => pw_w.run _ pins s σ H Q I (h ρ C c H0 γ σ H r Q q)
theorem jt_not (ha : JT τ X a tt) : JT τ X (.UnaryOp .Not a pos) (bNot tt) := fun ρ C c H0 γ σ H r Q q => wpT_of (pt_not pt_w) (ha ρ _ c H0 γ σ H r _ fun z H2 c e => q _ H2 c e)
/-- values that are truths -/
def fBoolK : D → (Bool → Prop) → Prop
  | .bool b, C => C b
  | _, _ => False
def dAnd (t u : UV) : UV := fun ρ C => t ρ fun d => fBoolK d fun z => (z = true → u ρ C) ∧ (z = false → C (.bool false))
def dOr (t u : UV) : UV := fun ρ C => t ρ fun d => fBoolK d fun z => (z = true → C (.bool true)) ∧ (z = false → u ρ C)
def dNot (t : UV) : UV := fun ρ C => t ρ fun d => fBoolK d fun z => C (.bool (!z))
theorem jd_one {op : BoolOp} (ha : JD τ X a t) : JD τ X (.BoolOp op [a] pos) t := fun ρ C c H0 γ σ H r Q q => wpE_of (pe_one pe_w) (ha ρ C c H0 γ σ H r Q q)
theorem jd_and (ha : JV τ X a t) (hb : JD τ X (.BoolOp .And (b :: rest) pos) u) : JD τ X (.BoolOp .And (a :: b :: rest) pos) (dAnd t u) := fun ρ C c H0 γ σ H r Q q =>
  wpE_of (pe_and pe_w pe_w) (ha ρ _ c H0 γ σ H r _ fun d v H2 c e bo => by
    cases d <;> first | exact c.elim | skip
    cases bo
    refine ⟨_, rfl, ?_⟩
    rename_i z
    cases z with
    | true => exact iteT (hb ρ C (c.1 rfl) H0 γ σ H2 (r.after e) Q fun d v H3 c e2 h => q d v H3 c (e.trans e2) h)
    | false => exact iteF (q _ _ H2 (c.2 rfl) e (.bl _)))
theorem jd_or (ha : JV τ X a t) (hb : JD τ X (.BoolOp .Or (b :: rest) pos) u) : JD τ X (.BoolOp .Or (a :: b :: rest) pos) (dOr t u) := fun ρ C c H0 γ σ H r Q q =>
  wpE_of (pe_or pe_w pe_w) (ha ρ _ c H0 γ σ H r _ fun d v H2 c e bo => by
    cases d <;> first | exact c.elim | skip
    cases bo
    refine ⟨_, rfl, ?_⟩
    rename_i z
    cases z with
    | true => exact iteT (q _ _ H2 (c.1 rfl) e (.bl _))
    | false => exact iteF (hb ρ C (c.2 rfl) H0 γ σ H2 (r.after e) Q fun d v H3 c e2 h => q d v H3 c (e.trans e2) h))
theorem jd_not (ha : JV τ X a t) : JD τ X (.UnaryOp .Not a pos) (dNot t) := fun ρ C c H0 γ σ H r Q q =>
  wpE_of (pe_not pe_w) (ha ρ _ c H0 γ σ H r _ fun d v H2 c e bo => by
    cases d <;> first | exact c.elim | skip
    cases bo
    exact ⟨_, rfl, q _ _ H2 c e (.bl _)⟩)
def eIf (tt : UT) (t u : UE) : UE := fun ρ C => tt ρ fun z => (z = true → t ρ C) ∧ (z = false → u ρ C)
theorem je_if (hc : JT τ X c tt) (ha : JE τ X a te) (hb : JE τ X b ue) : JE τ X (.IfExp c a b pos) (eIf tt te ue) := fun ρ C cc H0 γ σ H r Q q =>
  wpE_of (pe_ifExp pt_w pe_w pe_w) (hc ρ _ cc H0 γ σ H r _ fun z H2 c e => by
    have fin : ∀ rs v H3, C rs → Ext τ H2 H3 → RsOk X.K τ H2 H3 σ ρ v rs → Q v H3 := fun rs v H3 c e2 h => q rs v H3 c (e.trans e2) (by
      cases rs with
      | dat d => exact h
      | lst ds =>
        obtain ⟨p, vs, h1, h2, h3⟩ := h
        exact ⟨p, vs, h1, e.fresh r.inv h2, h3⟩
      | dic ds =>
        obtain ⟨p, vs, h1, h2, h3⟩ := h
        exact ⟨p, vs, h1, e.fresh r.inv h2, h3⟩
      | th x =>
        obtain ⟨p, vs, h1, h2, h3⟩ := h
        exact ⟨p, vs, h1, e.fresh r.inv h2, h3⟩
      | dll m =>
        obtain ⟨p, vs, h1, h2, h3, h4, h5⟩ := h
        exact ⟨p, vs, h1, e.fresh r.inv h2, h3, h4, fun q hq => let ⟨L, e1, ne, e2⟩ := h5 q hq; ⟨L, e1, ne, e.fresh r.inv e2⟩⟩)
    cases z with
    | true => exact iteT (ha ρ C (c.1 rfl) H0 γ σ H2 (r.after e) Q fin)
    | false => exact iteF (hb ρ C (c.2 rfl) H0 γ σ H2 (r.after e) Q fin))
def dIf (tt : UT) (t u : UV) : UV := fun ρ C => tt ρ fun z => (z = true → t ρ C) ∧ (z = false → u ρ C)
theorem jd_if (hc : JT τ X c tt) (ha : JD τ X a t) (hb : JD τ X b u) : JD τ X (.IfExp c a b pos) (dIf tt t u) := fun ρ C cc H0 γ σ H r Q q =>
  wpE_of (pe_ifExp pt_w pe_w pe_w) (hc ρ _ cc H0 γ σ H r _ fun z H2 c e => by
    cases z with
    | true => exact iteT (ha ρ C (c.1 rfl) H0 γ σ H2 (r.after e) Q fun d v H3 c e2 h => q d v H3 c (e.trans e2) h)
    | false => exact iteF (hb ρ C (c.2 rfl) H0 γ σ H2 (r.after e) Q fun d v H3 c e2 h => q d v H3 c (e.trans e2) h))
/-! ### items, slices -/
def fIx : D → D → (D → Prop) → Prop
  | .list ds, .int i, C => ∃ d, atI ds i = some d ∧ C d
  | .tuple ds, .int i, C => ∃ d, atI ds i = some d ∧ C d
  | .str x, .int i, C => x.length ≤ 1000000 ∧ ∃ c, atI x.cps.toList i = some c ∧ C (.str ⟨#[c]⟩)
  | _, _, _ => False
theorem atI_dp {K : PySem.W.Frag} {H : Hp} {vs : List V} {ds : List D} {i : Int} {d : D} (h : DpAll K H vs ds) (e : atI ds i = some d) : ∃ v, atI vs i = some v ∧ Dp K H v d := by
  unfold atI at e ⊢
  rw [dpAll_len h]
  cases q : ixN ds.length i with
  | none => rw [q] at e; cases e
  | some j =>
    rw [q] at e
    obtain ⟨v, e1, e2⟩ := dpAll_get h (show ds[j]? = some d from e)
    exact ⟨v, e1, e2⟩
theorem jd_ix (ha : JV τ X a t) (hb : JV τ X b u) (hs : PlainIx b := by exact fun _ _ => rfl) : JD τ X (.Subscript a b pos) (d2 fIx t u) := fun ρ C c H0 γ σ H r Q q =>
  wpE_of (pe_ix ix_seq pe_w pe_w hs) (ha ρ _ c H0 γ σ H r _ fun d1 v1 H2 c e b1 => hb ρ _ c H0 γ σ H2 (r.after e) _ fun d2 v2 H3 c e2 b2 => by
    have b1 := b1.after e2
    cases d1 with
    | list ds =>
      cases d2 <;> first | exact c.elim | skip
      cases b2
      obtain ⟨d, hd, c⟩ := c
      obtain ⟨p, vs, rfl, hs, ha⟩ := b1
      obtain ⟨v, hv, hdp⟩ := atI_dp ha hd
      exact .inl ⟨p, vs, _, v, rfl, rfl, sqL_same res_le hs, hv, q d v H3 c (e.trans e2) hdp⟩
    | tuple ds =>
      cases d2 <;> first | exact c.elim | skip
      cases b2
      obtain ⟨d, hd, c⟩ := c
      obtain ⟨p, vs, rfl, hs, ha⟩ := b1
      obtain ⟨v, hv, hdp⟩ := atI_dp ha hd
      exact .inr (.inl ⟨p, vs, _, v, rfl, rfl, sqT_same res_le hs, hv, q d v H3 c (e.trans e2) hdp⟩)
    | str x =>
      cases d2 <;> first | exact c.elim | skip
      cases b2
      cases b1
      obtain ⟨hl, d, hd, c⟩ := c
      exact .inr (.inr ⟨x, _, d, rfl, rfl, small_line hl, hd, q _ _ H3 c (e.trans e2) (.str _)⟩)
    | none => cases d2 <;> exact c.elim
    | bool _ => cases d2 <;> exact c.elim
    | int _ => cases d2 <;> exact c.elim
    | dict _ => cases d2 <;> exact c.elim)
abbrev UO := En → (Option Int → Prop) → Prop
def wpO (X : Cx) (e : Option Expr) : TO := fun σ H Q => ∀ t : TO, t σ H Q → True → True
def JO (τ : Tn) (X : Cx) (e : Option Expr) (t : UO) : Prop := ∃ to : TO, PO X e to ∧ ∀ (ρ : En) (C : Option Int → Prop), t ρ C → ∀ (H0 : Hp) (γ : List (V × D)) (σ : St) (H : Hp), Rep X.K τ H0 γ H σ ρ → ∀ Q : Option Int → Hp → Prop,
  (∀ o H2, C o → Ext τ H H2 → Q o H2) → to σ H Q
def oNone : UO := fun _ C => C none
def oSome (t : UV) : UO := fun ρ C => t ρ fun d => ∃ i, d = .int i ∧ C (some i)
theorem jo_none : JO τ X none oNone := ⟨_, po_none, fun ρ C c H0 γ σ H r Q q => q none H c .refl⟩
theorem jo_some (ha : JV τ X a t) : JO τ X (some a) (oSome t) := ⟨_, po_some pe_w, fun ρ C c H0 γ σ H r Q q => ha ρ _ c H0 γ σ H r _ fun d v H2 c e b => by
  obtain ⟨i, rfl, c⟩ := c
  cases b
  exact ⟨i, rfl, q _ H2 c e⟩⟩
def cut {α : Type} (xs : List α) (lo hi : Option Int) : List α := (xs.drop (HT.sIx xs.length 0 lo)).take (HT.sIx xs.length xs.length hi - HT.sIx xs.length 0 lo)
theorem cut_dp {K : PySem.W.Frag} {H : Hp} {vs : List V} {ds : List D} (lo hi : Option Int) (h : DpAll K H vs ds) : DpAll K H (cutV vs lo hi) (cut ds lo hi) := by
  unfold cutV cut
  rw [dpAll_len h]
  exact dpAll_take _ (dpAll_drop _ h)
def fCut : D → Option Int → Option Int → (Rs → Prop) → Prop
  | .list ds, lo, hi, C => C (.lst (cut ds lo hi))
  | .tuple ds, lo, hi, C => C (.dat (.tuple (cut ds lo hi)))
  | .str x, lo, hi, C => x.length ≤ 1000000 ∧ C (.dat (.str (cutS x lo hi)))
  | _, _, _, _ => False
def eCut (t : UV) (tl th : UO) : UE := fun ρ C => t ρ fun d => tl ρ fun l => th ρ fun h => fCut d l h C
/-- t[lo:hi], laid plainly; the whole of it is t itself -/
def rSlP (K : PySem.W.Frag) : V → Option Int → Option Int → Hp → VK → Prop := fun x lo hi H Q => ∃ a xs, x = .ref a ∧ SqT K H a xs ∧
  (HT.sIx xs.length 0 lo = 0 ∧ HT.sIx xs.length xs.length hi = xs.length → Q (.ref a) H) ∧ ∀ p o, o.dict = none → H p = none → Q (.ref p) (upd H p (.frz o (.tup (cutV xs lo hi))))
theorem sl_tupP : SlR X (rSlP X.K) := by
  intro pins s σ H x v vl vu lo hi sl Q I rx hs pl pu h
  obtain ⟨a, xs, rfl, hx, q1, q2⟩ := h
  cases rx
  obtain ⟨us, r, t1, hz⟩ := I.tuple hx
  have hl : us.toArray.size = xs.length := by rw [List.size_toArray]; exact r.length.symm
  refine ⟨"tuple", _, PyProof.Rows.slot_tuple_getitem.lookup, t1.typeIs, ?_⟩
  by_cases hw : HT.sIx xs.length 0 lo = 0 ∧ HT.sIx xs.length xs.length hi = xs.length
  · exact getItem_tuple_whole t1 hs pl pu (by rw [hl]; exact hw) ⟨.ref a, H, I, rfl, q1 hw⟩
  · refine HT.getItem_tuple_cut t1 hs pl pu (by rw [hl]; exact hw) ?_ (by rw [hl]; exact hz)
    rw [hl]
    have I2 := inv_plT (t' := s.toks) I (xs := cutV xs lo hi) (Nat.le_trans (cutV_length xs lo hi) hz) ((r.drop (HT.sIx xs.length 0 lo)).take (HT.sIx xs.length xs.length hi - HT.sIx xs.length 0 lo))
    exact ⟨.ref s.heap.objs.size, _, I2, rfl, q2 _ _ rfl (I.hok.fresh (Nat.le_refl _))⟩
def rSlU (K : PySem.W.Frag) : V → Option Int → Option Int → Hp → VK → Prop := fun x lo hi H Q => rSlL K x lo hi H Q ∨ rSlP K x lo hi H Q ∨ rSlS x lo hi H Q
theorem sl_U : SlR X (rSlU X.K) := sl_list.or (sl_tupP.or sl_str)
theorem cut_whole {α : Type} {xs : List α} {lo hi : Option Int} (h : HT.sIx xs.length 0 lo = 0 ∧ HT.sIx xs.length xs.length hi = xs.length) : cut xs lo hi = xs := by
  unfold cut
  rw [h.1, h.2]
  simp
theorem je_cut {lo hi : Option Expr} {tl th : UO} {p2 : Pos} (ha : JV τ X a t) (hl : JO τ X lo tl) (hh : JO τ X hi th) : JE τ X (.Subscript a (.Slice lo hi none p2) pos) (eCut t tl th) := by
  obtain ⟨tlo, pl, hl⟩ := hl
  obtain ⟨thi, ph, hh⟩ := hh
  intro ρ C c H0 γ σ H r Q q
  refine wpE_of (pe_slice sl_U pe_w pl ph) (ha ρ _ c H0 γ σ H r _ fun d v H2 c e b => hl ρ _ c H0 γ σ H2 (r.after e) _ fun l H3 c e2 => hh ρ _ c H0 γ σ H3 ((r.after e).after e2) _ fun h H4 c e3 => ?_)
  have b4 := (b.after e2).after e3
  have r4 := ((r.after e).after e2).after e3
  have e4 := (e.trans e2).trans e3
  cases d with
  | list ds =>
    obtain ⟨p, vs, rfl, hs, ha⟩ := b4
    refine .inl ⟨p, vs, rfl, sqL_same res_le hs, fun p' hp => q _ _ _ c (e4.trans (.new hp)) ⟨p', _, rfl, e4.fresh r.inv hp, upd_same, dpAll_same (res_mono fun a o n ea => ?_) _ _ (cut_dp l h ha)⟩⟩
    have hne : a ≠ p' := ne_of_none ea hp
    exact ⟨fun z => z.elim n hne, by rw [upd_ne hne]; exact ea⟩
  | tuple ds =>
    obtain ⟨p, vs, rfl, hs, ha⟩ := b4
    refine .inr (.inl ⟨p, vs, rfl, sqT_same res_le hs, fun hw => ?_, fun p' o ho hp => ?_⟩)
    · refine q _ _ _ c e4 ?_
      rw [dpAll_len ha] at hw
      rw [cut_whole hw]
      exact .tup (sqT_of_mut r4 hs) ha
    · exact q _ _ _ c (e4.trans (.new hp)) (.tup (.inl (.inr ⟨o, res_put (r4.notOwn hp) upd_same ho⟩)) (dpAll_after (.new hp) (cut_dp l h ha)))
  | str x =>
    cases b4
    exact .inr (.inr ⟨x, rfl, small_line c.1, q _ _ _ c.2 e4 (.str _)⟩)
  | none => exact c.elim
  | bool _ => exact c.elim
  | int _ => exact c.elim
  | dict _ => exact c.elim
end
end Pu
namespace Pu
open PySem PySem.Spec PyProof.Rows L2
/-! ### what a def is handed, what it hands back -/
inductive Ar where
  | dat (d : D)
  | town
  | th (x : Th)
def ArOk (K : PySem.W.Frag) (τ : Tn) (H : Hp) (v : V) : Ar → Prop
  | .dat d => Dp K (res H τ.ad) v d
  | .town => v = τ.val
  | .th x => ∃ a, v = .ref a ∧ ThAt K (res H τ.ad) a x
abbrev ArsOk (K : PySem.W.Frag) (τ : Tn) (H : Hp) : List V → List Ar → Prop := Paired (ArOk K τ H)
def Rs.lf : Rs → Bool
  | .dat d => Pu.lf d
  | .lst ds => lfAll ds
  | .dic kds => lfAll (kds.map (·.2))
  | .th x => x.lf
  | .dll m => m.all fun q => lfAll q.2
def RtV (K : PySem.W.Frag) (τ : Tn) (H0 H : Hp) (v : V) : Rs → Prop
  | .dat d => Dp K (res H τ.ad) v d
  | .lst ds => ∃ a vs, v = .ref a ∧ H0 a = none ∧ H a = some (.lst vs) ∧ DpAll K (res H (fun b => τ.ad b ∨ b = a)) vs ds
  | .dic kds => ∃ a kvs, v = .ref a ∧ H0 a = none ∧ H a = some (.dK kvs) ∧ KvOk K (res H (fun b => τ.ad b ∨ b = a)) kvs kds
  | .th x => ∃ a o, v = .ref a ∧ H0 a = none ∧ H a = some o ∧ ThIs K (res H (fun b => τ.ad b ∨ b = a)) a o x
  | .dll m => ∃ a kvs, v = .ref a ∧ H0 a = none ∧ H a = some (.dK kvs) ∧ KvOk K (res H (fun b => τ.ad b ∨ b = a)) kvs (toK m) ∧ FrV H0 a kvs
abbrev Sf := List Ar → (Rs → Prop) → Prop
def spD (G : Gx) (τ : Tn) (S : Sf) : Sp := fun vs H Q _ => ∃ as C, ArsOk G.K τ H vs as ∧ τ.inv H ∧ S as C ∧ ∀ r v H', r.lf = true → C r → Ext τ H H' → RtV G.K τ H H' v r → Q v H'
/-- the def x keeps the word S -/
structure FnD (G : Gx) (τ : Tn) (k : Nat) (x : Str) (ps : List Str) (S : Sf) : Prop where
  ex : ∃ (f : Addr) (fd : FuncData), FnOk G.P G.w G.K G.mg G.base CX0 k f fd ps (spD G τ S) ∧ G.mg x = some (.ref f) ∧ PySem.W.keepIn G.K (.ref f) = true ∧ Binds G.K fd ps []
/-- the same, called with n values and the keywords ks -/
structure FnK (G : Gx) (τ : Tn) (k : Nat) (x : Str) (ps : List Str) (S : Sf) (n : Nat) (ks : List Str) (g : List Ar → List Ar → List Ar) : Prop where
  ex : ∃ (f : Addr) (fd : FuncData) (gU : List Value → List Value → List Value) (gV : List V → List V → List V), FnOk G.P G.w G.K G.mg G.base CX0 k f fd ps (spD G τ S) ∧ G.mg x = some (.ref f) ∧ PySem.W.keepIn G.K (.ref f) = true ∧ KBn G.K fd ps n ks gU gV ∧
    ∀ (K : PySem.W.Frag) (H : Hp) (vs zs : List V) (as bs : List Ar), ArsOk K τ H vs as → ArsOk K τ H zs bs → ArsOk K τ H (gV vs zs) (g as bs)
abbrev UA := En → (List Ar → Prop) → Prop
def JA (τ : Tn) (X : Cx) (es : List Expr) (t : UA) : Prop := ∀ (ρ : En) (C : List Ar → Prop), t ρ C → ∀ (H0 : Hp) (γ : List (V × D)) (σ : St) (H : Hp), Rep X.K τ H0 γ H σ ρ → ∀ Q : List V → Hp → Prop,
  (∀ as vs H2, C as → Ext τ H H2 → ArsOk X.K τ H2 vs as → vs.length = es.length → Q vs H2) → wpA X es σ H Q
@[irreducible] def wpK (X : Cx) (kws : List Keyword) : TA := fun σ H Q => ∀ (pos : Pos) (pins : List (Addr × Obj)) (s : Shared), Inv X pins σ H s → wpAny (model X.prog X.w) X.A (evalAll ((backToKw pos (keywordEach kws X.env)).map (·.2))) (AP X pins σ Q) X.xe s
theorem pk_w {X : Cx} {kws : List Keyword} : PK X kws (wpK X kws) := ⟨fun pos pins s _ _ _ I h => by unfold wpK at h; exact h pos pins s I⟩
theorem wpK_of {X : Cx} {kws : List Keyword} {t : TA} (h : PK X kws t) {σ : St} {H : Hp} {Q : List V → Hp → Prop} (q : t σ H Q) : wpK X kws σ H Q := by
  unfold wpK
  exact fun pos pins s I => h.run pos pins s σ H Q I q
def JK (τ : Tn) (X : Cx) (kws : List Keyword) (t : UA) : Prop := ∀ (ρ : En) (C : List Ar → Prop), t ρ C → ∀ (H0 : Hp) (γ : List (V × D)) (σ : St) (H : Hp), Rep X.K τ H0 γ H σ ρ → ∀ Q : List V → Hp → Prop,
  (∀ as vs H2, C as → Ext τ H H2 → ArsOk X.K τ H2 vs as → vs.length = kws.length → Q vs H2) → wpK X kws σ H Q
/-- several things looked at -/
def JVs (τ : Tn) (X : Cx) (es : List Expr) (t : UL) : Prop := ∀ (ρ : En) (C : List D → Prop), t ρ C → ∀ (H0 : Hp) (γ : List (V × D)) (σ : St) (H : Hp), Rep X.K τ H0 γ H σ ρ → ∀ Q : List V → Hp → Prop,
  (∀ ds vs H2, C ds → Ext τ H H2 → Paired (fun v d => Bo X.K τ H2 (res H2 (own τ σ ρ)) v d) vs ds → Q vs H2) → wpA X es σ H Q
section
variable {τ : Tn} {G : Gx} {cp : List Str} {N : List Str} {sc : Scope} {k j n : Nat} {X : Cx} {a b c e : Expr} {es rest : List Expr} {t u s : UV} {te ue : UE} {ta tk : UA} {pos p kpos : Pos} {x : Str} {ps ks : List Str} {S : Sf} {kws : List Keyword}
theorem arOk_after {K : PySem.W.Frag} {H H' : Hp} {v : V} {a : Ar} (e : Ext τ H H') (h : ArOk K τ H v a) : ArOk K τ H' v a := by
  cases a with
  | dat d => exact dp_same (res_ext e fun _ z => z) _ _ h
  | town => exact h
  | th x =>
    obtain ⟨a, h1, h2⟩ := h
    exact ⟨a, h1, h2.same (res_ext e fun _ z => z)⟩
theorem arsOk_after {K : PySem.W.Frag} {H H' : Hp} (e : Ext τ H H') : ∀ {vs : List V} {as : List Ar}, ArsOk K τ H vs as → ArsOk K τ H' vs as
  | _, _, .nil => .nil
  | _, _, .cons h t => .cons (arOk_after e h) (arsOk_after e t)
def aNil : UA := fun _ C => C []
def aCons (t : UV) (ts : UA) : UA := fun ρ C => t ρ fun d => ts ρ fun as => C (.dat d :: as)
def aTown (i : Nat) (ts : UA) : UA := fun ρ C => match ρ[i]? with
  | some .town => ts ρ fun as => C (.town :: as)
  | _ => False
theorem ja_nil : JA τ X [] aNil := fun ρ C c H0 γ σ H r Q q => wpA_of pa_nil (q [] [] H c .refl .nil rfl)
theorem ja_cons (h : JV τ X e t) (hs : JA τ X es ta) (hst : starEach (e :: es) X.env = (false, eval e X.env) :: starEach es X.env := by rfl) : JA τ X (e :: es) (aCons t ta) := fun ρ C c H0 γ σ H r Q q =>
  wpA_of (pa_cons pe_w pa_w hst) (h ρ _ c H0 γ σ H r _ fun d v H2 c e b => hs ρ _ c H0 γ σ H2 (r.after e) _ fun as vs H3 c e2 b2 hl => q (.dat d :: as) (v :: vs) H3 c (e.trans e2) (.cons (arOk_after e2 (b.dp res_own_ad)) b2) (by simp [hl]))
theorem ja_town (S : Ok cp G N sc k X) (i : Nat) (hs : JA τ X es ta) (hN : N[i]? = some x := by rfl) (hv : Vis sc x := by first | exact Or.inl rfl | exact Or.inr (Or.inl rfl) | exact Or.inr (Or.inr rfl)) (hd : (x == ("__debug__" : Str)) = false := by decide) (hcd : (x == ("__classdict__" : Str)) = false := by decide)
    (hst : starEach (.Name x pos :: es) X.env = (false, eval (.Name x pos) X.env) :: starEach es X.env := by rfl) : JA τ X (.Name x pos :: es) (aTown i ta) := fun ρ C c H0 γ σ H r Q q => by
  refine wpA_of (pa_cons (pe_var (i := i) (by rw [S.eN]; exact hN) (by rw [S.es]; exact hv) hd hcd) pa_w hst) ?_
  unfold aTown at c
  split at c
  · rename_i hi
    exact ⟨τ.val, r.sl i _ hi, hs ρ _ c H0 γ σ H r _ fun as vs H3 c e2 b2 hl => q (.town :: as) (τ.val :: vs) H3 c e2 (.cons rfl b2) (by simp [hl])⟩
  · exact c.elim
theorem jk_nil : JK τ X [] aNil := fun ρ C c H0 γ σ H r Q q => wpK_of pk_nil (q [] [] H c .refl .nil rfl)
theorem jk_cons {nm : Option Str} (h : JV τ X e t) (hs : JK τ X kws ta) : JK τ X (⟨nm, e, kpos⟩ :: kws) (aCons t ta) := fun ρ C c H0 γ σ H r Q q =>
  wpK_of (pk_cons pe_w pk_w) (h ρ _ c H0 γ σ H r _ fun d v H2 c e b => hs ρ _ c H0 γ σ H2 (r.after e) _ fun as vs H3 c e2 b2 hl => q (.dat d :: as) (v :: vs) H3 c (e.trans e2) (.cons (arOk_after e2 (b.dp res_own_ad)) b2) (by simp [hl]))
theorem jvs_nil : JVs τ X [] fun _ C => C [] := fun ρ C c H0 γ σ H r Q q => wpA_of pa_nil (q [] [] H c .refl .nil)
theorem bos_after {K : PySem.W.Frag} {H H' : Hp} {σ : St} {ρ : En} (e : Ext τ H H') : ∀ {vs : List V} {ds : List D}, Paired (fun v d => Bo K τ H (res H (own τ σ ρ)) v d) vs ds → Paired (fun v d => Bo K τ H' (res H' (own τ σ ρ)) v d) vs ds
  | _, _, .nil => .nil
  | _, _, .cons h t => .cons (h.after e) (bos_after e t)
theorem jvs_cons {ts : UL} (h : JV τ X e t) (hs : JVs τ X es ts) (hst : starEach (e :: es) X.env = (false, eval e X.env) :: starEach es X.env := by rfl) : JVs τ X (e :: es) (lCons t ts) := fun ρ C c H0 γ σ H r Q q =>
  wpA_of (pa_cons pe_w pa_w hst) (h ρ _ c H0 γ σ H r _ fun d v H2 c e b => hs ρ _ c H0 γ σ H2 (r.after e) _ fun ds vs H3 c e2 b2 => q (d :: ds) (v :: vs) H3 c (e.trans e2) (.cons (b.after e2) b2))
/-! ### a def's call -/
theorem dll_lf {K : PySem.W.Frag} {H : Hp} {n n' : Addr → Prop} : ∀ {kvs : List (Key × V)} {m : List (Key × List D)}, (m.all fun q => lfAll q.2) = true → KvOk K (res H n) kvs (toK m) → (∀ p ∈ kvs, ∃ L : Addr, p.2 = .ref L ∧ ¬ n' L) → (∀ (b : Addr) (u : HO), H b = some u → ¬ Mv u → ¬ n' b) → KvOk K (res H n') kvs (toK m)
  | [], [], _, _, _, _ => .nil
  | [], _ :: _, _, h, _, _ => by cases h
  | _ :: _, [], _, h, _, _ => by cases h
  | p :: kvs, q :: m, l, .cons h t, hf, nm => by
    rw [List.all_cons, Bool.and_eq_true] at l
    refine .cons ⟨h.1, ?_⟩ (dll_lf l.2 t (fun p hp => hf p (by simp [hp])) nm)
    obtain ⟨L, e, nL⟩ := hf p (by simp)
    have h2 := h.2
    rw [e] at h2 ⊢
    cases h2 with
    | lst hs ha =>
      refine .lst ?_ (dpAll_lf (fun b xs h => ?_) _ _ l.1 ha)
      · rcases hs with hs | hs
        · rcases hs with hs | ⟨o, hs⟩
          · exact .inl (.inl (res_put nL (res_at hs) (res_ok hs)))
          · exact .inl (.inr ⟨o, res_put nL (res_at hs) (res_ok hs)⟩)
        · exact .inr hs
      · rcases h with h | ⟨o, h⟩
        · exact .inl (res_put (nm b _ (res_at h) fun z => z) (res_at h) (res_ok h))
        · exact .inr ⟨o, res_put (nm b _ (res_at h) fun z => z) (res_at h) (res_ok h)⟩
theorem RtV.rs {H0 H1 H2 H' : Hp} {γ : List (V × D)} {σ : St} {ρ : En} {v : V} {r : Rs} (r0 : Rep X.K τ H0 γ H1 σ ρ) (e : Ext τ H1 H2) (e2 : Ext τ H2 H') (l : r.lf = true) (h : RtV X.K τ H2 H' v r) : RsOk X.K τ H1 H' σ ρ v r := by
  have r' := (r0.after e).after e2
  cases r with
  | dat d => exact r'.lfRes (fun a z => r'.ownMut z) res_le (fun _ _ => res_ok) l h
  | lst ds =>
    obtain ⟨a, vs, rfl, hn, he, ha⟩ := h
    refine ⟨a, vs, rfl, e.fresh r0.inv hn, he, ?_⟩
    exact dpAll_lf (fun b xs h => by
      have nm : ∀ u : HO, H' b = some u → ¬ Mv u → ¬ (own τ σ ρ b ∨ b = a) := fun u e n z => by
        rcases z with z | z
        · obtain ⟨o, e', m⟩ := r'.ownMut z
          rw [e] at e'; cases e'
          exact n m
        · rw [z, he] at e; cases e
          exact n trivial
      rcases h with h | ⟨o, h⟩
      · exact .inl (res_put (nm _ (res_at h) fun z => z) (res_at h) (res_ok h))
      · exact .inr ⟨o, res_put (nm _ (res_at h) fun z => z) (res_at h) (res_ok h)⟩) ds vs l ha
  | dic kds =>
    obtain ⟨a, kvs, rfl, hn, he, ha⟩ := h
    refine ⟨a, kvs, rfl, e.fresh r0.inv hn, he, ?_⟩
    have nm : ∀ (b : Addr) (u : HO), H' b = some u → ¬ Mv u → ¬ (own τ σ ρ b ∨ b = a) := fun b u e n z => by
      rcases z with z | z
      · obtain ⟨o, e', m⟩ := r'.ownMut z
        rw [e] at e'; cases e'
        exact n m
      · rw [z, he] at e; cases e
        exact n trivial
    have go : ∀ {kvs : List (Key × V)} {kds : List (Key × D)}, lfAll (kds.map (·.2)) = true → KvOk X.K (res H' (fun b => τ.ad b ∨ b = a)) kvs kds → KvOk X.K (res H' (fun b => own τ σ ρ b ∨ b = a)) kvs kds := by
      intro kvs kds l ha
      induction ha with
      | nil => exact .nil
      | cons h1 h2 ih =>
        simp only [List.map_cons, lfAll, Bool.and_eq_true] at l
        refine .cons ⟨h1.1, dp_lf (fun b xs h => ?_) _ _ l.1 h1.2⟩ (ih l.2)
        rcases h with h | ⟨o, h⟩
        · exact .inl (res_put (nm b _ (res_at h) fun z => z) (res_at h) (res_ok h))
        · exact .inr ⟨o, res_put (nm b _ (res_at h) fun z => z) (res_at h) (res_ok h)⟩
    exact go l ha
  | th x =>
    obtain ⟨a, o, rfl, hn, he, ha⟩ := h
    refine ⟨a, o, rfl, e.fresh r0.inv hn, he, ?_⟩
    obtain ⟨φ, rfl⟩ := ha.ext
    have nm : ∀ (b : Addr) (u : HO), H' b = some u → ¬ Mv u → ¬ (own τ σ ρ b ∨ b = a) := fun b u e n z => by
      rcases z with z | z
      · obtain ⟨o, e', m⟩ := r'.ownMut z
        rw [e] at e'; cases e'
        exact n m
      · rw [z, he] at e; cases e
        exact n trivial
    refine ThIs.lf (fun b xs h => ?_) l ha
    rcases h with h | ⟨o, h⟩
    · exact .inl (res_put (nm b _ (res_at h) fun z => z) (res_at h) (res_ok h))
    · exact .inr ⟨o, res_put (nm b _ (res_at h) fun z => z) (res_at h) (res_ok h)⟩
  | dll m =>
    obtain ⟨a, kvs, rfl, hn, he, ha, hf⟩ := h
    refine ⟨a, kvs, rfl, e.fresh r0.inv hn, he, dll_lf l ha (fun p hp => ?_) fun b u e n z => ?_, fun q hq => let ⟨L, e1, ne, e2⟩ := hf q hq; ⟨L, e1, ne, e.fresh r0.inv e2⟩⟩
    · obtain ⟨L, e1, ne, e2⟩ := hf p hp
      refine ⟨L, e1, fun z => ?_⟩
      rcases z with z | z
      · obtain ⟨o, e', m⟩ := (r0.after e).ownMut z
        rw [e2] at e'; cases e'
      · exact ne z
    · rcases z with z | z
      · obtain ⟨o, e', m⟩ := r'.ownMut z
        rw [e] at e'; cases e'
        exact n m
      · rw [z, he] at e; cases e
        exact n trivial
def eCall (S : Sf) (t : UA) : UE := fun ρ C => t ρ fun as => S as C
theorem je_call (O : Ok cp G N sc k X) (F : FnD G τ j x ps S) (ha : JA τ X (e :: es) ta) (hj : j ≤ k := by decide) (hg : sc.names.lookup x = some .globalImplicit := by rfl) (hdb : (x == ("__debug__" : Str)) = false := by decide)
    (he : starEach (e :: es) X.env = (false, eval e X.env) :: starEach es X.env := by rfl) (hpl : (backTo pos (starEach es X.env)).any (·.1) = false := by rfl) : JE τ X (.Call (.Name x p) (e :: es) [] pos) (eCall S ta) := by
  obtain ⟨f, fd, F, hm, hk, hb⟩ := F.ex
  intro ρ C c H0 γ σ H r Q q
  refine wpE_of (pe_call (CX := CX0) (k := j) (sp := spD G τ S) (E := E0) (dvs := []) (ds := []) (by rw [O.eP, O.ew, O.eK, O.em, O.eb]; exact F) (O.room.mono hj) (by show X.env.scope.names.lookup x = _; rw [O.es]; exact hg) (by rw [O.em]; exact hm) (by rw [O.eK]; exact hk) (by rw [O.eK]; exact hb) .nil pass0 pa_w hdb he hpl) ?_
  refine ha ρ _ c H0 γ σ H r _ fun as vs H2 c e1 h2 _ => ?_
  rw [List.append_nil]
  refine ⟨as, C, by rw [← O.eK]; exact h2, (r.after e1).inv, c, fun rs v H' l c e2 h => q rs v H' c (e1.trans e2) ?_⟩
  rw [← O.eK] at h
  exact RtV.rs r e1 e2 l h
theorem je_call0 (O : Ok cp G N sc k X) (F : FnD G τ j x ps S) (hj : j ≤ k := by decide) (hg : sc.names.lookup x = some .globalImplicit := by rfl) (hdb : (x == ("__debug__" : Str)) = false := by decide) : JE τ X (.Call (.Name x p) [] [] pos) (eCall S aNil) := by
  obtain ⟨f, fd, F, hm, hk, hb⟩ := F.ex
  intro ρ C c H0 γ σ H r Q q
  refine wpE_of (pe_call0 (CX := CX0) (k := j) (sp := spD G τ S) (E := E0) (dvs := []) (ds := []) (by rw [O.eP, O.ew, O.eK, O.em, O.eb]; exact F) (O.room.mono hj) (by show X.env.scope.names.lookup x = _; rw [O.es]; exact hg) (by rw [O.em]; exact hm) (by rw [O.eK]; exact hk) (by rw [O.eK]; exact hb) .nil pass0 hdb) ?_
  refine ⟨[], C, .nil, r.inv, c, fun rs v H' l c e2 h => q rs v H' c e2 ?_⟩
  rw [← O.eK] at h
  exact RtV.rs r .refl e2 l h
def eCallK (S : Sf) (g : List Ar → List Ar → List Ar) (t u : UA) : UE := fun ρ C => t ρ fun as => u ρ fun bs => S (g as bs) C
theorem je_callK {g : List Ar → List Ar → List Ar} (O : Ok cp G N sc k X) (F : FnK G τ j x ps S n ks g) (ha : JA τ X (e :: es) ta) (hkw : JK τ X kws tk) (hn : (e :: es).length = n := by rfl) (hn2 : kws.length = ks.length := by rfl) (hj : j ≤ k := by decide) (hg : sc.names.lookup x = some .globalImplicit := by rfl)
    (hall : (backToKw pos (keywordEach kws X.env)).all (·.1.isSome) = true := by rfl) (hks : (backToKw pos (keywordEach kws X.env)).filterMap (·.1) = ks := by rfl)
    (hdb : (x == ("__debug__" : Str)) = false := by decide) (he : starEach (e :: es) X.env = (false, eval e X.env) :: starEach es X.env := by rfl)
    (hpl : ((backTo pos (starEach (e :: es) X.env)).any (·.1) || (backToKw pos (keywordEach kws X.env)).any (·.1.isNone)) = false := by rfl) : JE τ X (.Call (.Name x p) (e :: es) kws pos) (eCallK S g ta tk) := by
  obtain ⟨f, fd, gU, gV, F, hm, hk, hb, hrel⟩ := F.ex
  intro ρ C c H0 γ σ H r Q q
  refine wpE_of (pe_callN (CX := CX0) (k := j) (sp := spD G τ S) (E := E0) (by rw [O.eP, O.ew, O.eK, O.em, O.eb]; exact F) (O.room.mono hj) (by show X.env.scope.names.lookup x = _; rw [O.es]; exact hg) (by rw [O.em]; exact hm) (by rw [O.eK]; exact hk) (by rw [O.eK]; exact hb) pass0 pa_w pk_w hall hks hdb he hpl) ?_
  refine ha ρ _ c H0 γ σ H r _ fun as vs H2 c e1 h2 l1 => hkw ρ _ c H0 γ σ H2 (r.after e1) _ fun bs zs H3 c e2 h3 l2 => ⟨l1.trans hn, l2.trans hn2, ?_⟩
  refine ⟨_, C, ?_, ((r.after e1).after e2).inv, c, fun rs v H' l c e3 h => q rs v H' c ((e1.trans e2).trans e3) ?_⟩
  · have h4 := hrel X.K H3 vs zs as bs (arsOk_after e2 h2) h3
    rw [O.eK] at h4
    exact h4
  · rw [← O.eK] at h
    exact RtV.rs r (e1.trans e2) e3 l h
/-! f(k = v, ..) with no place-wise value -/
def tCallN0 (m : Nat) (sp : Sp) (gV : List V → List V → List V) (E : XK) (tk : TA) : TE := fun σ H Q => tk σ H fun zs H2 => zs.length = m ∧ sp (gV [] zs) H2 Q E
theorem pe_callN0 {X : Cx} {CX : CXT} {k : Nat} {f : Addr} {fd : FuncData} {ps ks : List Str} {sp : Sp} {E : XK} {x : Str} {p pos : Pos} {kws : List Keyword} {tk : TA} {g : List Value → List Value → List Value} {gV : List V → List V → List V}
    (F : FnOk X.prog X.w X.K X.mg X.base CX k f fd ps sp) (hr : Room k X.A) (hg : Gl X x) (hm : X.mg x = some (.ref f)) (hk : PySem.W.keepIn X.K (.ref f) = true) (hb : KBn X.K fd ps 0 ks g gV) (hx : Passes CX X E)
    (hkw : PK X kws tk) (hall : (backToKw pos (keywordEach kws X.env)).all (·.1.isSome) = true := by rfl) (hks : (backToKw pos (keywordEach kws X.env)).filterMap (·.1) = ks := by rfl)
    (hdb : (x == ("__debug__" : Str)) = false := by decide)
    (hpl : ((backTo pos (starEach [] X.env)).any (·.1) || (backToKw pos (keywordEach kws X.env)).any (·.1.isNone)) = false := by rfl) :
    PE X (.Call (.Name x p) [] kws pos) (tCallN0 ks.length sp gV E tk) := by
  refine ⟨fun pins s σ H Q I h => ?_⟩
  refine wpAny_Call_Name_kw (ld_glob I hg hm ?_ hdb)
  refine PySem.W.callWith_KW0 (h₀ := X.base) I.ok.mod.kin hk hall ?_ hpl
  refine thn (hkw.run pos pins s σ H _ I h) fun ws s2 ⟨zs, H2, I2, rz, l2, q2⟩ => ⟨I2.kIn, ?_⟩
  rw [hks]
  exact run_fnN F hr hb hx I2 .nil rz rfl l2 q2
theorem je_callK0 {g : List Ar → List Ar → List Ar} (O : Ok cp G N sc k X) (F : FnK G τ j x ps S 0 ks g) (hkw : JK τ X kws tk) (hn2 : kws.length = ks.length := by rfl) (hj : j ≤ k := by decide) (hg : sc.names.lookup x = some .globalImplicit := by rfl)
    (hall : (backToKw pos (keywordEach kws X.env)).all (·.1.isSome) = true := by rfl) (hks : (backToKw pos (keywordEach kws X.env)).filterMap (·.1) = ks := by rfl)
    (hdb : (x == ("__debug__" : Str)) = false := by decide)
    (hpl : ((backTo pos (starEach [] X.env)).any (·.1) || (backToKw pos (keywordEach kws X.env)).any (·.1.isNone)) = false := by rfl) : JE τ X (.Call (.Name x p) [] kws pos) (eCallK S g aNil tk) := by
  obtain ⟨f, fd, gU, gV, F, hm, hk, hb, hrel⟩ := F.ex
  intro ρ C c H0 γ σ H r Q q
  refine wpE_of (pe_callN0 (CX := CX0) (k := j) (sp := spD G τ S) (E := E0) (by rw [O.eP, O.ew, O.eK, O.em, O.eb]; exact F) (O.room.mono hj) (by show X.env.scope.names.lookup x = _; rw [O.es]; exact hg) (by rw [O.em]; exact hm) (by rw [O.eK]; exact hk) (by rw [O.eK]; exact hb) pass0 pk_w hall hks hdb hpl) ?_
  refine hkw ρ _ c H0 γ σ H r _ fun bs zs H3 c e2 h3 l2 => ⟨l2.trans hn2, ?_⟩
  refine ⟨_, C, ?_, (r.after e2).inv, c, fun rs v H' l c e3 h => q rs v H' c (e2.trans e3) ?_⟩
  · have h4 := hrel X.K H3 [] zs [] bs .nil h3
    rw [O.eK] at h4
    exact h4
  · rw [← O.eK] at h
    exact RtV.rs r e2 e3 l h
/-! ### built-ins -/
def Cb (X : Cx) (r : List V → Hp → VK → Prop) (f : List D → (Rs → Prop) → Prop) : Prop := ∀ (τ : Tn) (H0 H : Hp) (γ : List (V × D)) (σ : St) (ρ : En) (vs : List V) (ds : List D) (C : Rs → Prop), Rep X.K τ H0 γ H σ ρ →
  Paired (fun v d => Bo X.K τ H (res H (own τ σ ρ)) v d) vs ds → f ds C → ∀ Q : VK, (∀ rs v H2, C rs → Ext τ H H2 → RsOk X.K τ H H2 σ ρ v rs → Q v H2) → r vs H Q
def eB (f : List D → (Rs → Prop) → Prop) (t : UL) : UE := fun ρ C => t ρ fun ds => f ds C
/-- the name x is the built-in's still -/
def Free (G : Gx) (x : Str) : Prop := G.mg x = none
theorem rs_back {H1 H2 H' : Hp} {H0 : Hp} {γ : List (V × D)} {σ : St} {ρ : En} {v : V} {r : Rs} (r0 : Rep X.K τ H0 γ H1 σ ρ) (e : Ext τ H1 H2) (h : RsOk X.K τ H2 H' σ ρ v r) : RsOk X.K τ H1 H' σ ρ v r := by
  cases r with
  | dat d => exact h
  | lst ds =>
    obtain ⟨p, vs, h1, h2, h3⟩ := h
    exact ⟨p, vs, h1, e.fresh r0.inv h2, h3⟩
  | dic ds =>
    obtain ⟨p, vs, h1, h2, h3⟩ := h
    exact ⟨p, vs, h1, e.fresh r0.inv h2, h3⟩
  | th x =>
    obtain ⟨p, vs, h1, h2, h3⟩ := h
    exact ⟨p, vs, h1, e.fresh r0.inv h2, h3⟩
  | dll m =>
    obtain ⟨p, vs, h1, h2, h3, h4, h5⟩ := h
    exact ⟨p, vs, h1, e.fresh r0.inv h2, h3, h4, fun q hq => let ⟨L, e1, ne, e2⟩ := h5 q hq; ⟨L, e1, ne, e.fresh r0.inv e2⟩⟩
theorem je_blt {id : String} {r : List V → Hp → VK → Prop} {f : List D → (Rs → Prop) → Prop} {ts : UL} (O : Ok cp G N sc k X) (hc : CallR X (.builtin id) r) (hf : Cb X r f) (hm : Free G x) (ha : JVs τ X (e :: es) ts) (hv : bootBuiltins x = some (.builtin id)) (hg : sc.names.lookup x = some .globalImplicit := by rfl)
    (hn : x ≠ "__name__" := by decide) (hdb : (x == ("__debug__" : Str)) = false := by decide) (he : starEach (e :: es) X.env = (false, eval e X.env) :: starEach es X.env := by rfl) (hpl : (backTo pos (starEach es X.env)).any (·.1) = false := by rfl) :
    JE τ X (.Call (.Name x p) (e :: es) [] pos) (eB f ts) := fun ρ C c H0 γ σ H r Q q =>
  wpE_of (pe_callB hc (by show X.env.scope.names.lookup x = _; rw [O.es]; exact hg) (by rw [O.em]; exact hm) hv pa_w hn hdb he hpl) (ha ρ _ c H0 γ σ H r _ fun ds vs H2 c e1 b => hf τ H0 H2 γ σ ρ vs ds C (r.after e1) b c Q fun rs v H3 c e2 h => q rs v H3 c (e1.trans e2) (rs_back r e1 h))
theorem je_bty {T : String} {r : List V → Hp → VK → Prop} {f : List D → (Rs → Prop) → Prop} {ts : UL} (O : Ok cp G N sc k X) (hc : CallR X (.type T) r) (hf : Cb X r f) (hm : Free G x) (ha : JVs τ X (e :: es) ts) (hv : bootBuiltins x = some (.type T)) (hg : sc.names.lookup x = some .globalImplicit := by rfl)
    (hn : x ≠ "__name__" := by decide) (hdb : (x == ("__debug__" : Str)) = false := by decide) (he : starEach (e :: es) X.env = (false, eval e X.env) :: starEach es X.env := by rfl) (hpl : (backTo pos (starEach es X.env)).any (·.1) = false := by rfl) :
    JE τ X (.Call (.Name x p) (e :: es) [] pos) (eB f ts) := fun ρ C c H0 γ σ H r Q q =>
  wpE_of (pe_callTy hc (by show X.env.scope.names.lookup x = _; rw [O.es]; exact hg) (by rw [O.em]; exact hm) hv pa_w hn hdb he hpl) (ha ρ _ c H0 γ σ H r _ fun ds vs H2 c e1 b => hf τ H0 H2 γ σ ρ vs ds C (r.after e1) b c Q fun rs v H3 c e2 h => q rs v H3 c (e1.trans e2) (rs_back r e1 h))
end
end Pu
namespace Pu
open PySem PySem.Spec PyProof.Rows L2
section
variable {X : Cx}
theorem paired1 {R : V → D → Prop} {vs : List V} {d : D} (h : Paired R vs [d]) : ∃ v, vs = [v] ∧ R v d := by
  cases h with
  | cons h t => cases t; exact ⟨_, rfl, h⟩
theorem paired2 {R : V → D → Prop} {vs : List V} {d e : D} (h : Paired R vs [d, e]) : ∃ v w, vs = [v, w] ∧ R v d ∧ R w e := by
  cases h with
  | cons h t =>
    cases t with
    | cons h2 t => cases t; exact ⟨_, _, rfl, h, h2⟩
def fLen : List D → (Rs → Prop) → Prop
  | [.list ds], C => C (.dat (.int ds.length))
  | [.tuple ds], C => C (.dat (.int ds.length))
  | [.str x], C => x.length ≤ 1000000 ∧ C (.dat (.int x.length))
  | _, _ => False
theorem fLen_ok : Cb X (fun xs H Q => ∃ x n, xs = [x] ∧ LenV X.K x H n ∧ Q (.int n) H) fLen := fun τ H0 H γ σ ρ vs ds C r b f Q q => by
  unfold fLen at f
  split at f
  · obtain ⟨v, rfl, p, ws, rfl, hs, ha⟩ := paired1 b
    exact ⟨_, _, rfl, .inl ⟨ws, sqL_same res_le hs, rfl⟩, by rw [dpAll_len ha]; exact q _ _ H f .refl (.int _)⟩
  · obtain ⟨v, rfl, p, ws, rfl, hs, ha⟩ := paired1 b
    exact ⟨_, _, rfl, .inr ⟨ws, sqT_same res_le hs, rfl⟩, by rw [dpAll_len ha]; exact q _ _ H f .refl (.int _)⟩
  · obtain ⟨v, rfl, e⟩ := paired1 b
    cases e
    exact ⟨_, _, rfl, ⟨small_line f.1, rfl⟩, q _ _ H f.2 .refl (.int _)⟩
  · exact f.elim
def fI1 (g : Int → Int) : List D → (Rs → Prop) → Prop
  | [.int i], C => C (.dat (.int (g i)))
  | _, _ => False
def fI2 (g : Int → Int → Int) : List D → (Rs → Prop) → Prop
  | [.int i, .int j], C => C (.dat (.int (g i j)))
  | _, _ => False
abbrev fAbs := fI1 fun i => if i < 0 then -i else i
theorem fAbs_ok : Cb X (fun xs H Q => ∃ i, xs = [.int i] ∧ Q (.int (if i < 0 then -i else i)) H) fAbs := fun τ H0 H γ σ ρ vs ds C r b f Q q => by
  unfold fAbs fI1 at f
  split at f
  · obtain ⟨v, rfl, e⟩ := paired1 b
    cases e
    exact ⟨_, rfl, q _ _ H f .refl (.int _)⟩
  · exact f.elim
theorem fI2_ok {g : Int → Int → Int} : Cb X (fun xs H Q => ∃ i j, xs = [.int i, .int j] ∧ Q (.int (g i j)) H) (fI2 g) := fun τ H0 H γ σ ρ vs ds C r b f Q q => by
  unfold fI2 at f
  split at f
  · obtain ⟨v, w, rfl, e1, e2⟩ := paired2 b
    cases e1; cases e2
    exact ⟨_, _, rfl, q _ _ H f .refl (.int _)⟩
  · exact f.elim
abbrev fMax2 := fI2 fun i j => if j > i then j else i
abbrev fMin2 := fI2 fun i j => if j < i then j else i
/-! the least, the greatest of a tuple of ints -/
def rMaxT (K : PySem.W.Frag) : List V → Hp → VK → Prop := fun vs H Q => ∃ (a : Addr) (ns : List Int), vs = [V.ref a] ∧ SqT K H a (ns.map V.int) ∧ 0 < ns.length ∧ ∀ m, m ∈ ns → (∀ y, y ∈ ns → y ≤ m) → Q (.int m) H
def rMinT (K : PySem.W.Frag) : List V → Hp → VK → Prop := fun vs H Q => ∃ (a : Addr) (ns : List Int), vs = [V.ref a] ∧ SqT K H a (ns.map V.int) ∧ 0 < ns.length ∧ ∀ m, m ∈ ns → (∀ y, y ∈ ns → m ≤ y) → Q (.int m) H
theorem dp_ints {K : PySem.W.Frag} {H : Hp} : ∀ ns : List Int, DpAll K H (ns.map V.int) (ns.map PyData.int)
  | [] => .nil
  | _ :: ns => .cons (.int _) (dp_ints ns)
theorem min_fold : ∀ (ns : List Int) (n : Int), ns.foldl min n ∈ n :: ns ∧ ∀ y ∈ n :: ns, ns.foldl min n ≤ y
  | [], n => by simp
  | k :: ns, n => by
    obtain ⟨h1, h2⟩ := min_fold ns (min n k)
    have h0 := h2 _ (List.mem_cons_self ..)
    rw [List.foldl_cons]
    refine ⟨?_, fun y hy => ?_⟩
    · rcases List.mem_cons.mp h1 with h | h
      · rw [h]
        rcases Int.le_total n k with c | c
        · rw [Int.min_eq_left c]; simp
        · rw [Int.min_eq_right c]; simp
      · simp [h]
    · rcases List.mem_cons.mp hy with rfl | hy
      · omega
      · rcases List.mem_cons.mp hy with rfl | hy
        · omega
        · exact h2 y (List.mem_cons_of_mem _ hy)
theorem max_fold : ∀ (ns : List Int) (n : Int), ns.foldl max n ∈ n :: ns ∧ ∀ y ∈ n :: ns, y ≤ ns.foldl max n
  | [], n => by simp
  | k :: ns, n => by
    obtain ⟨h1, h2⟩ := max_fold ns (max n k)
    have h0 := h2 _ (List.mem_cons_self ..)
    rw [List.foldl_cons]
    refine ⟨?_, fun y hy => ?_⟩
    · rcases List.mem_cons.mp h1 with h | h
      · rw [h]
        rcases Int.le_total n k with c | c
        · rw [Int.max_eq_right c]; simp
        · rw [Int.max_eq_left c]; simp
      · simp [h]
    · rcases List.mem_cons.mp hy with rfl | hy
      · omega
      · rcases List.mem_cons.mp hy with rfl | hy
        · omega
        · exact h2 y (List.mem_cons_of_mem _ hy)
theorem min_ints (ns : List Int) (n : Int) : ∃ m, PySem.W.minD (.int n) (ns.map PyData.int) = .int m ∧ m ∈ n :: ns ∧ ∀ y ∈ n :: ns, m ≤ y := ⟨_, PySem.W.minD_ints n ns, min_fold ns n⟩
theorem max_ints (ns : List Int) (n : Int) : ∃ m, PySem.W.maxD (.int n) (ns.map PyData.int) = .int m ∧ m ∈ n :: ns ∧ ∀ y ∈ n :: ns, y ≤ m := ⟨_, PySem.W.maxD_ints n ns, max_fold ns n⟩
theorem alike_ints (ns : List Int) : PySem.W.AlikeAll (ns.map PyData.int) := by
  refine ⟨fun x hx y hy => ?_, fun x hx => ?_⟩
  · obtain ⟨a, _, rfl⟩ := List.mem_map.mp hx
    obtain ⟨b, _, rfl⟩ := List.mem_map.mp hy
    rfl
  · obtain ⟨a, _, rfl⟩ := List.mem_map.mp hx
    simp
theorem depth_ints : ∀ ns : List Int, PyData.depthAll (ns.map PyData.int) = 0
  | [] => rfl
  | _ :: ns => by simp [PyData.depthAll, PyData.depth, depth_ints ns]
theorem reads_int {h : Heap} {v : Value} {m : Int} {bs : List Addr} (r : Reads h v (.int m) bs) : ∃ t, v = .int m t := by
  cases r; exact ⟨_, rfl⟩
theorem cr_minT (hc : X.calm = true) (hu : X.A.units + 65 < cLine) : CallR X (.builtin "min") (rMinT X.K) := by
  intro pins s σ H vs us Q I r h
  obtain ⟨a, ns, rfl, hs, hne, q⟩ := h
  obtain ⟨its, rv, hl, _⟩ := I.tuple hs
  rw [Vals.ref1 r]
  cases ns with
  | nil => exact absurd hne (by simp)
  | cons n ns =>
    obtain ⟨as, hr⟩ := Dp.readsAll I ((n :: ns).map PyData.int) _ its (dp_ints _) rv
    obtain ⟨m, em, h1, h2⟩ := min_ints ns n
    refine PySem.W.min_tuple_data (x := .int n) (xs := ns.map PyData.int) (I.ok.hd hc) hl hr (alike_ints (n :: ns)) (by have := depth_ints (n :: ns); rw [List.map_cons] at this; rw [this]; omega) fun i v h' tk bs hv rd hk => ?_
    rw [em] at rd
    obtain ⟨t, rfl⟩ := reads_int rd
    exact ⟨.int _, H, I.kept hk, ⟨_, rfl⟩, q m h1 h2⟩
theorem cr_maxT (hc : X.calm = true) (hu : X.A.units + 65 < cLine) : CallR X (.builtin "max") (rMaxT X.K) := by
  intro pins s σ H vs us Q I r h
  obtain ⟨a, ns, rfl, hs, hne, q⟩ := h
  obtain ⟨its, rv, hl, _⟩ := I.tuple hs
  rw [Vals.ref1 r]
  cases ns with
  | nil => exact absurd hne (by simp)
  | cons n ns =>
    obtain ⟨as, hr⟩ := Dp.readsAll I ((n :: ns).map PyData.int) _ its (dp_ints _) rv
    obtain ⟨m, em, h1, h2⟩ := max_ints ns n
    refine PySem.W.max_tuple_data (x := .int n) (xs := ns.map PyData.int) (I.ok.hd hc) hl hr (alike_ints (n :: ns)) (by have := depth_ints (n :: ns); rw [List.map_cons] at this; rw [this]; omega) fun i v h' tk bs hv rd hk => ?_
    rw [em] at rd
    obtain ⟨t, rfl⟩ := reads_int rd
    exact ⟨.int _, H, I.kept hk, ⟨_, rfl⟩, q m h1 h2⟩
/-- the greatest, the least of a list, of a tuple of ints -/
def fMaxL : List D → (Rs → Prop) → Prop
  | [.list ds], C => ∃ ns, intsOf ds = some ns ∧ 0 < ns.length ∧ ∀ m, m ∈ ns → (∀ y, y ∈ ns → y ≤ m) → C (.dat (.int m))
  | [.tuple ds], C => ∃ ns, intsOf ds = some ns ∧ 0 < ns.length ∧ ∀ m, m ∈ ns → (∀ y, y ∈ ns → y ≤ m) → C (.dat (.int m))
  | _, _ => False
def fMinL : List D → (Rs → Prop) → Prop
  | [.list ds], C => ∃ ns, intsOf ds = some ns ∧ 0 < ns.length ∧ ∀ m, m ∈ ns → (∀ y, y ∈ ns → m ≤ y) → C (.dat (.int m))
  | [.tuple ds], C => ∃ ns, intsOf ds = some ns ∧ 0 < ns.length ∧ ∀ m, m ∈ ns → (∀ y, y ∈ ns → m ≤ y) → C (.dat (.int m))
  | _, _ => False
theorem fMaxL_ok : Cb X (fun vs H Q => rMax X.K vs H Q ∨ rMaxT X.K vs H Q) fMaxL := fun τ H0 H γ σ ρ vs ds C r b f Q q => by
  unfold fMaxL at f
  split at f
  · obtain ⟨v, rfl, p, ws, rfl, hs, ha⟩ := paired1 b
    obtain ⟨ns, h1, h2, h3⟩ := f
    have e := intsOf_dp h1 ha
    subst e
    exact .inl ⟨p, ns, rfl, sqL_same res_le hs, h2, fun m hm hy => q _ _ H (h3 m hm hy) .refl (.int _)⟩
  · obtain ⟨v, rfl, p, ws, rfl, hs, ha⟩ := paired1 b
    obtain ⟨ns, h1, h2, h3⟩ := f
    have e := intsOf_dp h1 ha
    subst e
    exact .inr ⟨p, ns, rfl, sqT_same res_le hs, h2, fun m hm hy => q _ _ H (h3 m hm hy) .refl (.int _)⟩
  · exact f.elim
theorem fMinL_ok : Cb X (fun vs H Q => rMin X.K vs H Q ∨ rMinT X.K vs H Q) fMinL := fun τ H0 H γ σ ρ vs ds C r b f Q q => by
  unfold fMinL at f
  split at f
  · obtain ⟨v, rfl, p, ws, rfl, hs, ha⟩ := paired1 b
    obtain ⟨ns, h1, h2, h3⟩ := f
    have e := intsOf_dp h1 ha
    subst e
    exact .inl ⟨p, ns, rfl, sqL_same res_le hs, h2, fun m hm hy => q _ _ H (h3 m hm hy) .refl (.int _)⟩
  · obtain ⟨v, rfl, p, ws, rfl, hs, ha⟩ := paired1 b
    obtain ⟨ns, h1, h2, h3⟩ := f
    have e := intsOf_dp h1 ha
    subst e
    exact .inr ⟨p, ns, rfl, sqT_same res_le hs, h2, fun m hm hy => q _ _ H (h3 m hm hy) .refl (.int _)⟩
  · exact f.elim
/-! sum of a list, of a tuple -/
def rSumT (K : PySem.W.Frag) : List V → Hp → VK → Prop := fun vs H Q => ∃ (a : Addr) (ns : List Int), vs = [V.ref a] ∧ SqT K H a (ns.map V.int) ∧ Q (.int ns.sum) H
theorem cr_sumT (hc : X.calm = true) : CallR X (.builtin "sum") (rSumT X.K) := by
  intro pins s σ H vs us Q I r h
  obtain ⟨a, ns, rfl, hs, q⟩ := h
  obtain ⟨its, rv, hl, _⟩ := I.tuple hs
  rw [Vals.ref1 r]
  have hi : IntsAre its ns := rv.ints
  obtain ⟨xs, hx⟩ := hi.allInts.items
  have hn : numsOf its.toArray.toList = ns := by rw [show its.toArray.toList = its from rfl, hi.numsOf]
  have hl' : s.heap.IsTuple a its.toArray := hl
  rw [hx] at hl' hn
  rw [nums_intItems] at hn
  refine PySem.W.ktm_sumG (I.ok.hd hc) hl' fun h' tk t' hk => ?_
  rw [preSum_eq, List.take_of_length_le (by simp), hn]
  exact ⟨.int _, H, I.kept hk, ⟨_, rfl⟩, q⟩
def fSum : List D → (Rs → Prop) → Prop
  | [.list ds], C => ∃ ns, intsOf ds = some ns ∧ C (.dat (.int ns.sum))
  | [.tuple ds], C => ∃ ns, intsOf ds = some ns ∧ C (.dat (.int ns.sum))
  | _, _ => False
theorem fSum_ok : Cb X (fun vs H Q => rSum X.K vs H Q ∨ rSumT X.K vs H Q) fSum := fun τ H0 H γ σ ρ vs ds C r b f Q q => by
  unfold fSum at f
  split at f
  · obtain ⟨v, rfl, p, ws, rfl, hs, ha⟩ := paired1 b
    obtain ⟨ns, h1, h2⟩ := f
    have e := intsOf_dp h1 ha
    subst e
    exact .inl ⟨p, ns, rfl, sqL_same res_le hs, q _ _ H h2 .refl (.int _)⟩
  · obtain ⟨v, rfl, p, ws, rfl, hs, ha⟩ := paired1 b
    obtain ⟨ns, h1, h2⟩ := f
    have e := intsOf_dp h1 ha
    subst e
    exact .inr ⟨p, ns, rfl, sqT_same res_le hs, q _ _ H h2 .refl (.int _)⟩
  · exact f.elim
def fTuple : List D → (Rs → Prop) → Prop
  | [.list ds], C => C (.dat (.tuple ds))
  | [.tuple ds], C => C (.dat (.tuple ds))
  | _, _ => False
/-- tuple(x), laid plainly -/
def rTupP (K : PySem.W.Frag) : List V → Hp → VK → Prop := fun xs H Q => ∃ p ys, xs = [.ref p] ∧ ((SqL K H p ys ∧ ∀ l o, o.dict = none → H l = none → Q (.ref l) (upd H l (.frz o (.tup ys)))) ∨ (SqT K H p ys ∧ Q (.ref p) H))
theorem call_tupP : CallR X (.type "tuple") (rTupP X.K) := by
  intro pins s σ H xs us Q I r h
  obtain ⟨p, ys, rfl, h⟩ := h
  obtain ⟨u, rfl, rx⟩ := vals1 r
  cases rx
  rcases h with ⟨hq, q⟩ | ⟨hq, q⟩
  · obtain ⟨us, r', pl, hz⟩ := I.list hq
    have hl := r'.length
    refine call_tuple_list pl.isList (fun h' kp => ?_) (by simp only [List.size_toArray]; omega)
    have I1 : Inv X pins σ H { s with heap := h' } := I.kept (t' := s.toks) kp
    exact ⟨.ref h'.objs.size, _, inv_plT (t' := s.toks) I1 hz r', rfl, q _ _ rfl (I1.hok.fresh (Nat.le_refl _))⟩
  · obtain ⟨us, r', pl, _⟩ := I.tuple hq
    exact call_tuple_same pl ⟨.ref p, H, I, rfl, q⟩
theorem fTuple_ok : Cb X (rTupP X.K) fTuple := fun τ H0 H γ σ ρ vs ds C r b f Q q => by
  unfold fTuple at f
  split at f
  · obtain ⟨v, rfl, p, ws, rfl, hs, ha⟩ := paired1 b
    exact ⟨p, ws, rfl, .inl ⟨sqL_same res_le hs, fun l o ho hl => q _ _ _ f (.new hl) (.tup (.inl (.inr ⟨o, res_put (r.notOwn hl) upd_same ho⟩)) (dpAll_after (.new hl) ha))⟩⟩
  · obtain ⟨v, rfl, p, ws, rfl, hs, ha⟩ := paired1 b
    exact ⟨p, ws, rfl, .inr ⟨sqT_same res_le hs, q _ _ _ f .refl (.tup (sqT_of_mut r hs) ha)⟩⟩
  · exact f.elim
def fList : List D → (Rs → Prop) → Prop
  | [.list ds], C => C (.lst ds)
  | [.tuple ds], C => C (.lst ds)
  | _, _ => False
theorem new_lst {τ : Tn} {H0 H : Hp} {γ : List (V × D)} {σ : St} {ρ : En} {vs : List V} {ds : List D} {l : Addr} (r : Rep X.K τ H0 γ H σ ρ) (hl : H l = none) (h : DpAll X.K (res H (own τ σ ρ)) vs ds) : RsOk X.K τ H (upd H l (.lst vs)) σ ρ (.ref l) (.lst ds) :=
  ⟨l, vs, rfl, hl, upd_same, dpAll_same (res_mono fun a o n ea => by
      have hne : a ≠ l := ne_of_none ea hl
      exact ⟨fun z => z.elim n hne, by rw [upd_ne hne]; exact ea⟩) _ _ h⟩
/-! x + y, as a thing of its own -/
def fAddE : D → D → (Rs → Prop) → Prop
  | .list xs, .list ys, C => xs.length + ys.length ≤ 1000000 ∧ C (.lst (xs ++ ys))
  | x, y, C => fAdd x y fun d => C (.dat d)
def eAdd (t u : UV) : UE := fun ρ C => t ρ fun x => u ρ fun y => fAddE x y C
theorem je_add {τ : Tn} {a b : Expr} {t u : UV} {pos : Pos} (ha : JV τ X a t) (hb : JV τ X b u) : JE τ X (.BinOp a .Add b pos) (eAdd t u) := fun ρ C c H0 γ σ H r Q q =>
  wpE_of (pe_op op_addU pe_w pe_w) (ha ρ _ c H0 γ σ H r _ fun d1 v1 H2 c e b1 => hb ρ _ c H0 γ σ H2 (r.after e) _ fun d2 v2 H3 c e2 b2 => by
    have r3 := (r.after e).after e2
    have b1' := b1.after e2
    by_cases hl : ∃ xs ys, d1 = .list xs ∧ d2 = .list ys
    · obtain ⟨xs, ys, rfl, rfl⟩ := hl
      obtain ⟨a, vs, rfl, hs, ha⟩ := b1'
      obtain ⟨b, ws, rfl, ht, hb⟩ := b2
      refine .inr (.inr (.inr ⟨a, b, vs, ws, rfl, rfl, sqL_same res_le hs, sqL_same res_le ht, by rw [dpAll_len ha, dpAll_len hb]; exact small_line c.1, fun p hp => ?_⟩))
      exact q _ _ _ c.2 ((e.trans e2).trans (.new hp)) (rs_back r (e.trans e2) (new_lst r3 hp (dpAll_append ha hb)))
    · have c' : fAdd d1 d2 fun d => C (.dat d) := by
        unfold fAddE at c
        split at c
        · exact absurd ⟨_, _, rfl, rfl⟩ hl
        · exact c
      exact fAdd_ok _ _ _ _ _ _ _ _ _ _ _ r3 b1' b2 c' Q fun d v H4 c e4 h => q _ v H4 c ((e.trans e2).trans e4) h)
theorem fList_ok : Cb X (fun xs H Q => ∃ p ys, xs = [.ref p] ∧ (SqL X.K H p ys ∨ SqT X.K H p ys) ∧ ∀ l, H l = none → Q (.ref l) (upd H l (.lst ys))) fList := fun τ H0 H γ σ ρ vs ds C r b f Q q => by
  unfold fList at f
  split at f
  · obtain ⟨v, rfl, p, ws, rfl, hs, ha⟩ := paired1 b
    exact ⟨p, ws, rfl, .inl (sqL_same res_le hs), fun l hl => q _ _ _ f (.new hl) (new_lst r hl ha)⟩
  · obtain ⟨v, rfl, p, ws, rfl, hs, ha⟩ := paired1 b
    exact ⟨p, ws, rfl, .inr (sqT_same res_le hs), fun l hl => q _ _ _ f (.new hl) (new_lst r hl ha)⟩
  · exact f.elim
def fDivmod : List D → (Rs → Prop) → Prop
  | [.int i, .int j], C => CDiv i j ∧ C (.dat (.tuple [.int (i / j), .int (i % j)]))
  | _, _ => False
theorem fDivmod_ok : Cb X (fun xs H Q => ∃ i j, xs = [.int i, .int j] ∧ CDiv i j ∧ ∀ p, H p = none → Q (.ref p) (upd H p (.tup [.int (i / j), .int (i % j)]))) fDivmod := fun τ H0 H γ σ ρ vs ds C r b f Q q => by
  unfold fDivmod at f
  split at f
  · obtain ⟨v, w, rfl, e1, e2⟩ := paired2 b
    cases e1; cases e2
    exact ⟨_, _, rfl, f.1, fun l hl => q _ _ _ f.2 (.new hl) (.tup (.inl (.inl (res_put (r.notOwn hl) upd_same ⟨_, rfl, fun _ z => nomatch z⟩))) (.cons (.int _) (.cons (.int _) .nil)))⟩
  · exact f.elim
def fInt1 : List D → (Rs → Prop) → Prop
  | [.int i], C => C (.dat (.int i))
  | [.bool b], C => C (.dat (.int (if b then 1 else 0)))
  | _, _ => False
theorem fInt1_ok : Cb X (fun xs H Q => (∃ i, xs = [.int i] ∧ Q (.int i) H) ∨ ∃ k, xs = [.bl k] ∧ Q (.int (if k then 1 else 0)) H) fInt1 := fun τ H0 H γ σ ρ vs ds C r b f Q q => by
  unfold fInt1 at f
  split at f
  · obtain ⟨v, rfl, e⟩ := paired1 b
    cases e
    exact .inl ⟨_, rfl, q _ _ H f .refl (.int _)⟩
  · obtain ⟨v, rfl, e⟩ := paired1 b
    cases e
    exact .inr ⟨_, rfl, q _ _ H f .refl (.int _)⟩
  · exact f.elim
/-! all, any of a list of truths -/
def boolsOf : List D → Option (List Bool)
  | [] => some []
  | .bool b :: ds => (boolsOf ds).map (b :: ·)
  | _ :: _ => none
theorem boolsOf_dp {K : PySem.W.Frag} {H : Hp} : ∀ {ds : List D} {bs : List Bool} {vs : List V}, boolsOf ds = some bs → DpAll K H vs ds → vs = bs.map V.bl
  | [], ns, vs, h, a => by
    cases a
    cases h
    rfl
  | .bool i :: ds, ns, _, h, .cons h1 h2 => by
    simp only [boolsOf, Option.map_eq_some_iff] at h
    obtain ⟨ms, e, rfl⟩ := h
    cases h1
    rw [boolsOf_dp e h2]
    rfl
  | .none :: _, _, _, h, _ => by simp [boolsOf] at h
  | .int _ :: _, _, _, h, _ => by simp [boolsOf] at h
  | .str _ :: _, _, _, h, _ => by simp [boolsOf] at h
  | .list _ :: _, _, _, h, _ => by simp [boolsOf] at h
  | .tuple _ :: _, _, _, h, _ => by simp [boolsOf] at h
  | .dict _ :: _, _, _, h, _ => by simp [boolsOf] at h
def fAllB (g : List Bool → Bool) : List D → (Rs → Prop) → Prop
  | [.list ds], C => ∃ bs, boolsOf ds = some bs ∧ C (.dat (.bool (g bs)))
  | _, _ => False
theorem fAll_ok : Cb X (rAll X.K) (fAllB fun bs => bs.all id) := fun τ H0 H γ σ ρ vs ds C r b f Q q => by
  unfold fAllB at f
  split at f
  · obtain ⟨v, rfl, p, ws, rfl, hs, ha⟩ := paired1 b
    obtain ⟨ns, h1, h2⟩ := f
    have e := boolsOf_dp h1 ha
    subst e
    exact ⟨p, ns, rfl, sqL_same res_le hs, q _ _ H h2 .refl (.bl _)⟩
  · exact f.elim
theorem fAny_ok : Cb X (rAny X.K) (fAllB fun bs => bs.any id) := fun τ H0 H γ σ ρ vs ds C r b f Q q => by
  unfold fAllB at f
  split at f
  · obtain ⟨v, rfl, p, ws, rfl, hs, ha⟩ := paired1 b
    obtain ⟨ns, h1, h2⟩ := f
    have e := boolsOf_dp h1 ha
    subst e
    exact ⟨p, ns, rfl, sqL_same res_le hs, q _ _ H h2 .refl (.bl _)⟩
  · exact f.elim
/-! isinstance(x, a built-in type) -/
def tyName : D → String
  | .none => "NoneType"
  | .bool _ => "bool"
  | .int _ => "int"
  | .str _ => "str"
  | .list _ => "list"
  | .tuple _ => "tuple"
  | .dict _ => "dict"
def fIsi (T : String) : D → (D → Prop) → Prop := fun d C => ∃ b, kitB (tyName d) T = some b ∧ C (.bool b)
theorem bo_ty {K : PySem.W.Frag} {τ : Tn} {H R : Hp} {v : V} {d : D} (h : Bo K τ H R v d) : TyX K H v (.type (tyName d)) := by
  cases d with
  | none => cases h; exact .base .non
  | bool _ => cases h; exact .base (.bl _)
  | int _ => cases h; exact .base (.int _)
  | str _ => cases h; exact .base (.str _)
  | list ds =>
    obtain ⟨a, vs, rfl, hs, _⟩ := h
    rcases sqL_same res_le hs with (h | ⟨o, h⟩) | ⟨o, its, n, h1, h2, _⟩
    · exact .base (.lst h)
    · exact .base (.frz h)
    · exact .kList h1 h2
  | tuple ds =>
    obtain ⟨a, vs, rfl, hs, _⟩ := h
    rcases sqT_same res_le hs with (h | ⟨o, h⟩) | ⟨o, its, n, h1, h2, _⟩
    · exact .base (.tup h)
    · exact .fTuple h
    · exact .kTuple h1 h2
  | dict _ => exact h.elim
variable {τ : Tn} {G : Gx} {cp : List Str} {N : List Str} {sc : Scope} {k : Nat} {a : Expr} {t : UV} {pos p p2 : Pos}
theorem jd_isi {y : Str} {T : String} (O : Ok cp G N sc k X) (hm : Free G "isinstance") (hm2 : Free G y) (ha : JV τ X a t) (hv2 : bootBuiltins y = some (.type T)) (hg : sc.names.lookup ("isinstance" : Str) = some .globalImplicit := by rfl) (hg2 : sc.names.lookup y = some .globalImplicit := by rfl)
    (hn2 : y ≠ "__name__" := by decide) (hd2 : (y == ("__debug__" : Str)) = false := by decide)
    (he : starEach (a :: [.Name y p2]) X.env = (false, eval a X.env) :: starEach [.Name y p2] X.env := by rfl) (hpl : (backTo pos (starEach [.Name y p2] X.env)).any (·.1) = false := by rfl) (hs2 : starEach [.Name y p2] X.env = [(false, eval (.Name y p2) X.env)] := by rfl) :
    JD τ X (.Call (.Name "isinstance" p) [a, .Name y p2] [] pos) (d1 (fIsi T) t) := fun ρ C c H0 γ σ H r Q q =>
  wpE_of (pe_callB call_isi (by show X.env.scope.names.lookup _ = _; rw [O.es]; exact hg) (by rw [O.em]; exact hm) (by decide +kernel) (pa_cons pe_w (pa_cons (pe_bltn (v := .ty T) (by show X.env.scope.names.lookup _ = _; rw [O.es]; exact hg2) (by rw [O.em]; exact hm2) hv2 rfl hn2 hd2) pa_nil hs2) he) (by decide) (by decide) he hpl)
    (ha ρ _ c H0 γ σ H r _ fun d v H2 c e b => by
      obtain ⟨z, h1, h2⟩ := c
      exact ⟨v, .ty T, _, _, z, rfl, .ty T, bo_ty b, kit_ty h1, q _ _ H2 h2 e (.bl z)⟩)
end
end Pu
namespace Pu
open PySem PySem.Spec PyProof.Rows L2
/-! ### statements -/
structure Ed where
  nx : En → Prop
  rt : Rs → Prop
  bk : En → Prop := fun _ => False
  ct : En → Prop := fun _ => False
abbrev US := Ed → En → Prop
structure EdOk (K : PySem.W.Frag) (τ : Tn) (H0 : Hp) (γ : List (V × D)) (E : Ed) (Dn : Ends) : Prop where
  nx : ∀ (ρ : En) (σ : St) (H : Hp), E.nx ρ → Rep K τ H0 γ H σ ρ → Dn.nx σ H
  bk : ∀ (ρ : En) (σ : St) (H : Hp), E.bk ρ → Rep K τ H0 γ H σ ρ → Dn.bk σ H
  ct : ∀ (ρ : En) (σ : St) (H : Hp), E.ct ρ → Rep K τ H0 γ H σ ρ → Dn.ct σ H
  rt : ∀ (r : Rs) (v : V) (H : Hp), E.rt r → (∀ a o, H0 a = some o → ¬ τ.ad a → H a = some o) → τ.inv H → RtV K τ H0 H v r → Dn.rt v H
def JS (τ : Tn) (X : Cx) (st : Stmt) (t : US) : Prop := ∀ (ρ : En) (E : Ed), t E ρ → ∀ (H0 : Hp) (γ : List (V × D)) (σ : St) (H : Hp), Rep X.K τ H0 γ H σ ρ → ∀ Dn : Ends, EdOk X.K τ H0 γ E Dn → wpS X st Dn σ H
def JSs (τ : Tn) (X : Cx) (st : List Stmt) (t : US) : Prop := ∀ (ρ : En) (E : Ed), t E ρ → ∀ (H0 : Hp) (γ : List (V × D)) (σ : St) (H : Hp), Rep X.K τ H0 γ H σ ρ → ∀ Dn : Ends, EdOk X.K τ H0 γ E Dn → wpSs X st Dn σ H
abbrev UG := D → En → (En → Prop) → Prop
abbrev UGs := List D → En → (En → Prop) → Prop
def JG (τ : Tn) (X : Cx) (tg : Expr) (g : UG) : Prop := ∀ (d : D) (ρ : En) (C : En → Prop), g d ρ C → ∀ (H0 : Hp) (γ : List (V × D)) (σ : St) (H : Hp) (v : V), Rep X.K τ H0 γ H σ ρ → Dp X.K (res H (own τ σ ρ)) v d → ∀ Q : St → Hp → Prop,
  (∀ ρ' σ', C ρ' → Rep X.K τ H0 γ H σ' ρ' → (∀ a, own τ σ' ρ' a → own τ σ ρ a) → Q σ' H) → wpG X tg v σ H Q
def JGs (τ : Tn) (X : Cx) (ts : List Expr) (g : UGs) : Prop := ∀ (ds : List D) (ρ : En) (C : En → Prop), g ds ρ C → ∀ (H0 : Hp) (γ : List (V × D)) (σ : St) (H : Hp) (vs : List V), Rep X.K τ H0 γ H σ ρ → DpAll X.K (res H (own τ σ ρ)) vs ds → ∀ Q : St → Hp → Prop,
  (∀ ρ' σ', C ρ' → Rep X.K τ H0 γ H σ' ρ' → (∀ a, own τ σ' ρ' a → own τ σ ρ a) → Q σ' H) → wpGs X ts vs σ H Q
/-! ### storing -/
def Rs.sl : Rs → Sl
  | .dat d => .dat d
  | .lst ds => .lst ds
  | .dic kds => .dic kds
  | .th x => .th x
  | .dll m => .dic (toK m)
section
variable {K : PySem.W.Frag} {τ : Tn} {H0 H H' : Hp} {γ : List (V × D)} {σ : St} {ρ : En} {v : V} {d : D} {i : Nat}
theorem own_set {s : Sl} {a : Addr} (h : own τ (σ.set i (some v)) (ρ.set i s) a) : own τ σ ρ a ∨ (s.isOwn = true ∧ v = .ref a) := by
  rcases h with h | ⟨j, u, h1, h2, h3⟩
  · exact .inl (.inl h)
  · by_cases e : i = j
    · subst e
      by_cases hi : i < ρ.length
      · rw [List.getElem?_set_self hi] at h1
        cases h1
        by_cases hi2 : i < σ.length
        · rw [List.getElem?_set_self hi2] at h3
          cases h3
          exact .inr ⟨h2, rfl⟩
        · rw [List.getElem?_eq_none (by simpa using hi2)] at h3; cases h3
      · rw [List.getElem?_eq_none (by simpa using hi)] at h1; cases h1
    · rw [List.getElem?_set_ne e] at h1 h3
      exact .inl (.inr ⟨j, u, h1, h2, h3⟩)
theorem set_other {s : Sl} {j : Nat} {u : Sl} (e : i ≠ j) (h : (ρ.set i s)[j]? = some u) : ρ[j]? = some u := by
  rw [List.getElem?_set_ne e] at h
  exact h
theorem set_here {s u : Sl} (h : (ρ.set i s)[i]? = some u) : u = s ∧ i < ρ.length := by
  by_cases hi : i < ρ.length
  · rw [List.getElem?_set_self hi] at h
    exact ⟨(Option.some.inj h).symm, hi⟩
  · rw [List.getElem?_eq_none (by simpa using hi)] at h; cases h
/-- data is stored -/
theorem Rep.setDat (r : Rep K τ H0 γ H σ ρ) (h : Dp K (res H (own τ σ ρ)) v d) : Rep K τ H0 γ H (σ.set i (some v)) (ρ.set i (.dat d)) := by
  have sub : ∀ a, own τ (σ.set i (some v)) (ρ.set i (.dat d)) a → own τ σ ρ a := fun a z => (own_set z).elim id fun q => by cases q.1
  have le : Same (res H (own τ σ ρ)) (res H (own τ (σ.set i (some v)) (ρ.set i (.dat d)))) := res_mono fun a o n e => ⟨fun z => n (sub a z), e⟩
  refine ⟨by simp [r.len], r.ext, r.inv, fun j u hu => ?_, fun j k u w a h1 h2 h3 h4 h5 h6 => ?_, fun p hp => dp_same le _ _ (r.gh p hp), r.zz⟩
  · by_cases e : i = j
    · subst e
      obtain ⟨rfl, hi⟩ := set_here hu
      exact ⟨v, List.getElem?_set_self (by rw [r.len]; exact hi), dp_same le _ _ h⟩
    · rw [List.getElem?_set_ne e]
      exact SlOk.mono le (fun _ _ _ _ _ q => q) (r.sl j u (set_other e hu))
  · have n1 : i ≠ j := fun e => by subst e; rw [(set_here h1).1] at h3; cases h3
    have n2 : i ≠ k := fun e => by subst e; rw [(set_here h2).1] at h4; cases h4
    rw [List.getElem?_set_ne n1] at h5
    rw [List.getElem?_set_ne n2] at h6
    exact r.sep j k u w a (set_other n1 h1) (set_other n2 h2) h3 h4 h5 h6
/-- a new object is stored: a the address, s its slot, told at H with all that may change and a left out -/
theorem Rep.setNew {a : Addr} {s : Sl} (r0 : Rep K τ H0 γ H σ ρ) (e : Ext τ H H') (hn : H a = none) (hs : s.isOwn = true)
    (h : ∀ R : Hp, Same (res H' (fun b => own τ σ ρ b ∨ b = a)) R → SlOk K τ H0 H' R (some (some (.ref a))) s) : Rep K τ H0 γ H' (σ.set i (some (.ref a))) (ρ.set i s) := by
  have r := r0.after e
  have nown : ¬ own τ σ ρ a := r0.notOwn hn
  have nad : ¬ τ.ad a := fun z => nown (own_ad z)
  have sub : ∀ b, own τ (σ.set i (some (.ref a))) (ρ.set i s) b → own τ σ ρ b ∨ b = a := fun b z => (own_set z).elim .inl fun q => .inr (V.ref.inj q.2).symm
  have le1 : Same (res H' (fun b => own τ σ ρ b ∨ b = a)) (res H' (own τ (σ.set i (some (.ref a))) (ρ.set i s))) := res_mono fun b o n q => ⟨fun z => n (sub b z), q⟩
  have le0 : Same (res H (own τ σ ρ)) (res H' (own τ (σ.set i (some (.ref a))) (ρ.set i s))) := res_mono fun b o n q => by
    have hb : b ≠ a := ne_of_none q hn
    exact ⟨fun z => (sub b z).elim n hb, e.kp b o q fun z => n (own_ad z)⟩
  refine ⟨by simp [r.len], r.ext, r.inv, fun j u hu => ?_, fun j k u w b h1 h2 h3 h4 h5 h6 => ?_, fun p hp => dp_same le0 _ _ (r0.gh p hp), r.zz⟩
  · by_cases ej : i = j
    · subst ej
      obtain ⟨rfl, hi⟩ := set_here hu
      rw [List.getElem?_set_self (by rw [r.len]; exact hi)]
      exact h _ le1
    · rw [List.getElem?_set_ne ej]
      exact SlOk.mono le0 (fun _ b o _ nb q => e.kp b o q nb) (r0.sl j u (set_other ej hu))
  · have other : ∀ (k : Nat) (w : Sl), i ≠ k → (ρ.set i s)[k]? = some w → w.isOwn = true → (σ.set i (some (.ref a)))[k]? = some (some (.ref b)) → b ≠ a := fun k w n hk ho hv z => by
      rw [List.getElem?_set_ne n] at hv
      exact nown (.inr ⟨k, w, set_other n hk, ho, by rw [z] at hv; exact hv⟩)
    have here : ∀ (w : Sl), (ρ.set i s)[i]? = some w → (σ.set i (some (.ref a)))[i]? = some (some (.ref b)) → b = a := fun w hk hv => by
      rw [List.getElem?_set_self (by rw [r.len]; exact (set_here hk).2)] at hv
      exact (V.ref.inj (Option.some.inj (Option.some.inj hv))).symm
    by_cases e1 : i = j
    · by_cases e2 : i = k
      · omega
      · subst e1
        exact absurd (here u h1 h5) (other k w e2 h2 h4 h6)
    · by_cases e2 : i = k
      · subst e2
        exact absurd (here w h2 h6) (other j u e1 h1 h3 h5)
      · rw [List.getElem?_set_ne e1] at h5
        rw [List.getElem?_set_ne e2] at h6
        exact r.sep j k u w b (set_other e1 h1) (set_other e2 h2) h3 h4 h5 h6
theorem Rep.fresh0 (r : Rep K τ H0 γ H σ ρ) {a : Addr} (h : H a = none) : H0 a = none ∧ ¬ τ.ad a := by
  have nad : ¬ τ.ad a := fun z => r.notOwn h (own_ad z)
  refine ⟨?_, nad⟩
  cases q : H0 a with
  | none => rfl
  | some o => rw [r.ext a o q nad] at h; cases h
/-- any result is stored -/
theorem Rep.set {rs : Rs} (r : Rep K τ H0 γ H σ ρ) (e : Ext τ H H') (h : RsOk K τ H H' σ ρ v rs) : Rep K τ H0 γ H' (σ.set i (some v)) (ρ.set i rs.sl) := by
  cases rs with
  | dat d => exact (r.after e).setDat h
  | lst ds =>
    obtain ⟨a, vs, rfl, hn, he, ha⟩ := h
    obtain ⟨f1, f2⟩ := r.fresh0 hn
    exact r.setNew e hn rfl fun R le => ⟨a, vs, rfl, f1, f2, he, dpAll_same le _ _ ha⟩
  | dic kds =>
    obtain ⟨a, vs, rfl, hn, he, ha⟩ := h
    obtain ⟨f1, f2⟩ := r.fresh0 hn
    exact r.setNew e hn rfl fun R le => ⟨a, vs, rfl, f1, f2, he, KvOk.same le ha⟩
  | th x =>
    obtain ⟨a, o, rfl, hn, he, ha⟩ := h
    obtain ⟨f1, f2⟩ := r.fresh0 hn
    exact r.setNew e hn rfl fun R le => ⟨a, o, rfl, f1, f2, he, ha.same le⟩
  | dll m =>
    obtain ⟨a, vs, rfl, hn, he, ha, _⟩ := h
    obtain ⟨f1, f2⟩ := r.fresh0 hn
    exact r.setNew e hn rfl fun R le => ⟨a, vs, rfl, f1, f2, he, KvOk.same le ha⟩
/-- a result leaves the def -/
theorem RsOk.rt {rs : Rs} (r : Rep K τ H0 γ H σ ρ) (e : Ext τ H H') (h : RsOk K τ H H' σ ρ v rs) : RtV K τ H0 H' v rs := by
  cases rs with
  | dat d => exact dp_same res_own_ad _ _ h
  | lst ds =>
    obtain ⟨a, vs, rfl, hn, he, ha⟩ := h
    exact ⟨a, vs, rfl, (r.fresh0 hn).1, he, dpAll_same (res_mono fun b o n q => ⟨fun z => n (z.imp own_ad id), q⟩) _ _ ha⟩
  | dic kds =>
    obtain ⟨a, vs, rfl, hn, he, ha⟩ := h
    exact ⟨a, vs, rfl, (r.fresh0 hn).1, he, KvOk.same (res_mono fun b o n q => ⟨fun z => n (z.imp own_ad id), q⟩) ha⟩
  | th x =>
    obtain ⟨a, o, rfl, hn, he, ha⟩ := h
    exact ⟨a, o, rfl, (r.fresh0 hn).1, he, ha.same (res_mono fun b o n q => ⟨fun z => n (z.imp own_ad id), q⟩)⟩
  | dll m =>
    obtain ⟨a, vs, rfl, hn, he, ha, hf⟩ := h
    exact ⟨a, vs, rfl, (r.fresh0 hn).1, he, KvOk.same (res_mono fun b o n q => ⟨fun z => n (z.imp own_ad id), q⟩) ha, fun q hq => let ⟨L, e1, ne, e2⟩ := hf q hq; ⟨L, e1, ne, (r.fresh0 e2).1⟩⟩
/-- a result without lists stays one when another new object is stored -/
theorem RsOk.beside {rs rs' : Rs} {v' : V} {Hm : Hp} (r : Rep K τ H0 γ H σ ρ) (e1 : Ext τ H Hm) (e2 : Ext τ Hm H') (h1 : RsOk K τ H Hm σ ρ v' rs') (l : rs.lf = true) (h : RsOk K τ Hm H' σ ρ v rs) : RsOk K τ Hm H' (σ.set i (some v')) (ρ.set i rs'.sl) v rs := by
  have rm := r.set (i := i) e1 h1
  have r' := rm.after e2
  have nm : ∀ (b : Addr) (u : HO), H' b = some u → ¬ Mv u → ¬ own τ (σ.set i (some v')) (ρ.set i rs'.sl) b := fun b u e n z => by
    obtain ⟨o, e', m⟩ := r'.ownMut z
    rw [e] at e'; cases e'
    exact n m
  cases rs with
  | dat d => exact r'.lfRes (fun a z => r'.ownMut z) res_le (fun _ _ => res_ok) l h
  | lst ds =>
    obtain ⟨a, vs, rfl, hn, he, ha⟩ := h
    refine ⟨a, vs, rfl, hn, he, dpAll_lf (fun b xs h => ?_) ds vs l ha⟩
    have na : ∀ u : HO, H' b = some u → ¬ Mv u → b ≠ a := fun u e n z => by
      rw [z, he] at e; cases e
      exact n trivial
    rcases h with h | ⟨o, h⟩
    · exact .inl (res_put (fun z => z.elim (nm b _ (res_at h) fun z => z) (na _ (res_at h) fun z => z)) (res_at h) (res_ok h))
    · exact .inr ⟨o, res_put (fun z => z.elim (nm b _ (res_at h) fun z => z) (na _ (res_at h) fun z => z)) (res_at h) (res_ok h)⟩
  | dic kds =>
    obtain ⟨a, kvs, rfl, hn, he, ha⟩ := h
    refine ⟨a, kvs, rfl, hn, he, ?_⟩
    have na : ∀ (b : Addr) (u : HO), H' b = some u → ¬ Mv u → b ≠ a := fun b u e n z => by
      rw [z, he] at e; cases e
      exact n trivial
    have l' : lfAll (kds.map (·.2)) = true := l
    clear l he
    induction ha with
    | nil => exact .nil
    | cons h1 h2 ih =>
      simp only [List.map_cons, lfAll, Bool.and_eq_true] at l'
      refine .cons ⟨h1.1, dp_lf (fun b xs h => ?_) _ _ l'.1 h1.2⟩ (ih l'.2)
      rcases h with h | ⟨o, h⟩
      · exact .inl (res_put (fun z => z.elim (nm b _ (res_at h) fun z => z) (na b _ (res_at h) fun z => z)) (res_at h) (res_ok h))
      · exact .inr ⟨o, res_put (fun z => z.elim (nm b _ (res_at h) fun z => z) (na b _ (res_at h) fun z => z)) (res_at h) (res_ok h)⟩
  | th x =>
    obtain ⟨a, o, rfl, hn, he, ha⟩ := h
    refine ⟨a, o, rfl, hn, he, ?_⟩
    obtain ⟨φ, rfl⟩ := ha.ext
    have na : ∀ (b : Addr) (u : HO), H' b = some u → ¬ Mv u → b ≠ a := fun b u e n z => by
      rw [z, he] at e; cases e
      exact n trivial
    refine ThIs.lf (fun b xs h => ?_) l ha
    rcases h with h | ⟨o, h⟩
    · exact .inl (res_put (fun z => z.elim (nm b _ (res_at h) fun z => z) (na b _ (res_at h) fun z => z)) (res_at h) (res_ok h))
    · exact .inr ⟨o, res_put (fun z => z.elim (nm b _ (res_at h) fun z => z) (na b _ (res_at h) fun z => z)) (res_at h) (res_ok h)⟩
  | dll m =>
    obtain ⟨a, kvs, rfl, hn, he, ha, hf⟩ := h
    refine ⟨a, kvs, rfl, hn, he, dll_lf l ha (fun p hp => ?_) fun b u e n z => ?_, hf⟩
    · obtain ⟨L, e1', ne', e2'⟩ := hf p hp
      refine ⟨L, e1', fun z => ?_⟩
      rcases z with z | z
      · obtain ⟨o, e', m⟩ := rm.ownMut z
        rw [e2'] at e'; cases e'
      · exact ne' z
    · rcases z with z | z
      · exact nm b u e n z
      · rw [z, he] at e; cases e
        exact n trivial
end
end Pu
namespace Pu
open PySem PySem.Spec PyProof.Rows L2
section
variable {τ : Tn} {G : Gx} {cp : List Str} {N : List Str} {sc : Scope} {k : Nat} {X : Cx} {e e2 e3 tg : Expr} {es : List Expr} {st : Stmt} {rest a b body : List Stmt} {t u : US} {tv : UV} {te ue we : UE} {tt : UT} {g : UG} {gs : UGs} {pos p2 : Pos} {x y z : Str}
def sNext : US := fun E ρ => E.nx ρ
def sSeq (t u : US) : US := fun E ρ => t { E with nx := u E } ρ
theorem jss_nil : JSs τ X [] sNext := fun ρ E c H0 γ σ H r Dn d => wpSs_of pss_nil (d.nx ρ σ H c r)
theorem jss_cons (h1 : JS τ X st t) (h2 : JSs τ X rest u) : JSs τ X (st :: rest) (sSeq t u) := fun ρ E c H0 γ σ H r Dn d =>
  wpSs_of (pss_cons ps_w pss_w) (h1 ρ _ c H0 γ σ H r _ ⟨fun ρ' σ' H' c r' => h2 ρ' E c H0 γ σ' H' r' Dn d, d.bk, d.ct, d.rt⟩)
theorem jss_one (h1 : JS τ X st t) : JSs τ X [st] t := fun ρ E c H0 γ σ H r Dn d => wpSs_of (pss_one ps_w) (h1 ρ E c H0 γ σ H r Dn d)
def sNever : US := fun _ _ => False
theorem js_never : JS τ X st sNever := fun _ _ c => c.elim
theorem jss_never : JSs τ X a sNever := fun _ _ c => c.elim
theorem js_pass : JS τ X (.Pass pos) sNext := fun ρ E c H0 γ σ H r Dn d => wpS_of ps_pass (d.nx ρ σ H c r)
def sBreak : US := fun E ρ => E.bk ρ
theorem js_break : JS τ X (.Break pos) sBreak := fun ρ E c H0 γ σ H r Dn d => wpS_of ps_break (d.bk ρ σ H c r)
def sCont : US := fun E ρ => E.ct ρ
theorem js_cont : JS τ X (.Continue pos) sCont := fun ρ E c H0 γ σ H r Dn d => wpS_of ps_continue (d.ct ρ σ H c r)
def sDrop (te : UE) : US := fun E ρ => te ρ fun _ => E.nx ρ
theorem js_expr (he : JE τ X e te) (hs : swapsWith e none pos.line X.env = pure false := by rfl) : JS τ X (.Expr e pos) (sDrop te) := fun ρ E c H0 γ σ H r Dn d =>
  wpS_of (ps_expr pe_w hs) (he ρ _ c H0 γ σ H r _ fun rs v H2 c e1 h => d.nx ρ σ H2 c (r.after e1))
def sRet (te : UE) : US := fun _E ρ => te ρ _E.rt
theorem js_ret (he : JE τ X e te) : JS τ X (.Return (some e) pos) (sRet te) := fun ρ E c H0 γ σ H r Dn d =>
  wpS_of (ps_ret pe_w) (he ρ _ c H0 γ σ H r _ fun rs v H2 c e1 h => d.rt rs v H2 c (r.after e1).ext (r.after e1).inv (h.rt r e1))
def sRetN : US := fun E _ => E.rt (.dat .none)
theorem js_retN : JS τ X (.Return none pos) sRetN := fun ρ E c H0 γ σ H r Dn d => wpS_of ps_retN (d.rt _ _ H c r.ext r.inv .non)
/-- return x, x perhaps a list of one's own -/
def sRetV (i : Nat) : US := fun E ρ => match ρ[i]? with
  | some (.dat d) => E.rt (.dat d)
  | some (.lst ds) => E.rt (.lst ds)
  | some (.dic ds) => E.rt (.dic ds)
  | some (.th x) => E.rt (.th x)
  | _ => False
theorem js_retV (S : Ok cp G N sc k X) (i : Nat) (hN : N[i]? = some x := by rfl) (hv : Vis sc x := by first | exact Or.inl rfl | exact Or.inr (Or.inl rfl) | exact Or.inr (Or.inr rfl)) (hd : (x == ("__debug__" : Str)) = false := by decide) (hcd : (x == ("__classdict__" : Str)) = false := by decide) :
    JS τ X (.Return (some (.Name x p2)) pos) (sRetV i) := fun ρ E c H0 γ σ H r Dn d => by
  refine wpS_of (ps_ret (pe_var (i := i) (by rw [S.eN]; exact hN) (by rw [S.es]; exact hv) hd hcd)) ?_
  have le : ∀ a : Addr, own τ σ ρ a → Same (res H (own τ σ ρ)) (res H (fun b => τ.ad b ∨ b = a)) := fun a ha => res_mono fun b o n q => ⟨fun z => n (z.elim own_ad fun z => by rw [z]; exact ha), q⟩
  unfold sRetV at c
  split at c
  · rename_i dd hi
    obtain ⟨v, e, h⟩ := r.sl i _ hi
    exact ⟨v, e, d.rt _ _ H c r.ext r.inv (dp_same res_own_ad _ _ h)⟩
  · rename_i ds hi
    obtain ⟨a, vs, e, h0, hn, h, h'⟩ := r.sl i _ hi
    exact ⟨_, e, d.rt _ _ H c r.ext r.inv ⟨a, vs, rfl, h0, h, dpAll_same (le a (.inr ⟨i, _, hi, rfl, e⟩)) _ _ h'⟩⟩
  · rename_i ds hi
    obtain ⟨a, vs, e, h0, hn, h, h'⟩ := r.sl i _ hi
    exact ⟨_, e, d.rt _ _ H c r.ext r.inv ⟨a, vs, rfl, h0, h, KvOk.same (le a (.inr ⟨i, _, hi, rfl, e⟩)) h'⟩⟩
  · rename_i ds hi
    obtain ⟨a, o, e, h0, hn, h, h'⟩ := r.sl i _ hi
    exact ⟨_, e, d.rt _ _ H c r.ext r.inv ⟨a, o, rfl, h0, h, h'.same (le a (.inr ⟨i, _, hi, rfl, e⟩))⟩⟩
  · exact c.elim
def sIf (tt : UT) (t u : US) : US := fun E ρ => tt ρ fun z => (z = true → t E ρ) ∧ (z = false → u E ρ)
theorem js_if (hc : JT τ X e tt) (ha : JSs τ X a t) (hb : JSs τ X b u) : JS τ X (.If e a b pos) (sIf tt t u) := fun ρ E c H0 γ σ H r Dn d =>
  wpS_of (ps_if pt_w pss_w pss_w) (hc ρ _ c H0 γ σ H r _ fun z H2 c e1 => by
    cases z with
    | true => exact iteT (ha ρ E (c.1 rfl) H0 γ σ H2 (r.after e1) Dn d)
    | false => exact iteF (hb ρ E (c.2 rfl) H0 γ σ H2 (r.after e1) Dn d))
/-! ### assignments -/
theorem loc_of (S : Ok cp G N sc k X) (h : LocC cp sc x) : Loc X.env.scope x := by
  rw [S.es]
  exact h.imp id And.left
theorem fn_of_loc (S : Ok cp G N sc k X) (h : LocC cp sc x) : X.fn x = true ∨ X.env.scope.names.lookup x = some .local := by
  rcases h with h | h
  · exact .inr (by rw [S.es]; exact h)
  · exact .inl (S.fn x h.1 h.2)
def sSet (i : Nat) (te : UE) : US := fun E ρ => te ρ fun r => E.nx (ρ.set i r.sl)
theorem js_set (S : Ok cp G N sc k X) (i : Nat) (he : JE τ X e te) (hN : N[i]? = some x := by rfl) (hx : LocC cp sc x := by first | exact Or.inl rfl | exact Or.inr ⟨rfl, rfl⟩) (hs : swapsWith e (some (.Name x p2)) pos.line X.env = pure false := by rfl) : JS τ X (.Assign [.Name x p2] e pos) (sSet i te) := fun ρ E c H0 γ σ H r Dn d =>
  wpS_of (ps_set (i := i) (by rw [S.eN]; exact S.nd) (by rw [S.eN]; exact hN) (loc_of S hx) pe_w hs (fn_of_loc S hx)) (he ρ _ c H0 γ σ H r _ fun rs v H2 c e1 h => d.nx _ _ H2 c (r.set e1 h))
def gNam (i : Nat) : UG := fun d ρ C => C (ρ.set i (.dat d))
theorem jg_name (S : Ok cp G N sc k X) (i : Nat) (hN : N[i]? = some x := by rfl) (hx : LocC cp sc x := by first | exact Or.inl rfl | exact Or.inr ⟨rfl, rfl⟩) : JG τ X (.Name x p2) (gNam i) := fun d ρ C c H0 γ σ H v r h Q q =>
  wpG_of (pg_name (i := i) (by rw [S.eN]; exact S.nd) (by rw [S.eN]; exact hN) (loc_of S hx) (fn_of_loc S hx)) (q _ _ c (r.setDat h) fun a z => (own_set z).elim id fun q => by cases q.1)
def gsNil : UGs := fun ds ρ C => match ds with
  | [] => C ρ
  | _ => False
def gsCons (g : UG) (gs : UGs) : UGs := fun ds ρ C => match ds with
  | d :: ds => g d ρ fun ρ' => gs ds ρ' C
  | [] => False
theorem jgs_nil : JGs τ X [] gsNil := fun ds ρ C c H0 γ σ H vs r h Q q => by
  cases ds with
  | nil =>
    cases h
    exact wpGs_of pgs_nil ⟨rfl, q ρ σ c r fun _ z => z⟩
  | cons d ds => exact c.elim
theorem jgs_cons {ts : List Expr} (h1 : JG τ X tg g) (h2 : JGs τ X ts gs) (hs : (assignEach (tg :: ts) X.env).map (·.2) = assign tg X.env :: (assignEach ts X.env).map (·.2) := by rfl) : JGs τ X (tg :: ts) (gsCons g gs) := fun ds ρ C c H0 γ σ H vs r h Q q => by
  cases ds with
  | nil => exact c.elim
  | cons d ds =>
    cases h with
    | cons hd ht =>
      exact wpGs_of (pgs_cons pg_w pgs_w hs) ⟨_, _, rfl, h1 d ρ _ c H0 γ σ H _ r hd _ fun ρ' σ' c r' sub => h2 ds ρ' C c H0 γ σ' H _ r' (dpAll_same (res_mono fun a o n e => ⟨fun z => n (sub a z), e⟩) _ _ ht) Q fun ρ2 σ2 c r2 sub2 => q ρ2 σ2 c r2 fun a z => sub a (sub2 a z)⟩
def gTupl (n : Nat) (gs : UGs) : UG := fun d ρ C => match d with
  | .tuple ds => ds.length = n ∧ gs ds ρ C
  | _ => False
theorem jg_tup {kk n : Nat} (S : Ok cp G N sc k X) (h : JGs τ X es gs) (hn : (assignEach es X.env).length = n := by rfl) (hst : (assignEach es X.env).findIdx? (·.1) = none := by rfl) : JG τ X (.Tuple es kk pos) (gTupl n gs) := fun d ρ C c H0 γ σ H v r hd Q q => by
  unfold gTupl at c
  split at c
  · rename_i ds
    cases hd with
    | tup hs ha =>
      exact wpG_of (pg_tup S.calm pgs_w hn hst) ⟨_, _, rfl, sqT_same res_le hs, (dpAll_len ha).trans c.1, h ds ρ C c.2 H0 γ σ H _ r ha Q q⟩
  · exact c.elim
def sAsg (tv : UV) (g : UG) : US := fun E ρ => tv ρ fun d => g d ρ E.nx
theorem js_asg (he : JD τ X e tv) (hg : JG τ X tg g) (hs : swapsWithSole [tg] e pos.line X.env = pure false := by rfl) (hw : swappedStores [tg] e X.env = pure none := by rfl)
    (h1 : (assignEach [tg] X.env).map (·.2) = [assign tg X.env] := by rfl) : JS τ X (.Assign [tg] e pos) (sAsg tv g) := fun ρ E c H0 γ σ H r Dn d =>
  wpS_of (ps_asg pe_w pg_w hs hw h1) (he ρ _ c H0 γ σ H r _ fun dd v H2 c e1 h => hg dd ρ _ c H0 γ σ H2 v (r.after e1) h _ fun ρ' σ' c r' _ => d.nx ρ' σ' H2 c r')
theorem swapped_env {ts : List Expr} {v : Expr} {env : Env} (h : env.scope = sc) : swappedStores ts v env = swappedStores ts v { (default : Env) with scope := sc } := by
  obtain ⟨s, l, gl, cl, q, f, cd, fr, bu⟩ := env
  simp only at h
  subst h
  rfl
def sPar2 (i j : Nat) (te ue : UE) : US := fun E ρ => te ρ fun r1 => ue ρ fun r2 => r1.lf = true ∧ r2.lf = true ∧ E.nx ((ρ.set i r1.sl).set j r2.sl)
theorem js_par2 {px py pt pt2 : Pos} {kt k2 : Nat} (S : Ok cp G N sc k X) (i j : Nat) (ha : JE τ X e te) (hb : JE τ X e2 ue) (hi : N[i]? = some x := by rfl) (hj : N[j]? = some y := by rfl) (hij : i ≠ j := by decide)
    (hx : sc.names.lookup x = some .local := by rfl) (hy : sc.names.lookup y = some .local := by rfl)
    (hw : swappedStores [.Tuple [.Name x px, .Name y py] kt pt] (.Tuple [e, e2] k2 pt2) { (default : Env) with scope := sc } = pure (some [x, y]) := by rfl)
    (hs : swapsWithSole [.Tuple [.Name x px, .Name y py] kt pt] (.Tuple [e, e2] k2 pt2) pos.line X.env = pure false := by rfl) (hst : starEach [e, e2] X.env = (false, eval e X.env) :: starEach [e2] X.env := by rfl) (hst2 : starEach [e2] X.env = (false, eval e2 X.env) :: starEach [] X.env := by rfl) :
    JS τ X (.Assign [.Tuple [.Name x px, .Name y py] kt pt] (.Tuple [e, e2] k2 pt2) pos) (sPar2 i j te ue) := fun ρ E c H0 γ σ H r Dn d =>
  wpS_of (ps_par (i := i) (j := j) S.calm (by rw [S.eN]; exact S.nd) (by rw [S.eN]; exact hi) (by rw [S.eN]; exact hj) hij (by rw [S.es]; exact hx) (by rw [S.es]; exact hy) (pa_cons pe_w (pa_cons pe_w pa_nil hst2) hst) ((swapped_env S.es).trans hw) hs)
    (ha ρ _ c H0 γ σ H r _ fun r1 v1 H2 c e1 h1 => hb ρ _ c H0 γ σ H2 (r.after e1) _ fun r2 v2 H3 c e2 h2 => ⟨v1, v2, rfl, d.nx _ _ H3 c.2.2 ((r.set e1 h1).set e2 (RsOk.beside r e1 e2 h1 c.2.1 h2))⟩)
def sPar3 (i j l : Nat) (te ue we : UE) : US := fun E ρ => te ρ fun r1 => ue ρ fun r2 => we ρ fun r3 => r1.lf = true ∧ r2.lf = true ∧ r3.lf = true ∧ E.nx (((ρ.set i r1.sl).set j r2.sl).set l r3.sl)
theorem js_par3 {px py pz pt pt2 : Pos} {kt k2 : Nat} (S : Ok cp G N sc k X) (i j l : Nat) (ha : JE τ X e te) (hb : JE τ X e2 ue) (hc : JE τ X e3 we) (hi : N[i]? = some x := by rfl) (hj : N[j]? = some y := by rfl) (hl : N[l]? = some z := by rfl) (hij : i ≠ j := by decide) (hil : i ≠ l := by decide) (hjl : j ≠ l := by decide)
    (hx : sc.names.lookup x = some .local := by rfl) (hy : sc.names.lookup y = some .local := by rfl) (hz : sc.names.lookup z = some .local := by rfl)
    (hw : swappedStores [.Tuple [.Name x px, .Name y py, .Name z pz] kt pt] (.Tuple [e, e2, e3] k2 pt2) { (default : Env) with scope := sc } = pure (some [x, y, z]) := by rfl)
    (hs : swapsWithSole [.Tuple [.Name x px, .Name y py, .Name z pz] kt pt] (.Tuple [e, e2, e3] k2 pt2) pos.line X.env = pure false := by rfl) (hst : starEach [e, e2, e3] X.env = (false, eval e X.env) :: starEach [e2, e3] X.env := by rfl) (hst2 : starEach [e2, e3] X.env = (false, eval e2 X.env) :: starEach [e3] X.env := by rfl) (hst3 : starEach [e3] X.env = (false, eval e3 X.env) :: starEach [] X.env := by rfl) :
    JS τ X (.Assign [.Tuple [.Name x px, .Name y py, .Name z pz] kt pt] (.Tuple [e, e2, e3] k2 pt2) pos) (sPar3 i j l te ue we) := fun ρ E c H0 γ σ H r Dn d =>
  wpS_of (ps_par3 (i := i) (j := j) (l := l) S.calm (by rw [S.eN]; exact S.nd) (by rw [S.eN]; exact hi) (by rw [S.eN]; exact hj) (by rw [S.eN]; exact hl) hij hil hjl (by rw [S.es]; exact hx) (by rw [S.es]; exact hy) (by rw [S.es]; exact hz) (pa_cons pe_w (pa_cons pe_w (pa_cons pe_w pa_nil hst3) hst2) hst) ((swapped_env S.es).trans hw) hs)
    (ha ρ _ c H0 γ σ H r _ fun r1 v1 H2 c e1 h1 => hb ρ _ c H0 γ σ H2 (r.after e1) _ fun r2 v2 H3 c e2 h2 => hc ρ _ c H0 γ σ H3 ((r.after e1).after e2) _ fun r3 v3 H4 c e3 h3 => ⟨v1, v2, v3, rfl, d.nx _ _ H4 c.2.2.2 (by
      have s1 := r.set (i := i) e1 h1
      have g2 := RsOk.beside (i := i) r e1 e2 h1 c.2.1 h2
      have s2 := s1.set (i := j) e2 g2
      have g3 := RsOk.beside (i := i) r (e1.trans e2) e3 (h1.after r e2) c.2.2.1 h3
      exact s2.set e3 (RsOk.beside (i := j) s1 e2 e3 g2 c.2.2.1 g3))⟩)
def sAug (i : Nat) (f : D → D → (D → Prop) → Prop) (tv : UV) : US := fun E ρ => match ρ[i]? with
  | some (.dat x) => tv ρ fun y => f x y fun z => E.nx (ρ.set i (.dat z))
  | _ => False
theorem js_aug {op : Operator} {ti : TIp} {f : D → D → (D → Prop) → Prop} (S : Ok cp G N sc k X) (i : Nat) (ho : PIp X op ti) (hf : Op2 X ti f) (he : JV τ X e tv) (hN : N[i]? = some x := by rfl) (hx : LocC cp sc x := by first | exact Or.inl rfl | exact Or.inr ⟨rfl, rfl⟩) :
    JS τ X (.AugAssign (.Name x p2) op e pos) (sAug i f tv) := fun ρ E c H0 γ σ H r Dn d => by
  refine wpS_of (ps_aug (i := i) (by rw [S.eN]; exact S.nd) (by rw [S.eN]; exact hN) (loc_of S hx) pe_w ho (fn_of_loc S hx)) ?_
  unfold sAug at c
  split at c
  · rename_i dd hi
    obtain ⟨v, e, h⟩ := r.sl i _ hi
    refine ⟨v, e, he ρ _ c H0 γ σ H r _ fun dy vy H2 c e1 h1 => hf _ _ _ _ _ _ _ _ _ _ _ (r.after e1) ((bo_of res_own_ad h).after e1) h1 c _ fun dz vz H3 c e2 h2 => d.nx _ _ H3 c (((r.after e1).after e2).setDat h2)⟩
  · exact c.elim
theorem pip_of {op : Operator} {r : R2} (h : OpR X (inplaceOp op) r) : PIp X op r := fun pins s σ H x y v u Q I r1 r2 q => h pins s σ H x y v u Q I r1 r2 q
abbrev rI0i (g : Int → Int → Int) : R2 := rI0 fun i j => .int (g i j)
def fI0 (g : Int → Int → Int) : D → D → (D → Prop) → Prop
  | .int i, .int j, C => C (.int (g i j))
  | _, _, _ => False
theorem fI0_ok {g : Int → Int → Int} : Op2 X (rI0i g) (fI0 g) := fun τ H0 H γ σ ρ v1 v2 d1 d2 C r b1 b2 h Q q => by
  cases d1 <;> cases d2 <;> first | exact h.elim | skip
  cases b1; cases b2
  exact ⟨_, _, rfl, rfl, q _ _ H h .refl (.int _)⟩
theorem js_iadd (S : Ok cp G N sc k X) (i : Nat) (he : JV τ X e tv) (hN : N[i]? = some x := by rfl) (hx : LocC cp sc x := by first | exact Or.inl rfl | exact Or.inr ⟨rfl, rfl⟩) : JS τ X (.AugAssign (.Name x p2) .Add e pos) (sAug i (fI0 fun i j => i + j) tv) := js_aug S i (pip_of iop_add) fI0_ok he hN hx
theorem js_isub (S : Ok cp G N sc k X) (i : Nat) (he : JV τ X e tv) (hN : N[i]? = some x := by rfl) (hx : LocC cp sc x := by first | exact Or.inl rfl | exact Or.inr ⟨rfl, rfl⟩) : JS τ X (.AugAssign (.Name x p2) .Sub e pos) (sAug i (fI0 fun i j => i - j) tv) := js_aug S i (pip_of iop_sub) fI0_ok he hN hx
theorem js_imul (S : Ok cp G N sc k X) (i : Nat) (he : JV τ X e tv) (hN : N[i]? = some x := by rfl) (hx : LocC cp sc x := by first | exact Or.inl rfl | exact Or.inr ⟨rfl, rfl⟩) : JS τ X (.AugAssign (.Name x p2) .Mult e pos) (sAug i fMul tv) := js_aug S i (pip_of iop_mul) (fInt_ok fun _ _ h => h) he hN hx
/-! ### a list of one's own, changed -/
theorem Rep.change {K : PySem.W.Frag} {H0 H : Hp} {γ : List (V × D)} {σ : St} {ρ : En} {i : Nat} {p : Addr} {o : HO} {s s' : Sl} (r : Rep K τ H0 γ H σ ρ) (hi : ρ[i]? = some s) (hs : s.isOwn = true) (hs' : s'.isOwn = true) (hv : σ[i]? = some (some (.ref p))) (hn : ¬ τ.ad p)
    (h0 : H0 p = none) (h : SlOk K τ H0 (upd H p o) (res H (own τ σ ρ)) (some (some (.ref p))) s') : Rep K τ H0 γ (upd H p o) σ (ρ.set i s') := by
  have hil : i < ρ.length := (List.getElem?_eq_some_iff.mp hi).1
  have so : ∀ a, own τ σ (ρ.set i s') a ↔ own τ σ ρ a := fun a => by
    constructor
    · rintro (z | ⟨j, u, h1, h2, h3⟩)
      · exact .inl z
      · by_cases e : i = j
        · subst e
          exact .inr ⟨i, s, hi, hs, h3⟩
        · exact .inr ⟨j, u, set_other e h1, h2, h3⟩
    · rintro (z | ⟨j, u, h1, h2, h3⟩)
      · exact .inl z
      · by_cases e : i = j
        · subst e
          exact .inr ⟨i, s', List.getElem?_set_self hil, hs', h3⟩
        · exact .inr ⟨j, u, by rw [List.getElem?_set_ne e]; exact h1, h2, h3⟩
  have op : own τ σ ρ p := .inr ⟨i, s, hi, hs, hv⟩
  have le : Same (res H (own τ σ ρ)) (res (upd H p o) (own τ σ (ρ.set i s'))) := res_mono fun a u n e => by
    have hne : a ≠ p := fun z => n (by rw [z]; exact op)
    exact ⟨fun z => n ((so a).mp z), by rw [upd_ne hne]; exact e⟩
  refine ⟨by simp [r.len], fun a u e n => ?_, ?_, fun j u hu => ?_, fun j l u w b h1 h2 h3 h4 h5 h6 => ?_, fun q hq => dp_same le _ _ (r.gh q hq), r.zz⟩
  · rw [upd_ne (ne_of_none e h0)]
    exact r.ext a u e n
  · refine τ.dep (fun a u ea ha => ?_) r.inv
    rw [upd_ne fun z => ?_]
    · exact ea
    · rcases ha with ha | ha
      · exact hn (by rw [← z]; exact ha)
      · have q := r.sl i s hi
        rw [hv] at q
        cases s with
        | lst ds =>
          obtain ⟨b, vs, e, _, _, e2, _⟩ := q
          cases e
          rw [z, e2] at ea; cases ea
          exact ha trivial
        | dic kds =>
          obtain ⟨b, vs, e, _, _, e2, _⟩ := q
          cases e
          rw [z, e2] at ea; cases ea
          exact ha trivial
        | un => cases hs
        | dat d => cases hs
        | town => cases hs
        | ldc kds => cases hs
        | dtc kds =>
          obtain ⟨b, vs, e, _, _, e2, _⟩ := q
          cases e
          rw [z, e2] at ea; cases ea
          exact ha trivial
        | th x =>
          obtain ⟨b, o, e, _, _, e2, e3⟩ := q
          cases e
          rw [z, e2] at ea; cases ea
          exact ha e3.lk
        | tv x => cases hs
        | tl x => cases hs
        | dls m =>
          obtain ⟨b, kvs, e, _, _, e2, _⟩ := q
          cases e
          rw [z, e2] at ea; cases ea
          exact ha trivial
  · by_cases e : i = j
    · subst e
      obtain ⟨rfl, _⟩ := set_here hu
      rw [hv]
      exact SlOk.mono le (fun _ _ _ _ _ q => q) h
    · have hu' := set_other e hu
      refine SlOk.mono le (fun hou a u2 ea na q => ?_) (r.sl j u hu')
      have hne : a ≠ p := fun z => by
        rcases ea with ea | ⟨ws, eo⟩
        · exact e (r.sep i j s u p hi hu' hs hou hv (by rw [ea, z]))
        · rw [z, eo] at q
          rw [z] at q
          exact r.notL hi hs hv q
      rw [upd_ne hne]; exact q
  · have back : ∀ (j : Nat) (u : Sl), (ρ.set i s')[j]? = some u → u.isOwn = true → ∃ u', ρ[j]? = some u' ∧ u'.isOwn = true := fun j u hu ho => by
      by_cases e : i = j
      · subst e; exact ⟨s, hi, hs⟩
      · exact ⟨u, set_other e hu, ho⟩
    obtain ⟨u', g1, g2⟩ := back j u h1 h3
    obtain ⟨w', g3, g4⟩ := back l w h2 h4
    exact r.sep j l u' w' b g1 g3 g2 g4 h5 h6
end
end Pu
namespace Pu
open PySem PySem.Spec PyProof.Rows L2
theorem slice_line {n : Nat} (h : n ≤ 1000000) : n < sizeLine := Nat.lt_of_le_of_lt h (by decide)
section
variable {τ : Tn} {G : Gx} {cp : List Str} {N : List Str} {sc : Scope} {k : Nat} {X : Cx} {e e2 e3 tg iter : Expr} {es : List Expr} {st : Stmt} {rest a b body : List Stmt} {t u : US} {tv tw : UV} {te ue we : UE} {tt : UT} {g : UG} {gs : UGs} {pos p2 p3 apos : Pos} {x y z : Str}
/-! ### append, extend, pop -/
def sAppend (i : Nat) (tv : UV) : US := fun E ρ => match ρ[i]? with
  | some (.lst ds) => tv ρ fun d => ds.length ≤ 1000000 ∧ E.nx (ρ.set i (.lst (ds ++ [d])))
  | _ => False
theorem js_append (S : Ok cp G N sc k X) (i : Nat) (he : JD τ X e tv) (hN : N[i]? = some x := by rfl) (hv : Vis sc x := by first | exact Or.inl rfl | exact Or.inr (Or.inl rfl) | exact Or.inr (Or.inr rfl)) (hd : (x == ("__debug__" : Str)) = false := by decide) (hcd : (x == ("__classdict__" : Str)) = false := by decide)
    (hfew : ((backTo p3 (starEach [e] X.env)).all (fun x => !x.1) && (backToKw p3 (keywordEach [] X.env)).all (fun x => x.1.isSome) && decide ([e].length + ([] : List Keyword).length + (if ([] : List Keyword).isEmpty then 0 else 1) < 30)) = true := by rfl)
    (hline : (apos.endLine == p3.line) = true := by rfl) (hst : starEach [e] X.env = (false, eval e X.env) :: starEach [] X.env := by rfl) :
    JS τ X (.Expr (.Call (.Attribute (.Name x p2) "append" apos) [e] [] p3) pos) (sAppend i tv) := fun ρ E c H0 γ σ H r Dn d => by
  refine wpS_of (ps_expr (pe_bm PySem.F.plainAttrs_list PySem.F.slot_list_append PySem.F.type_list_append mt_append (pe_var (i := i) (by rw [S.eN]; exact hN) (by rw [S.es]; exact hv) hd hcd) (pa_cons pe_w pa_nil hst) rfl hfew hline hst rfl)) ?_
  unfold sAppend at c
  split at c
  · rename_i ds hi
    obtain ⟨p, vs, e0, h0, hn, h, h'⟩ := r.sl i _ hi
    refine ⟨_, e0, .inl ⟨rfl, vs, .inl (.inl h)⟩, he ρ _ c H0 γ σ H r _ fun dd v H2 c e1 h1 => ?_⟩
    refine ⟨p, vs, v, rfl, rfl, e1.kp p _ h hn, ?_, d.nx _ _ _ c.2 ?_⟩
    · rw [dpAll_len h']; exact slice_line c.1
    · exact (r.after e1).change hi rfl rfl e0 hn h0 ⟨p, _, rfl, h0, hn, upd_same, dpAll_append (dpAll_after e1 h') (.cons h1 .nil)⟩
  · exact c.elim
/-- x.extend(a new list) -/
def sExtend (i : Nat) (te : UE) : US := fun E ρ => match ρ[i]? with
  | some (.lst ds) => te ρ fun r => match r with
    | .lst es => ds.length + es.length ≤ 1000000 ∧ E.nx (ρ.set i (.lst (ds ++ es)))
    | _ => False
  | _ => False
theorem js_extend (S : Ok cp G N sc k X) (i : Nat) (he : JE τ X e te) (hN : N[i]? = some x := by rfl) (hv : Vis sc x := by first | exact Or.inl rfl | exact Or.inr (Or.inl rfl) | exact Or.inr (Or.inr rfl)) (hd : (x == ("__debug__" : Str)) = false := by decide) (hcd : (x == ("__classdict__" : Str)) = false := by decide)
    (hfew : ((backTo p3 (starEach [e] X.env)).all (fun x => !x.1) && (backToKw p3 (keywordEach [] X.env)).all (fun x => x.1.isSome) && decide ([e].length + ([] : List Keyword).length + (if ([] : List Keyword).isEmpty then 0 else 1) < 30)) = true := by rfl)
    (hline : (apos.endLine == p3.line) = true := by rfl) (hst : starEach [e] X.env = (false, eval e X.env) :: starEach [] X.env := by rfl) :
    JS τ X (.Expr (.Call (.Attribute (.Name x p2) "extend" apos) [e] [] p3) pos) (sExtend i te) := fun ρ E c H0 γ σ H r Dn d => by
  refine wpS_of (ps_expr (pe_bm PySem.F.plainAttrs_list PySem.F.slot_list_extend PySem.F.type_list_extend mt_extend (pe_var (i := i) (by rw [S.eN]; exact hN) (by rw [S.es]; exact hv) hd hcd) (pa_cons pe_w pa_nil hst) rfl hfew hline hst rfl)) ?_
  unfold sExtend at c
  split at c
  · rename_i ds hi
    obtain ⟨p, vs, e0, h0, hn, h, h'⟩ := r.sl i _ hi
    refine ⟨_, e0, .inl ⟨rfl, vs, .inl (.inl h)⟩, he ρ _ c H0 γ σ H r _ fun rs v H2 c e1 h1 => ?_⟩
    cases rs with
    | dat _ => exact c.elim
    | dic _ => exact c.elim
    | th _ => exact c.elim
    | dll _ => exact c.elim
    | lst es =>
      obtain ⟨q, ws, rfl, hq, hq2, ha⟩ := h1
      refine ⟨p, q, vs, ws, rfl, rfl, e1.kp p _ h hn, hq2, ?_, d.nx _ _ _ c.2 ?_⟩
      · rw [dpAll_len h', dpAll_len ha]; exact small_line c.1
      · exact (r.after e1).change hi rfl rfl e0 hn h0 ⟨p, _, rfl, h0, hn, upd_same, dpAll_append (dpAll_after e1 h') (dpAll_same (res_mono fun b o n eb => ⟨fun z => n (.inl z), eb⟩) _ _ ha)⟩
  · exact c.elim
/-- target = x.pop() -/
def sPop (i : Nat) (g : UG) : US := fun E ρ => match ρ[i]? with
  | some (.lst ds) => ∃ d, ds[ds.length - 1]? = some d ∧ g d (ρ.set i (.lst ds.dropLast)) E.nx
  | _ => False
theorem dpAll_dropLast {K : PySem.W.Frag} {H : Hp} {vs : List V} {ds : List D} (h : DpAll K H vs ds) : DpAll K H vs.dropLast ds.dropLast := by
  rw [List.dropLast_eq_take, List.dropLast_eq_take, dpAll_len h]
  exact dpAll_take _ h
theorem js_pop (S : Ok cp G N sc k X) (i : Nat) (hg : JG τ X tg g) (hN : N[i]? = some x := by rfl) (hv : Vis sc x := by first | exact Or.inl rfl | exact Or.inr (Or.inl rfl) | exact Or.inr (Or.inr rfl)) (hd : (x == ("__debug__" : Str)) = false := by decide) (hcd : (x == ("__classdict__" : Str)) = false := by decide)
    (hline : (apos.endLine == p3.line) = true := by rfl)
    (hs : swapsWithSole [tg] (.Call (.Attribute (.Name x p2) "pop" apos) [] [] p3) pos.line X.env = pure false := by rfl) (hw : swappedStores [tg] (.Call (.Attribute (.Name x p2) "pop" apos) [] [] p3) X.env = pure none := by rfl)
    (h1 : (assignEach [tg] X.env).map (·.2) = [assign tg X.env] := by rfl) :
    JS τ X (.Assign [tg] (.Call (.Attribute (.Name x p2) "pop" apos) [] [] p3) pos) (sPop i g) := fun ρ E c H0 γ σ H r Dn d => by
  refine wpS_of (ps_asg (pe_bm0 PySem.F.plainAttrs_list PySem.F.slot_list_pop PySem.F.type_list_pop mt_pop (pe_var (i := i) (by rw [S.eN]; exact hN) (by rw [S.es]; exact hv) hd hcd) rfl hline) pg_w hs hw h1) ?_
  unfold sPop at c
  split at c
  · rename_i ds hi
    obtain ⟨p, vs, e0, h0, hn, h, h'⟩ := r.sl i _ hi
    obtain ⟨dd, hd1, c⟩ := c
    obtain ⟨v, hv1, hdp⟩ := dpAll_get h' hd1
    have r2 := r.change (o := .lst vs.dropLast) (s' := .lst ds.dropLast) hi rfl rfl e0 hn h0 ⟨p, _, rfl, h0, hn, upd_same, dpAll_dropLast h'⟩
    refine ⟨_, e0, .inl ⟨rfl, vs, .inl (.inl h)⟩, p, vs, v, rfl, rfl, h, by rw [dpAll_len h']; exact hv1, ?_⟩
    refine hg dd _ _ c H0 γ σ _ v r2 ?_ _ fun ρ' σ' c r' _ => d.nx ρ' σ' _ c r'
    have op : own τ σ ρ p := .inr ⟨i, _, hi, rfl, e0⟩
    refine dp_same (res_mono fun b o n q => ?_) _ _ hdp
    have hb : b ≠ p := fun z => n (by rw [z]; exact op)
    refine ⟨fun z => n ?_, by rw [upd_ne hb]; exact q⟩
    rcases z with z | ⟨j, u, g1, g2, g3⟩
    · exact .inl z
    · by_cases ej : i = j
      · subst ej; exact .inr ⟨i, _, hi, rfl, g3⟩
      · exact .inr ⟨j, u, set_other ej g1, g2, g3⟩
  · exact c.elim
/-! ### while -/
def whC (tt : UT) (tb : US) (E : Ed) : Nat → En → Prop
  | 0, _ => False
  | n + 1, ρ => tt ρ fun z => (z = true → tb { E with nx := whC tt tb E n, ct := whC tt tb E n, bk := E.nx } ρ) ∧ (z = false → E.nx ρ)
def sWhile (tt : UT) (tb : US) : US := fun E ρ => ∃ n, whC tt tb E n ρ
theorem js_while (S : Ok cp G N sc k X) (hc : JT τ X e tt) (hb : JSs τ X body t) : JS τ X (.While e body [] pos) (sWhile tt t) := fun ρ E c H0 γ σ H r Dn d => by
  obtain ⟨n, c⟩ := c
  refine wpS_of (ps_while S.po pt_w pss_w) ⟨fun m σ' H' => ∃ ρ', Rep X.K τ H0 γ H' σ' ρ' ∧ whC tt t E m ρ', ⟨n, ρ, r, c⟩, fun m σ' H' ⟨ρ', r', c⟩ => ?_⟩
  cases m with
  | zero => exact c.elim
  | succ m =>
    refine hc ρ' _ c H0 γ σ' H' r' _ fun z H2 c e1 => ?_
    cases z with
    | false => exact iteF (d.nx ρ' σ' H2 (c.2 rfl) (r'.after e1))
    | true =>
      refine iteT ⟨fun σ2 H3 => ∃ ρ2, Rep X.K τ H0 γ H3 σ2 ρ2 ∧ whC tt t E m ρ2, fun σ2 H3 h => ⟨m, Nat.lt_succ_self m, h⟩, ?_⟩
      exact hb ρ' _ (c.1 rfl) H0 γ σ' H2 (r'.after e1) _ ⟨fun ρ2 σ2 H3 c r2 => ⟨ρ2, r2, c⟩, d.nx, fun ρ2 σ2 H3 c r2 => ⟨ρ2, r2, c⟩, d.rt⟩
/-! ### what is walked -/
structure ItOk (K : PySem.W.Frag) (τ : Tn) (J : It) (γ' : List (V × D)) (ds : List D) : Prop where
  go : ∀ (H : Hp) (ow : Addr → Prop), (∀ p ∈ γ', Bo K τ H (res H ow) p.1 p.2) → ∀ i, i < ds.length → J.go i H
  yld : ∀ (H : Hp) (ow : Addr → Prop), (∀ p ∈ γ', Bo K τ H (res H ow) p.1 p.2) → (∀ a, H a = none → ¬ ow a) → ∀ (i : Nat) (d : D), ds[i]? = some d → ∀ x H4, J.yld i H x H4 → Same H H4 ∧ Dp K (res H4 ow) x d
  stop : ∀ (H : Hp) (ow : Addr → Prop), (∀ p ∈ γ', Bo K τ H (res H ow) p.1 p.2) → ∀ i, ds.length ≤ i → J.stop i H
/-- for a loop (what is walked must stay) | for a comprehension -/
def JI (τ : Tn) (X : Cx) (tg iter : Expr) (t : UL) : Prop := ∀ (ρ : En) (C : List D → Prop), t ρ C → ∀ (H0 : Hp) (γ : List (V × D)) (σ : St) (H : Hp), Rep X.K τ H0 γ H σ ρ → ∀ R : It → Hp → Prop,
  (∀ J γ' ds H2, C ds → Ext τ H H2 → (∀ p ∈ γ', Dp X.K (res H2 (own τ σ ρ)) p.1 p.2) → ItOk X.K τ J γ' ds → ds.length ≤ sizeLine → R J H2) → wpI X tg iter σ H R
def JIx (τ : Tn) (X : Cx) (tg iter : Expr) (t : UL) : Prop := ∀ (ρ : En) (C : List D → Prop), t ρ C → ∀ (H0 : Hp) (γ : List (V × D)) (σ : St) (H : Hp), Rep X.K τ H0 γ H σ ρ → ∀ R : It → Hp → Prop,
  (∀ J γ' ds H2, C ds → Ext τ H H2 → (∀ p ∈ γ', Bo X.K τ H2 (res H2 (own τ σ ρ)) p.1 p.2) → ItOk X.K τ J γ' ds → ds.length ≤ sizeLine → R J H2) → wpI X tg iter σ H R
theorem jix_of {tl : UL} (h : JI τ X tg iter tl) : JIx τ X tg iter tl := fun ρ C c H0 γ σ H r R q => h ρ C c H0 γ σ H r R fun J γ' ds H2 c e g o l => q J γ' ds H2 c e (fun p hp => bo_of res_own_ad (g p hp)) o l
theorem wpI_size {σ : St} {H : Hp} {R : It → Hp → Prop} (h : wpI X tg iter σ H fun J H2 => (∀ a xs, SqL X.K H2 a xs → xs.length ≤ sizeLine) → (∀ a xs, SqT X.K H2 a xs → xs.length ≤ sizeLine) → R J H2) : wpI X tg iter σ H R := by
  unfold wpI at h ⊢
  exact fun pins s I => thn (h pins s I) fun v s1 h1 => thn h1 fun itv s2 ⟨it, fp, tn, J, H', e, I', T, st, f, q⟩ => ⟨it, fp, tn, J, H', e, I', T, st, f, q (fun a xs hs => let ⟨_, _, _, z⟩ := I'.list hs; z) fun a xs hs => let ⟨_, _, _, z⟩ := I'.tuple hs; z⟩
/-- the signs of a text -/
def signsD (x : Str) : List D := x.cps.toList.map fun c => .str ⟨#[c]⟩
theorem signsD_len {x : Str} : (signsD x).length = x.cps.size := by simp [signsD]
/-- over a list, a tuple or a text -/
def iSeqU (K : PySem.W.Frag) (tl : TE) : TI := fun σ H R => tl σ H fun x H1 => (∃ a, x = .ref a ∧ (∃ xs, SqL K H1 a xs) ∧ R (Itl K a) H1) ∨ (∃ a, x = .ref a ∧ (∃ xs, SqT K H1 a xs) ∧ R (Itt K a) H1) ∨ ∃ y, x = .str y ∧ R (Its y) H1
theorem pi_seqU {l : Expr} {tl : TE} (hl : PE X l tl) : PI X tg l (iSeqU X.K tl) := by
  refine ⟨fun pins s σ H R I h => ?_⟩
  refine thn (hl.run pins s σ H _ I h) fun v s1 ⟨x, H1, I1, r1, q1⟩ => ?_
  have fresh : ∀ b ∈ [s1.heap.objs.size], FpOk X pins H1 b := fun b hb => by
    have e : b = s1.heap.objs.size := by simpa using hb
    subst e
    exact I1.fpOk (Nat.le_refl _) (I1.hok.fresh (Nat.le_refl _))
  rcases q1 with ⟨a, e, ⟨xs, hq⟩, q⟩ | ⟨a, e, ⟨xs, hq⟩, q⟩ | ⟨y, e, q⟩
  · subst e
    cases r1
    obtain ⟨its, rv, p, hz⟩ := I1.list hq
    exact wpAny_pyIter_list p.isList ⟨s1.heap.objs.size, [s1.heap.objs.size], _, _, H1, rfl, I1.kept (t' := s1.toks) fun b o e => Heap.get?_push_of_some _ e, turn_list a _, ⟨_, Heap.get?_push_size _ rfl, rfl, rfl⟩, fresh, q⟩
  · subst e
    cases r1
    obtain ⟨its, rv, p, hz⟩ := I1.tuple hq
    exact wpAny_pyIter_tuple (show s1.heap.IsTuple a its.toArray from p) ⟨s1.heap.objs.size, [s1.heap.objs.size], _, _, H1, rfl, I1.kept (t' := s1.toks) fun b o e => Heap.get?_push_of_some _ e, turn_tuple a _, ⟨_, Heap.get?_push_size _ rfl, rfl, rfl⟩, fresh, q⟩
  · subst e
    obtain ⟨t, rfl⟩ := r1
    cases hw : y.cps.all (· < 128)
    · exact wpAny_pyIter_wide hw (pi_one (tk := s1.toks) I1 _ (turn_str _ y t "str_iterator" (.inr rfl)) ⟨_, Heap.get?_push_size _ rfl, rfl, rfl⟩ q)
    · exact wpAny_pyIter_ascii hw (pi_one (tk := s1.toks) I1 _ (turn_str _ y t "str_ascii_iterator" (.inl rfl)) ⟨_, Heap.get?_push_size _ rfl, rfl, rfl⟩ q)
theorem itOk_list {K : PySem.W.Frag} {a : Addr} {ds : List D} : ItOk K τ (Itl K a) [(.ref a, .list ds)] ds where
  go := fun H ow g i hi => by
    obtain ⟨p, vs, e, hs, ha⟩ := g _ (List.mem_singleton.mpr rfl)
    cases e
    obtain ⟨v, hv, _⟩ := dpAll_get ha (List.getElem?_eq_getElem hi)
    exact ⟨vs, v, sqL_same res_le hs, hv⟩
  yld := fun H ow g hn i d hd x H4 hy => by
    obtain ⟨p, vs, e, hs, ha⟩ := g _ (List.mem_singleton.mpr rfl)
    cases e
    obtain ⟨rfl, hy⟩ := hy
    obtain ⟨v, hv, hdp⟩ := dpAll_get ha hd
    have := (hy vs (sqL_same res_le hs)).symm.trans hv
    cases this
    exact ⟨Same.refl _, hdp⟩
  stop := fun H ow g i hi => by
    obtain ⟨p, vs, e, hs, ha⟩ := g _ (List.mem_singleton.mpr rfl)
    cases e
    exact ⟨vs, sqL_same res_le hs, by rw [dpAll_len ha]; exact hi⟩
theorem itOk_tup {K : PySem.W.Frag} {a : Addr} {ds : List D} : ItOk K τ (Itt K a) [(.ref a, .tuple ds)] ds where
  go := fun H ow g i hi => by
    obtain ⟨p, vs, e, hs, ha⟩ := g _ (List.mem_singleton.mpr rfl)
    cases e
    obtain ⟨v, hv, _⟩ := dpAll_get ha (List.getElem?_eq_getElem hi)
    exact ⟨vs, v, sqT_same res_le hs, hv⟩
  yld := fun H ow g hn i d hd x H4 hy => by
    obtain ⟨p, vs, e, hs, ha⟩ := g _ (List.mem_singleton.mpr rfl)
    cases e
    obtain ⟨rfl, hy⟩ := hy
    obtain ⟨v, hv, hdp⟩ := dpAll_get ha hd
    have := (hy vs (sqT_same res_le hs)).symm.trans hv
    cases this
    exact ⟨Same.refl _, hdp⟩
  stop := fun H ow g i hi => by
    obtain ⟨p, vs, e, hs, ha⟩ := g _ (List.mem_singleton.mpr rfl)
    cases e
    exact ⟨vs, sqT_same res_le hs, by rw [dpAll_len ha]; exact hi⟩
theorem itOk_str {K : PySem.W.Frag} {x : Str} {g : List (V × D)} : ItOk K τ (Its x) g (signsD x) where
  go := fun H ow _ i hi => by
    rw [signsD_len] at hi
    exact hi
  yld := fun H ow _ hn i d hd v H4 hy => by
    obtain ⟨rfl, c, hc, rfl⟩ := hy
    unfold signsD at hd
    rw [List.getElem?_map, Array.getElem?_toList, hc] at hd
    cases hd
    exact ⟨fun _ _ e => e, .str _⟩
  stop := fun H ow _ i hi => by
    rw [signsD_len] at hi
    exact hi
def fSeq0 : D → (List D → Prop) → Prop
  | .list ds, C => C ds
  | .tuple ds, C => C ds
  | _, _ => False
def fSeq : D → (List D → Prop) → Prop
  | .list ds, C => C ds
  | .tuple ds, C => C ds
  | .str x, C => x.cps.size ≤ 1000000 ∧ C (signsD x)
  | _, _ => False
def iSeq (tv : UV) : UL := fun ρ C => tv ρ fun d => fSeq d C
theorem ji_seq (he : JD τ X iter tv) : JI τ X tg iter (iSeq tv) := fun ρ C c H0 γ σ H r R q =>
  wpI_size (wpI_of (pi_seqU pe_w) (he ρ _ c H0 γ σ H r _ fun d v H2 c e1 h => by
    cases h with
    | lst hs ha => exact .inl ⟨_, rfl, ⟨_, sqL_same res_le hs⟩, fun z1 z2 => q _ [(_, _)] _ H2 c e1 (fun p hp => by rw [List.mem_singleton.mp hp]; exact .lst hs ha) itOk_list (by rw [← dpAll_len ha]; exact z1 _ _ (sqL_same res_le hs))⟩
    | tup hs ha => exact .inr (.inl ⟨_, rfl, ⟨_, sqT_same res_le hs⟩, fun z1 z2 => q _ [(_, _)] _ H2 c e1 (fun p hp => by rw [List.mem_singleton.mp hp]; exact .tup hs ha) itOk_tup (by rw [← dpAll_len ha]; exact z2 _ _ (sqT_same res_le hs))⟩)
    | non => exact c.elim
    | bl _ => exact c.elim
    | int _ => exact c.elim
    | str x => exact .inr (.inr ⟨x, rfl, fun _ _ => q _ [] _ H2 c.2 e1 (fun p hp => by cases hp) itOk_str (by rw [signsD_len]; exact Nat.le_of_lt (slice_line c.1))⟩)))
theorem jix_seq (he : JV τ X iter tv) : JIx τ X tg iter (iSeq tv) := fun ρ C c H0 γ σ H r R q =>
  wpI_size (wpI_of (pi_seqU pe_w) (he ρ _ c H0 γ σ H r _ fun d v H2 c e1 h => by
    cases d with
    | list ds =>
      obtain ⟨p, vs, rfl, hs, ha⟩ := id h
      exact .inl ⟨_, rfl, ⟨_, sqL_same res_le hs⟩, fun z1 z2 => q _ [(_, _)] _ H2 c e1 (fun p hp => by rw [List.mem_singleton.mp hp]; exact h) itOk_list (by rw [← dpAll_len ha]; exact z1 _ _ (sqL_same res_le hs))⟩
    | tuple ds =>
      obtain ⟨p, vs, rfl, hs, ha⟩ := id h
      exact .inr (.inl ⟨_, rfl, ⟨_, sqT_same res_le hs⟩, fun z1 z2 => q _ [(_, _)] _ H2 c e1 (fun p hp => by rw [List.mem_singleton.mp hp]; exact h) itOk_tup (by rw [← dpAll_len ha]; exact z2 _ _ (sqT_same res_le hs))⟩)
    | none => exact c.elim
    | bool _ => exact c.elim
    | int _ => exact c.elim
    | str x =>
      cases h
      exact .inr (.inr ⟨x, rfl, fun _ _ => q _ [] _ H2 c.2 e1 (fun p hp => by cases hp) itOk_str (by rw [signsD_len]; exact Nat.le_of_lt (slice_line c.1))⟩)
    | dict _ => exact c.elim))
/-! ranges -/
def rngD (lo : Int) (n : Nat) : List D := (List.range n).map fun (i : Nat) => .int (lo + (i : Int))
theorem rngD_get {lo : Int} {n i : Nat} {d : D} (h : (rngD lo n)[i]? = some d) : i < n ∧ d = .int (lo + (i : Int)) := by
  unfold rngD at h
  rw [List.getElem?_map] at h
  cases q : (List.range n)[i]? with
  | none => rw [q] at h; cases h
  | some j =>
    rw [q] at h
    obtain ⟨h1, h2⟩ := List.getElem?_eq_some_iff.mp q
    rw [List.getElem_range] at h2
    subst h2
    exact ⟨by simpa using h1, (Option.some.inj h).symm⟩
theorem rngD_len {lo : Int} {n : Nat} : (rngD lo n).length = n := by simp [rngD]
theorem itOk_rng {K : PySem.W.Frag} {lo : Int} {n : Nat} : ItOk K τ (Itr lo n) [] (rngD lo n) where
  go := fun H ow g i hi => by rw [rngD_len] at hi; exact hi
  yld := fun H ow g hn i d hd x H4 hy => by
    obtain ⟨_, rfl⟩ := rngD_get hd
    obtain ⟨rfl, rfl⟩ := hy
    exact ⟨Same.refl _, .int _⟩
  stop := fun H ow g i hi => by rw [rngD_len] at hi; exact hi
def iRange1 (tv : UV) : UL := fun ρ C => tv ρ fun d => ∃ n, d = .int n ∧ n ≤ 1000000 ∧ -1000000000 ≤ n ∧ C (rngD 0 n.toNat)
theorem pow62 {n : Int} (h : n ≤ 1000000000000) (h2 : -1000000000000 ≤ n) : -(2 ^ 62) ≤ n ∧ n < 2 ^ 62 := by
  constructor <;> omega
theorem ji_range1 {p : Pos} (S : Ok cp G N sc k X) (hm : Free G "range") (he : JV τ X e tv) (hg : sc.names.lookup ("range" : Str) = some .globalImplicit := by rfl) (hs : starEach [e] X.env = [(false, eval e X.env)] := by rfl) : JI τ X tg (.Call (.Name "range" p) [e] [] pos) (iRange1 tv) := fun ρ C c H0 γ σ H r R q =>
  wpI_of (pi_range1 (by show X.env.scope.names.lookup _ = _; rw [S.es]; exact hg) (by rw [S.em]; exact hm) (pa_cons pe_w pa_nil (by rw [hs]; rfl)) hs) (he ρ _ c H0 γ σ H r _ fun d v H2 c e1 h => by
    obtain ⟨n, rfl, h1, h2, c⟩ := c
    cases h
    obtain ⟨a, b⟩ := pow62 (n := n) (by omega) (by omega)
    exact ⟨n, rfl, a, b, q _ [] _ H2 c e1 (fun p hp => by cases hp) itOk_rng (by rw [rngD_len]; exact small_line (by omega))⟩)
def iRange2 (tv tw : UV) : UL := fun ρ C => tv ρ fun d => tw ρ fun d2 => ∃ m n, d = .int m ∧ d2 = .int n ∧ n - m ≤ 1000000 ∧ -1000000000000 ≤ m ∧ m ≤ 1000000000000 ∧ -1000000000000 ≤ n ∧ n ≤ 1000000000000 ∧ C (rngD m (n - m).toNat)
theorem ji_range2 {p : Pos} (S : Ok cp G N sc k X) (hm : Free G "range") (he : JV τ X e tv) (he2 : JV τ X e2 tw) (hg : sc.names.lookup ("range" : Str) = some .globalImplicit := by rfl) (hs : starEach [e, e2] X.env = [(false, eval e X.env), (false, eval e2 X.env)] := by rfl) (hs2 : starEach [e2] X.env = [(false, eval e2 X.env)] := by rfl) :
    JI τ X tg (.Call (.Name "range" p) [e, e2] [] pos) (iRange2 tv tw) := fun ρ C c H0 γ σ H r R q =>
  wpI_of (pi_range2 (by show X.env.scope.names.lookup _ = _; rw [S.es]; exact hg) (by rw [S.em]; exact hm) (pa_cons pe_w (pa_cons pe_w pa_nil (by rw [hs2]; rfl)) (by rw [hs, hs2])) hs hs2) (he ρ _ c H0 γ σ H r _ fun d v H2 c e1 h => he2 ρ _ c H0 γ σ H2 (r.after e1) _ fun d2 v2 H3 c e2 h2 => by
    obtain ⟨m, n, rfl, rfl, h3, h4, h5, h6, h7, c⟩ := c
    cases h; cases h2
    obtain ⟨a1, b1⟩ := pow62 (n := m) (by omega) (by omega)
    obtain ⟨a2, b2⟩ := pow62 (n := n) (by omega) (by omega)
    exact ⟨m, n, rfl, ⟨a1, b1, a2, b2⟩, q _ [] _ H3 c (e1.trans e2) (fun p hp => by cases hp) itOk_rng (by rw [rngD_len]; exact small_line (by omega))⟩)
/-! ### for -/
def forC (g : UG) (tb : US) (E : Ed) : List D → En → Prop
  | [], ρ => E.nx ρ
  | d :: ds, ρ => g d ρ fun ρ' => tb { E with nx := forC g tb E ds, ct := forC g tb E ds, bk := E.nx } ρ'
def sFor (ti : UL) (g : UG) (tb : US) : US := fun E ρ => ti ρ fun ds => forC g tb E ds ρ
theorem Rep.less {K : PySem.W.Frag} {H0 H : Hp} {γ γ' : List (V × D)} {σ : St} {ρ : En} (r : Rep K τ H0 (γ' ++ γ) H σ ρ) : Rep K τ H0 γ H σ ρ := ⟨r.len, r.ext, r.inv, r.sl, r.sep, fun p hp => r.gh p (List.mem_append_right _ hp), r.zz⟩
theorem js_for {ti : UL} (S : Ok cp G N sc k X) (hi : JI τ X tg iter ti) (hg : JG τ X tg g) (hb : JSs τ X body t) (hs : ∀ x, foldedSetIterable iter X.env x = pure x := by intro _; rfl) : JS τ X (.For tg iter body [] pos) (sFor ti g t) := fun ρ E c H0 γ σ H r Dn d => by
  refine wpS_of (ps_for S.po S.calm pi_w pg_w pss_w hs) (hi ρ _ c H0 γ σ H r _ fun J γ' ds H2 c e1 hγ hJ _ => ?_)
  have r2 := r.after e1
  have R2 : Rep X.K τ H0 (γ' ++ γ) H2 σ ρ := ⟨r2.len, r2.ext, r2.inv, r2.sl, r2.sep, fun p hp => (List.mem_append.mp hp).elim (hγ p) (r2.gh p), r2.zz⟩
  refine ⟨fun i m σ' H' => m = ds.length - i ∧ ∃ ρ', Rep X.K τ H0 (γ' ++ γ) H' σ' ρ' ∧ forC g t E (ds.drop i) ρ', ⟨_, rfl, ρ, R2, c⟩, fun i m σ' H' ⟨hm, ρ', r', c⟩ => ?_⟩
  have bo : ∀ p ∈ γ', Bo X.K τ H' (res H' (own τ σ' ρ')) p.1 p.2 := fun p hp => bo_of res_own_ad (r'.gh p (List.mem_append_left _ hp))
  by_cases hlt : i < ds.length
  · rw [List.drop_eq_getElem_cons hlt] at c
    refine .inr ⟨hJ.go H' _ bo i hlt, fun σ2 H3 => ∃ ρ2, Rep X.K τ H0 (γ' ++ γ) H3 σ2 ρ2 ∧ forC g t E (ds.drop (i + 1)) ρ2, fun σ2 H3 h => ⟨ds.length - (i + 1), by omega, rfl, h⟩, fun x H4 hy => ?_⟩
    obtain ⟨sm, hdp⟩ := hJ.yld H' _ bo (fun a ha => r'.notOwn ha) i _ (List.getElem?_eq_getElem hlt) x H4 hy
    refine hg _ ρ' _ c H0 (γ' ++ γ) σ' H4 x (r'.after (.of_same sm)) hdp _ fun ρ2 σ2 c r3 _ => ?_
    exact hb ρ2 _ c H0 (γ' ++ γ) σ2 H4 r3 _ ⟨fun ρ3 σ3 H5 c r4 => ⟨ρ3, r4, c⟩, fun ρ3 σ3 H5 c r4 => d.nx ρ3 σ3 H5 c r4.less, fun ρ3 σ3 H5 c r4 => ⟨ρ3, r4, c⟩, d.rt⟩
  · rw [List.drop_of_length_le (by omega)] at c
    exact .inl ⟨hJ.stop H' _ bo i (by omega), d.nx ρ' σ' H' c r'.less⟩
/-- a list of one's own laid still -/
def sFrz (i : Nat) (t : US) : US := fun E ρ => match ρ[i]? with
  | some (.lst ds) => t E (ρ.set i (.dat (.list ds)))
  | _ => t E ρ
theorem js_frz (i : Nat) (h : JS τ X st t) : JS τ X st (sFrz i t) := fun ρ E c H0 γ σ H r Dn d => by
  unfold sFrz at c
  split at c
  · rename_i ds hi
    refine h _ E c H0 γ σ H ?_ Dn d
    obtain ⟨p, vs, e0, h0, hn, hp, ha⟩ := r.sl i _ hi
    have hil : i < σ.length := by rw [r.len]; exact (List.getElem?_eq_some_iff.mp hi).1
    have es : σ.set i (some (.ref p)) = σ := by
      apply List.ext_getElem?
      intro j
      by_cases ej : i = j
      · subst ej; rw [List.getElem?_set_self hil]; exact e0.symm
      · rw [List.getElem?_set_ne ej]
    have sub : ∀ b, own τ σ (ρ.set i (.dat (.list ds))) b → own τ σ ρ b ∧ b ≠ p := by
      rintro b (z | ⟨j, u, g1, g2, g3⟩)
      · exact ⟨.inl z, fun q => hn (by rw [← q]; exact z)⟩
      · have ne : i ≠ j := fun q => by subst q; rw [(set_here g1).1] at g2; cases g2
        exact ⟨.inr ⟨j, u, set_other ne g1, g2, g3⟩, fun q => ne (r.sep i j _ u p hi (set_other ne g1) rfl g2 e0 (by rw [← q]; exact g3))⟩
    have le : Same (res H (own τ σ ρ)) (res H (own τ σ (ρ.set i (.dat (.list ds))))) := res_mono fun a o n q => ⟨fun z => n (sub a z).1, q⟩
    refine ⟨by simp [r.len], r.ext, r.inv, fun j u hu => ?_, fun j l u w b g1 g2 g3 g4 g5 g6 => ?_, fun q hq => dp_same le _ _ (r.gh q hq), r.zz⟩
    · by_cases ej : i = j
      · subst ej
        obtain ⟨rfl, _⟩ := set_here hu
        exact ⟨_, e0, .lst (.inl (.inl (res_put (fun z => (sub p z).2 rfl) hp))) (dpAll_same le _ _ ha)⟩
      · exact SlOk.mono le (fun _ _ _ _ _ q => q) (r.sl j u (set_other ej hu))
    · have n1 : i ≠ j := fun e => by subst e; rw [(set_here g1).1] at g3; cases g3
      have n2 : i ≠ l := fun e => by subst e; rw [(set_here g2).1] at g4; cases g4
      exact r.sep j l u w b (set_other n1 g1) (set_other n2 g2) g3 g4 g5 g6
  · exact h ρ E c H0 γ σ H r Dn d
end
end Pu
namespace Pu
open PySem PySem.Spec PyProof.Rows L2
/-! ### a list out of sight -/
def unT (H : Hp) (p : Addr) : Hp := fun b => if b = p then none else H b
theorem unT_same {H : Hp} {p : Addr} : unT H p p = none := if_pos rfl
theorem unT_ne {H : Hp} {p b : Addr} (h : b ≠ p) : unT H p b = H b := if_neg h
theorem unT_le {H : Hp} {p : Addr} : Same (unT H p) H := fun b o e => by
  by_cases h : b = p
  · subst h; rw [unT_same] at e; cases e
  · rw [unT_ne h] at e; exact e
theorem upd_unT {H : Hp} {p : Addr} {o : HO} (h : H p = some o) : upd (unT H p) p o = H := by
  funext b
  by_cases hb : b = p
  · subst hb; rw [upd_same, h]
  · rw [upd_ne hb, unT_ne hb]
theorem unT_upd {H : Hp} {p : Addr} {o : HO} (h : H p = none) : unT (upd H p o) p = H := by
  funext b
  by_cases hb : b = p
  · subst hb; rw [unT_same, h]
  · rw [unT_ne hb, upd_ne hb]
section
variable {X : Cx} {pins : List (Addr × Obj)} {σ : St} {H : Hp} {s : Shared} {p : Addr} {xs : List V}
theorem inv_untrack (I : Inv X pins σ H s) (h : H p = some (.lst xs)) : ∃ o, s.heap.get? p = some o ∧ Inv X ((p, o) :: pins) σ (unT H p) s := by
  obtain ⟨hz, its, n, rv, ho⟩ := I.hok p _ h
  refine ⟨_, ho, I.ok, I.os, I.bare, ⟨I.base.keep, I.base.slot, fun b o e n hx => ?_, I.base.there, fun b ys e => ?_, fun b o u e => ?_, fun b ps e => ?_⟩, I.loc, I.cell, ?_, fun x c e => ?_, fun q hq => ?_, fun b u e => ?_, I.len⟩
  · by_cases hb : b = p
    · subst hb; exact unT_same
    · rw [unT_ne hb]; exact I.base.free b o e n hx
  · have e' := I.base.tups b ys e
    have hb : b ≠ p := fun z => by rw [z, h] at e'; cases e'
    rw [unT_ne hb]; exact e'
  · have e' := I.base.frzs b o u e
    have hb : b ≠ p := fun z => by rw [z, h] at e'; cases e'
    rw [unT_ne hb]; exact e'
  · obtain ⟨m, e'⟩ := I.base.tbls b ps e
    have hb : b ≠ p := fun z => by rw [z, h] at e'; cases e'
    exact ⟨m, by rw [unT_ne hb]; exact e'⟩
  · by_cases hb : X.env.locals = p
    · rw [hb]; exact unT_same
    · rw [unT_ne hb]; exact I.free
  · by_cases hb : c = p
    · rw [hb]; exact unT_same
    · rw [unT_ne hb]; exact I.freeC x c e
  · have old : q ∈ X.pn ++ pins → s.heap.get? q.1 = some q.2 ∧ unT H p q.1 = none ∧ q.1 ≠ X.env.locals ∧ q.1 ∉ X.fs ∧ ∀ v, q.2.data ≠ .cell v := fun hq => by
      obtain ⟨a1, a2, a3, a4, a5⟩ := I.pin q hq
      refine ⟨a1, ?_, a3, a4, a5⟩
      by_cases hb : q.1 = p
      · rw [hb]; exact unT_same
      · rw [unT_ne hb]; exact a2
    rcases List.mem_append.mp hq with hq | hq
    · exact old (List.mem_append_left _ hq)
    · rcases List.mem_cons.mp hq with rfl | hq
      · refine ⟨ho, unT_same, fun z => ?_, fun z => ?_, fun v q => by cases q⟩
        · have f := I.free
          rw [← z] at f
          rw [f] at h; cases h
        · obtain ⟨_, o, ho', _⟩ := I.ok.funs.mem z
          have f := I.base.free p o ho' (I.ok.frf p z) fun y => I.ok.exfs p y z
          rw [f] at h; cases h
      · exact old (List.mem_append_right _ hq)
  · have e' := unT_le b u e
    refine (I.hok b u e').stay (fun _ _ _ q => q) (fun c q => ?_) fun c ys q => ?_
    · have hc : c ≠ p := fun z => by rw [z, h] at q; cases q
      rw [unT_ne hc]; exact q
    · have hc : c ≠ p := fun z => by rw [z, h] at q; cases q
      rw [unT_ne hc]; exact q
theorem inv_retrack {σ' : St} {H2 : Hp} {s2 : Shared} {o : Obj} (I : Inv X pins σ H s) (h : H p = some (.lst xs)) (ho : s.heap.get? p = some o) (I2 : Inv X ((p, o) :: pins) σ' H2 s2) : H2 p = none ∧ Inv X pins σ' (upd H2 p (.lst xs)) s2 := by
  obtain ⟨g1, g2, g3, g4, g5⟩ := I2.pin (p, o) (List.mem_append_right _ (List.mem_cons_self ..))
  simp only at g1 g2 g3 g4
  have ne0 : ∀ b u, X.H_0 b = some u → (∀ ys, u ≠ .lst ys) → (∀ b ys, X.H_0 b = some (.tup ys) → H b = some (.tup ys)) → True := fun _ _ _ _ _ => trivial
  obtain ⟨hz, its, n, rv, ho'⟩ := I.hok p _ h
  rw [ho] at ho'
  cases ho'
  refine ⟨g2, I2.ok, I2.os, I2.bare, ⟨I2.base.keep, I2.base.slot, fun b o e n hx => ?_, I2.base.there, fun b ys e => ?_, fun b o u e => ?_, fun b ps e => ?_⟩, I2.loc, I2.cell, ?_, fun x c e => ?_, fun q hq => ?_, fun b u e => ?_, I2.len⟩
  · have hb : b ≠ p := fun z => by
      rw [z] at e n hx
      rw [I.base.free p o e n hx] at h; cases h
    rw [upd_ne hb]; exact I2.base.free b o e n hx
  · have hb : b ≠ p := fun z => by
      rw [z] at e
      rw [I.base.tups p ys e] at h; cases h
    rw [upd_ne hb]; exact I2.base.tups b ys e
  · have hb : b ≠ p := fun z => by
      rw [z] at e
      rw [I.base.frzs p o u e] at h; cases h
    rw [upd_ne hb]; exact I2.base.frzs b o u e
  · have hb : b ≠ p := fun z => by
      rw [z] at e
      obtain ⟨m, e'⟩ := I.base.tbls p ps e
      rw [e'] at h; cases h
    rw [upd_ne hb]; exact I2.base.tbls b ps e
  · rw [upd_ne (fun z => g3 z.symm)]; exact I2.free
  · have hb : c ≠ p := fun z => by
      have f := I.freeC x c e
      rw [z, h] at f; cases f
    rw [upd_ne hb]; exact I2.freeC x c e
  · obtain ⟨a1, a2, a3, a4, a5⟩ := I2.pin q (by
      rcases List.mem_append.mp hq with hq | hq
      · exact List.mem_append_left _ hq
      · exact List.mem_append_right _ (List.mem_cons_of_mem _ hq))
    have hb : q.1 ≠ p := fun z => by
      have f := (I.pin q hq).2.1
      rw [z, h] at f; cases f
    exact ⟨a1, by rw [upd_ne hb]; exact a2, a3, a4, a5⟩
  · by_cases hb : b = p
    · subst hb
      rw [upd_same] at e
      cases e
      exact ⟨hz, its, n, rv, g1⟩
    · rw [upd_ne hb] at e
      refine (I2.hok b u e).stay (fun _ _ _ q => q) (fun c q => ?_) fun c ys q => ?_
      · have hc : c ≠ p := fun z => by rw [z, g2] at q; cases q
        rw [upd_ne hc]; exact q
      · have hc : c ≠ p := fun z => by rw [z, g2] at q; cases q
        rw [upd_ne hc]; exact q
end
section
variable {X : Cx} {σ : St} {H : Hp} {p : Addr} {xs : List V} {e tg : Expr}
theorem wpE_hide {Q Q' : VK} (h : H p = some (.lst xs)) (q : wpE X e σ (unT H p) Q') (k : ∀ v H2, H2 p = none → Q' v H2 → Q v (upd H2 p (.lst xs))) : wpE X e σ H Q := by
  unfold wpE at q ⊢
  intro pins s I
  obtain ⟨o, ho, I'⟩ := inv_untrack I h
  refine thn (q _ s I') fun u s2 ⟨v, H2, I2, rv, qq⟩ => ?_
  obtain ⟨hn, I3⟩ := inv_retrack I h ho I2
  exact ⟨v, _, I3, rv, k v H2 hn qq⟩
theorem wpG_hide {v : V} {Q Q' : St → Hp → Prop} (h : H p = some (.lst xs)) (q : wpG X tg v σ (unT H p) Q') (k : ∀ σ2 H2, H2 p = none → Q' σ2 H2 → Q σ2 (upd H2 p (.lst xs))) : wpG X tg v σ H Q := by
  unfold wpG at q ⊢
  intro pins s u I rv
  obtain ⟨o, ho, I'⟩ := inv_untrack I h
  refine thn (q _ s u I' rv) fun u s2 ⟨σ2, H2, I2, qq⟩ => ?_
  obtain ⟨hn, I3⟩ := inv_retrack I h ho I2
  exact ⟨σ2, _, I3, k σ2 H2 hn qq⟩
def wpTs (X : Cx) (ifs : List Expr) : TT := fun σ H Q => ∀ t : TT, PTs X ifs t → True → ∃ t : TT, PTs X ifs t ∧ t σ H Q
end
/-! ### tests of a comprehension -/
def JTs (τ : Tn) (X : Cx) (ifs : List Expr) (t : UT) : Prop := match ifs with
  | [] => ∀ (ρ : En) (C : Bool → Prop), t ρ C → C true
  | [c] => JT τ X c t
  | _ => False
def bYes : UT := fun _ C => C true
theorem jts_nil {τ : Tn} {X : Cx} : JTs τ X [] bYes := fun _ _ c => c
theorem jts_one {τ : Tn} {X : Cx} {c : Expr} {t : UT} (h : JT τ X c t) : JTs τ X [c] t := h
theorem wpT_hide {X : Cx} {σ : St} {H : Hp} {p : Addr} {xs : List V} {e : Expr} {Q Q' : Bool → Hp → Prop} (h : H p = some (.lst xs)) (q : wpT X e σ (unT H p) Q') (k : ∀ b H2, H2 p = none → Q' b H2 → Q b (upd H2 p (.lst xs))) : wpT X e σ H Q := by
  unfold wpT at q ⊢
  intro pins s I
  obtain ⟨o, ho, I'⟩ := inv_untrack I h
  refine thn (q _ s I') fun b s2 ⟨H2, I2, qq⟩ => ?_
  obtain ⟨hn, I3⟩ := inv_retrack I h ho I2
  exact ⟨_, I3, k b H2 hn qq⟩
/-! ### list comprehensions -/
def lcC (g : UG) (tt : UT) (te : UV) (C : List D → Prop) (ρ : En) : List D → List D → Prop
  | [], acc => C acc
  | d :: ds, acc => g d ρ fun ρ2 => tt ρ2 fun z => (z = true → te ρ2 fun y => lcC g tt te C ρ ds (acc ++ [y])) ∧ (z = false → lcC g tt te C ρ ds acc)
def wipeS (ρ : En) : List Nat → En
  | [] => ρ
  | v :: vs => (wipeS ρ vs).set v .un
def noOwn (ρ : En) (vs : List Nat) : Prop := ∀ i ∈ vs, ∀ s, ρ[i]? = some s → s.isOwn = false
def eLc (ti : UL) (g : UG) (tt : UT) (te : UV) (vs : List Nat) : UE := fun ρ C => noOwn ρ vs ∧ ti ρ fun ds => lcC g tt te (fun acc => C (.lst acc)) (wipeS ρ vs) ds []
theorem wipeS_len (ρ : En) : ∀ vs : List Nat, (wipeS ρ vs).length = ρ.length
  | [] => rfl
  | v :: vs => by unfold wipeS; rw [List.length_set, wipeS_len ρ vs]
theorem wipeS_get {ρ : En} {i : Nat} {s : Sl} : ∀ {vs : List Nat}, (wipeS ρ vs)[i]? = some s → s = .un ∨ (ρ[i]? = some s ∧ i ∉ vs)
  | [], h => .inr ⟨h, by simp⟩
  | v :: vs, h => by
    unfold wipeS at h
    by_cases hi : v = i
    · subst hi
      exact .inl (set_here h).1
    · rcases wipeS_get (set_other hi h) with q | ⟨q1, q2⟩
      · exact .inl q
      · exact .inr ⟨q1, by simp only [List.mem_cons, not_or]; exact ⟨fun z => hi z.symm, q2⟩⟩
theorem wipeS_out {ρ : En} {i : Nat} : ∀ {vs : List Nat}, i ∉ vs → (wipeS ρ vs)[i]? = ρ[i]?
  | [], _ => rfl
  | v :: vs, h => by
    simp only [List.mem_cons, not_or] at h
    unfold wipeS
    rw [List.getElem?_set_ne (fun z => h.1 z.symm), wipeS_out h.2]
section
variable {τ : Tn} {K : PySem.W.Frag} {H0 H : Hp} {γ : List (V × D)} {σ : St} {ρ : En} {vs : List Nat}
theorem own_wipe (hn : noOwn ρ vs) (a : Addr) : own τ (wipe σ vs) (wipeS ρ vs) a ↔ own τ σ ρ a := by
  constructor
  · rintro (z | ⟨i, s, h1, h2, h3⟩)
    · exact .inl z
    · rcases wipeS_get h1 with rfl | ⟨q1, q2⟩
      · cases h2
      · rw [wipe_out q2] at h3
        exact .inr ⟨i, s, q1, h2, h3⟩
  · rintro (z | ⟨i, s, h1, h2, h3⟩)
    · exact .inl z
    · have hi : i ∉ vs := fun z => by rw [hn i z s h1] at h2; cases h2
      exact .inr ⟨i, s, by rw [wipeS_out hi]; exact h1, h2, by rw [wipe_out hi]; exact h3⟩
theorem own_wipe_eq (hn : noOwn ρ vs) : own τ (wipe σ vs) (wipeS ρ vs) = own τ σ ρ := funext fun a => propext (own_wipe hn a)
theorem Rep.wiped (hn : noOwn ρ vs) (r : Rep K τ H0 γ H σ ρ) : Rep K τ H0 γ H (wipe σ vs) (wipeS ρ vs) := by
  refine ⟨by rw [wipe_length, wipeS_len, r.len], r.ext, r.inv, fun i s h => ?_, fun i j s t a h1 h2 h3 h4 h5 h6 => ?_, by rw [own_wipe_eq hn]; exact r.gh, r.zz⟩
  · rw [own_wipe_eq hn]
    rcases wipeS_get h with rfl | ⟨q1, q2⟩
    · trivial
    · rw [wipe_out q2]
      exact r.sl i s q1
  · rcases wipeS_get h1 with rfl | ⟨q1, q2⟩
    · cases h3
    · rcases wipeS_get h2 with rfl | ⟨q3, q4⟩
      · cases h4
      · rw [wipe_out q2] at h5
        rw [wipe_out q4] at h6
        exact r.sep i j s t a q1 q3 h3 h4 h5 h6
end
/-! targets of a comprehension: their names are the block's own -/
theorem wipe_in {σ : St} {j : Nat} : ∀ {vs : List Nat}, j ∈ vs → (wipe σ vs)[j]? = if j < σ.length then some none else none
  | v :: vs, h => by
    unfold wipe
    by_cases hv : v = j
    · subst hv
      by_cases hl : v < σ.length
      · rw [List.getElem?_set_self (by rw [wipe_length]; exact hl), if_pos hl]
      · rw [List.getElem?_eq_none (by rw [List.length_set, wipe_length]; omega), if_neg hl]
    · rw [List.getElem?_set_ne hv]
      exact wipe_in ((List.mem_cons.mp h).resolve_left fun z => hv z.symm)
theorem wipe_set {σ : St} {i : Nat} {v : Option V} {vs : List Nat} (h : i ∈ vs) : wipe (σ.set i v) vs = wipe σ vs := by
  apply List.ext_getElem?
  intro j
  by_cases hj : j ∈ vs
  · rw [wipe_in hj, wipe_in hj, List.length_set]
  · rw [wipe_out hj, wipe_out hj, List.getElem?_set_ne (fun z => hj (by rw [← z]; exact h))]
def JGc (vs : List Nat) (τ : Tn) (X : Cx) (tg : Expr) (g : UG) : Prop := ∀ (d : D) (ρ : En) (C : En → Prop), g d ρ C → noOwn ρ vs → ∀ (H0 : Hp) (γ : List (V × D)) (σ : St) (H : Hp) (v : V), Rep X.K τ H0 γ H σ ρ → Dp X.K (res H (own τ σ ρ)) v d → ∀ Q : St → Hp → Prop,
  (∀ ρ' σ', C ρ' → Rep X.K τ H0 γ H σ' ρ' → noOwn ρ' vs → own τ σ' ρ' = own τ σ ρ → wipe σ' vs = wipe σ vs → Q σ' H) → wpG X tg v σ H Q
def JGcs (vs : List Nat) (τ : Tn) (X : Cx) (ts : List Expr) (g : UGs) : Prop := ∀ (ds : List D) (ρ : En) (C : En → Prop), g ds ρ C → noOwn ρ vs → ∀ (H0 : Hp) (γ : List (V × D)) (σ : St) (H : Hp) (ws : List V), Rep X.K τ H0 γ H σ ρ → DpAll X.K (res H (own τ σ ρ)) ws ds → ∀ Q : St → Hp → Prop,
  (∀ ρ' σ', C ρ' → Rep X.K τ H0 γ H σ' ρ' → noOwn ρ' vs → own τ σ' ρ' = own τ σ ρ → wipe σ' vs = wipe σ vs → Q σ' H) → wpGs X ts ws σ H Q
section
variable {τ : Tn} {G : Gx} {cp : List Str} {N : List Str} {sc : Scope} {k : Nat} {X : Cx} {tg : Expr} {es ts : List Expr} {g : UG} {gs : UGs} {pos p2 : Pos} {x : Str} {vs : List Nat}
theorem jgc_name (S : Ok cp G N sc k X) (i : Nat) (hv : i ∈ vs := by decide) (hN : N[i]? = some x := by rfl) (hx : LocC cp sc x := by first | exact Or.inl rfl | exact Or.inr ⟨rfl, rfl⟩) : JGc vs τ X (.Name x p2) (gNam i) := fun d ρ C c hno H0 γ σ H v r h Q q => by
  refine wpG_of (pg_name (i := i) (by rw [S.eN]; exact S.nd) (by rw [S.eN]; exact hN) (loc_of S hx) (fn_of_loc S hx)) ?_
  refine q _ _ c (r.setDat h) (fun j hj s hs => ?_) ?_ (wipe_set hv)
  · by_cases e : i = j
    · subst e; rw [(set_here hs).1]; rfl
    · exact hno j hj s (set_other e hs)
  · funext a
    refine propext ⟨fun z => (own_set z).elim id fun q => (by cases q.1), ?_⟩
    rintro (z | ⟨j, s, h1, h2, h3⟩)
    · exact .inl z
    · have e : i ≠ j := fun e => by subst e; rw [hno i hv s h1] at h2; cases h2
      exact .inr ⟨j, s, by rw [List.getElem?_set_ne e]; exact h1, h2, by rw [List.getElem?_set_ne e]; exact h3⟩
theorem jgcs_nil : JGcs vs τ X [] gsNil := fun ds ρ C c hno H0 γ σ H ws r h Q q => by
  cases ds with
  | nil =>
    cases h
    exact wpGs_of pgs_nil ⟨rfl, q ρ σ c r hno rfl rfl⟩
  | cons d ds => exact c.elim
theorem jgcs_cons (h1 : JGc vs τ X tg g) (h2 : JGcs vs τ X ts gs) (hs : (assignEach (tg :: ts) X.env).map (·.2) = assign tg X.env :: (assignEach ts X.env).map (·.2) := by rfl) : JGcs vs τ X (tg :: ts) (gsCons g gs) := fun ds ρ C c hno H0 γ σ H ws r h Q q => by
  cases ds with
  | nil => exact c.elim
  | cons d ds =>
    cases h with
    | cons hd ht =>
      exact wpGs_of (pgs_cons pg_w pgs_w hs) ⟨_, _, rfl, h1 d ρ _ c hno H0 γ σ H _ r hd _ fun ρ' σ' c r' no' eo ew => h2 ds ρ' C c no' H0 γ σ' H _ r' (by rw [eo]; exact ht) Q fun ρ2 σ2 c r2 no2 eo2 ew2 => q ρ2 σ2 c r2 no2 (eo2.trans eo) (ew2.trans ew)⟩
theorem jgc_tup {kk n : Nat} (S : Ok cp G N sc k X) (h : JGcs vs τ X es gs) (hn : (assignEach es X.env).length = n := by rfl) (hst : (assignEach es X.env).findIdx? (·.1) = none := by rfl) : JGc vs τ X (.Tuple es kk pos) (gTupl n gs) := fun d ρ C c hno H0 γ σ H v r hd Q q => by
  unfold gTupl at c
  split at c
  · rename_i ds
    cases hd with
    | tup hs ha =>
      exact wpG_of (pg_tup S.calm pgs_w hn hst) ⟨_, _, rfl, sqT_same res_le hs, (dpAll_len ha).trans c.1, h ds ρ C c.2 hno H0 γ σ H _ r ha Q q⟩
  · exact c.elim
end
/-! ### the comprehension -/
def IsBlk (X : Cx) (scope : Scope) (X' : Cx) : Prop := ∃ (s : Shared) (H : Hp) (C : Addr) (cl : List (Str × Addr)) (fp : List Addr), X' = X.blk s H scope (compEnvC scope cl C X.env) fp
/-- the names that a block captures -/
def capt (scope : Scope) : List Str := (scope.names.filter fun p => p.2 == .free).map (·.1)
theorem lookup_mem {α : Type} {x : Str} {v : α} : ∀ {l : List (Str × α)}, l.lookup x = some v → (x, v) ∈ l
  | (y, w) :: l, h => by
    rw [List.lookup_cons] at h
    split at h
    · rename_i e
      have : x = y := by simpa using e
      cases h
      rw [this]
      exact List.mem_cons_self ..
    · exact List.mem_cons_of_mem _ (lookup_mem h)
theorem relS_cell {scope sc : Scope} {x : Str} (h : (relS scope sc).names.lookup x = some .cell) (hc : (capt scope).contains x = false) : scope.names.lookup x = some .cell := by
  have go : ∀ l : List (Str × NameKind), (l.map fun (n, k) => if (k == .free && sc.kind == .function && sc.names.lookup n == some .cell) then (n, NameKind.cell) else (n, k)).lookup x = some .cell → ((l.filter fun p => p.2 == .free).map (·.1)).contains x = false → l.lookup x = some .cell := by
    intro l
    induction l with
    | nil => intro h; simp at h
    | cons p l ih =>
      obtain ⟨n, kk⟩ := p
      intro h hc
      have e1 : ((fun (p : Str × NameKind) => match p with | (n, k) => if (k == .free && sc.kind == .function && sc.names.lookup n == some .cell) then (n, NameKind.cell) else (n, k)) (n, kk)) = (n, if (kk == .free && sc.kind == .function && sc.names.lookup n == some .cell) then NameKind.cell else kk) := by
        show (if (kk == .free && sc.kind == .function && sc.names.lookup n == some .cell) = true then (n, NameKind.cell) else (n, kk)) = _
        split <;> rfl
      rw [List.map_cons] at h
      dsimp only at h e1
      rw [e1, List.lookup_cons] at h
      by_cases hn : x = n
      · subst hn
        rw [List.lookup_cons]
        simp only [beq_self_eq_true]
        by_cases hk : kk = .free
        · subst hk
          rw [List.filter_cons] at hc
          simp at hc
        · have hk' : (kk == NameKind.free) = false := by cases kk <;> first | rfl | exact absurd rfl hk
          simp only [hk', Bool.false_and, Bool.false_eq_true, if_false, beq_self_eq_true] at h
          exact h
      · have hn' : (x == n) = false := by simpa using hn
        have h' : (l.map fun (n, k) => if (k == .free && sc.kind == .function && sc.names.lookup n == some .cell) then (n, NameKind.cell) else (n, k)).lookup x = some .cell := by
          rw [hn'] at h; exact h
        rw [List.lookup_cons, hn']
        refine ih h' ?_
        rw [List.filter_cons] at hc
        split at hc
        · rw [List.map_cons, List.contains_cons, hn', Bool.false_or] at hc
          exact hc
        · exact hc
  exact go scope.names h hc
theorem isBlk_ok {G : Gx} {cp : List Str} {N : List Str} {sc scope : Scope} {k : Nat} {X X' : Cx} (S : Ok cp G N sc k X) (hk : scope.kind = .function) (h : IsBlk X scope X') : Ok (capt scope) G N (relS scope sc) k X' := by
  obtain ⟨s, H, C, cl, fp, rfl⟩ := h
  have hs : (compEnvC scope cl C X.env).scope = relS scope sc := by
    rw [← S.es] <;> rfl
  exact ⟨S.eP, S.ew, S.eK, S.em, S.eb, S.eN, S.nd, hs, hk, S.calm, S.room, fun x h1 h2 => by show (scope.names.lookup x == some .cell) = true; rw [relS_cell h1 h2]; rfl, PassesOwn.never⟩
section
variable {τ : Tn} {G : Gx} {cp : List Str} {N : List Str} {sc scope : Scope} {k : Nat} {X : Cx} {tg iter elt : Expr} {ifs : List Expr} {g : UG} {tt : UT} {te : UV} {ti : UL} {pos : Pos}
def wgB (X : Cx) (scope : Scope) (tg : Expr) : TG := fun v σ H Q => ∀ X', IsBlk X scope X' → wpG X' tg v σ H Q
def weB (X : Cx) (scope : Scope) (e : Expr) : TE := fun σ H Q => ∀ X', IsBlk X scope X' → wpE X' e σ H Q
def wtB (X : Cx) (scope : Scope) : List Expr → TT
  | [] => tYes
  | [c] => fun σ H Q => ∀ X', IsBlk X scope X' → wpT X' c σ H Q
  | _ => fun _ _ _ => False
theorem isBlk_K {X X' : Cx} (h : IsBlk X scope X') : X'.K = X.K := by
  obtain ⟨s, H, C, cl, fp, rfl⟩ := h
  rfl
theorem pts_B (s : Shared) (H : Hp) (C : Addr) (cl : List (Str × Addr)) (fp : List Addr) : PTs (X.blk s H scope (compEnvC scope cl C X.env) fp) ifs (wtB X scope ifs) := by
    cases ifs with
    | nil => exact pts_nil
    | cons c r =>
      cases r with
      | nil => exact pts_one ⟨fun pins s' σ H' Q I h => pt_w.run pins s' σ H' Q I (h _ ⟨s, H, C, cl, fp, rfl⟩)⟩
      | cons _ _ => exact ⟨fun _ _ _ _ _ _ h => h.elim⟩
theorem lc_read (own_ : List (Str × Nat)) (S : Ok cp G N sc k X) (hi : JIx τ X tg iter ti) (hg : ∀ X', Ok (capt scope) G N (relS scope sc) k X' → JGc (own_.map (·.2)) τ X' tg g) (ht : ∀ X', Ok (capt scope) G N (relS scope sc) k X' → JTs τ X' ifs tt) (he : ∀ X', Ok (capt scope) G N (relS scope sc) k X' → JD τ X' elt te)
    (ok : BlkOk N sc scope own_) (ρ : En) (C : Rs → Prop) (c : eLc ti g tt te (own_.map (·.2)) ρ C) (H0 : Hp) (γ : List (V × D)) (σ : St) (H : Hp) (r : Rep X.K τ H0 γ H σ ρ) (Q : VK)
    (q : ∀ r v H2, C r → Ext τ H H2 → RsOk X.K τ H H2 σ ρ v r → Q v H2) : tLc (wpI X tg iter) (wgB X scope tg) (wtB X scope ifs) (weB X scope elt) (own_.map (·.2)) σ H Q := by
  obtain ⟨hno, c⟩ := c
  have hkd := ok.kind
  refine hi ρ _ c H0 γ σ H r _ fun J γ' ds H1 c e1 hγ hJ hlen D hD => ?_
  have R1 := r.after e1
  have nownD : ¬ own τ σ ρ D := R1.notOwn hD
  refine ⟨fun i m H' => m = ds.length - i ∧ ∃ acc ws, H' D = some (.lst ws) ∧ Ext τ H1 (unT H' D) ∧ DpAll X.K (res (unT H' D) (own τ σ ρ)) ws acc ∧ acc.length ≤ i ∧ lcC g tt te (fun acc => C (.lst acc)) (wipeS ρ (own_.map (·.2))) (ds.drop i) acc, ⟨_, rfl, [], [], upd_same, ?_, .nil, Nat.le_refl _, c⟩, fun i m H' ⟨hm, acc, ws, h1, h2, h3, h4, c⟩ => ?_⟩
  · rw [unT_upd hD]; exact .refl
  have R2 := R1.after h2
  have bo : ∀ p ∈ γ', Bo X.K τ H' (res H' (fun b => own τ σ ρ b ∨ b = D)) p.1 p.2 := fun p hp => by
    have b := (hγ p hp).after h2
    have l1 : Same (res (unT H' D) τ.ad) (res H' τ.ad) := res_mono fun b o n e => ⟨n, unT_le b o e⟩
    have l2 : Same (res (unT H' D) (own τ σ ρ)) (res H' (fun b => own τ σ ρ b ∨ b = D)) := res_mono fun b o n e => by
      have hb : b ≠ D := fun z => by rw [z, unT_same] at e; cases e
      exact ⟨fun z => z.elim n hb, unT_le b o e⟩
    obtain ⟨v, d⟩ := p
    cases d with
    | list ds => obtain ⟨a, vs, e, hs, ha⟩ := b; exact ⟨a, vs, e, sqL_same l1 hs, dpAll_same l2 _ _ ha⟩
    | tuple ds => obtain ⟨a, vs, e, hs, ha⟩ := b; exact ⟨a, vs, e, sqT_same l1 hs, dpAll_same l2 _ _ ha⟩
    | none => exact b
    | bool _ => exact b
    | int _ => exact b
    | str _ => exact b
    | dict _ => exact b
  by_cases hlt : i < ds.length
  · rw [List.drop_eq_getElem_cons hlt, lcC] at c
    refine .inr ⟨hJ.go H' _ bo i hlt, fun H'' => ∃ acc ws, H'' D = some (.lst ws) ∧ Ext τ H1 (unT H'' D) ∧ DpAll X.K (res (unT H'' D) (own τ σ ρ)) ws acc ∧ acc.length ≤ i + 1 ∧ lcC g tt te (fun acc => C (.lst acc)) (wipeS ρ (own_.map (·.2))) (ds.drop (i + 1)) acc,
      fun H'' h => ⟨ds.length - (i + 1), by omega, rfl, h⟩, fun x H4 hy X' hX' => ?_⟩
    obtain ⟨sm, hdp⟩ := hJ.yld H' _ bo (fun a ha z => z.elim (fun z => by
      obtain ⟨o, e, _⟩ := R2.ownMut z
      rw [unT_le a o e] at ha; cases ha) fun z => by rw [z, h1] at ha; cases ha) i _ (List.getElem?_eq_getElem hlt) x H4 hy
    have h4D : H4 D = some (.lst ws) := sm D _ h1
    have smU : Same (unT H' D) (unT H4 D) := fun b o e => by
      have hb : b ≠ D := fun z => by rw [z, unT_same] at e; cases e
      rw [unT_ne hb] at e ⊢
      exact sm b o e
    have R4 := R2.after (.of_same smU)
    have dp4 : Dp X.K (res (unT H4 D) (own τ σ ρ)) x ds[i] := dp_same (res_mono fun b o n e => ⟨fun z => n (.inl z), by rw [unT_ne fun z => n (.inr z)]; exact e⟩) _ _ hdp
    have dpw4 := dpAll_after (.of_same smU) h3
    have eK := isBlk_K hX'
    have SX' := isBlk_ok S hkd hX'
    refine wpG_hide h4D (hg X' SX' _ (wipeS ρ (own_.map (·.2))) _ c (fun j hj s hs => ?_) H0 γ (wipe σ (own_.map (·.2))) (unT H4 D) x (by rw [eK]; exact R4.wiped hno) (by rw [eK, own_wipe_eq hno]; exact dp4) (fun σ2 H2 => H2 = unT H4 D ∧ ∃ ρ2, Rep X.K τ H0 γ (unT H4 D) σ2 ρ2 ∧ own τ σ2 ρ2 = own τ σ ρ ∧ wipe σ2 (own_.map (·.2)) = wipe σ (own_.map (·.2)) ∧ tt ρ2 fun z => (z = true → te ρ2 fun y => lcC g tt te (fun acc => C (.lst acc)) (wipeS ρ (own_.map (·.2))) (ds.drop (i + 1)) (acc ++ [y])) ∧ (z = false → lcC g tt te (fun acc => C (.lst acc)) (wipeS ρ (own_.map (·.2))) (ds.drop (i + 1)) acc)) fun ρ2 σ2 c r2 no2 eo ew => ⟨rfl, ρ2, by rw [← eK]; exact r2, by rw [eo, own_wipe_eq hno], ?_, c⟩) fun σ2 H2 hn ⟨eH, ρ2, r2, eo, ew, c⟩ => ?_
    · rcases wipeS_get hs with rfl | ⟨q1, q2⟩
      · rfl
      · exact hno j hj s q1
    · rw [ew]
      apply List.ext_getElem?
      intro j
      by_cases hj : j ∈ own_.map (·.2)
      · rw [wipe_in hj, wipe_in hj, wipe_length]
      · simp only [wipe_out hj]
    · subst eH
      rw [upd_unT h4D]
      have ew' : wipe σ2 (own_.map (·.2)) = wipe σ (own_.map (·.2)) := ew
      refine ⟨ew', ?_⟩
      -- the tests
      have tests : ∀ (Q : Bool → Hp → Prop), (∀ z H5, H5 D = none → Ext τ (unT H4 D) H5 → ((z = true → te ρ2 fun y => lcC g tt te (fun acc => C (.lst acc)) (wipeS ρ (own_.map (·.2))) (ds.drop (i + 1)) (acc ++ [y])) ∧ (z = false → lcC g tt te (fun acc => C (.lst acc)) (wipeS ρ (own_.map (·.2))) (ds.drop (i + 1)) acc)) → Q z (upd H5 D (.lst ws))) → wtB X scope ifs σ2 H4 Q := by
        intro Q k
        cases ifs with
        | nil =>
          have c1 := ht X' SX' ρ2 _ c
          have := k true (unT H4 D) unT_same .refl c1
          rw [upd_unT h4D] at this
          exact this
        | cons cc rr =>
          cases rr with
          | nil =>
            intro X2 hX2
            have eK2 := isBlk_K hX2
            have S2 := isBlk_ok S hkd hX2
            have jt : JT τ X2 cc tt := ht X2 S2
            exact wpT_hide h4D (jt ρ2 _ c H0 γ σ2 (unT H4 D) (by rw [eK2]; exact r2) (fun z H5 => Ext τ (unT H4 D) H5 ∧ _) fun z H5 c e => ⟨e, c⟩) fun z H5 hn ⟨e, c⟩ => k z H5 hn e c
          | cons _ _ => exact (ht X' SX').elim
      refine tests _ fun z H5 hn5 e5 c => ?_
      have h5D : (upd H5 D (.lst ws)) D = some (.lst ws) := upd_same
      cases z with
      | false =>
        refine iteF ⟨acc, ws, h5D, ?_, ?_, by omega, c.2 rfl⟩
        · rw [unT_upd hn5]; exact (h2.trans (.of_same smU)).trans e5
        · rw [unT_upd hn5]; exact dpAll_after e5 dpw4
      | true =>
        refine iteT ?_
        intro X3 hX3
        have eK3 := isBlk_K hX3
        have S3 := isBlk_ok S hkd hX3
        refine wpE_hide h5D ?_ fun v H6 hn6 (h6 : ∃ d, Ext τ H5 H6 ∧ Dp X.K (res H6 (own τ σ ρ)) v d ∧ lcC g tt te (fun acc => C (.lst acc)) (wipeS ρ (own_.map (·.2))) (ds.drop (i + 1)) (acc ++ [d])) => ?_
        · rw [unT_upd hn5]
          refine he X3 S3 ρ2 _ (c.1 rfl) H0 γ σ2 H5 (by rw [eK3]; exact r2.after e5) _ fun d v H6 c e6 h6 => ⟨d, e6, ?_, c⟩
          rw [eK3, eo] at h6
          exact h6
        · obtain ⟨d, e6, d6, c6⟩ := h6
          refine ⟨ws, upd_same, ?_, acc ++ [d], ws ++ [v], upd_same, ?_, ?_, ?_, c6⟩
          · rw [dpAll_len h3]; omega
          · rw [upd_upd, unT_upd hn6]; exact ((h2.trans (.of_same smU)).trans e5).trans e6
          · rw [upd_upd, unT_upd hn6]; exact dpAll_append (dpAll_after e6 (dpAll_after e5 dpw4)) (.cons d6 .nil)
          · rw [List.length_append, List.length_singleton]; omega
  · rw [List.drop_of_length_le (by omega)] at c
    refine .inl ⟨hJ.stop H' _ bo i (by omega), q (.lst acc) _ H' c ?_ ⟨D, ws, rfl, e1.fresh r.inv hD, h1, ?_⟩⟩
    · exact (e1.trans h2).trans (.of_same unT_le)
    · exact dpAll_same (res_mono fun b o n e => by
        have hb : b ≠ D := fun z => by rw [z, unT_same] at e; cases e
        exact ⟨fun z => z.elim n hb, unT_le b o e⟩) _ _ h3
theorem je_lc (own_ : List (Str × Nat)) (S : Ok cp G N sc k X) (hi : JIx τ X tg iter ti) (hg : ∀ X', Ok (capt scope) G N (relS scope sc) k X' → JGc (own_.map (·.2)) τ X' tg g) (ht : ∀ X', Ok (capt scope) G N (relS scope sc) k X' → JTs τ X' ifs tt) (he : ∀ X', Ok (capt scope) G N (relS scope sc) k X' → JD τ X' elt te)
    (hok : blkC N sc scope own_ = true := by decide +kernel) (hs : ∀ x, foldedSetIterable iter X.env x = pure x := by intro _; rfl) : JE τ X (.ListComp elt [⟨tg, iter, ifs, 0⟩] scope pos) (eLc ti g tt te (own_.map (·.2))) := fun ρ C c H0 γ σ H r Q q =>
  wpE_of (pe_lc (own := own_) S.calm (by rw [S.eN]; exact S.nd) pi_w (by rw [S.eN, S.es]; exact blkOk_by hok) (g := wgB X scope tg) (tt := wtB X scope ifs) (te := weB X scope elt) (fun s H C cl fp => ⟨fun pins s' σ H' v u Q I rv h => pg_w.run pins s' σ H' v u Q I rv (h _ ⟨s, H, C, cl, fp, rfl⟩)⟩) pts_B (fun s H C cl fp => ⟨fun pins s' σ H' Q I h => pe_w.run pins s' σ H' Q I (h _ ⟨s, H, C, cl, fp, rfl⟩)⟩) hs)
    (lc_read own_ S hi hg ht he (blkOk_by hok) ρ C c H0 γ σ H r Q q)
/-- y = [..], on one line, y a local -/
theorem js_setLc {y : Str} {py spos : Pos} (own_ : List (Str × Nat)) (S : Ok cp G N sc k X) (i : Nat) (hi : JIx τ X tg iter ti) (hg : ∀ X', Ok (capt scope) G N (relS scope sc) k X' → JGc (own_.map (·.2)) τ X' tg g) (ht : ∀ X', Ok (capt scope) G N (relS scope sc) k X' → JTs τ X' ifs tt) (he : ∀ X', Ok (capt scope) G N (relS scope sc) k X' → JD τ X' elt te)
    (hok : blkC N sc scope own_ = true := by decide +kernel) (hN : N[i]? = some y := by rfl) (hy : sc.names.lookup y = some .local := by rfl) (hl : (py.line == pos.line) = true := by rfl)
    (ha : (scope.names.any fun (n, k) => n == y && (k == .local || k == .cell)) = false := by decide +kernel) (hs : ∀ x, foldedSetIterable iter X.env x = pure x := by intro _; rfl) :
    JS τ X (.Assign [.Name y py] (.ListComp elt [⟨tg, iter, ifs, 0⟩] scope pos) spos) (sSet i (eLc ti g tt te (own_.map (·.2)))) := fun ρ E c H0 γ σ H r Dn d =>
  wpS_of (ps_setLc (i := i) (own := own_) S.calm (by rw [S.eN]; exact S.nd) (by rw [S.eN]; exact hN) (by rw [S.es]; exact hy) (sw_true (by rw [S.es]; exact S.kd) (by rw [S.es]; exact hy) hl ha) pi_w (by rw [S.eN, S.es]; exact blkOk_by hok) (g := wgB X scope tg) (tt := wtB X scope ifs) (te := weB X scope elt) (fun s H C cl fp => ⟨fun pins s' σ H' v u Q I rv h => pg_w.run pins s' σ H' v u Q I rv (h _ ⟨s, H, C, cl, fp, rfl⟩)⟩) pts_B (fun s H C cl fp => ⟨fun pins s' σ H' Q I h => pe_w.run pins s' σ H' Q I (h _ ⟨s, H, C, cl, fp, rfl⟩)⟩) hs)
    (lc_read own_ S hi hg ht he (blkOk_by hok) ρ _ c H0 γ σ H r _ fun rs v H2 c e h => d.nx _ _ H2 c (r.set e h))
end
end Pu
/-! ### enumerate of a tuple, at the library's level -/
namespace PuEn
open PySem
open Sem (wp)
open AutoSeq1 (wpAny_loadPart')
theorem meets_enumerate_newT (l : Addr) (items : Array Value) :
    Meets (Builtin.«enumerate.__new__» ⟨[.type "enumerate", .ref l], []⟩) (fun _ R s => s.heap.IsTuple l items ∧
      R (.ok (.ret (.ref (s.heap.push { cls := .type "tuple_iterator", data := .fields #[.ref l, .int 0 0] }).objs.size)))
        { s with heap := (s.heap.push { cls := .type "tuple_iterator", data := .fields #[.ref l, .int 0 0] }).push { cls := .type "enumerate", data := .fields #[.none, .bool false, .ref s.heap.objs.size, rawInt 0, .none, .none] } }) :=
  .of_wp fun prog w A R s h => by
    obtain ⟨hp, g, d, tk, os⟩ := s; obtain ⟨hl, h⟩ := h
    have hsub := sub_enumerate
    have q1 : ∀ {A' : Around} {E : Value → Shared → Prop} {Q : Value → Shared → Prop}, Q (.ref hp.objs.size) ⟨hp.push { cls := .type "tuple_iterator", data := .fields #[.ref l, .int 0 0] }, g, d, tk, os⟩ → wpAny (model prog w) A' (pyIter (.ref l)) Q E ⟨hp, g, d, tk, os⟩ :=
      fun q => (begins_tuple l items).iter prog w _ _ ⟨hp, g, d, tk, os⟩ _ hl q
    wp_walk using q1
    refine wpAny_stack_any fun st => wpAny_pure ?_
    split
    · rename_i c _ _ _ _ _
      cases (c == Value.type "enumerate")
      · wp_walk using q1
        exact ⟨_, rfl, h⟩
      · wp_walk using q1
        exact ⟨_, rfl, h⟩
    · wp_walk using q1
      exact ⟨_, rfl, h⟩
section
variable {prog : Program} {w : World} {A : Around} {E : Value → Shared → Prop} {s : Shared}
theorem call_enumerate_tuple {l : Addr} {items : Array Value} {Q : Value → Shared → Prop} (hL : s.heap.IsTuple l items)
    (h : ∀ h', IsEnum h' (s.heap.objs.size + 1) s.heap.objs.size 0 .none → h'.IsTupleIter s.heap.objs.size l 0 → h'.objs.size = s.heap.objs.size + 2 →
      (∀ b o, s.heap.get? b = some o → h'.get? b = some o) → Q (.ref (s.heap.objs.size + 1)) { s with heap := h' }) :
    wpAny (model prog w) A (call (.type "enumerate") [.ref l]) Q E s := by
  refine callType_new F.called_enumerate (by decide) (F.typeCall_enumerate_1 _) (F.newCall_enumerate_1 _) (fun obj => F.args_object_init_2 obj _) F.entry_enumerate_new
    (meets_enumerate_newT l items) ⟨hL, ?_⟩
  have hz : (s.heap.push { cls := .type "tuple_iterator", data := .fields #[.ref l, .int 0 0] }).objs.size = s.heap.objs.size + 1 := Heap.size_push ..
  show _ ∧ _
  rw [hz]
  have he : IsEnum ((s.heap.push { cls := .type "tuple_iterator", data := .fields #[.ref l, .int 0 0] }).push
      { cls := .type "enumerate", data := .fields #[.none, .bool false, .ref s.heap.objs.size, rawInt 0, .none, .none] }) (s.heap.objs.size + 1) s.heap.objs.size 0 .none := by
    have := Heap.get?_push_size (s.heap.push { cls := .type "tuple_iterator", data := .fields #[.ref l, .int 0 0] })
      (o := { cls := .type "enumerate", data := .fields #[.none, .bool false, .ref s.heap.objs.size, rawInt 0, .none, .none] }) rfl
    rw [hz] at this; exact this
  refine ⟨⟨_, he, rfl⟩, h _ he ⟨_, Heap.get?_push_of_some _ (Heap.get?_push_size _ rfl), rfl, rfl⟩ (by rw [Heap.size_push, hz]) fun b o x => Heap.get?_push_of_some _ (Heap.get?_push_of_some _ x)⟩
end
end PuEn
namespace Pu
open PySem PySem.Spec PyProof.Rows L2
theorem enum_endT {prog : Program} {w : World} {A : Around} {E : Value → Shared → Prop} {s : Shared} {e it l : Addr} {i : Nat} {items : Array Value} {old : Value} {Q : Option Value → Shared → Prop} (hh : A.handled = none)
    (he : IsEnum s.heap e it i old) (hit : s.heap.IsTupleIter it l i) (hl : s.heap.IsTuple l items) (hx : items[i]? = none)
    (hQ : ∀ h', Heap.ExtBut it s.heap h' → Q none { s with heap := h' }) : wpAny (model prog w) A (pyNext (.ref e)) Q E s := by
  have hT : s.TypeIs (.ref e) "enumerate" := ⟨_, he, rfl⟩
  unfold pyNext
  refine wpAny_bind (wpAny_attempt (wpAny_callSpecial?_slot (name := Str.ofString "__next__") hT PySem.F.slot_enumerate_next
    (wpAny_call_entry PySem.F.slot_enumerate_next hT PySem.F.entry_enumerate_next ?_ (PySem.F.args_enumerate_next_1 _))))
  show wpAny _ _ (field (.ref e) 2 >>= _) _ _ _
  refine wpAny_bind (wpAny_field he rfl (x := .ref it) rfl ?_)
  refine wpAny_bind (wpAny_nextOf_tuple_end hh hit hl hx fun h' x he' hx' => ?_)
  obtain ⟨o, ho, hc⟩ := hx'
  refine wpAny_bind (wpAny_isInstance (T := "StopIteration") (b := true) ⟨o, ho, hc⟩ isSubtype_stop ?_)
  exact wpAny_pure (hQ _ he')
/-- the tuple at a, each item in a new pair -/
def IteT (K : PySem.W.Frag) (a : Addr) : It :=
  ⟨fun i H => ∃ (xs : List V) (x : V), SqT K H a xs ∧ xs[i]? = some x, fun i H v H' => ∃ T x, v = .ref T ∧ H T = none ∧ H' = upd H T (.tup [.int (i : Nat), x]) ∧ ∀ xs, SqT K H a xs → xs[i]? = some x, fun i H => ∃ xs : List V, SqT K H a xs ∧ xs.length ≤ i⟩
theorem turn_enumT {P : Program} {w : World} {K : PySem.W.Frag} {elts : List Expr} {kk : Nat} {tpos : Pos} (a e it : Addr) (hae : e ≠ a) (hai : a ≠ it) :
    Turn P w K (.Tuple elts kk tpos) (IteT K a) [e, it] e (fun i h => (∃ old, IsEnum h e it ((i : Nat) : Int) old) ∧ h.IsTupleIter it a i ∧ e ≠ it) where
  mem := by simp
  obj := fun i h st b hb => by
    obtain ⟨⟨old, he⟩, ⟨o, ho, hc, hd⟩, _⟩ := st
    have e' : b = e ∨ b = it := by simpa using hb
    rcases e' with z | z
    · rw [z]; exact ⟨_, he, fun v q => nomatch q⟩
    · rw [z]; exact ⟨o, ho, fun v q => by rw [hd] at q; cases q⟩
  keep := fun i h h' st k => let ⟨⟨old, he⟩, hi, hne⟩ := st; ⟨⟨old, k e (by simp) _ he⟩, hi.at fun o q => k it (by simp) o q, hne⟩
  item := by
    intro X hP hw hK hc i pins s σ H E I hf st hg
    subst hP hw hK
    obtain ⟨⟨old, he⟩, hit, hne⟩ := st
    obtain ⟨xs, x, hq, hx⟩ := hg
    obtain ⟨its, rv, p, hz⟩ := I.tuple hq
    obtain ⟨u, hu, ru⟩ := rv.get hx
    have hel : e < s.heap.objs.size := Heap.lt_size he
    have hil : it < s.heap.objs.size := by obtain ⟨_, q, _⟩ := hit; exact Heap.lt_size q
    have hlt : i < its.toArray.size := by
      have := (List.getElem?_eq_some_iff.mp hu).1
      simpa using this
    refine wpAny_pyNext_enum_itemD (Draws.tuple (A := X.A.in1) (I.ok.hd hc) it a hai its.toArray) he ⟨hit, p⟩ hlt hne (by
      intro z
      have z' : e = it ∨ e = a := by simpa using z
      rcases z' with z | z
      · exact hne z
      · exact hae z) fun x1 h' tk hx1 ho hst' hT hsz hk => ?_
    have ex1 : x1 = u := by
      have q : its.toArray[i]? = some u := by simpa using hu
      exact Option.some.inj ((show its.toArray[i]? = some x1 from hx1).symm.trans q)
    subst ex1
    refine ⟨_, rfl, wpAny_letOwnedTupleGo_enum (s := { s with heap := h', toks := tk + 1 }) ho fun h'' he' sb => ?_⟩
    have hT2 : h''.get? s.heap.objs.size = some { cls := .type "tuple", data := .seq #[.int i tk, x1] } := (sb.2 _ (Nat.ne_of_gt hel)).trans hT
    have new : ObjOk X.prog X.w (upd H s.heap.objs.size (.tup [.int (i : Nat), x])) h'' s.heap.objs.size (.tup [.int (i : Nat), x]) :=
      ⟨by show 2 ≤ sizeLine; decide, [.int i tk, x1], .cons ⟨_, rfl⟩ (.cons ru .nil), ⟨_, hT2, rfl, _, rfl⟩⟩
    have I1 : Inv X pins σ (upd H s.heap.objs.size (.tup [.int (i : Nat), x])) { s with heap := h'', toks := tk + 1 } :=
      I.turnedNew (ch := [e, it]) (fun b ob hb q => (sb.2 b (fun z => hb (by simp [z]))).trans (hk b ob (fun z => hb (by simp [z])) (fun z => hb (by simp [z])) q)) hf (Nat.le_refl _) new
    refine ⟨.ref s.heap.objs.size, _, I1, rfl, ⟨_, x, rfl, I.hok.fresh (Nat.le_refl _), rfl, fun ys hy => by rw [I.tuple_inj hy hq]; exact hx⟩, ⟨⟨x1, ?_⟩, hst'.1.at fun o q => (sb.2 it (Ne.symm hne)).trans q, hne⟩, fun b hb => ?_⟩
    · have e1 : ((i + 1 : Nat) : Int) = (i : Int) + 1 := by omega
      rw [e1]; exact he'
    · have hb' : b < s.heap.objs.size := by
        have e' : b = e ∨ b = it := by simpa using hb
        rcases e' with z | z
        · rw [z]; exact hel
        · rw [z]; exact hil
      rw [upd_ne (Nat.ne_of_lt hb')]
      exact (hf b hb).1
  done := by
    intro X hP hw hK hc i pins s σ H E I hf st hg
    subst hP hw hK
    obtain ⟨⟨old, he⟩, hit, hne⟩ := st
    obtain ⟨xs, hq, hx⟩ := hg
    obtain ⟨its, rv, p, hz⟩ := I.tuple hq
    obtain ⟨f0, f1, f2, f3, f4, f5⟩ := hf it (by simp)
    have hl := rv.length
    exact enum_endT (I.ok.hd hc) he hit p (by simp; omega) fun h' eb => ⟨rfl, I.turned (t' := s.toks) (fun b o hb q => eb b o hb q) f0 f1 f3 f4 f5⟩
  self := fun A i s Q E st h => let ⟨⟨_, he⟩, _⟩ := st; wpAny_pyIter_enum he h
section
variable {τ : Tn} {G : Gx} {cp : List Str} {N : List Str} {sc : Scope} {k : Nat} {X : Cx} {e e2 : Expr} {elts : List Expr} {kk : Nat} {tv tw : UV} {pos p tpos : Pos}
def iEnumU (K : PySem.W.Frag) (ta : TA) : TI := fun σ H R => ta σ H fun vs H1 => ∃ a xs, vs = [.ref a] ∧ ((SqL K H1 a xs ∧ R (Ite K a) H1) ∨ (SqT K H1 a xs ∧ R (IteT K a) H1))
theorem pi_enumU {ta : TA} (hg : Gl X "enumerate") (hm : X.mg "enumerate" = none) (ha : PA X [e] ta) (hs : starEach [e] X.env = [(false, eval e X.env)] := by rfl) :
    PI X (.Tuple elts kk tpos) (.Call (.Name "enumerate" p) [e] [] pos) (iEnumU X.K ta) := by
  refine ⟨fun pins s σ H R I h => ?_⟩
  refine Call_ (ld_blt I hg hm boot_enumerate (PyProof.Rows.callWith_type1 (thn (ha.run pos pins s σ H _ I h) fun us s1 ⟨vs, H1, I1, r1, q1⟩ => ?_) hs rfl))
  obtain ⟨a, xs, ex, q1⟩ := q1
  subst ex
  have fresh : ∀ b ∈ [s1.heap.objs.size + 1, s1.heap.objs.size], FpOk X pins H1 b := fun b hb => by
    have e' : b = s1.heap.objs.size + 1 ∨ b = s1.heap.objs.size := by simpa using hb
    have hle : s1.heap.objs.size ≤ b := by
      rcases e' with z | z
      · rw [z]; exact Nat.le_add_right _ _
      · rw [z]; exact Nat.le_refl _
    exact I1.fpOk hle (I1.hok.fresh hle)
  cases r1 with
  | cons r rr =>
    cases rr
    cases r
    rcases q1 with ⟨hq, q⟩ | ⟨hq, q⟩
    · obtain ⟨its, rv, p', hz⟩ := I1.list hq
      refine call_enumerate_list p'.isList fun h' he hit hsz hk => wpAny_pyIter_enum he ?_
      have I2 : Inv X pins σ H1 { s1 with heap := h' } := I1.kept (t' := s1.toks) hk
      exact ⟨s1.heap.objs.size + 1, [s1.heap.objs.size + 1, s1.heap.objs.size], _, _, H1, rfl, I2, turn_enum a (s1.heap.objs.size + 1) s1.heap.objs.size, ⟨⟨.none, he⟩, hit, Nat.succ_ne_self _⟩, fresh, q⟩
    · obtain ⟨its, rv, p', hz⟩ := I1.tuple hq
      have hlt : a < s1.heap.objs.size := by
        obtain ⟨o, ho, _⟩ := id p'
        exact Heap.lt_size ho
      refine PuEn.call_enumerate_tuple (show s1.heap.IsTuple a its.toArray from p') fun h' he hit hsz hk => wpAny_pyIter_enum he ?_
      have I2 : Inv X pins σ H1 { s1 with heap := h' } := I1.kept (t' := s1.toks) hk
      exact ⟨s1.heap.objs.size + 1, [s1.heap.objs.size + 1, s1.heap.objs.size], _, _, H1, rfl, I2, turn_enumT a (s1.heap.objs.size + 1) s1.heap.objs.size (Nat.ne_of_gt (Nat.lt_succ_of_lt hlt)) (Nat.ne_of_lt hlt), ⟨⟨.none, he⟩, hit, Nat.succ_ne_self _⟩, fresh, q⟩
def enumD (ds : List D) : List D := (List.range ds.length).zipWith (fun (i : Nat) d => .tuple [.int (i : Int), d]) ds
theorem enumD_len {ds : List D} : (enumD ds).length = ds.length := by simp [enumD]
theorem enumD_get {ds : List D} {i : Nat} {d : D} (h : (enumD ds)[i]? = some d) : ∃ x, ds[i]? = some x ∧ d = .tuple [.int (i : Int), x] := by
  unfold enumD at h
  rw [List.getElem?_zipWith] at h
  cases q : ds[i]? with
  | none => rw [q] at h; cases q2 : (List.range ds.length)[i]? <;> rw [q2] at h <;> cases h
  | some x =>
    have hi : i < ds.length := (List.getElem?_eq_some_iff.mp q).1
    rw [q, List.getElem?_range hi] at h
    exact ⟨x, rfl, (Option.some.inj h).symm⟩
theorem tup_new {K : PySem.W.Frag} {H : Hp} {ow : Addr → Prop} {T : Addr} {vs : List V} {ds : List D} (hn : ∀ a, H a = none → ¬ ow a) (hT : H T = none) (hp : NPh vs) (h : DpAll K (res H ow) vs ds) : Same H (upd H T (.tup vs)) ∧ Dp K (res (upd H T (.tup vs)) ow) (.ref T) (.tuple ds) :=
  have sm : Same H (upd H T (.tup vs)) := fun b o e => by rw [upd_ne (ne_of_none e hT)]; exact e
  ⟨sm, .tup (.inl (.inl (res_put (hn T hT) upd_same hp))) (dpAll_same (res_mono fun b o n e => ⟨n, sm b o e⟩) _ _ h)⟩
theorem itOk_enumL {K : PySem.W.Frag} {a : Addr} {ds : List D} : ItOk K τ (Ite K a) [(.ref a, .list ds)] (enumD ds) where
  go := fun H ow g i hi => by
    rw [enumD_len] at hi
    exact itOk_list.go H ow g i hi
  yld := fun H ow g hn i d hd x H4 hy => by
    obtain ⟨dx, hdx, rfl⟩ := enumD_get hd
    obtain ⟨pp, vs, e, hs, ha⟩ := g _ (List.mem_singleton.mpr rfl)
    cases e
    obtain ⟨T, y, rfl, hT, rfl, hy⟩ := hy
    obtain ⟨v, hv, hdp⟩ := dpAll_get ha hdx
    have := (hy vs (sqL_same res_le hs)).symm.trans hv
    cases this
    exact tup_new hn hT ⟨_, rfl, fun _ z => nomatch z⟩ (.cons (.int _) (.cons hdp .nil))
  stop := fun H ow g i hi => by
    rw [enumD_len] at hi
    exact itOk_list.stop H ow g i hi
theorem itOk_enumT {K : PySem.W.Frag} {a : Addr} {ds : List D} : ItOk K τ (IteT K a) [(.ref a, .tuple ds)] (enumD ds) where
  go := fun H ow g i hi => by
    rw [enumD_len] at hi
    exact itOk_tup.go H ow g i hi
  yld := fun H ow g hn i d hd x H4 hy => by
    obtain ⟨dx, hdx, rfl⟩ := enumD_get hd
    obtain ⟨pp, vs, e, hs, ha⟩ := g _ (List.mem_singleton.mpr rfl)
    cases e
    obtain ⟨T, y, rfl, hT, rfl, hy⟩ := hy
    obtain ⟨v, hv, hdp⟩ := dpAll_get ha hdx
    have := (hy vs (sqT_same res_le hs)).symm.trans hv
    cases this
    exact tup_new hn hT ⟨_, rfl, fun _ z => nomatch z⟩ (.cons (.int _) (.cons hdp .nil))
  stop := fun H ow g i hi => by
    rw [enumD_len] at hi
    exact itOk_tup.stop H ow g i hi
def iEnumS (tv : UV) : UL := fun ρ C => tv ρ fun d => fSeq0 d fun ds => C (enumD ds)
theorem ji_enum (S : Ok cp G N sc k X) (hm : Free G "enumerate") (he : JD τ X e tv) (hg : sc.names.lookup ("enumerate" : Str) = some .globalImplicit := by rfl) (hs : starEach [e] X.env = [(false, eval e X.env)] := by rfl) : JI τ X (.Tuple elts kk tpos) (.Call (.Name "enumerate" p) [e] [] pos) (iEnumS tv) := fun ρ C c H0 γ σ H r R q =>
  wpI_size (wpI_of (pi_enumU (by show X.env.scope.names.lookup _ = _; rw [S.es]; exact hg) (by rw [S.em]; exact hm) (pa_cons pe_w pa_nil (by rw [hs]; rfl)) hs) (he ρ _ c H0 γ σ H r _ fun d v H2 c e1 h => by
    cases h with
    | lst hs ha => exact ⟨_, _, rfl, .inl ⟨sqL_same res_le hs, fun z1 z2 => q _ [(_, _)] _ H2 c e1 (fun p hp => by rw [List.mem_singleton.mp hp]; exact .lst hs ha) itOk_enumL (by rw [enumD_len, ← dpAll_len ha]; exact z1 _ _ (sqL_same res_le hs))⟩⟩
    | tup hs ha => exact ⟨_, _, rfl, .inr ⟨sqT_same res_le hs, fun z1 z2 => q _ [(_, _)] _ H2 c e1 (fun p hp => by rw [List.mem_singleton.mp hp]; exact .tup hs ha) itOk_enumT (by rw [enumD_len, ← dpAll_len ha]; exact z2 _ _ (sqT_same res_le hs))⟩⟩
    | non => exact c.elim
    | bl _ => exact c.elim
    | int _ => exact c.elim
    | str _ => exact c.elim))
theorem jix_enum (S : Ok cp G N sc k X) (hm : Free G "enumerate") (he : JV τ X e tv) (hg : sc.names.lookup ("enumerate" : Str) = some .globalImplicit := by rfl) (hs : starEach [e] X.env = [(false, eval e X.env)] := by rfl) : JIx τ X (.Tuple elts kk tpos) (.Call (.Name "enumerate" p) [e] [] pos) (iEnumS tv) := fun ρ C c H0 γ σ H r R q =>
  wpI_size (wpI_of (pi_enumU (by show X.env.scope.names.lookup _ = _; rw [S.es]; exact hg) (by rw [S.em]; exact hm) (pa_cons pe_w pa_nil (by rw [hs]; rfl)) hs) (he ρ _ c H0 γ σ H r _ fun d v H2 c e1 h => by
    cases d with
    | list ds =>
      obtain ⟨pp, vs, rfl, hs, ha⟩ := id h
      exact ⟨_, _, rfl, .inl ⟨sqL_same res_le hs, fun z1 z2 => q _ [(_, _)] _ H2 c e1 (fun p hp => by rw [List.mem_singleton.mp hp]; exact h) itOk_enumL (by rw [enumD_len, ← dpAll_len ha]; exact z1 _ _ (sqL_same res_le hs))⟩⟩
    | tuple ds =>
      obtain ⟨pp, vs, rfl, hs, ha⟩ := id h
      exact ⟨_, _, rfl, .inr ⟨sqT_same res_le hs, fun z1 z2 => q _ [(_, _)] _ H2 c e1 (fun p hp => by rw [List.mem_singleton.mp hp]; exact h) itOk_enumT (by rw [enumD_len, ← dpAll_len ha]; exact z2 _ _ (sqT_same res_le hs))⟩⟩
    | none => exact c.elim
    | bool _ => exact c.elim
    | int _ => exact c.elim
    | str _ => exact c.elim
    | dict _ => exact c.elim))
/-! ### zip of two -/
def zipD (xs ys : List D) : List D := xs.zipWith (fun x y => .tuple [x, y]) ys
theorem zipD_len {xs ys : List D} : (zipD xs ys).length = min xs.length ys.length := by simp [zipD]
theorem zipD_get {xs ys : List D} {i : Nat} {d : D} (h : (zipD xs ys)[i]? = some d) : ∃ x y, xs[i]? = some x ∧ ys[i]? = some y ∧ d = .tuple [x, y] := by
  unfold zipD at h
  rw [List.getElem?_zipWith] at h
  cases q : xs[i]? with
  | none => rw [q] at h; cases h
  | some x =>
    cases q2 : ys[i]? with
    | none => rw [q, q2] at h; cases h
    | some y => rw [q, q2] at h; exact ⟨x, y, rfl, rfl, (Option.some.inj h).symm⟩
theorem five_mem {c x1 x2 x3 x4 x5 : Addr} (h : c ∈ [x1, x2, x3, x4, x5]) : c = x1 ∨ c = x2 ∨ c = x3 ∨ c = x4 ∨ c = x5 := by simpa using h
theorem tup_newP {K : PySem.W.Frag} {H : Hp} {ow : Addr → Prop} {T : Addr} {o : Obj} {vs : List V} {ds : List D} (hn : ∀ a, H a = none → ¬ ow a) (hT : H T = none) (ho : o.dict = none) (h : DpAll K (res H ow) vs ds) : Same H (upd H T (.frz o (.tup vs))) ∧ Dp K (res (upd H T (.frz o (.tup vs))) ow) (.ref T) (.tuple ds) :=
  have sm : Same H (upd H T (.frz o (.tup vs))) := fun b o e => by rw [upd_ne (ne_of_none e hT)]; exact e
  ⟨sm, .tup (.inl (.inr ⟨o, res_put (hn T hT) upd_same ho⟩)) (dpAll_same (res_mono fun b o n e => ⟨n, sm b o e⟩) _ _ h)⟩
/-- zip of two L: pairs laid plainly -/
def ItzPL (K : PySem.W.Frag) (a b : Addr) : It where
  go := fun i H => ∃ (x y : V) (xs ys : List V), (SqL K H a xs ∧ xs[i]? = some x) ∧ SqL K H b ys ∧ ys[i]? = some y
  yld := fun i H v H' => ∃ (T : Addr) (o : Obj) (x y : V), v = .ref T ∧ H T = none ∧ o.dict = none ∧ H' = upd H T (.frz o (.tup [x, y])) ∧ (∀ l, SqL K H a l → l[i]? = some x) ∧ ∀ l, SqL K H b l → l[i]? = some y
  stop := fun i H => ∃ l r : List V, (SqL K H a l ∧ SqL K H b r) ∧ (l.length ≤ i ∨ r.length ≤ i)
theorem turn_zipPL {P : Program} {w : World} {K : PySem.W.Frag} {es : List Expr} {n : Nat} {tp : Pos} {a b z t1 t2 i1 i2 : Addr} (D : ZipApart z t1 t2 i1 i2 a b) :
    Turn P w K (.Tuple es n tp) (ItzPL K a b) [z, t1, t2, i1, i2] z (fun i h => IsZip h z t1 t2 .none ∧ IsTupOf2 h t1 (.ref i1) (.ref i2) ∧ (∃ x y, IsTupOf2 h t2 x y) ∧ h.IsListIter i1 a i ∧ h.IsListIter i2 b i) where
  mem := List.mem_cons_self ..
  obj := fun i h ⟨g1, g2, ⟨_, _, g3⟩, ⟨o4, g4, _, d4⟩, o5, g5, _, d5⟩ c hc => by
    rcases five_mem hc with rfl | rfl | rfl | rfl | rfl
    · exact ⟨_, g1, fun _ q => nomatch q⟩
    · exact ⟨_, g2, fun _ q => nomatch q⟩
    · exact ⟨_, g3, fun _ q => nomatch q⟩
    · exact ⟨o4, g4, fun _ q => by rw [d4] at q; cases q⟩
    · exact ⟨o5, g5, fun _ q => by rw [d5] at q; cases q⟩
  keep := fun i h h' ⟨g1, g2, ⟨x, y, g3⟩, g4, g5⟩ k => ⟨k z (by simp) _ g1, k t1 (by simp) _ g2, ⟨x, y, k t2 (by simp) _ g3⟩, g4.at fun o q => k i1 (by simp) o q, g5.at fun o q => k i2 (by simp) o q⟩
  item := by
    intro X hP hw hK hc i pins s σ H E I hf ⟨g1, g2, ⟨x0, y0, g3⟩, g4, g5⟩ ⟨x, y, xs, ys, ⟨q1, hx⟩, q2, hy⟩
    subst hP hw hK
    obtain ⟨us, r1, p1, _⟩ := I.list q1
    obtain ⟨ws, r2, p2, _⟩ := I.list q2
    obtain ⟨u, hu, ru⟩ := r1.get hx
    obtain ⟨u', hu', ru'⟩ := r2.get hy
    have zl : z < s.heap.objs.size := Heap.lt_size g1
    refine wpAny_pyNext_zip_item D g1 g2 g3 g4 g5 p1.isList p2.isList (x := u) (y := u') (by simpa using hu) (by simpa using hu') fun h1 e1 e2 e4 e5 hT hsz hk => ?_
    refine ⟨_, rfl, wpAny_letOwnedTupleGo_zip (s := { s with heap := h1 }) e1 fun h2 e6 sb => ?_⟩
    have kp : ∀ c o, c ∉ [z, t1, t2, i1, i2] → s.heap.get? c = some o → h2.get? c = some o := fun c o n q =>
      (sb.2 c (fun e => n (by simp [e]))).trans (hk c o (fun e => n (by simp [e])) (fun e => n (by simp [e])) (fun e => n (by simp [e])) (fun e => n (by simp [e])) q)
    have new : ObjOk X.prog X.w (upd H s.heap.objs.size (.frz (plT [u, u']) (.tup [x, y]))) h2 s.heap.objs.size (.frz (plT [u, u']) (.tup [x, y])) := by
      have hT2 := (sb.2 _ (Nat.ne_of_gt zl)).trans hT
      exact ⟨hT2, (by decide : 2 ≤ sizeLine), [u, u'], .cons ru (.cons ru' .nil), ⟨_, hT2, rfl, _, rfl⟩⟩
    refine ⟨.ref s.heap.objs.size, _, I.turnedNew (t' := s.toks) (ch := [z, t1, t2, i1, i2]) kp hf (Nat.le_refl _) new, rfl, ⟨_, _, x, y, rfl, I.hok.fresh (Nat.le_refl _), rfl, rfl, fun l hl => ?_, fun l hl => ?_⟩, ⟨e6, ?_, ⟨u, u', (sb.2 _ D.TOz).trans e2⟩, e4.at fun o q => (sb.2 _ D.i1z).trans q, e5.at fun o q => (sb.2 _ D.i2z).trans q⟩, fun c hcm => ?_⟩
    · rw [I.list_inj hl q1]; exact hx
    · rw [I.list_inj hl q2]; exact hy
    · exact (sb.2 _ D.TIz).trans (hk _ _ D.TIz D.TITO D.TIi1 D.TIi2 g2)
    · have hlt : c < s.heap.objs.size := by
        rcases five_mem hcm with rfl | rfl | rfl | rfl | rfl
        · exact zl
        · exact Heap.lt_size g2
        · exact Heap.lt_size g3
        · exact Heap.lt_size g4.choose_spec.1
        · exact Heap.lt_size g5.choose_spec.1
      rw [upd_ne (Nat.ne_of_lt hlt)]
      exact (hf c hcm).1
  done := by
    intro X hP hw hK hc i pins s σ H E I hf ⟨g1, g2, ⟨x0, y0, g3⟩, g4, g5⟩ ⟨xs, ys, ⟨q1, q2⟩, hend⟩
    subst hP hw hK
    obtain ⟨us, r1, p1, _⟩ := I.list q1
    obtain ⟨ws, r2, p2, _⟩ := I.list q2
    have l1 := r1.length
    have l2 := r2.length
    refine wpAny_pyNext_zip_end (I.ok.hd hc) D g1 g2 g3 g4 g5 p1.isList p2.isList ?_ fun h1 hk => ⟨rfl, I.turnedL (t' := s.toks) (ch := [z, t1, t2, i1, i2]) (fun c o n q => hk c o (fun e => n (by simp [e])) (fun e => n (by simp [e])) (fun e => n (by simp [e])) (fun e => n (by simp [e])) q) hf⟩
    rcases hend with q | q
    · exact .inl (by simp; omega)
    · exact .inr (by simp; omega)
  self := fun A i s Q E st h => wpAny_pyIter_zip st.1 h
/-- zip of two T: pairs laid plainly -/
def ItzPT (K : PySem.W.Frag) (a b : Addr) : It where
  go := fun i H => ∃ (x y : V) (xs ys : List V), (SqT K H a xs ∧ xs[i]? = some x) ∧ SqT K H b ys ∧ ys[i]? = some y
  yld := fun i H v H' => ∃ (T : Addr) (o : Obj) (x y : V), v = .ref T ∧ H T = none ∧ o.dict = none ∧ H' = upd H T (.frz o (.tup [x, y])) ∧ (∀ l, SqT K H a l → l[i]? = some x) ∧ ∀ l, SqT K H b l → l[i]? = some y
  stop := fun i H => ∃ l r : List V, (SqT K H a l ∧ SqT K H b r) ∧ (l.length ≤ i ∨ r.length ≤ i)
theorem turn_zipPT {P : Program} {w : World} {K : PySem.W.Frag} {es : List Expr} {n : Nat} {tp : Pos} {a b z t1 t2 i1 i2 : Addr} (D : ZipApart z t1 t2 i1 i2 a b) :
    Turn P w K (.Tuple es n tp) (ItzPT K a b) [z, t1, t2, i1, i2] z (fun i h => IsZip h z t1 t2 .none ∧ IsTupOf2 h t1 (.ref i1) (.ref i2) ∧ (∃ x y, IsTupOf2 h t2 x y) ∧ h.IsTupleIter i1 a i ∧ h.IsTupleIter i2 b i) where
  mem := List.mem_cons_self ..
  obj := fun i h ⟨g1, g2, ⟨_, _, g3⟩, ⟨o4, g4, _, d4⟩, o5, g5, _, d5⟩ c hc => by
    rcases five_mem hc with rfl | rfl | rfl | rfl | rfl
    · exact ⟨_, g1, fun _ q => nomatch q⟩
    · exact ⟨_, g2, fun _ q => nomatch q⟩
    · exact ⟨_, g3, fun _ q => nomatch q⟩
    · exact ⟨o4, g4, fun _ q => by rw [d4] at q; cases q⟩
    · exact ⟨o5, g5, fun _ q => by rw [d5] at q; cases q⟩
  keep := fun i h h' ⟨g1, g2, ⟨x, y, g3⟩, g4, g5⟩ k => ⟨k z (by simp) _ g1, k t1 (by simp) _ g2, ⟨x, y, k t2 (by simp) _ g3⟩, g4.at fun o q => k i1 (by simp) o q, g5.at fun o q => k i2 (by simp) o q⟩
  item := by
    intro X hP hw hK hc i pins s σ H E I hf ⟨g1, g2, ⟨x0, y0, g3⟩, g4, g5⟩ ⟨x, y, xs, ys, ⟨q1, hx⟩, q2, hy⟩
    subst hP hw hK
    obtain ⟨us, r1, p1, _⟩ := I.tuple q1
    obtain ⟨ws, r2, p2, _⟩ := I.tuple q2
    obtain ⟨u, hu, ru⟩ := r1.get hx
    obtain ⟨u', hu', ru'⟩ := r2.get hy
    have zl : z < s.heap.objs.size := Heap.lt_size g1
    refine RZ.pyNext_zipT_item D g1 g2 g3 g4 g5 p1 p2 (x := u) (y := u') (by simpa using hu) (by simpa using hu') fun h1 e1 e2 e4 e5 hT hsz hk => ?_
    refine ⟨_, rfl, wpAny_letOwnedTupleGo_zip (s := { s with heap := h1 }) e1 fun h2 e6 sb => ?_⟩
    have kp : ∀ c o, c ∉ [z, t1, t2, i1, i2] → s.heap.get? c = some o → h2.get? c = some o := fun c o n q =>
      (sb.2 c (fun e => n (by simp [e]))).trans (hk c o (fun e => n (by simp [e])) (fun e => n (by simp [e])) (fun e => n (by simp [e])) (fun e => n (by simp [e])) q)
    have new : ObjOk X.prog X.w (upd H s.heap.objs.size (.frz (plT [u, u']) (.tup [x, y]))) h2 s.heap.objs.size (.frz (plT [u, u']) (.tup [x, y])) := by
      have hT2 := (sb.2 _ (Nat.ne_of_gt zl)).trans hT
      exact ⟨hT2, (by decide : 2 ≤ sizeLine), [u, u'], .cons ru (.cons ru' .nil), ⟨_, hT2, rfl, _, rfl⟩⟩
    refine ⟨.ref s.heap.objs.size, _, I.turnedNew (t' := s.toks) (ch := [z, t1, t2, i1, i2]) kp hf (Nat.le_refl _) new, rfl, ⟨_, _, x, y, rfl, I.hok.fresh (Nat.le_refl _), rfl, rfl, fun l hl => ?_, fun l hl => ?_⟩, ⟨e6, ?_, ⟨u, u', (sb.2 _ D.TOz).trans e2⟩, e4.at fun o q => (sb.2 _ D.i1z).trans q, e5.at fun o q => (sb.2 _ D.i2z).trans q⟩, fun c hcm => ?_⟩
    · rw [I.tuple_inj hl q1]; exact hx
    · rw [I.tuple_inj hl q2]; exact hy
    · exact (sb.2 _ D.TIz).trans (hk _ _ D.TIz D.TITO D.TIi1 D.TIi2 g2)
    · have hlt : c < s.heap.objs.size := by
        rcases five_mem hcm with rfl | rfl | rfl | rfl | rfl
        · exact zl
        · exact Heap.lt_size g2
        · exact Heap.lt_size g3
        · exact Heap.lt_size g4.choose_spec.1
        · exact Heap.lt_size g5.choose_spec.1
      rw [upd_ne (Nat.ne_of_lt hlt)]
      exact (hf c hcm).1
  done := by
    intro X hP hw hK hc i pins s σ H E I hf ⟨g1, g2, ⟨x0, y0, g3⟩, g4, g5⟩ ⟨xs, ys, ⟨q1, q2⟩, hend⟩
    subst hP hw hK
    obtain ⟨us, r1, p1, _⟩ := I.tuple q1
    obtain ⟨ws, r2, p2, _⟩ := I.tuple q2
    have l1 := r1.length
    have l2 := r2.length
    refine RZ.pyNext_zipT_end (I.ok.hd hc) D g1 g2 g3 g4 g5 p1 p2 ?_ fun h1 hk => ⟨rfl, I.turnedL (t' := s.toks) (ch := [z, t1, t2, i1, i2]) (fun c o n q => hk c o (fun e => n (by simp [e])) (fun e => n (by simp [e])) (fun e => n (by simp [e])) (fun e => n (by simp [e])) q) hf⟩
    rcases hend with q | q
    · exact .inl (by simp; omega)
    · exact .inr (by simp; omega)
  self := fun A i s Q E st h => wpAny_pyIter_zip st.1 h
theorem itOk_zipL {K : PySem.W.Frag} {a b : Addr} {xs ys : List D} : ItOk K τ (ItzPL K a b) [(.ref a, .list xs), (.ref b, .list ys)] (zipD xs ys) where
  go := fun H ow g i hi => by
    rw [zipD_len] at hi
    obtain ⟨pp, vs, e, hs, ha⟩ := g _ (List.mem_cons_self ..)
    obtain ⟨pq, ws, e2, hs2, hb⟩ := g _ (List.mem_cons_of_mem _ (List.mem_cons_self ..))
    cases e; cases e2
    obtain ⟨v, hv, _⟩ := dpAll_get ha (List.getElem?_eq_getElem (show i < xs.length by omega))
    obtain ⟨w, hw, _⟩ := dpAll_get hb (List.getElem?_eq_getElem (show i < ys.length by omega))
    exact ⟨v, w, vs, ws, ⟨sqL_same res_le hs, hv⟩, sqL_same res_le hs2, hw⟩
  yld := fun H ow g hn i d hd x H4 hy => by
    obtain ⟨dx, dy, hdx, hdy, rfl⟩ := zipD_get hd
    obtain ⟨pp, vs, e, hs, ha⟩ := g _ (List.mem_cons_self ..)
    obtain ⟨pq, ws, e2, hs2, hb⟩ := g _ (List.mem_cons_of_mem _ (List.mem_cons_self ..))
    cases e; cases e2
    obtain ⟨T, o, x1, y1, rfl, hT, ho, rfl, h1, h2⟩ := hy
    obtain ⟨v, hv, hdp⟩ := dpAll_get ha hdx
    obtain ⟨w, hw, hdp2⟩ := dpAll_get hb hdy
    have := (h1 vs (sqL_same res_le hs)).symm.trans hv
    cases this
    have := (h2 ws (sqL_same res_le hs2)).symm.trans hw
    cases this
    exact tup_newP hn hT ho (.cons hdp (.cons hdp2 .nil))
  stop := fun H ow g i hi => by
    rw [zipD_len] at hi
    obtain ⟨pp, vs, e, hs, ha⟩ := g _ (List.mem_cons_self ..)
    obtain ⟨pq, ws, e2, hs2, hb⟩ := g _ (List.mem_cons_of_mem _ (List.mem_cons_self ..))
    cases e; cases e2
    refine ⟨vs, ws, ⟨sqL_same res_le hs, sqL_same res_le hs2⟩, ?_⟩
    rw [dpAll_len ha, dpAll_len hb]
    omega
theorem itOk_zipT {K : PySem.W.Frag} {a b : Addr} {xs ys : List D} : ItOk K τ (ItzPT K a b) [(.ref a, .tuple xs), (.ref b, .tuple ys)] (zipD xs ys) where
  go := fun H ow g i hi => by
    rw [zipD_len] at hi
    obtain ⟨pp, vs, e, hs, ha⟩ := g _ (List.mem_cons_self ..)
    obtain ⟨pq, ws, e2, hs2, hb⟩ := g _ (List.mem_cons_of_mem _ (List.mem_cons_self ..))
    cases e; cases e2
    obtain ⟨v, hv, _⟩ := dpAll_get ha (List.getElem?_eq_getElem (show i < xs.length by omega))
    obtain ⟨w, hw, _⟩ := dpAll_get hb (List.getElem?_eq_getElem (show i < ys.length by omega))
    exact ⟨v, w, vs, ws, ⟨sqT_same res_le hs, hv⟩, sqT_same res_le hs2, hw⟩
  yld := fun H ow g hn i d hd x H4 hy => by
    obtain ⟨dx, dy, hdx, hdy, rfl⟩ := zipD_get hd
    obtain ⟨pp, vs, e, hs, ha⟩ := g _ (List.mem_cons_self ..)
    obtain ⟨pq, ws, e2, hs2, hb⟩ := g _ (List.mem_cons_of_mem _ (List.mem_cons_self ..))
    cases e; cases e2
    obtain ⟨T, o, x1, y1, rfl, hT, ho, rfl, h1, h2⟩ := hy
    obtain ⟨v, hv, hdp⟩ := dpAll_get ha hdx
    obtain ⟨w, hw, hdp2⟩ := dpAll_get hb hdy
    have := (h1 vs (sqT_same res_le hs)).symm.trans hv
    cases this
    have := (h2 ws (sqT_same res_le hs2)).symm.trans hw
    cases this
    exact tup_newP hn hT ho (.cons hdp (.cons hdp2 .nil))
  stop := fun H ow g i hi => by
    rw [zipD_len] at hi
    obtain ⟨pp, vs, e, hs, ha⟩ := g _ (List.mem_cons_self ..)
    obtain ⟨pq, ws, e2, hs2, hb⟩ := g _ (List.mem_cons_of_mem _ (List.mem_cons_self ..))
    cases e; cases e2
    refine ⟨vs, ws, ⟨sqT_same res_le hs, sqT_same res_le hs2⟩, ?_⟩
    rw [dpAll_len ha, dpAll_len hb]
    omega
/-- zip of a list with a tuple: pairs laid plainly -/
def ItzPM (K : PySem.W.Frag) (a b : Addr) (n1 n2 : Nat) : It where
  go := fun i H => ∃ (x y : V) (xs ys : List V), ((SqL K H a xs ∧ xs[i]? = some x) ∧ SqT K H b ys ∧ ys[i]? = some y) ∧ xs.length = n1 ∧ ys.length = n2
  yld := fun i H v H' => ∃ (T : Addr) (o : Obj) (x y : V), v = .ref T ∧ H T = none ∧ o.dict = none ∧ H' = upd H T (.frz o (.tup [x, y])) ∧ (∀ l, SqL K H a l → l[i]? = some x) ∧ ∀ l, SqT K H b l → l[i]? = some y
  stop := fun i H => ∃ l r : List V, (SqL K H a l ∧ SqT K H b r) ∧ (l.length = n1 ∧ r.length = n2) ∧ (n1 ≤ i ∨ n2 ≤ i)
theorem turn_zipPM {P : Program} {w : World} {K : PySem.W.Frag} {es : List Expr} {n n1 n2 : Nat} {tp : Pos} {a b z t1 t2 i1 i2 : Addr} (ha1 : a ≠ i1) (hb2 : b ≠ i2) (D : ZipSep2 z t1 t2 i1 i2 [i1, a] [i2, b]) :
    Turn P w K (.Tuple es n tp) (ItzPM K a b n1 n2) [z, t1, t2, i1, i2] z (fun i h => (i ≤ n1 ∧ i ≤ n2) ∧ IsZip h z t1 t2 .none ∧ IsTupOf2 h t1 (.ref i1) (.ref i2) ∧ (∃ x y, IsTupOf2 h t2 x y) ∧ h.IsListIter i1 a i ∧ h.IsTupleIter i2 b i) where
  mem := List.mem_cons_self ..
  obj := fun i h ⟨_, g1, g2, ⟨_, _, g3⟩, ⟨o4, g4, _, d4⟩, o5, g5, _, d5⟩ c hc => by
    rcases five_mem hc with rfl | rfl | rfl | rfl | rfl
    · exact ⟨_, g1, fun _ q => nomatch q⟩
    · exact ⟨_, g2, fun _ q => nomatch q⟩
    · exact ⟨_, g3, fun _ q => nomatch q⟩
    · exact ⟨o4, g4, fun _ q => by rw [d4] at q; cases q⟩
    · exact ⟨o5, g5, fun _ q => by rw [d5] at q; cases q⟩
  keep := fun i h h' ⟨g0, g1, g2, ⟨x, y, g3⟩, g4, g5⟩ k => ⟨g0, k z (by simp) _ g1, k t1 (by simp) _ g2, ⟨x, y, k t2 (by simp) _ g3⟩, g4.at fun o q => k i1 (by simp) o q, g5.at fun o q => k i2 (by simp) o q⟩
  item := by
    intro X hP hw hK hc i pins s σ H E I hf ⟨g0, g1, g2, ⟨x0, y0, g3⟩, g4, g5⟩ ⟨x, y, xs, ys, ⟨⟨q1, hx⟩, q2, hy⟩, n1e, n2e⟩
    subst hP hw hK
    obtain ⟨us, r1, p1, _⟩ := I.list q1
    obtain ⟨ws, r2, p2, _⟩ := I.tuple q2
    obtain ⟨u, hu, ru⟩ := r1.get hx
    obtain ⟨u', hu', ru'⟩ := r2.get hy
    have zl : z < s.heap.objs.size := Heap.lt_size g1
    have rl1 := r1.length
    have rl2 := r2.length
    have lu : i < us.length := (List.getElem?_eq_some_iff.mp hu).1
    have lw : i < ws.length := (List.getElem?_eq_some_iff.mp hu').1
    refine wpAny_pyNext_zipD2_item D (Draws.list (show X.A.in1.handled = none from I.ok.hd hc) i1 a ha1 us.toArray) (Draws.tuple (show X.A.in1.handled = none from I.ok.hd hc) i2 b hb2 ws.toArray) g1 g2 g3 ⟨g4, p1.isList⟩ ⟨g5, p2⟩ (by simpa using lu) (by simpa using lw) fun x1 x2 h1 tk y1 y2 e1 e2 e4 e5 hT hsz hk => ?_
    have ex1 : x1 = u := by
      have y1 : us.toArray[i]? = some x1 := y1
      rw [List.getElem?_toArray, hu] at y1
      exact (Option.some.inj y1).symm
    have ex2 : x2 = u' := by
      have y2 : ws.toArray[i]? = some x2 := y2
      rw [List.getElem?_toArray, hu'] at y2
      exact (Option.some.inj y2).symm
    subst ex1 ex2
    refine ⟨_, rfl, wpAny_letOwnedTupleGo_zip (s := { s with heap := h1, toks := tk }) e1 fun h2 e6 sb => ?_⟩
    have kp : ∀ c o, c ∉ [z, t1, t2, i1, i2] → s.heap.get? c = some o → h2.get? c = some o := fun c o n q =>
      (sb.2 c (fun e => n (by simp [e]))).trans (hk c o (fun e => n (by simp [e])) (fun e => n (by simp [e])) (fun e => n (by simp [e])) (fun e => n (by simp [e])) q)
    have new : ObjOk X.prog X.w (upd H s.heap.objs.size (.frz (plT [x1, x2]) (.tup [x, y]))) h2 s.heap.objs.size (.frz (plT [x1, x2]) (.tup [x, y])) := by
      have hT2 := (sb.2 _ (Nat.ne_of_gt zl)).trans hT
      exact ⟨hT2, (by decide : 2 ≤ sizeLine), [x1, x2], .cons ru (.cons ru' .nil), ⟨_, hT2, rfl, _, rfl⟩⟩
    refine ⟨.ref s.heap.objs.size, _, I.turnedNew (t' := tk) (ch := [z, t1, t2, i1, i2]) kp hf (Nat.le_refl _) new, rfl, ⟨_, _, x, y, rfl, I.hok.fresh (Nat.le_refl _), rfl, rfl, fun l hl => ?_, fun l hl => ?_⟩, ⟨⟨by omega, by omega⟩, e6, ?_, ⟨x1, x2, (sb.2 _ D.TOz).trans e2⟩, e4.1.at fun o q => (sb.2 _ D.zi1.symm).trans q, e5.1.at fun o q => (sb.2 _ D.zi2.symm).trans q⟩, fun c hcm => ?_⟩
    · rw [I.list_inj hl q1]; exact hx
    · rw [I.tuple_inj hl q2]; exact hy
    · exact (sb.2 _ D.TIz).trans (hk _ _ D.TIz D.TITO D.TIi1 D.TIi2 g2)
    · have hlt : c < s.heap.objs.size := by
        rcases five_mem hcm with rfl | rfl | rfl | rfl | rfl
        · exact zl
        · exact Heap.lt_size g2
        · exact Heap.lt_size g3
        · exact Heap.lt_size g4.choose_spec.1
        · exact Heap.lt_size g5.choose_spec.1
      rw [upd_ne (Nat.ne_of_lt hlt)]
      exact (hf c hcm).1
  done := by
    intro X hP hw hK hc i pins s σ H E I hf ⟨g0, g1, g2, ⟨x0, y0, g3⟩, g4, g5⟩ ⟨xs, ys, ⟨q1, q2⟩, ⟨n1e, n2e⟩, hend⟩
    subst hP hw hK
    obtain ⟨us, r1, p1, _⟩ := I.list q1
    obtain ⟨ws, r2, p2, _⟩ := I.tuple q2
    have l1 := r1.length
    have l2 := r2.length
    refine wpAny_pyNext_zipD2_end D (Draws.list (show X.A.in1.handled = none from I.ok.hd hc) i1 a ha1 us.toArray) (Draws.tuple (show X.A.in1.handled = none from I.ok.hd hc) i2 b hb2 ws.toArray) g1 g2 g3 ⟨g4, p1.isList⟩ ⟨g5, p2⟩ (by simp; omega) (by simp; omega) (by simp; omega) fun h1 tk hk => ⟨rfl, I.turnedL (t' := tk) (ch := [z, t1, t2, i1, i2]) (fun c o n q => hk c o (fun e => n (by simp [e])) (fun e => n (by simp [e])) (fun e => n (by simp [e])) (fun e => n (by simp [e])) q) hf⟩
  self := fun A i s Q E st h => wpAny_pyIter_zip st.2.1 h
theorem itOk_zipM {K : PySem.W.Frag} {a b : Addr} {n1 n2 : Nat} {xs ys : List D} (n1e : n1 = xs.length) (n2e : n2 = ys.length) : ItOk K τ (ItzPM K a b n1 n2) [(.ref a, .list xs), (.ref b, .tuple ys)] (zipD xs ys) where
  go := fun H ow g i hi => by
    rw [zipD_len] at hi
    obtain ⟨pp, vs, e, hs, ha⟩ := g _ (List.mem_cons_self ..)
    obtain ⟨pq, ws, e2, hs2, hb⟩ := g _ (List.mem_cons_of_mem _ (List.mem_cons_self ..))
    cases e; cases e2
    obtain ⟨v, hv, _⟩ := dpAll_get ha (List.getElem?_eq_getElem (show i < xs.length by omega))
    obtain ⟨w, hw, _⟩ := dpAll_get hb (List.getElem?_eq_getElem (show i < ys.length by omega))
    exact ⟨v, w, vs, ws, ⟨⟨sqL_same res_le hs, hv⟩, sqT_same res_le hs2, hw⟩, by rw [← dpAll_len ha] at n1e; exact n1e.symm, by rw [← dpAll_len hb] at n2e; exact n2e.symm⟩
  yld := fun H ow g hn i d hd x H4 hy => by
    obtain ⟨dx, dy, hdx, hdy, rfl⟩ := zipD_get hd
    obtain ⟨pp, vs, e, hs, ha⟩ := g _ (List.mem_cons_self ..)
    obtain ⟨pq, ws, e2, hs2, hb⟩ := g _ (List.mem_cons_of_mem _ (List.mem_cons_self ..))
    cases e; cases e2
    obtain ⟨T, o, x1, y1, rfl, hT, ho, rfl, h1, h2⟩ := hy
    obtain ⟨v, hv, hdp⟩ := dpAll_get ha hdx
    obtain ⟨w, hw, hdp2⟩ := dpAll_get hb hdy
    have := (h1 vs (sqL_same res_le hs)).symm.trans hv
    cases this
    have := (h2 ws (sqT_same res_le hs2)).symm.trans hw
    cases this
    exact tup_newP hn hT ho (.cons hdp (.cons hdp2 .nil))
  stop := fun H ow g i hi => by
    rw [zipD_len] at hi
    obtain ⟨pp, vs, e, hs, ha⟩ := g _ (List.mem_cons_self ..)
    obtain ⟨pq, ws, e2, hs2, hb⟩ := g _ (List.mem_cons_of_mem _ (List.mem_cons_self ..))
    cases e; cases e2
    refine ⟨vs, ws, ⟨sqL_same res_le hs, sqT_same res_le hs2⟩, ?_⟩
    rw [dpAll_len ha, dpAll_len hb]
    omega
/-- zip of a tuple with a list: pairs laid plainly -/
def ItzPN (K : PySem.W.Frag) (a b : Addr) (n1 n2 : Nat) : It where
  go := fun i H => ∃ (x y : V) (xs ys : List V), ((SqT K H a xs ∧ xs[i]? = some x) ∧ SqL K H b ys ∧ ys[i]? = some y) ∧ xs.length = n1 ∧ ys.length = n2
  yld := fun i H v H' => ∃ (T : Addr) (o : Obj) (x y : V), v = .ref T ∧ H T = none ∧ o.dict = none ∧ H' = upd H T (.frz o (.tup [x, y])) ∧ (∀ l, SqT K H a l → l[i]? = some x) ∧ ∀ l, SqL K H b l → l[i]? = some y
  stop := fun i H => ∃ l r : List V, (SqT K H a l ∧ SqL K H b r) ∧ (l.length = n1 ∧ r.length = n2) ∧ (n1 ≤ i ∨ n2 ≤ i)
theorem turn_zipPN {P : Program} {w : World} {K : PySem.W.Frag} {es : List Expr} {n n1 n2 : Nat} {tp : Pos} {a b z t1 t2 i1 i2 : Addr} (ha1 : a ≠ i1) (hb2 : b ≠ i2) (D : ZipSep2 z t1 t2 i1 i2 [i1, a] [i2, b]) :
    Turn P w K (.Tuple es n tp) (ItzPN K a b n1 n2) [z, t1, t2, i1, i2] z (fun i h => (i ≤ n1 ∧ i ≤ n2) ∧ IsZip h z t1 t2 .none ∧ IsTupOf2 h t1 (.ref i1) (.ref i2) ∧ (∃ x y, IsTupOf2 h t2 x y) ∧ h.IsTupleIter i1 a i ∧ h.IsListIter i2 b i) where
  mem := List.mem_cons_self ..
  obj := fun i h ⟨_, g1, g2, ⟨_, _, g3⟩, ⟨o4, g4, _, d4⟩, o5, g5, _, d5⟩ c hc => by
    rcases five_mem hc with rfl | rfl | rfl | rfl | rfl
    · exact ⟨_, g1, fun _ q => nomatch q⟩
    · exact ⟨_, g2, fun _ q => nomatch q⟩
    · exact ⟨_, g3, fun _ q => nomatch q⟩
    · exact ⟨o4, g4, fun _ q => by rw [d4] at q; cases q⟩
    · exact ⟨o5, g5, fun _ q => by rw [d5] at q; cases q⟩
  keep := fun i h h' ⟨g0, g1, g2, ⟨x, y, g3⟩, g4, g5⟩ k => ⟨g0, k z (by simp) _ g1, k t1 (by simp) _ g2, ⟨x, y, k t2 (by simp) _ g3⟩, g4.at fun o q => k i1 (by simp) o q, g5.at fun o q => k i2 (by simp) o q⟩
  item := by
    intro X hP hw hK hc i pins s σ H E I hf ⟨g0, g1, g2, ⟨x0, y0, g3⟩, g4, g5⟩ ⟨x, y, xs, ys, ⟨⟨q1, hx⟩, q2, hy⟩, n1e, n2e⟩
    subst hP hw hK
    obtain ⟨us, r1, p1, _⟩ := I.tuple q1
    obtain ⟨ws, r2, p2, _⟩ := I.list q2
    obtain ⟨u, hu, ru⟩ := r1.get hx
    obtain ⟨u', hu', ru'⟩ := r2.get hy
    have zl : z < s.heap.objs.size := Heap.lt_size g1
    have rl1 := r1.length
    have rl2 := r2.length
    have lu : i < us.length := (List.getElem?_eq_some_iff.mp hu).1
    have lw : i < ws.length := (List.getElem?_eq_some_iff.mp hu').1
    refine wpAny_pyNext_zipD2_item D (Draws.tuple (show X.A.in1.handled = none from I.ok.hd hc) i1 a ha1 us.toArray) (Draws.list (show X.A.in1.handled = none from I.ok.hd hc) i2 b hb2 ws.toArray) g1 g2 g3 ⟨g4, p1⟩ ⟨g5, p2.isList⟩ (by simpa using lu) (by simpa using lw) fun x1 x2 h1 tk y1 y2 e1 e2 e4 e5 hT hsz hk => ?_
    have ex1 : x1 = u := by
      have y1 : us.toArray[i]? = some x1 := y1
      rw [List.getElem?_toArray, hu] at y1
      exact (Option.some.inj y1).symm
    have ex2 : x2 = u' := by
      have y2 : ws.toArray[i]? = some x2 := y2
      rw [List.getElem?_toArray, hu'] at y2
      exact (Option.some.inj y2).symm
    subst ex1 ex2
    refine ⟨_, rfl, wpAny_letOwnedTupleGo_zip (s := { s with heap := h1, toks := tk }) e1 fun h2 e6 sb => ?_⟩
    have kp : ∀ c o, c ∉ [z, t1, t2, i1, i2] → s.heap.get? c = some o → h2.get? c = some o := fun c o n q =>
      (sb.2 c (fun e => n (by simp [e]))).trans (hk c o (fun e => n (by simp [e])) (fun e => n (by simp [e])) (fun e => n (by simp [e])) (fun e => n (by simp [e])) q)
    have new : ObjOk X.prog X.w (upd H s.heap.objs.size (.frz (plT [x1, x2]) (.tup [x, y]))) h2 s.heap.objs.size (.frz (plT [x1, x2]) (.tup [x, y])) := by
      have hT2 := (sb.2 _ (Nat.ne_of_gt zl)).trans hT
      exact ⟨hT2, (by decide : 2 ≤ sizeLine), [x1, x2], .cons ru (.cons ru' .nil), ⟨_, hT2, rfl, _, rfl⟩⟩
    refine ⟨.ref s.heap.objs.size, _, I.turnedNew (t' := tk) (ch := [z, t1, t2, i1, i2]) kp hf (Nat.le_refl _) new, rfl, ⟨_, _, x, y, rfl, I.hok.fresh (Nat.le_refl _), rfl, rfl, fun l hl => ?_, fun l hl => ?_⟩, ⟨⟨by omega, by omega⟩, e6, ?_, ⟨x1, x2, (sb.2 _ D.TOz).trans e2⟩, e4.1.at fun o q => (sb.2 _ D.zi1.symm).trans q, e5.1.at fun o q => (sb.2 _ D.zi2.symm).trans q⟩, fun c hcm => ?_⟩
    · rw [I.tuple_inj hl q1]; exact hx
    · rw [I.list_inj hl q2]; exact hy
    · exact (sb.2 _ D.TIz).trans (hk _ _ D.TIz D.TITO D.TIi1 D.TIi2 g2)
    · have hlt : c < s.heap.objs.size := by
        rcases five_mem hcm with rfl | rfl | rfl | rfl | rfl
        · exact zl
        · exact Heap.lt_size g2
        · exact Heap.lt_size g3
        · exact Heap.lt_size g4.choose_spec.1
        · exact Heap.lt_size g5.choose_spec.1
      rw [upd_ne (Nat.ne_of_lt hlt)]
      exact (hf c hcm).1
  done := by
    intro X hP hw hK hc i pins s σ H E I hf ⟨g0, g1, g2, ⟨x0, y0, g3⟩, g4, g5⟩ ⟨xs, ys, ⟨q1, q2⟩, ⟨n1e, n2e⟩, hend⟩
    subst hP hw hK
    obtain ⟨us, r1, p1, _⟩ := I.tuple q1
    obtain ⟨ws, r2, p2, _⟩ := I.list q2
    have l1 := r1.length
    have l2 := r2.length
    refine wpAny_pyNext_zipD2_end D (Draws.tuple (show X.A.in1.handled = none from I.ok.hd hc) i1 a ha1 us.toArray) (Draws.list (show X.A.in1.handled = none from I.ok.hd hc) i2 b hb2 ws.toArray) g1 g2 g3 ⟨g4, p1⟩ ⟨g5, p2.isList⟩ (by simp; omega) (by simp; omega) (by simp; omega) fun h1 tk hk => ⟨rfl, I.turnedL (t' := tk) (ch := [z, t1, t2, i1, i2]) (fun c o n q => hk c o (fun e => n (by simp [e])) (fun e => n (by simp [e])) (fun e => n (by simp [e])) (fun e => n (by simp [e])) q) hf⟩
  self := fun A i s Q E st h => wpAny_pyIter_zip st.2.1 h
theorem itOk_zipN {K : PySem.W.Frag} {a b : Addr} {n1 n2 : Nat} {xs ys : List D} (n1e : n1 = xs.length) (n2e : n2 = ys.length) : ItOk K τ (ItzPN K a b n1 n2) [(.ref a, .tuple xs), (.ref b, .list ys)] (zipD xs ys) where
  go := fun H ow g i hi => by
    rw [zipD_len] at hi
    obtain ⟨pp, vs, e, hs, ha⟩ := g _ (List.mem_cons_self ..)
    obtain ⟨pq, ws, e2, hs2, hb⟩ := g _ (List.mem_cons_of_mem _ (List.mem_cons_self ..))
    cases e; cases e2
    obtain ⟨v, hv, _⟩ := dpAll_get ha (List.getElem?_eq_getElem (show i < xs.length by omega))
    obtain ⟨w, hw, _⟩ := dpAll_get hb (List.getElem?_eq_getElem (show i < ys.length by omega))
    exact ⟨v, w, vs, ws, ⟨⟨sqT_same res_le hs, hv⟩, sqL_same res_le hs2, hw⟩, by rw [← dpAll_len ha] at n1e; exact n1e.symm, by rw [← dpAll_len hb] at n2e; exact n2e.symm⟩
  yld := fun H ow g hn i d hd x H4 hy => by
    obtain ⟨dx, dy, hdx, hdy, rfl⟩ := zipD_get hd
    obtain ⟨pp, vs, e, hs, ha⟩ := g _ (List.mem_cons_self ..)
    obtain ⟨pq, ws, e2, hs2, hb⟩ := g _ (List.mem_cons_of_mem _ (List.mem_cons_self ..))
    cases e; cases e2
    obtain ⟨T, o, x1, y1, rfl, hT, ho, rfl, h1, h2⟩ := hy
    obtain ⟨v, hv, hdp⟩ := dpAll_get ha hdx
    obtain ⟨w, hw, hdp2⟩ := dpAll_get hb hdy
    have := (h1 vs (sqT_same res_le hs)).symm.trans hv
    cases this
    have := (h2 ws (sqL_same res_le hs2)).symm.trans hw
    cases this
    exact tup_newP hn hT ho (.cons hdp (.cons hdp2 .nil))
  stop := fun H ow g i hi => by
    rw [zipD_len] at hi
    obtain ⟨pp, vs, e, hs, ha⟩ := g _ (List.mem_cons_self ..)
    obtain ⟨pq, ws, e2, hs2, hb⟩ := g _ (List.mem_cons_of_mem _ (List.mem_cons_self ..))
    cases e; cases e2
    refine ⟨vs, ws, ⟨sqT_same res_le hs, sqL_same res_le hs2⟩, ?_⟩
    rw [dpAll_len ha, dpAll_len hb]
    omega
def iZipP (K : PySem.W.Frag) (ta : TA) : TI := fun σ H R => ta σ H fun vs H1 => ∃ a b xs ys, vs = [.ref a, .ref b] ∧ ((SqL K H1 a xs ∧ SqL K H1 b ys ∧ R (ItzPL K a b) H1) ∨ (SqT K H1 a xs ∧ SqT K H1 b ys ∧ R (ItzPT K a b) H1) ∨ (SqL K H1 a xs ∧ SqT K H1 b ys ∧ R (ItzPM K a b xs.length ys.length) H1) ∨ (SqT K H1 a xs ∧ SqL K H1 b ys ∧ R (ItzPN K a b xs.length ys.length) H1))
theorem pi_zipP {X : Cx} {e e2 : Expr} {ta : TA} {p pos tp : Pos} {es : List Expr} {n : Nat} (hg : Gl X "zip") (hm : X.mg "zip" = none) (ha : PA X [e, e2] ta)
    (hs : starEach [e, e2] X.env = (false, eval e X.env) :: starEach [e2] X.env := by rfl) (hpl : (backTo pos (starEach [e2] X.env)).any (·.1) = false := by rfl) :
    PI X (.Tuple es n tp) (.Call (.Name "zip" p) [e, e2] [] pos) (iZipP X.K ta) := by
  refine ⟨fun pins s σ H R I h => Call_ (ld_blt I hg hm PyProof.Rows.boot_zip (PyProof.Rows.callWith_type1 (thn (ha.run pos pins s σ H _ I h) fun us s1 ⟨vs, H1, I1, r1, a, b, xs, ys, ex, q1⟩ => ?_) hs hpl))⟩
  subst ex
  cases r1 with
  | cons r rr =>
    cases rr with
    | cons r' rr =>
      cases rr
      cases r
      cases r'
      have fr : ∀ c, c ∈ [s1.heap.objs.size + 4, s1.heap.objs.size + 2, s1.heap.objs.size + 3, s1.heap.objs.size, s1.heap.objs.size + 1] → FpOk X pins H1 c := fun c hcm => by
        have hle : s1.heap.objs.size ≤ c := by
          rcases five_mem hcm with z | z | z | z | z <;> rw [z] <;> first | exact Nat.le_add_right _ _ | exact Nat.le_refl _
        exact I1.fpOk hle (I1.hok.fresh hle)
      rcases q1 with ⟨g1, g2, q⟩ | ⟨g1, g2, q⟩ | ⟨g1, g2, q⟩ | ⟨g1, g2, q⟩
      · obtain ⟨us, _, p1, _⟩ := I1.list g1
        obtain ⟨ws, _, p2, _⟩ := I1.list g2
        refine call_zip_2 p1.isList p2.isList fun h' hz e1 e2 e3 e4 hsz hk => wpAny_pyIter_zip hz ?_
        exact ⟨_, _, _, _, H1, rfl, I1.kept (t' := s1.toks) hk, turn_zipPL (PySem.W.ktu_apart s1.heap.objs.size a b p1.lt p2.lt), ⟨hz, e1, ⟨_, _, e2⟩, e3, e4⟩, fr, q⟩
      · obtain ⟨us, _, p1, _⟩ := I1.tuple g1
        obtain ⟨ws, _, p2, _⟩ := I1.tuple g2
        refine RZ.call_zipT (show s1.heap.IsTuple a us.toArray from p1) (show s1.heap.IsTuple b ws.toArray from p2) fun h' hz e1 e2 e3 e4 hsz hk => wpAny_pyIter_zip hz ?_
        exact ⟨_, _, _, _, H1, rfl, I1.kept (t' := s1.toks) hk, turn_zipPT (PySem.W.ktu_apart s1.heap.objs.size a b (Heap.lt_size p1.choose_spec.1) (Heap.lt_size p2.choose_spec.1)), ⟨hz, e1, ⟨_, _, e2⟩, e3, e4⟩, fr, q⟩
      · obtain ⟨us, _, p1, _⟩ := I1.list g1
        obtain ⟨ws, _, p2, _⟩ := I1.tuple g2
        have la := p1.lt
        have lb := Heap.lt_size p2.choose_spec.1
        refine zip_begins2 (begins_list a us.toArray) (begins_tuple b ws.toArray) p1.isList p2 fun h' hz e1 e2 e3 e4 hsz hk => wpAny_pyIter_zip hz ?_
        refine ⟨_, _, _, _, H1, rfl, I1.kept (t' := s1.toks) hk, turn_zipPM (Nat.ne_of_lt la) (Nat.ne_of_lt (Nat.lt_succ_of_lt lb)) (zip_sep2 (fp1 := [a]) (fp2 := [b]) (fun c hc => by rw [List.mem_singleton.mp hc]; exact la) (fun c hc => by rw [List.mem_singleton.mp hc]; exact lb)), ⟨⟨Nat.zero_le _, Nat.zero_le _⟩, hz, e1, ⟨_, _, e2⟩, ⟨_, e3, rfl, rfl⟩, ⟨_, e4, rfl, rfl⟩⟩, fr, q⟩
      · obtain ⟨us, _, p1, _⟩ := I1.tuple g1
        obtain ⟨ws, _, p2, _⟩ := I1.list g2
        have la := Heap.lt_size p1.choose_spec.1
        have lb := p2.lt
        refine zip_begins2 (begins_tuple a us.toArray) (begins_list b ws.toArray) p1 p2.isList fun h' hz e1 e2 e3 e4 hsz hk => wpAny_pyIter_zip hz ?_
        refine ⟨_, _, _, _, H1, rfl, I1.kept (t' := s1.toks) hk, turn_zipPN (Nat.ne_of_lt la) (Nat.ne_of_lt (Nat.lt_succ_of_lt lb)) (zip_sep2 (fp1 := [a]) (fp2 := [b]) (fun c hc => by rw [List.mem_singleton.mp hc]; exact la) (fun c hc => by rw [List.mem_singleton.mp hc]; exact lb)), ⟨⟨Nat.zero_le _, Nat.zero_le _⟩, hz, e1, ⟨_, _, e2⟩, ⟨_, e3, rfl, rfl⟩, ⟨_, e4, rfl, rfl⟩⟩, fr, q⟩
def fZip : D → D → (List D → Prop) → Prop
  | .list xs, .list ys, C => C (zipD xs ys)
  | .tuple xs, .tuple ys, C => C (zipD xs ys)
  | .list xs, .tuple ys, C => C (zipD xs ys)
  | .tuple xs, .list ys, C => C (zipD xs ys)
  | _, _, _ => False
def iZip2 (tv tw : UV) : UL := fun ρ C => tv ρ fun x => tw ρ fun y => fZip x y C
theorem jix_zip (S : Ok cp G N sc k X) (hm : Free G "zip") (he : JV τ X e tv) (he2 : JV τ X e2 tw) (hg : sc.names.lookup ("zip" : Str) = some .globalImplicit := by rfl) (hs : starEach [e, e2] X.env = (false, eval e X.env) :: starEach [e2] X.env := by rfl) (hs2 : starEach [e2] X.env = (false, eval e2 X.env) :: starEach [] X.env := by rfl) (hpl : (backTo pos (starEach [e2] X.env)).any (·.1) = false := by rfl) :
    JIx τ X (.Tuple elts kk tpos) (.Call (.Name "zip" p) [e, e2] [] pos) (iZip2 tv tw) := fun ρ C c H0 γ σ H r R q =>
  wpI_size (wpI_of (pi_zipP (by show X.env.scope.names.lookup _ = _; rw [S.es]; exact hg) (by rw [S.em]; exact hm) (pa_cons pe_w (pa_cons pe_w pa_nil hs2) hs) hs hpl) (he ρ _ c H0 γ σ H r _ fun d1 v1 H2 c e1 h1 => he2 ρ _ c H0 γ σ H2 (r.after e1) _ fun d2 v2 H3 c e2 h2 => by
    have h1 := h1.after e2
    cases d1 with
    | list xs =>
      cases d2 <;> first | exact c.elim | skip
      · obtain ⟨a, vs, rfl, hs, ha⟩ := id h1
        obtain ⟨b, ws, rfl, ht, hb⟩ := id h2
        exact ⟨a, b, vs, ws, rfl, .inl ⟨sqL_same res_le hs, sqL_same res_le ht, fun z1 z2 => q _ [(_, _), (_, _)] _ H3 c (e1.trans e2) (fun p hp => by
          rcases List.mem_cons.mp hp with rfl | hp
          · exact h1
          · rw [List.mem_singleton.mp hp]; exact h2) itOk_zipL (by
            have := z1 _ _ (sqL_same res_le hs)
            rw [zipD_len, ← dpAll_len ha]; omega)⟩⟩
      · obtain ⟨a, vs, rfl, hs, ha⟩ := id h1
        obtain ⟨b, ws, rfl, ht, hb⟩ := id h2
        exact ⟨a, b, vs, ws, rfl, .inr (.inr (.inl ⟨sqL_same res_le hs, sqT_same res_le ht, fun z1 z2 => q _ [(_, _), (_, _)] _ H3 c (e1.trans e2) (fun p hp => by
          rcases List.mem_cons.mp hp with rfl | hp
          · exact h1
          · rw [List.mem_singleton.mp hp]; exact h2) (itOk_zipM (dpAll_len ha) (dpAll_len hb)) (by
            have := z1 _ _ (sqL_same res_le hs)
            rw [zipD_len, ← dpAll_len ha]; omega)⟩))⟩
    | tuple xs =>
      cases d2 <;> first | exact c.elim | skip
      · obtain ⟨a, vs, rfl, hs, ha⟩ := id h1
        obtain ⟨b, ws, rfl, ht, hb⟩ := id h2
        exact ⟨a, b, vs, ws, rfl, .inr (.inr (.inr ⟨sqT_same res_le hs, sqL_same res_le ht, fun z1 z2 => q _ [(_, _), (_, _)] _ H3 c (e1.trans e2) (fun p hp => by
          rcases List.mem_cons.mp hp with rfl | hp
          · exact h1
          · rw [List.mem_singleton.mp hp]; exact h2) (itOk_zipN (dpAll_len ha) (dpAll_len hb)) (by
            have := z2 _ _ (sqT_same res_le hs)
            rw [zipD_len, ← dpAll_len ha]; omega)⟩))⟩
      · obtain ⟨a, vs, rfl, hs, ha⟩ := id h1
        obtain ⟨b, ws, rfl, ht, hb⟩ := id h2
        exact ⟨a, b, vs, ws, rfl, .inr (.inl ⟨sqT_same res_le hs, sqT_same res_le ht, fun z1 z2 => q _ [(_, _), (_, _)] _ H3 c (e1.trans e2) (fun p hp => by
          rcases List.mem_cons.mp hp with rfl | hp
          · exact h1
          · rw [List.mem_singleton.mp hp]; exact h2) itOk_zipT (by
            have := z2 _ _ (sqT_same res_le hs)
            rw [zipD_len, ← dpAll_len ha]; omega)⟩)⟩
    | none => cases d2 <;> exact c.elim
    | bool _ => cases d2 <;> exact c.elim
    | int _ => cases d2 <;> exact c.elim
    | str _ => cases d2 <;> exact c.elim
    | dict _ => cases d2 <;> exact c.elim))
theorem ji_zip (S : Ok cp G N sc k X) (hm : Free G "zip") (he : JD τ X e tv) (he2 : JD τ X e2 tw) (hg : sc.names.lookup ("zip" : Str) = some .globalImplicit := by rfl) (hs : starEach [e, e2] X.env = (false, eval e X.env) :: starEach [e2] X.env := by rfl) (hs2 : starEach [e2] X.env = (false, eval e2 X.env) :: starEach [] X.env := by rfl) (hpl : (backTo pos (starEach [e2] X.env)).any (·.1) = false := by rfl) :
    JI τ X (.Tuple elts kk tpos) (.Call (.Name "zip" p) [e, e2] [] pos) (iZip2 tv tw) := fun ρ C c H0 γ σ H r R q =>
  wpI_size (wpI_of (pi_zipP (by show X.env.scope.names.lookup _ = _; rw [S.es]; exact hg) (by rw [S.em]; exact hm) (pa_cons pe_w (pa_cons pe_w pa_nil hs2) hs) hs hpl) (he ρ _ c H0 γ σ H r _ fun d1 v1 H2 c e1 h1 => he2 ρ _ c H0 γ σ H2 (r.after e1) _ fun d2 v2 H3 c e2 h2 => by
    have h1 := dp_after e2 h1
    cases h1 with
    | lst hs ha =>
      cases h2 <;> first | exact c.elim | skip
      · rename_i ht hb
        exact ⟨_, _, _, _, rfl, .inl ⟨sqL_same res_le hs, sqL_same res_le ht, fun z1 z2 => q _ [(_, _), (_, _)] _ H3 c (e1.trans e2) (fun p hp => by
          rcases List.mem_cons.mp hp with rfl | hp
          · exact .lst hs ha
          · rw [List.mem_singleton.mp hp]; exact .lst ht hb) itOk_zipL (by
            have := z1 _ _ (sqL_same res_le hs)
            rw [zipD_len, ← dpAll_len ha]; omega)⟩⟩
      · rename_i ht hb
        exact ⟨_, _, _, _, rfl, .inr (.inr (.inl ⟨sqL_same res_le hs, sqT_same res_le ht, fun z1 z2 => q _ [(_, _), (_, _)] _ H3 c (e1.trans e2) (fun p hp => by
          rcases List.mem_cons.mp hp with rfl | hp
          · exact .lst hs ha
          · rw [List.mem_singleton.mp hp]; exact .tup ht hb) (itOk_zipM (dpAll_len ha) (dpAll_len hb)) (by
            have := z1 _ _ (sqL_same res_le hs)
            rw [zipD_len, ← dpAll_len ha]; omega)⟩))⟩
    | tup hs ha =>
      cases h2 <;> first | exact c.elim | skip
      · rename_i ht hb
        exact ⟨_, _, _, _, rfl, .inr (.inr (.inr ⟨sqT_same res_le hs, sqL_same res_le ht, fun z1 z2 => q _ [(_, _), (_, _)] _ H3 c (e1.trans e2) (fun p hp => by
          rcases List.mem_cons.mp hp with rfl | hp
          · exact .tup hs ha
          · rw [List.mem_singleton.mp hp]; exact .lst ht hb) (itOk_zipN (dpAll_len ha) (dpAll_len hb)) (by
            have := z2 _ _ (sqT_same res_le hs)
            rw [zipD_len, ← dpAll_len ha]; omega)⟩))⟩
      · rename_i ht hb
        exact ⟨_, _, _, _, rfl, .inr (.inl ⟨sqT_same res_le hs, sqT_same res_le ht, fun z1 z2 => q _ [(_, _), (_, _)] _ H3 c (e1.trans e2) (fun p hp => by
          rcases List.mem_cons.mp hp with rfl | hp
          · exact .tup hs ha
          · rw [List.mem_singleton.mp hp]; exact .tup ht hb) itOk_zipT (by
            have := z2 _ _ (sqT_same res_le hs)
            rw [zipD_len, ← dpAll_len ha]; omega)⟩)⟩
    | non => cases d2 <;> exact c.elim
    | bl _ => cases d2 <;> exact c.elim
    | int _ => cases d2 <;> exact c.elim
    | str _ => cases d2 <;> exact c.elim))
end
end Pu
namespace Pu
open PySem PySem.Spec PyProof.Rows L2
/-! ### a def of the text -/
def Ar.sl : Ar → Sl
  | .dat d => .dat d
  | .town => .town
  | .th x => .tv x
def en0 (N : List Str) (as : List Ar) : En := as.map Ar.sl ++ List.replicate (N.length - as.length) .un
def sfOf (N : List Str) (np : Nat) (t : US) : Sf := fun as C => as.length = np ∧ t { nx := fun _ => C (.dat .none), rt := fun r => r.lf = true ∧ C r } (en0 N as)
section
variable {G : Gx} {τ : Tn}
theorem paired_get {α β : Type} {F : α → β → Prop} : ∀ {l₁ : List α} {l₂ : List β}, Paired F l₁ l₂ → ∀ (i : Nat) (b : β), l₂[i]? = some b → ∃ a, l₁[i]? = some a ∧ F a b
  | _, _, .nil, i, b, h => by simp at h
  | _, _, .cons h t, 0, b, e => by
    simp only [List.getElem?_cons_zero, Option.some.injEq] at e
    subst e
    exact ⟨_, rfl, h⟩
  | _, _, .cons h t, i + 1, b, e => by
    simp only [List.getElem?_cons_succ] at e
    obtain ⟨a, h1, h2⟩ := paired_get t i b e
    exact ⟨a, by simp [h1], h2⟩
theorem en0_own {N : List Str} {as : List Ar} {i : Nat} {s : Sl} (h : (en0 N as)[i]? = some s) : s.isOwn = false := by
  have hm : s ∈ en0 N as := List.mem_of_getElem? h
  unfold en0 at hm
  rcases List.mem_append.mp hm with hm | hm
  · obtain ⟨a, _, rfl⟩ := List.mem_map.mp hm
    cases a <;> rfl
  · rw [(List.mem_replicate.mp hm).2]; rfl
theorem rep_start {K : PySem.W.Frag} {H : Hp} {N : List Str} {vs : List V} {as : List Ar} (hz : τ.z H) (hi : τ.inv H) (h : ArsOk K τ H vs as) : Rep K τ H [] H (L2.start N vs) (en0 N as) := by
  have hl : vs.length = as.length := Paired.length h
  refine ⟨by simp [L2.start, en0, hl], fun _ _ e _ => e, hi, fun i s hs => ?_, fun i j s t a h1 h2 h3 => ?_, (fun p hp => by cases hp), hz⟩
  · have nown : ∀ a, own τ (L2.start N vs) (en0 N as) a → τ.ad a := fun a z => by
      rcases z with z | ⟨j, u, h1, h2, _⟩
      · exact z
      · rw [en0_own h1] at h2; cases h2
    have le : Same (res H τ.ad) (res H (own τ (L2.start N vs) (en0 N as))) := res_mono fun a o n e => ⟨fun z => n (nown a z), e⟩
    by_cases hi : i < as.length
    · have e1 : (en0 N as)[i]? = (as.map Ar.sl)[i]? := List.getElem?_append_left (by simpa using hi)
      rw [e1, List.getElem?_map] at hs
      obtain ⟨a, ea, rfl⟩ := Option.map_eq_some_iff.mp hs
      obtain ⟨v, ev, hv⟩ := paired_get h i a ea
      have e2 : (L2.start N vs)[i]? = some (some v) := by
        unfold L2.start
        rw [List.getElem?_append_left (by simp; omega), List.getElem?_map, ev]; rfl
      cases a with
      | dat d => exact ⟨v, e2, dp_same le _ _ hv⟩
      | town =>
        show (L2.start N vs)[i]? = some (some τ.val)
        rw [e2, show v = τ.val from hv]
      | th x =>
        obtain ⟨a, rfl, h⟩ := hv
        exact ⟨a, e2, h.same le⟩
    · have e1 : (en0 N as)[i]? = (List.replicate (N.length - as.length) Sl.un)[i - as.length]? := by
        unfold en0
        rw [List.getElem?_append_right (by simp; omega)]; simp
      rw [e1] at hs
      have := List.mem_of_getElem? hs
      rw [(List.mem_replicate.mp this).2]
      trivial
  · rw [en0_own h1] at h3; cases h3
/-- where one stands: the code object, the name that inner defs bear -/
structure AtC (X : Cx) (cd : Value) (q : Str) : Prop where
  code : X.env.code = cd
  qual : X.env.qual = q
def qOf (x : Str) (sc : Scope) : Str := (envOfC x sc 0 0 .none).qual
theorem fnOk_ofC (hz : ∀ H, τ.z H) {x qual : Str} {params : Arguments} {body : List Stmt} {scope : Scope} {dvs : List V} {kws : List (Str × V)} {f : Addr} {fd : FuncData} {N ps : List Str} {k : Nat} {t : US} (F : FunD G.K x qual params body scope dvs kws f fd) (S : FnScope N ps scope)
    (h : ∀ X, Ok [] G N scope k X → AtC X fd.code (qOf qual scope) → JSs τ X body t) : FnOk G.P G.w G.K G.mg G.base CX0 (k + 1) f fd ps (spD G τ (sfOf N ps.length t)) := by
  obtain ⟨oc, od, dV, kV, doc, pm, an, cdv, ct, osl, rfl, lk, hcd, _, _⟩ := F.ex
  refine fn_of lk hcd S (fun vs H Q E h => ?_) (fun A outer s H vs Q E hr h' => ⟨wpSs (cxOf CX0 G.P G.w G.K G.mg G.base N qual scope f cdv A outer s H E).nox body, PSs.nox pss_w, ?_⟩)
  · obtain ⟨as, C, h1, _, h2, _⟩ := h
    exact (Paired.length h1).trans h2.1
  · obtain ⟨as, C, h1, hi, h2, hq⟩ := h'
    have O : Ok [] G N scope k (cxOf CX0 G.P G.w G.K G.mg G.base N qual scope f cdv A outer s H E).nox := ⟨rfl, rfl, rfl, rfl, rfl, rfl, S.nd, rfl, S.kind, rfl, hr, fun _ _ _ => rfl, PassesOwn.never⟩
    refine h _ O ⟨rfl, rfl⟩ _ _ h2.2 H [] _ H (rep_start (hz _) hi h1) _ ⟨fun ρ σ H' c r => hq (.dat .none) .non H' rfl c ⟨r.ext, fun _ => r.inv⟩ .non, fun ρ σ H' c r => c.elim, fun ρ σ H' c r => c.elim, fun r v H' c e i z => hq r v H' c.1 c.2 ⟨e, fun _ => i⟩ z⟩
theorem fnOk_of (hz : ∀ H, τ.z H) {x qual : Str} {params : Arguments} {body : List Stmt} {scope : Scope} {dvs : List V} {kws : List (Str × V)} {f : Addr} {fd : FuncData} {N ps : List Str} {k : Nat} {t : US} (F : FunD G.K x qual params body scope dvs kws f fd) (S : FnScope N ps scope)
    (h : ∀ X, Ok [] G N scope k X → JSs τ X body t) : FnOk G.P G.w G.K G.mg G.base CX0 (k + 1) f fd ps (spD G τ (sfOf N ps.length t)) := fnOk_ofC hz F S fun X O _ => h X O
/-- the facts of a def's name -/
structure Dn (G : Gx) (x : Str) (st : Stmt) (dvs : List V) (kws : List (Str × V)) (f : Addr) (fd : FuncData) : Prop where
  fn : FunD G.K x x (defArgs st) (defBody st) (defScope st) dvs kws f fd
  gl : G.mg x = some (.ref f)
theorem fnD_of (hz : ∀ H, τ.z H) {x : Str} {st : Stmt} {f : Addr} {fd : FuncData} {N ps : List Str} {k : Nat} {t : US} (F : Dn G x st [] [] f fd) (S : FnScope N ps (defScope st))
    (hb : ∀ (kV doc pm : Value) (an : Option Addr) (cdv ct : Value) (us : List Value), us.length = ps.length → bindArgs (PySem.W.fnOf x x (defArgs st) (defBody st) (defScope st) .none kV doc pm an cdv ct) ⟨us, []⟩ = pure (ps.zip us))
    (h : ∀ X, Ok [] G N (defScope st) k X → JSs τ X (defBody st) t) : FnD G τ (k + 1) x ps (sfOf N ps.length t) :=
  ⟨⟨f, fd, fnOk_of hz F.fn S h, F.gl, F.fn.kp, F.fn.bindsN hb⟩⟩
theorem fnD_ofC (hz : ∀ H, τ.z H) {x : Str} {st : Stmt} {f : Addr} {fd : FuncData} {N ps : List Str} {k : Nat} {t : US} (F : Dn G x st [] [] f fd) (S : FnScope N ps (defScope st))
    (hb : ∀ (kV doc pm : Value) (an : Option Addr) (cdv ct : Value) (us : List Value), us.length = ps.length → bindArgs (PySem.W.fnOf x x (defArgs st) (defBody st) (defScope st) .none kV doc pm an cdv ct) ⟨us, []⟩ = pure (ps.zip us))
    (h : ∀ X, Ok [] G N (defScope st) k X → AtC X fd.code (qOf x (defScope st)) → JSs τ X (defBody st) t) : FnD G τ (k + 1) x ps (sfOf N ps.length t) :=
  ⟨⟨f, fd, fnOk_ofC hz F.fn S h, F.gl, F.fn.kp, F.fn.bindsN hb⟩⟩
/-- a def with other things handed over (hand contract): the Binds alone -/
theorem fnD_mk {x : Str} {st : Stmt} {f : Addr} {fd : FuncData} {ps : List Str} {k : Nat} {S : Sf} (F : Dn G x st [] [] f fd) (h : FnOk G.P G.w G.K G.mg G.base CX0 k f fd ps (spD G τ S))
    (hb : ∀ (kV doc pm : Value) (an : Option Addr) (cdv ct : Value) (us : List Value), us.length = ps.length → bindArgs (PySem.W.fnOf x x (defArgs st) (defBody st) (defScope st) .none kV doc pm an cdv ct) ⟨us, []⟩ = pure (ps.zip us)) : FnD G τ k x ps S := ⟨⟨f, fd, h, F.gl, F.fn.kp, F.fn.bindsN hb⟩⟩
/-- S' may be told instead of S -/
theorem FnD.weaken {k : Nat} {x : Str} {ps : List Str} {S S' : Sf} (F : FnD G τ k x ps S) (h : ∀ as C, S' as C → S as C) : FnD G τ k x ps S' := by
  obtain ⟨f, fd, h1, h2, h3, h4⟩ := F.ex
  refine ⟨⟨f, fd, ⟨fun vs H Q E ⟨as, C, a, b, c, d⟩ => h1.len vs H Q E ⟨as, C, a, b, h _ _ c, d⟩, fun A outer s H args us vs Q E hr e0 hb r ⟨as, C, a, b, c, d⟩ => h1.run A outer s H args us vs Q E hr e0 hb r ⟨as, C, a, b, h _ _ c, d⟩⟩, h2, h3, h4⟩⟩
theorem FnD.mono {j k : Nat} {x : Str} {ps : List Str} {S : Sf} (F : FnD G τ j x ps S) (h : j ≤ k) : FnD G τ k x ps S := by
  obtain ⟨f, fd, h1, h2, h3, h4⟩ := F.ex
  exact ⟨⟨f, fd, ⟨h1.len, fun A outer s H args us vs Q E hr => h1.run A outer s H args us vs Q E (hr.mono h)⟩, h2, h3, h4⟩⟩
end
end Pu
namespace Pu
open PySem PySem.Spec PyProof.Rows L2
/-! ### the town: a dict of a count and of rests -/
def RestOk (kvs : List (Key × V)) : Prop := (kvs.map (·.1)).Nodup ∧ ∀ p ∈ kvs, ∃ (i : Nat) (n : Int), p = (.inl (i : Int), .int n) ∧ i < 64
def twInv (T R : Addr) (H : Hp) : Prop := T ≠ R ∧ ∃ (c : Int) (kvs : List (Key × V)), H T = some (.dK [(.inr "count", .int c), (.inr "rests", .ref R)]) ∧ H R = some (.dK kvs) ∧ RestOk kvs
def tw (T R : Addr) (Ts : List (Addr × Str)) (z : Hp → Prop) : Tn where
  ad := fun a => a = T ∨ a = R ∨ ∃ p ∈ Ts, a = p.1
  inv := fun H => twInv T R H ∧ LamX.Tabs Ts H
  val := .ref T
  tr := fun {H a} h q => by
    obtain ⟨⟨_, c, kvs, h1, h2, _⟩, ht⟩ := h
    rcases q with rfl | rfl | ⟨p, hp, rfl⟩
    · exact ⟨_, h1, trivial⟩
    · exact ⟨_, h2, trivial⟩
    · obtain ⟨ps, h3, _⟩ := ht p hp
      exact ⟨_, h3, trivial⟩
  dep := fun {H H'} e h => by
    obtain ⟨⟨n, c, kvs, h1, h2, h3⟩, ht⟩ := h
    refine ⟨⟨n, c, kvs, e T _ h1 (.inl (.inl rfl)), e R _ h2 (.inl (.inr (.inl rfl))), h3⟩, fun p hp => ?_⟩
    obtain ⟨ps, g1, g2, g3⟩ := ht p hp
    refine ⟨ps, e _ _ g1 (.inl (.inr (.inr ⟨p, hp, rfl⟩))), g2, fun pos cv q => ?_⟩
    obtain ⟨c0, e1, e2⟩ := g3 pos cv q
    exact ⟨c0, e1, e _ _ e2 (.inr codeO_nlk)⟩
  z := z
theorem pig : ∀ (n : Nat) (l : List Nat), l.Nodup → (∀ x ∈ l, x < n) → l.length ≤ n
  | 0, [], _, _ => Nat.le_refl _
  | 0, a :: l, _, h => absurd (h a (List.mem_cons_self ..)) (by omega)
  | n + 1, l, hn, h => by
    have h1 := pig n (l.erase n) (hn.erase n) fun x hx => by
      have hm : x ∈ l := List.mem_of_mem_erase hx
      have h2 := h x hm
      have h3 : x ≠ n := fun z => by subst z; exact (List.Nodup.not_mem_erase hn) hx
      omega
    have := List.length_erase (a := n) (l := l)
    split at this <;> omega
theorem RestOk.len {kvs : List (Key × V)} (h : RestOk kvs) : kvs.length ≤ 64 := by
  have e : ∀ {kvs : List (Key × V)}, RestOk kvs → ∃ l : List Nat, kvs.map (·.1) = l.map (fun i : Nat => (Sum.inl (i : Int) : Key)) ∧ ∀ x ∈ l, x < 64 := by
    intro kvs h
    induction kvs with
    | nil => exact ⟨[], rfl, fun x hx => by cases hx⟩
    | cons p r ih =>
      obtain ⟨l, e, hl⟩ := ih ⟨(List.nodup_cons.mp h.1).2, fun q hq => h.2 q (List.mem_cons_of_mem _ hq)⟩
      obtain ⟨i, n, rfl, hi⟩ := h.2 p (List.mem_cons_self ..)
      exact ⟨i :: l, by simp [e], fun x hx => by
        rcases List.mem_cons.mp hx with rfl | hx
        · exact hi
        · exact hl x hx⟩
  obtain ⟨l, e1, hl⟩ := e h
  have hn : l.Nodup := by
    have := h.1
    rw [e1] at this
    exact (List.pairwise_map.mp this).imp fun h z => h (by rw [z])
  have := pig 64 l hn hl
  have e2 := congrArg List.length e1
  simp at e2
  omega
theorem RestOk.put {kvs : List (Key × V)} (h : RestOk kvs) (i : Nat) (n : Int) (hi : i < 64) : RestOk (putK kvs (.inl (i : Int)) (.int n)) := by
  unfold putK
  split
  · constructor
    · rw [List.map_map]
      have e : ((fun x : Key × V => x.1) ∘ fun kv : Key × V => if kv.1 = Sum.inl (i : Int) then (kv.1, V.int n) else kv) = (·.1) := by
        funext kv
        show (if kv.1 = Sum.inl (i : Int) then (kv.1, V.int n) else kv).1 = kv.1
        split <;> rfl
      rw [e]; exact h.1
    · intro p hp
      obtain ⟨q, hq, rfl⟩ := List.mem_map.mp hp
      obtain ⟨j, m, rfl, hj⟩ := h.2 q hq
      by_cases e : (Sum.inl (j : Int) : Key) = Sum.inl (i : Int)
      · exact ⟨j, n, by simp [e], hj⟩
      · exact ⟨j, m, by simp [e], hj⟩
  · rename_i hno
    constructor
    · rw [List.map_append]
      refine nd_snoc h.1 fun m => hno ?_
      obtain ⟨p, hp, e⟩ := List.mem_map.mp m
      exact List.any_eq_true.mpr ⟨p, hp, decide_eq_true e⟩
    · intro p hp
      rcases List.mem_append.mp hp with hp | hp
      · exact h.2 p hp
      · rw [List.mem_singleton.mp hp]
        exact ⟨i, n, rfl, hi⟩
theorem RestOk.get {kvs : List (Key × V)} (h : RestOk kvs) (k : Key) (v : V) (e : valV kvs k = some v) : ∃ n : Int, v = .int n := by
  unfold valV at e
  obtain ⟨p, hp, rfl⟩ := Option.map_eq_some_iff.mp e
  obtain ⟨i, n, rfl, _⟩ := h.2 p (List.mem_of_find?_eq_some hp)
  exact ⟨n, rfl⟩
section
variable {T R : Addr} {Ts : List (Addr × Str)} {z : Hp → Prop} {G : Gx} {cp : List Str} {N : List Str} {sc : Scope} {k : Nat} {X : Cx} {e f value : Expr} {tv tw' : UV} {x : Str} {p1 p2 p3 p4 p5 p6 p7 p8 pos : Pos} {j1 j2 j3 : Nat}
theorem un1 (S : Ok cp G N sc k X) : X.A.units + 1 < cLine := by have := S.room.un; omega
theorem val_count {c : Int} : valV ([(.inr "count", .int c), (.inr "rests", .ref R)] : List (Key × V)) (.inr "count") = some (.int c) := valV_pos rfl
theorem val_rests {c : Int} : valV ([(.inr "count", .int c), (.inr "rests", .ref R)] : List (Key × V)) (.inr "rests") = some (.ref R) := by
  rw [valV_neg (show ¬ (Sum.inr ("count" : Str) : Key) = Sum.inr ("rests" : Str) from by decide)]
  exact valV_pos rfl
theorem put_count {c d : Int} : putK ([(.inr "count", .int c), (.inr "rests", .ref R)] : List (Key × V)) (.inr "count") (.int d) = [(.inr "count", .int d), (.inr "rests", .ref R)] := by
  have h : ¬ ("rests" : Str) = ("count" : Str) := by decide
  unfold putK
  simp [h]
theorem tabs_upd {H : Hp} {a : Addr} {o : HO} {kvs : List (Key × V)} (h : H a = some (.dK kvs)) (t : LamX.Tabs Ts H) : LamX.Tabs Ts (upd H a o) := fun p hp => by
  obtain ⟨ps, g1, g2, g3⟩ := t p hp
  have n1 : p.1 ≠ a := fun q => by rw [q, h] at g1; cases g1
  refine ⟨ps, by rw [upd_ne n1]; exact g1, g2, fun pos cv q => ?_⟩
  obtain ⟨c0, e1, e2⟩ := g3 pos cv q
  have n2 : c0 ≠ a := fun q => by rw [q, h] at e2; cases e2
  exact ⟨c0, e1, by rw [upd_ne n2]; exact e2⟩
theorem ext_tick {H : Hp} {c : Int} (hi : (tw T R Ts z).inv H) : Ext (tw T R Ts z) H (upd H T (.dK [(.inr "count", .int c), (.inr "rests", .ref R)])) :=
  ⟨fun a o ea na => by rw [upd_ne fun q => na (.inl q)]; exact ea, fun _ => by
    obtain ⟨⟨n, c0, kvs, h1, h2, h3⟩, ht⟩ := hi
    exact ⟨⟨n, c, kvs, upd_same, by rw [upd_ne (Ne.symm n)]; exact h2, h3⟩, tabs_upd h1 ht⟩⟩
theorem ext_rest {H : Hp} {kvs : List (Key × V)} (hi : (tw T R Ts z).inv H) (hk : RestOk kvs) : Ext (tw T R Ts z) H (upd H R (.dK kvs)) :=
  ⟨fun a o ea na => by rw [upd_ne fun q => na (.inr (.inl q))]; exact ea, fun _ => by
    obtain ⟨⟨n, c0, kvs0, h1, h2, h3⟩, ht⟩ := hi
    exact ⟨⟨n, c0, kvs, by rw [upd_ne n]; exact h1, upd_same, hk⟩, tabs_upd h2 ht⟩⟩
def sTick (i : Nat) : US := fun E ρ => ρ[i]? = some .town ∧ E.nx ρ
theorem js_tick (S : Ok cp G N sc k X) (i : Nat) (hN : N[i]? = some x := by rfl) (hv : Vis sc x := by first | exact Or.inl rfl | exact Or.inr (Or.inl rfl) | exact Or.inr (Or.inr rfl)) (hd : (x == ("__debug__" : Str)) = false := by decide) (hcd : (x == ("__classdict__" : Str)) = false := by decide)
    (hsw : swapsWith (.BinOp (.Subscript (.Name x p4) (.Constant (.str "count") j2 p5) p6) .Add (.Constant (.int 1) j3 p7) p8) (some (.Subscript (.Name x p1) (.Constant (.str "count") j1 p2) p3)) pos.line X.env = pure false := by rfl) :
    JS (tw T R Ts z) X (.Assign [.Subscript (.Name x p1) (.Constant (.str "count") j1 p2) p3] (.BinOp (.Subscript (.Name x p4) (.Constant (.str "count") j2 p5) p6) .Add (.Constant (.int 1) j3 p7) p8) pos) (sTick i) := fun ρ E c H0 γ σ H r Dn d => by
  have hp : ∀ p : Pos, PE X (.Name x p) (tVar i) := fun p => pe_var (by rw [S.eN]; exact hN) (by rw [S.es]; exact hv) hd hcd
  refine wpS_of (ps_dput (un1 S) (hp _) pe_str (pe_op op_add (pe_dget (un1 S) (hp _) pe_str (fun _ _ => rfl)) pe_int) hsw) ?_
  have hT : σ[i]? = some (some (.ref T)) := r.sl i _ c.1
  obtain ⟨⟨n, c0, kvs, h1, h2, h3⟩, ht⟩ := r.inv
  refine ⟨_, hT, T, .int c0, rfl, ?_, c0, 1, rfl, rfl, _, hT, T, _, rfl, DPut.k (k := .inr "count") h1 (show 2 < sizeLine from by decide), ?_⟩
  · have := DGet.k (k := .inr "count") h1
    rw [val_count] at this
    exact this
  · rw [put_count]
    exact d.nx ρ σ _ c.2 (r.after (ext_tick r.inv))
def dCount (i : Nat) : UV := fun ρ C => ρ[i]? = some .town ∧ ∀ c : Int, C (.int c)
theorem jd_count (S : Ok cp G N sc k X) (i : Nat) (hN : N[i]? = some x := by rfl) (hv : Vis sc x := by first | exact Or.inl rfl | exact Or.inr (Or.inl rfl) | exact Or.inr (Or.inr rfl)) (hd : (x == ("__debug__" : Str)) = false := by decide) (hcd : (x == ("__classdict__" : Str)) = false := by decide) :
    JD (tw T R Ts z) X (.Subscript (.Name x p4) (.Constant (.str "count") j2 p5) p6) (dCount i) := fun ρ C c H0 γ σ H r Q q => by
  refine wpE_of (pe_dget (un1 S) (pe_var (i := i) (by rw [S.eN]; exact hN) (by rw [S.es]; exact hv) hd hcd) pe_str (fun _ _ => rfl)) ?_
  have hT : σ[i]? = some (some (.ref T)) := r.sl i _ c.1
  obtain ⟨⟨n, c0, kvs, h1, h2, h3⟩, ht⟩ := r.inv
  refine ⟨_, hT, T, .int c0, rfl, ?_, q (.int c0) _ H (c.2 c0) .refl (.int _)⟩
  have := DGet.k (k := .inr "count") h1
  rw [val_count] at this
  exact this
theorem get_rests {H : Hp} {c : Int} (h1 : H T = some (.dK [(.inr "count", .int c), (.inr "rests", .ref R)])) : DGet H T (.str "rests") (some (.ref R)) := by
  have := DGet.k (k := .inr "rests") h1
  rw [val_rests] at this
  exact this
def dRest (i : Nat) (te tf : UV) : UV := fun ρ C => ρ[i]? = some .town ∧ te ρ fun d => ∃ n, d = .int n ∧ tf ρ fun d' => ∃ m, d' = .int m ∧ ∀ n : Int, C (.int n)
theorem jd_rest (S : Ok cp G N sc k X) (i : Nat) (he : JV (tw T R Ts z) X e tv) (hf : JV (tw T R Ts z) X f tw') (hN : N[i]? = some x := by rfl) (hv : Vis sc x := by first | exact Or.inl rfl | exact Or.inr (Or.inl rfl) | exact Or.inr (Or.inr rfl)) (hd : (x == ("__debug__" : Str)) = false := by decide) (hcd : (x == ("__classdict__" : Str)) = false := by decide)
    (m : M2 X (.Subscript (.Name x p4) (.Constant (.str "rests") j2 p5) p6) "get" p7 e f pos := by exact ⟨rfl, rfl, rfl, rfl⟩) :
    JD (tw T R Ts z) X (.Call (.Attribute (.Subscript (.Name x p4) (.Constant (.str "rests") j2 p5) p6) "get" p7) [e, f] [] pos) (dRest i tv tw') := fun ρ C c H0 γ σ H r Q q => by
  refine wpE_of (pe_dget2 (un1 S) (pe_dget (un1 S) (pe_var (i := i) (by rw [S.eN]; exact hN) (by rw [S.es]; exact hv) hd hcd) pe_str (fun _ _ => rfl)) pe_w pe_w m) ?_
  have hT : σ[i]? = some (some (.ref T)) := r.sl i _ c.1
  obtain ⟨⟨n, c0, kvs, h1, h2, h3⟩, ht⟩ := r.inv
  refine ⟨_, hT, T, .ref R, rfl, get_rests h1, R, rfl, .inl ⟨kvs, .inl h2⟩, he ρ _ c.2 H0 γ σ H r _ fun d v H2 c2 e2 b2 => ?_⟩
  obtain ⟨n2, rfl, c2⟩ := c2
  cases b2
  refine hf ρ _ c2 H0 γ σ H2 (r.after e2) _ fun d3 v3 H3 c3 e3 b3 => ?_
  obtain ⟨m3, rfl, c3⟩ := c3
  cases b3
  obtain ⟨⟨_, c1, kvs3, g1, g2, g3⟩, _⟩ := ((r.after e2).after e3).inv
  refine ⟨_, DGet.k (k := .inl n2) g2, ?_⟩
  cases hw : valV kvs3 (.inl n2) with
  | none => exact q _ _ H3 (c3 m3) (e2.trans e3) (.int _)
  | some w =>
    obtain ⟨n4, rfl⟩ := g3.get _ _ hw
    exact q _ _ H3 (c3 n4) (e2.trans e3) (.int _)
def sRest (i : Nat) (ti tv : UV) : US := fun E ρ => ρ[i]? = some .town ∧ tv ρ fun d => ∃ n, d = .int n ∧ ti ρ fun d => ∃ n, d = .int n ∧ 0 ≤ n ∧ n < 64 ∧ E.nx ρ
theorem js_rest (S : Ok cp G N sc k X) (i : Nat) (he : JV (tw T R Ts z) X e tv) (hf : JV (tw T R Ts z) X value tw') (hN : N[i]? = some x := by rfl) (hv : Vis sc x := by first | exact Or.inl rfl | exact Or.inr (Or.inl rfl) | exact Or.inr (Or.inr rfl)) (hd : (x == ("__debug__" : Str)) = false := by decide) (hcd : (x == ("__classdict__" : Str)) = false := by decide)
    (hsw : swapsWith value (some (.Subscript (.Subscript (.Name x p4) (.Constant (.str "rests") j2 p5) p6) e p3)) pos.line X.env = pure false := by rfl) :
    JS (tw T R Ts z) X (.Assign [.Subscript (.Subscript (.Name x p4) (.Constant (.str "rests") j2 p5) p6) e p3] value pos) (sRest i tv tw') := fun ρ E c H0 γ σ H r Dn d => by
  refine wpS_of (ps_dput (un1 S) (pe_dget (un1 S) (pe_var (i := i) (by rw [S.eN]; exact hN) (by rw [S.es]; exact hv) hd hcd) pe_str (fun _ _ => rfl)) pe_w pe_w hsw) ?_
  refine hf ρ _ c.2 H0 γ σ H r _ fun d1 v1 H2 c2 e2 b2 => ?_
  obtain ⟨n2, rfl, c2⟩ := c2
  cases b2
  have hT : σ[i]? = some (some (.ref T)) := r.sl i _ c.1
  obtain ⟨⟨n, c0, kvs, h1, h2, h3⟩, ht⟩ := (r.after e2).inv
  refine ⟨_, hT, T, .ref R, rfl, get_rests h1, he ρ _ c2 H0 γ σ H2 (r.after e2) _ fun d3 v3 H3 c3 e3 b3 => ?_⟩
  obtain ⟨m3, rfl, hm0, hm1, c3⟩ := c3
  cases b3
  have r3 := (r.after e2).after e3
  obtain ⟨⟨_, c1, kvs3, g1, g2, g3⟩, _⟩ := r3.inv
  obtain ⟨j, rfl⟩ : ∃ j : Nat, m3 = (j : Int) := ⟨m3.toNat, by omega⟩
  have gl := g3.len
  refine ⟨R, _, rfl, DPut.k (k := .inl (j : Int)) g2 (Nat.lt_of_le_of_lt gl (by decide)), d.nx ρ σ _ c3 (r3.after (ext_rest r3.inv (g3.put j n2 (by omega))))⟩
end
end Pu
namespace Pu
open PySem PySem.Spec PyProof.Rows L2
/-! ### the town is begun -/
def begunHp (H : Hp) (T R : Addr) : Hp := upd (upd (upd H T (.dK [])) R (.dK [])) T (.dK [(.inr "count", .int 0), (.inr "rests", .ref R)])
def spBegun : Sp := fun vs H Q _ => vs = [] ∧ ∀ T R, T ≠ R → H T = none → H R = none → Q (.ref T) (begunHp H T R)
section
variable {G : Gx}
theorem begun_ok {x : Str} {st : Stmt} {f : Addr} {fd : FuncData} {k : Nat} {p1 p2 p3 p4 p5 p6 : Pos} {j1 j2 j3 : Nat} (F : FunD G.K x x (defArgs st) (defBody st) (defScope st) [] [] f fd) (S : FnScope [] [] (defScope st))
    (hb : defBody st = [.Return (some (.Dict [some (.Constant (.str "count") j1 p1), some (.Constant (.str "rests") j2 p2)] [.Constant (.int 0) j3 p3, .Dict [] [] p4] p5)) p6]) : FnOk G.P G.w G.K G.mg G.base CX0 (k + 1) f fd [] spBegun := by
  refine F.ok S (fun vs H Q E h => by rw [h.1]; rfl) (fun cdv A outer s H vs Q E hr h => ⟨wpSs (cxOf CX0 G.P G.w G.K G.mg G.base [] x (defScope st) f cdv A outer s H E).nox (defBody st), PSs.nox pss_w, ?_⟩)
  rw [hb]
  refine wpSs_of (pss_one (ps_ret (pe_disp (pps_cons pe_str pe_int (pps_cons pe_str pe_dnewK pps_nil)) rfl rfl (by simp) (by simp)))) ?_
  · obtain ⟨rfl, h⟩ := h
    intro T hT R hR
    have hne : T ≠ R := fun z => by rw [← z, upd_same] at hR; cases hR
    have hR' : H R = none := by rw [upd_ne (Ne.symm hne)] at hR; exact hR
    refine ⟨by rw [upd_ne hne, upd_same], [(.inr "count", .int 0), (.inr "rests", .ref R)], rfl, by simp, ?_⟩
    have e : mergeK [] [((.inr "count" : Key), V.int 0), (.inr "rests", .ref R)] = [(.inr "count", .int 0), (.inr "rests", .ref R)] := by
      have h : ¬ ("count" : Str) = ("rests" : Str) := by decide
      simp [mergeK, putK, h]
    rw [e]
    exact h T R hne hT hR'
/-! ### the law's def -/
def spLaw (K : PySem.W.Frag) (Ts : List (Addr × Str)) : Sp := fun vs H Q _ => ∃ (a : Addr) (ns : List Int), vs = [.ref a] ∧ SqL K H a (ns.map V.int) ∧ ns.length ≤ 63 ∧ (∀ p ∈ Ts, H p.1 = some (.tbl #[])) ∧ ∀ H', Q (.bl true) H'
def scrD (ns : List Int) : D := .list (ns.map PyData.int)
def enLaw (N : List Str) (i : Nat) (ns : List Int) : En := (en0 N [.dat (scrD ns)]).set i .town
def edLaw : Ed := { nx := fun _ => False, rt := fun r => r = .dat (.bool true) }
theorem law_ok1 {Ts : List (Addr × Str)} {x : Str} {st : Stmt} {f fB : Addr} {fd fdB : FuncData} {N : List Str} {k j i : Nat} {t : US} {rest : List Stmt} {p1 p2 p3 pos : Pos} {xB xt : Str} (F : FunD G.K x x (defArgs st) (defBody st) (defScope st) [] [] f fd) (S : FnScope N ["script"] (defScope st))
    (hb : defBody st = .Assign [.Name xt p1] (.Call (.Name xB p2) [] [] p3) pos :: rest)
    (FB : FnOk G.P G.w G.K G.mg G.base CX0 j fB fdB [] spBegun) (gB : G.mg xB = some (.ref fB)) (kB : PySem.W.keepIn G.K (.ref fB) = true) (bB : Binds G.K fdB [] [])
    (h : ∀ T R X, Ok [] G N (defScope st) k X → AtC X fd.code (qOf x (defScope st)) → JSs (tw T R Ts fun _ => True) X rest t) (ht : ∀ ns : List Int, ns.length ≤ 63 → t edLaw (enLaw N i ns))
    (hj : j ≤ k) (hN : N[i]? = some xt) (hx : (defScope st).names.lookup xt = some .local) (hi : i ≠ 0) (hg : (defScope st).names.lookup xB = some .globalImplicit) (hdb : (xB == ("__debug__" : Str)) = false)
    (hs : ∀ env : Env, swapsWith (.Call (.Name xB p2) [] [] p3) (some (.Name xt p1)) pos.line env = pure false) : FnOk G.P G.w G.K G.mg G.base CX0 (k + 1) f fd ["script"] (spLaw G.K Ts) := by
  obtain ⟨oc, od, dV, kV, doc, pm, an, cdv, ct, osl, rfl, lk, hcd, _, _⟩ := F.ex
  refine fn_of lk hcd S (fun vs H Q E h => ?_) (fun A outer s H vs Q E hr h' => ⟨wpSs (cxOf CX0 G.P G.w G.K G.mg G.base N x (defScope st) f cdv A outer s H E).nox (defBody st), PSs.nox pss_w, ?_⟩)
  · obtain ⟨a, ns, rfl, _⟩ := h
    rfl
  · obtain ⟨a, ns, rfl, hS, hl, hTs, hq⟩ := h'
    have O : Ok [] G N (defScope st) k (cxOf CX0 G.P G.w G.K G.mg G.base N x (defScope st) f cdv A outer s H E).nox := ⟨rfl, rfl, rfl, rfl, rfl, rfl, S.nd, rfl, S.kind, rfl, hr, fun _ _ _ => rfl, PassesOwn.never⟩
    rw [hb]
    refine wpSs_of (pss_cons (ps_set (i := i) S.nd hN (Or.inl hx) (pe_call0 (CX := CX0) (k := j) (sp := spBegun) (E := E0) (dvs := []) (ds := []) FB (O.room.mono hj) hg gB kB bB .nil pass0 hdb) (hs _) (Or.inr hx)) pss_w) ?_
    refine ⟨rfl, fun T R hne hT hR => ?_⟩
    have hT' : begunHp H T R T = some (.dK [(.inr "count", .int 0), (.inr "rests", .ref R)]) := upd_same
    have hR' : begunHp H T R R = some (.dK []) := by
      unfold begunHp
      rw [upd_ne (Ne.symm hne), upd_same]
    have hkp : ∀ b o, H b = some o → begunHp H T R b = some o := fun b o e => by
      unfold begunHp
      rw [upd_ne (ne_of_none e hT), upd_ne (ne_of_none e hR), upd_ne (ne_of_none e hT)]
      exact e
    have hinv : (tw T R Ts fun _ => True).inv (begunHp H T R) := ⟨⟨hne, 0, [], hT', hR', List.nodup_nil, fun p hp => by cases hp⟩, fun p hp => LamX.TabS.nil (hkp _ _ (hTs p hp))⟩
    have hdp : Dp G.K (res (begunHp H T R) (tw T R Ts fun _ => True).ad) (.ref a) (scrD ns) := by
      refine .lst ?_ (dp_ints ns)
      have : SqL G.K H a (ns.map V.int) := hS
      rcases this with (e | ⟨o, e⟩) | e
      · exact .inl (.inl (res_put (fun z => by
        rcases z with z | z | ⟨p, hp, z⟩ <;> rw [z] at e
        · simp_all
        · simp_all
        · rw [hTs p hp] at e; cases e) (hkp _ _ e)))
      · exact .inl (.inr ⟨o, res_put (fun z => by
        rcases z with z | z | ⟨p, hp, z⟩ <;> rw [z] at e
        · simp_all
        · simp_all
        · rw [hTs p hp] at e; cases e) (hkp _ _ e)⟩)
      · exact .inr e
    have hNl : i < N.length := (List.getElem?_eq_some_iff.mp hN).1
    have rep0 : Rep G.K (tw T R Ts fun _ => True) (begunHp H T R) [] (begunHp H T R) (L2.start N [.ref a]) (en0 N [.dat (scrD ns)]) := rep_start trivial hinv (.cons hdp .nil)
    have rep : Rep G.K (tw T R Ts fun _ => True) (begunHp H T R) [] (begunHp H T R) ((L2.start N [.ref a]).set i (some (.ref T))) (enLaw N i ns) := by
      have hown : ∀ b, own (tw T R Ts fun _ => True) ((L2.start N [.ref a]).set i (some (.ref T))) (enLaw N i ns) b → (tw T R Ts fun _ => True).ad b := fun b z => by
        rcases z with z | ⟨j, u, h1, h2, _⟩
        · exact z
        · by_cases e : i = j
          · subst e
            rw [(set_here h1).1] at h2; cases h2
          · rw [en0_own (set_other e h1)] at h2; cases h2
      refine ⟨by unfold enLaw; simp [rep0.len], fun _ _ e _ => e, hinv, fun j u hu => ?_, fun j l u w b h1 h2 h3 => ?_, (fun p hp => by cases hp), trivial⟩
      · by_cases e : i = j
        · subst e
          obtain ⟨rfl, hi2⟩ := set_here hu
          show ((L2.start N [.ref a]).set i (some (.ref T)))[i]? = some (some (V.ref T))
          exact List.getElem?_set_self (by rw [rep0.len]; exact hi2)
        · rw [List.getElem?_set_ne e]
          refine SlOk.mono (res_mono fun b o n q => ⟨fun z => n (own_ad (hown b z)), q⟩) (fun _ _ _ _ _ q => q) (rep0.sl j u (set_other e hu))
      · by_cases e : i = j
        · subst e
          rw [(set_here h1).1] at h3; cases h3
        · rw [en0_own (set_other e h1)] at h3; cases h3
    refine h T R _ O ⟨rfl, rfl⟩ _ _ (ht ns hl) _ [] _ _ rep _ ⟨fun ρ σ H' c r => c.elim, fun ρ σ H' c r => c.elim, fun ρ σ H' c r => c.elim, fun r v H' c e i z => ?_⟩
    subst c
    have z : Dp G.K (res H' (tw T R Ts fun _ => True).ad) v (.bool true) := z
    cases z
    exact hq H'
/-! ### keyword-only parameters, no other defaults -/
end
section
variable {K : PySem.W.Frag} {x qual : Str} {params : Arguments} {body : List Stmt} {scope : Scope} {kws : List (Str × V)} {f : Addr} {fd : FuncData} {ps : List Str}
theorem kbinds0 (F : FunD K x qual params body scope [] kws f fd) (n : Nat) (ks : List Str) (ms : List (Str × V)) (g : {α : Type} → List α → List α → List α → List α) (hk : kws ≠ []) (hms : ∀ q ∈ ms, q ∈ kws)
    (hrel : ∀ {vs mz zs : List V} {us mv ws : List Value}, Vals vs us → Vals mz mv → Vals zs ws → Vals (g vs mz zs) (g us mv ws))
    (h : ∀ (D : Addr) (doc pm : Value) (an : Option Addr) (cdv ct : Value) (us mv ws : List Value), us.length = n → mv.length = ms.length → ws.length = ks.length →
      KwChain D ((ms.map (·.1)).zip mv) (bindArgs (PySem.W.fnOf x qual params body scope .none (.ref D) doc pm an cdv ct) ⟨us, ks.zip ws⟩) (ps.zip (g us mv ws))) :
    ∃ mv : List Value, KBn K fd ps n ks (fun us ws => g us mv ws) (fun vs zs => g vs (ms.map (·.2)) zs) := by
  obtain ⟨oc, od, dV, kV, doc, pm, an, cdv, ct, osl, rfl, lk, hcd, hD, hK⟩ := F.ex
  rcases hD with ⟨_, rfl⟩ | ⟨e, _⟩
  · rcases hK with e | ⟨D, rfl, hq⟩
    · exact absurd e hk
    · obtain ⟨mv, hl, rk, hks⟩ := kwd_vals (ms := ms) fun q hm => hq q (hms q hm)
      refine ⟨mv, ⟨fun s us ws X l1 l2 => ?_, fun r1 r2 => hrel r1 rk r2⟩⟩
      exact BindsTo.of_looks fun M => KwChain.looks X hks (h D doc pm an cdv ct us mv ws l1 hl l2)
  · exact absurd rfl e
/-- the lacking keyword-only ones are None all -/
theorem fnK_of {G : Gx} {τ : Tn} {st : Stmt} {j : Nat} {S : Sf} {n : Nat} {ks : List Str} (F : Dn G x st [] kws f fd) (ho : FnOk G.P G.w G.K G.mg G.base CX0 j f fd ps (spD G τ S)) (ms : List (Str × V)) (g : {α : Type} → List α → List α → List α → List α) (hk : kws ≠ []) (hms : ∀ q ∈ ms, q ∈ kws)
    (hnone : ms.map (·.2) = List.replicate ms.length .non)
    (hrel : ∀ {α β : Type} {Rr : α → β → Prop} {vs mz zs : List α} {us mv ws : List β}, Paired Rr vs us → Paired Rr mz mv → Paired Rr zs ws → Paired Rr (g vs mz zs) (g us mv ws))
    (h : ∀ (D : Addr) (doc pm : Value) (an : Option Addr) (cdv ct : Value) (us mv ws : List Value), us.length = n → mv.length = ms.length → ws.length = ks.length →
      KwChain D ((ms.map (·.1)).zip mv) (bindArgs (PySem.W.fnOf x x (defArgs st) (defBody st) (defScope st) .none (.ref D) doc pm an cdv ct) ⟨us, ks.zip ws⟩) (ps.zip (g us mv ws))) :
    FnK G τ j x ps S n ks (fun as bs => g as (List.replicate ms.length (.dat .none)) bs) := by
  obtain ⟨mv, hb⟩ := kbinds0 F.fn n ks ms g hk hms hrel h
  refine ⟨⟨f, fd, _, _, ho, F.gl, F.fn.kp, hb, fun K H vs zs as bs h1 h2 => hrel h1 ?_ h2⟩⟩
  rw [hnone]
  generalize ms.length = m
  induction m with
  | zero => exact .nil
  | succ m ih => exact .cons .non ih
/-- plain parameters written with their names -/
theorem fnP_of {G : Gx} {τ : Tn} {st : Stmt} {j : Nat} {S : Sf} {n : Nat} {ks : List Str} (F : Dn G x st [] kws f fd) (ho : FnOk G.P G.w G.K G.mg G.base CX0 j f fd ps (spD G τ S)) (g : {α : Type} → List α → List α → List α → List α)
    (hrel : ∀ {α β : Type} {Rr : α → β → Prop} {vs mz zs : List α} {us mv ws : List β}, Paired Rr vs us → Paired Rr mz mv → Paired Rr zs ws → Paired Rr (g vs mz zs) (g us mv ws))
    (h : ∀ (kV doc pm : Value) (an : Option Addr) (cdv ct : Value) (us ws : List Value), us.length = n → ws.length = ks.length →
      bindArgs (PySem.W.fnOf x x (defArgs st) (defBody st) (defScope st) .none kV doc pm an cdv ct) ⟨us, ks.zip ws⟩ = pure (ps.zip (g us [] ws))) :
    FnK G τ j x ps S n ks (fun as bs => g as (List.replicate 0 (.dat .none)) bs) := by
  have hb : KBn G.K fd ps n ks (fun us ws => g us [] ws) (fun vs zs => g vs [] zs) := by
    obtain ⟨oc, od, dV, kV, doc, pm, an, cdv, ct, osl, rfl, lk, hcd, hD, hK⟩ := F.fn.ex
    rcases hD with ⟨_, rfl⟩ | ⟨e, _⟩
    · exact ⟨fun s us ws X l1 l2 => .of_eq (h kV doc pm an cdv ct us ws l1 l2), fun r1 r2 => hrel r1 .nil r2⟩
    · exact absurd rfl e
  exact ⟨⟨f, fd, _, _, ho, F.gl, F.fn.kp, hb, fun K H vs zs as bs h1 h2 => hrel h1 .nil h2⟩⟩
end
end Pu
namespace Pu
open PySem PySem.Spec PyProof.Rows L2
/-! ### constants of the module -/
mutual
def conB (K : PySem.W.Frag) (u : Value) : D → Bool
  | .none => He.relB .non u
  | .bool b => He.relB (.bl b) u
  | .int i => He.relB (.int i) u
  | .str x => He.relB (.str x) u
  | .list _ => false
  | .dict _ => false
  | .tuple ds => match u with
    | .ref a => (match K.lookup a with
      | some ⟨.type c, _, .seq its _, _⟩ => decide (c = "tuple") && (decide (its.size ≤ sizeLine) && conBs K its.toList ds)
      | _ => false)
    | _ => false
def conBs (K : PySem.W.Frag) (us : List Value) : List D → Bool
  | [] => us.isEmpty
  | d :: ds => match us with
    | u :: us => conB K u d && conBs K us ds
    | [] => false
end
mutual
theorem conB_ok {K : PySem.W.Frag} : ∀ (d : D) (u : Value), conB K u d = true → ∃ v, RelV v u ∧ ∀ H : Hp, Dp K H v d
  | .none, u, h => ⟨.non, He.relB_ok (by simpa [conB] using h), fun _ => .non⟩
  | .bool b, u, h => ⟨.bl b, He.relB_ok (by simpa [conB] using h), fun _ => .bl b⟩
  | .int i, u, h => ⟨.int i, He.relB_ok (by simpa [conB] using h), fun _ => .int i⟩
  | .str x, u, h => ⟨.str x, He.relB_ok (by simpa [conB] using h), fun _ => .str x⟩
  | .list _, u, h => by simp [conB] at h
  | .dict _, u, h => by simp [conB] at h
  | .tuple ds, u, h => by
    cases u with
    | ref a =>
      simp only [conB] at h
      cases q : K.lookup a with
      | none => rw [q] at h; cases h
      | some o =>
        obtain ⟨oc, od, dt, osl⟩ := o
        rw [q] at h
        cases oc with
        | type c =>
          cases dt with
          | seq its n =>
            obtain ⟨h1, h2⟩ := He.ba (show (decide (c = "tuple") && (decide (its.size ≤ sizeLine) && conBs K its.toList ds)) = true from h)
            obtain ⟨h3, h4⟩ := He.ba h2
            obtain ⟨vs, h5, h6⟩ := conBs_ok ds its.toList h4
            exact ⟨.ref a, rfl, fun H => .tup (.inr ⟨_, its, n, q, congrArg Value.type (of_decide_eq_true h1), rfl, of_decide_eq_true h3, h5⟩) (h6 H)⟩
          | _ => cases h
        | _ => cases dt <;> cases h
    | _ => simp [conB] at h
theorem conBs_ok {K : PySem.W.Frag} : ∀ (ds : List D) (us : List Value), conBs K us ds = true → ∃ vs, Vals vs us ∧ ∀ H : Hp, DpAll K H vs ds
  | [], us, h => by
    cases us with
    | nil => exact ⟨[], .nil, fun _ => .nil⟩
    | cons _ _ => simp [conBs] at h
  | d :: ds, us, h => by
    cases us with
    | nil => simp [conBs] at h
    | cons u us =>
      simp only [conBs, Bool.and_eq_true] at h
      obtain ⟨v, h1, h2⟩ := conB_ok d u h.1
      obtain ⟨vs, h3, h4⟩ := conBs_ok ds us h.2
      exact ⟨v :: vs, .cons h1 h3, fun H => .cons (h2 H) (h4 H)⟩
end
/-- the written part's tuples are plain -/
def PlK (K : PySem.W.Frag) : Prop := ∀ a o, K.lookup a = some o → o.cls = .type "tuple" → o.dict = none
def plB (K : PySem.W.Frag) : Bool := K.all fun p => decide (p.2.cls = .type "tuple" → p.2.dict = none)
theorem plB_ok {K : PySem.W.Frag} (h : plB K = true) : PlK K := fun a o e => by
  have hm : (a, o) ∈ K := by
    unfold plB at h
    clear h
    induction K with
    | nil => cases e
    | cons p r ih =>
      obtain ⟨b, u⟩ := p
      rw [List.lookup_cons] at e
      split at e
      · rename_i hb
        cases e
        rw [beq_iff_eq.mp hb]
        exact List.mem_cons_self ..
      · exact List.mem_cons_of_mem _ (ih e)
  exact of_decide_eq_true (List.all_eq_true.mp h (a, o) hm)
/-- a constant; by the name without signs: all tuples are plain -/
def kinds6 : List Str := ["NoPerson", "NoLength", "NoRow", "Torn", "NoEdition", "NoZone"]
/-- the class x is told as itself, by isinstance with each of the kinds -/
def toldB1 (K : PySem.W.Frag) (x : Str) : Bool := ((He.eqO (PySem.W.findIn K (.ref (He.ga K x)) "__getattribute__") (some (some (.builtin "BaseException.__getattribute__"))) && (He.eqO (PySem.W.findIn K (.ref (He.ga K x)) "__getattr__") (some none) && (decide (PySem.W.subIn K (.ref (He.ga K x)) (.type "BaseException") = some true) && (PySem.W.hasDictIn K (He.ga K x) && (He.eqO (PySem.W.findIn K (.ref (He.ga K x)) "__class__") (some (some (.builtin "object.__class__"))) &&
  (He.eqO (PySem.W.specialIn K (.builtin "object.__class__") "__get__") (some (some (.builtin "getset_descriptor.__get__"))) && (decide (PySem.W.takesIn K (.builtin "object.__class__") = some true) && decide (PySem.W.mroIn K (He.ga K x) (.type "object") = some true)))))))) &&
  (decide (PySem.W.exmOne K (.ref (He.ga K x)) (.ref (He.ga K "TimeError")) = some true) && (decide (PySem.W.kitOne K (.ref (He.ga K x)) (.type "ValueError") = some true) && (He.eqO (PySem.W.nsIn K mainGlobals x) (some (some (.ref (He.ga K x)))) && kinds6.all fun y => decide (PySem.W.kitOne K (.ref (He.ga K x)) (.ref (He.ga K y)) = some (y == x))))))
def toldB (K : PySem.W.Frag) : Bool := He.eqO (PySem.W.nsIn K mainGlobals "TimeError") (some (some (.ref (He.ga K "TimeError")))) && kinds6.all (toldB1 K)
def conG (K : PySem.W.Frag) (c : Str × D) : Bool := if c.1 = "" then plB K else if c.1 = "!" then toldB K else match PySem.W.nsIn K mainGlobals c.1 with
  | some (some u) => conB K u c.2
  | _ => false
theorem conG_pl {K : PySem.W.Frag} {d : D} (c : conG K ("", d) = true) : PlK K := plB_ok c
theorem conG_ok {G : Gx} {h : Heap} (X : G.K.In h) (N : h.Ns mainGlobals G.mg) {x : Str} {d : D} (c : conG G.K (x, d) = true) (hx : x ≠ "" := by decide) (hx2 : x ≠ "!" := by decide) : GC G x d := by
  unfold conG at c
  rw [if_neg hx, if_neg hx2] at c
  simp only at c
  cases e : PySem.W.nsIn G.K mainGlobals x with
  | none => rw [e] at c; cases c
  | some o =>
    rw [e] at c
    cases o with
    | none => cases c
    | some u =>
      obtain ⟨v, h1, h2⟩ := conB_ok d u c
      exact ⟨v, u, PySem.W.mg_of X N e, h1, h2⟩
/-! ### the Hook -/
def obsP (fa : List He.Fa) (fn : List He.DefD) (cs : List (Str × D)) (K : PySem.W.Frag) : He.AlD := ((fa.all fun f => f.ok K) && ((fn.all fun d => d.ok K) && cs.all (conG K)), fn.map fun d => He.fnW K d.at_)
def SaysP (fa : List He.Fa) (fn : List He.DefD) (cs : List (Str × D)) (K : PySem.W.Frag) : Prop := obsP fa fn cs K = He.valD fn
def obsPG (n : Nat) (fa : List He.Fa) (fn : List He.DefD) (cs : List (Str × D)) (g : Addr → Option Obj) : He.AlD := obsP fa fn cs (He.frG g (He.asD g n))
def hookP (n : Nat) (fa : List He.Fa) (fn : List He.DefD) (cs : List (Str × D)) : PySem.W.Hook where
  α := He.AlD
  obs := fun s => obsPG n fa fn cs s.heap.get?
  val := fun _ => He.valD fn
  says := fun _ h => ∃ K : PySem.W.Frag, K.In h ∧ SaysP fa fn cs K
  of := fun _ _ e => ⟨_, He.frG_in, e⟩
  keeps := fun _ _ _ ⟨K, hK, c⟩ k => ⟨K, PySem.W.Frag.In.keeps hK k, c⟩
theorem obsPG_eq {n : Nat} {fa : List He.Fa} {fn : List He.DefD} {cs : List (Str × D)} {g : Addr → Option Obj} {s : Shared} (h : ∀ a, g a = s.heap.get? a) : obsPG n fa fn cs g = (hookP n fa fn cs).obs s := by
  have e : g = s.heap.get? := funext h
  rw [e] <;> rfl
section
variable {fa : List He.Fa} {fn : List He.DefD} {cs : List (Str × D)} {K : PySem.W.Frag}
theorem SaysP.all (c : SaysP fa fn cs K) : (fa.all fun f => f.ok K) = true ∧ (fn.all fun d => d.ok K) = true ∧ cs.all (conG K) = true := by
  obtain ⟨c1, c2⟩ := He.ba (show ((fa.all fun f => f.ok K) && ((fn.all fun d => d.ok K) && cs.all (conG K))) = true from congrArg (fun z : He.AlD => z.1) c)
  obtain ⟨c3, c4⟩ := He.ba c2
  exact ⟨c1, c3, c4⟩
theorem SaysP.fact (c : SaysP fa fn cs K) (i : Nat) {f : He.Fa} (h : fa[i]? = some f := by rfl) : f.ok K = true := List.all_eq_true.mp c.all.1 f (List.mem_of_getElem? h)
theorem SaysP.con (c : SaysP fa fn cs K) (i : Nat) {f : Str × D} (h : cs[i]? = some f := by rfl) : conG K f = true := List.all_eq_true.mp c.all.2.2 f (List.mem_of_getElem? h)
theorem SaysP.def_ (c : SaysP fa fn cs K) (i : Nat) {d : He.DefD} (h : fn[i]? = some d := by rfl) : ∃ fd, FunD K d.name d.qual d.params d.body d.scope (d.dvs K) (d.kws K) (He.fAd K d.at_) fd := by
  have e : fn.map (fun d => He.fnW K d.at_) = fn.map He.DefD.val := congrArg (fun z : He.AlD => z.2) c
  have e2 : (fn.map fun d => He.fnW K d.at_)[i]? = (fn.map He.DefD.val)[i]? := by rw [e]
  rw [List.getElem?_map, List.getElem?_map, h] at e2
  exact He.DefD.funD (Option.some.inj e2) (List.all_eq_true.mp c.all.2.1 d (List.mem_of_getElem? h))
end
end Pu
namespace Pu
open PySem PySem.Spec PyProof.Rows L2
theorem paired_app {α β : Type} {R : α → β → Prop} : ∀ {a c : List α} {b d : List β}, Paired R a b → Paired R c d → Paired R (a ++ c) (b ++ d)
  | _, _, _, _, .nil, h => h
  | _, _, _, _, .cons h t, h2 => .cons h (paired_app t h2)
theorem paired_drop {α β : Type} {R : α → β → Prop} : ∀ (n : Nat) {a : List α} {b : List β}, Paired R a b → Paired R (a.drop n) (b.drop n)
  | 0, _, _, h => h
  | n + 1, _, _, .nil => .nil
  | n + 1, _, _, .cons h t => paired_drop n t
theorem paired_take {α β : Type} {R : α → β → Prop} : ∀ (n : Nat) {a : List α} {b : List β}, Paired R a b → Paired R (a.take n) (b.take n)
  | 0, _, _, _ => .nil
  | n + 1, _, _, .nil => .nil
  | n + 1, _, _, .cons h t => .cons h (paired_take n t)
end Pu
namespace Pu
open PySem PySem.Spec PyProof.Rows L2
section
variable {C : D → Prop} {B : Bool → Prop} {R : Rs → Prop} {i j : Int} {x y : Str} {xs ys ds es : List D} {a b : Bool} {d e : D} {ρ : En}
def ixC {α : Type} : Option α → (α → Prop) → Prop
  | some d, C => C d
  | none, _ => False
theorem ixC_some {α : Type} {d : α} {C : α → Prop} : ixC (some d) C = C d := rfl
theorem ixC_none {α : Type} {C : α → Prop} : ixC none C = False := rfl
theorem ixC_iff {α : Type} {o : Option α} {C : α → Prop} : ixC o C ↔ ∃ d, o = some d ∧ C d := by
  cases o <;> simp [ixC]
theorem q_add_i : fAdd (.int i) (.int j) C = C (.int (i + j)) := rfl
theorem q_add_s : fAdd (.str x) (.str y) C = (x.length + y.length ≤ 1000000 ∧ C (.str (x ++ y))) := rfl
theorem q_add_t : fAdd (.tuple xs) (.tuple ys) C = (xs.length + ys.length ≤ 1000000 ∧ C (.tuple (xs ++ ys))) := rfl
theorem q_add_l : fAdd (.list xs) (.list ys) C = (xs.length + ys.length ≤ 1000000 ∧ C (.list (xs ++ ys))) := rfl
theorem q_sub : fSub (.int i) (.int j) C = C (.int (i - j)) := rfl
theorem q_int {P : Int → Int → Prop} {f : Int → Int → Int} : fInt P f (.int i) (.int j) C = (P i j ∧ C (.int (f i j))) := rfl
theorem q_i0 {f : Int → Int → Int} : fI0 f (.int i) (.int j) C = C (.int (f i j)) := rfl
theorem q_neg : fNeg (.int i) C = C (.int (-i)) := rfl
theorem q_ord {f : Int → Int → Bool} : fOrd f (.int i) (.int j) B = B (f i j) := rfl
theorem q_lt_i : fLt (.int i) (.int j) B = B (decide (i < j)) := rfl
theorem q_lt_s : fLt (.str x) (.str y) B = B (decide (x.cps.toList < y.cps.toList)) := rfl
theorem q_lt_t : fLt (.tuple xs) (.tuple ys) B ↔ ixC (intsOf xs) fun ns => ixC (intsOf ys) fun ms => B (HT.lexLt ns ms) := by
  simp only [ixC_iff]
  constructor
  · rintro ⟨ns, ms, h1, h2, h3⟩
    exact ⟨ns, h1, ms, h2, h3⟩
  · rintro ⟨ns, h1, ms, h2, h3⟩
    exact ⟨ns, ms, h1, h2, h3⟩
theorem q_gt_i : fGtU (.int i) (.int j) B = B (decide (j < i)) := rfl
theorem q_gt_t : fGtU (.tuple xs) (.tuple ys) B ↔ ixC (intsOf xs) fun ns => ixC (intsOf ys) fun ms => B (HT.lexLt ms ns) := by
  simp only [ixC_iff]
  constructor
  · rintro ⟨ns, ms, h1, h2, h3⟩
    exact ⟨ns, h1, ms, h2, h3⟩
  · rintro ⟨ns, h1, ms, h2, h3⟩
    exact ⟨ns, ms, h1, h2, h3⟩
theorem q_ix_t : fIx (.tuple ds) (.int i) C ↔ ixC (atI ds i) C := by rw [ixC_iff]; rfl
theorem q_ix_l : fIx (.list ds) (.int i) C ↔ ixC (atI ds i) C := by rw [ixC_iff]; rfl
theorem q_eq : fEq a d e B = (sh 32 d = true ∧ sh 32 e = true ∧ B (if a then !PyData.eqv d e else PyData.eqv d e)) := rfl
theorem q_is_nn : fIs a .none .none B = B (!a) := rfl
theorem q_is_in : fIs a (.int i) .none B = B a := rfl
theorem q_is_sn : fIs a (.str x) .none B = B a := rfl
theorem q_is_ln : fIs a (.list ds) .none B = B a := rfl
theorem q_is_tn : fIs a (.tuple ds) .none B = B a := rfl
theorem q_is_bn : fIs a (.bool b) .none B = B a := rfl
theorem q_is_bb {c : Bool} : fIs a (.bool b) (.bool c) B = B (if a then !decide (b = c) else decide (b = c)) := rfl
theorem q_in_t : fIn a d (.tuple ds) B = ((flatD d = true ∧ ds.all flatD = true ∨ sh 32 d = true ∧ shAll 31 ds = true) ∧ B (if a then !ds.any (fun y => PyData.eqv y d) else ds.any fun y => PyData.eqv y d)) := by unfold fIn; rfl
theorem q_in_s {x z : Str} : fIn a (.str x) (.str z) B = ∃ c, x = ⟨#[c]⟩ ∧ B (if a then !decide (c ∈ z.cps.toList) else decide (c ∈ z.cps.toList)) := by unfold fIn; rfl
theorem q_in_l : fIn a d (.list ds) B = ((flatD d = true ∧ ds.all flatD = true ∨ sh 32 d = true ∧ shAll 31 ds = true) ∧ B (if a then !ds.any (fun y => PyData.eqv y d) else ds.any fun y => PyData.eqv y d)) := by unfold fIn; rfl
theorem q_bk : fBoolK (.bool a) B = B a := rfl
theorem q_cut_l {l h : Option Int} : fCut (.list ds) l h R = R (.lst (cut ds l h)) := rfl
theorem q_cut_t {l h : Option Int} : fCut (.tuple ds) l h R = R (.dat (.tuple (cut ds l h))) := rfl
theorem q_cut_s {l h : Option Int} : fCut (.str x) l h R = (x.length ≤ 1000000 ∧ R (.dat (.str (cutS x l h)))) := rfl
theorem q_osome {t : UV} {O : Option Int → Prop} : oSome t ρ O = t ρ fun d => ∃ i, d = .int i ∧ O (some i) := rfl
theorem q_len_l : fLen [.list ds] R = R (.dat (.int ds.length)) := rfl
theorem q_len_t : fLen [.tuple ds] R = R (.dat (.int ds.length)) := rfl
theorem q_len_s : fLen [.str x] R = (x.length ≤ 1000000 ∧ R (.dat (.int x.length))) := rfl
theorem q_i1 {g : Int → Int} : fI1 g [.int i] R = R (.dat (.int (g i))) := rfl
theorem q_i2 {g : Int → Int → Int} : fI2 g [.int i, .int j] R = R (.dat (.int (g i j))) := rfl
theorem q_tup_l : fTuple [.list ds] R = R (.dat (.tuple ds)) := rfl
theorem q_tup_t : fTuple [.tuple ds] R = R (.dat (.tuple ds)) := rfl
theorem q_list_l : fList [.list ds] R = R (.lst ds) := rfl
theorem q_list_t : fList [.tuple ds] R = R (.lst ds) := rfl
theorem q_divmod : fDivmod [.int i, .int j] R = (CDiv i j ∧ R (.dat (.tuple [.int (i / j), .int (i % j)]))) := rfl
theorem q_int1_i : fInt1 [.int i] R = R (.dat (.int i)) := rfl
theorem q_int1_b : fInt1 [.bool a] R = R (.dat (.int (if a then 1 else 0))) := rfl
theorem q_sum_l : fSum [.list ds] R ↔ ixC (intsOf ds) fun ns => R (.dat (.int ns.sum)) := by rw [ixC_iff]; rfl
theorem q_sum_t : fSum [.tuple ds] R ↔ ixC (intsOf ds) fun ns => R (.dat (.int ns.sum)) := by rw [ixC_iff]; rfl
theorem q_all {g : List Bool → Bool} : fAllB g [.list ds] R ↔ ixC (boolsOf ds) fun bs => R (.dat (.bool (g bs))) := by rw [ixC_iff]; rfl
theorem q_min_t : fMinL [.tuple ds] R ↔ ixC (intsOf ds) fun ns => 0 < ns.length ∧ ∀ m, m ∈ ns → (∀ y, y ∈ ns → m ≤ y) → R (.dat (.int m)) := by rw [ixC_iff]; rfl
theorem q_min_l : fMinL [.list ds] R ↔ ixC (intsOf ds) fun ns => 0 < ns.length ∧ ∀ m, m ∈ ns → (∀ y, y ∈ ns → m ≤ y) → R (.dat (.int m)) := by rw [ixC_iff]; rfl
theorem q_max_t : fMaxL [.tuple ds] R ↔ ixC (intsOf ds) fun ns => 0 < ns.length ∧ ∀ m, m ∈ ns → (∀ y, y ∈ ns → y ≤ m) → R (.dat (.int m)) := by rw [ixC_iff]; rfl
theorem q_max_l : fMaxL [.list ds] R ↔ ixC (intsOf ds) fun ns => 0 < ns.length ∧ ∀ m, m ∈ ns → (∀ y, y ∈ ns → y ≤ m) → R (.dat (.int m)) := by rw [ixC_iff]; rfl
theorem q_lf_d : (Rs.dat d).lf = lf d := rfl
theorem q_lf_l : (Rs.lst ds).lf = lfAll ds := rfl
theorem q_sl_d : (Rs.dat d).sl = .dat d := rfl
theorem q_sl_l : (Rs.lst ds).sl = .lst ds := rfl
theorem q_cold_d : (Rs.dat d).cold C = C d := rfl
theorem q_cold_l : (Rs.lst ds).cold C = C (.list ds) := rfl
theorem q_seq_l {L : List D → Prop} : fSeq (.list ds) L = L ds := rfl
theorem q_seq0_l {L : List D → Prop} : fSeq0 (.list ds) L = L ds := rfl
theorem q_seq0_t {L : List D → Prop} : fSeq0 (.tuple ds) L = L ds := rfl
theorem q_seq_s {x : Str} {L : List D → Prop} : fSeq (.str x) L = (x.cps.size ≤ 1000000 ∧ L (signsD x)) := rfl
theorem q_seq_t {L : List D → Prop} : fSeq (.tuple ds) L = L ds := rfl
theorem q_zip_l {L : List D → Prop} : fZip (.list xs) (.list ys) L = L (zipD xs ys) := rfl
theorem q_zip_m {L : List D → Prop} : fZip (.list xs) (.tuple ys) L = L (zipD xs ys) := rfl
theorem q_zip_n {L : List D → Prop} : fZip (.tuple xs) (.list ys) L = L (zipD xs ys) := rfl
theorem q_zip_t {L : List D → Prop} : fZip (.tuple xs) (.tuple ys) L = L (zipD xs ys) := rfl
theorem q_tru_b : fTru (.bool a) B = B a := rfl
theorem q_tru_i : fTru (.int i) B = B (i != 0) := rfl
theorem q_tru_l : fTru (.list ds) B = B (!ds.isEmpty) := rfl
theorem q_tru_t : fTru (.tuple ds) B = B (!ds.isEmpty) := rfl
def vSl : Option Sl → (D → Prop) → Prop
  | some (.dat d), C => C d
  | some (.lst ds), C => C (.list ds)
  | _, _ => False
def dSl : Option Sl → (D → Prop) → Prop
  | some (.dat d), C => C d
  | _, _ => False
theorem q_vVar {n : Nat} : vVar n ρ C = vSl ρ[n]? C := by
  unfold vVar
  cases ρ[n]? with
  | none => rfl
  | some s => cases s <;> rfl
theorem q_dVar {n : Nat} : dVar n ρ C = dSl ρ[n]? C := by
  unfold dVar
  cases ρ[n]? with
  | none => rfl
  | some s => cases s <;> rfl
theorem vSl_d : vSl (some (.dat d)) C = C d := rfl
theorem vSl_l : vSl (some (.lst ds)) C = C (.list ds) := rfl
theorem dSl_d : dSl (some (.dat d)) C = C d := rfl
def rSl : Option Sl → (Rs → Prop) → Prop
  | some (.dat d), C => C (.dat d)
  | some (.lst ds), C => C (.lst ds)
  | some (.dic ds), C => C (.dic ds)
  | some (.th x), C => C (.th x)
  | _, _ => False
theorem q_retV {n : Nat} {E : Ed} : sRetV n E ρ = rSl ρ[n]? E.rt := by
  unfold sRetV
  cases ρ[n]? with
  | none => rfl
  | some s => cases s <;> rfl
theorem rSl_d : rSl (some (.dat d)) R = R (.dat d) := rfl
theorem rSl_l : rSl (some (.lst ds)) R = R (.lst ds) := rfl
def aSl : Option Sl → (D → Prop) → Prop
  | some (.dat d), C => C d
  | _, _ => False
theorem q_aug {n : Nat} {E : Ed} {f : D → D → (D → Prop) → Prop} {tv : UV} : sAug n f tv E ρ = aSl ρ[n]? fun x => tv ρ fun y => f x y fun z => E.nx (ρ.set n (.dat z)) := by
  unfold sAug
  cases ρ[n]? with
  | none => rfl
  | some s => cases s <;> rfl
theorem aSl_d : aSl (some (.dat d)) C = C d := rfl
def lSl : Option Sl → (List D → Prop) → Prop
  | some (.lst ds), C => C ds
  | _, _ => False
theorem lSl_l {L : List D → Prop} : lSl (some (.lst ds)) L = L ds := rfl
theorem q_append {n : Nat} {E : Ed} {tv : UV} : sAppend n tv E ρ = lSl ρ[n]? fun ds => tv ρ fun d => ds.length ≤ 1000000 ∧ E.nx (ρ.set n (.lst (ds ++ [d]))) := by
  unfold sAppend
  cases ρ[n]? with
  | none => rfl
  | some s => cases s <;> rfl
theorem q_pop {n : Nat} {E : Ed} {g : UG} : sPop n g E ρ = lSl ρ[n]? fun ds => ∃ d, ds[ds.length - 1]? = some d ∧ g d (ρ.set n (.lst ds.dropLast)) E.nx := by
  unfold sPop
  cases ρ[n]? with
  | none => rfl
  | some s => cases s <;> rfl
theorem q_own_nil : noOwn ρ [] = True := by simp [noOwn]
def ownN : Option Sl → Prop
  | some s => s.isOwn = false
  | none => True
theorem ownN_un : ownN (some .un) = True := by simp [ownN, Sl.isOwn]
theorem ownN_dat : ownN (some (.dat d)) = True := by simp [ownN, Sl.isOwn]
theorem ownN_town : ownN (some .town) = True := by simp [ownN, Sl.isOwn]
theorem ownN_none : ownN none = True := rfl
theorem q_own_cons {v : Nat} {vs : List Nat} : noOwn ρ (v :: vs) ↔ ownN ρ[v]? ∧ noOwn ρ vs := by
  unfold noOwn
  constructor
  · intro h
    refine ⟨?_, fun i hi => h i (List.mem_cons_of_mem _ hi)⟩
    cases q : ρ[v]? with
    | none => trivial
    | some s => exact h v (List.mem_cons_self ..) s q
  · rintro ⟨h1, h2⟩ i hi s hs
    rcases List.mem_cons.mp hi with rfl | hi
    · rw [hs] at h1; exact h1
    · exact h2 i hi s hs
theorem q_isi {T : String} : fIsi T d C ↔ ixC (kitB (tyName d) T) fun b => C (.bool b) := by rw [ixC_iff]; rfl
theorem at0 {α : Type} {x : α} {xs : List α} : atI (x :: xs) 0 = some x := atI_nat (j := 0) rfl
theorem at1 {α : Type} {x y : α} {xs : List α} : atI (x :: y :: xs) 1 = some y := atI_nat (j := 1) rfl
theorem at2 {α : Type} {x y z : α} {xs : List α} : atI (x :: y :: z :: xs) 2 = some z := atI_nat (j := 2) rfl
theorem at3 {α : Type} {x y z w : α} {xs : List α} : atI (x :: y :: z :: w :: xs) 3 = some w := atI_nat (j := 3) rfl
theorem at4 {α : Type} {x y z w v : α} {xs : List α} : atI (x :: y :: z :: w :: v :: xs) 4 = some v := atI_nat (j := 4) rfl
theorem atm1 {α : Type} {xs : List α} : atI xs (-1) = xs.getLast? := by
  rcases List.eq_nil_or_concat xs with rfl | ⟨ys, y, rfl⟩
  · rfl
  · rw [List.concat_eq_append, atI_last]; simp
end
theorem kit_NoneType_bool : kitB "NoneType" "bool" = some false := by decide +kernel
theorem kit_NoneType_int : kitB "NoneType" "int" = some false := by decide +kernel
theorem kit_NoneType_str : kitB "NoneType" "str" = some false := by decide +kernel
theorem kit_NoneType_list : kitB "NoneType" "list" = some false := by decide +kernel
theorem kit_NoneType_tuple : kitB "NoneType" "tuple" = some false := by decide +kernel
theorem kit_bool_bool : kitB "bool" "bool" = some true := by decide +kernel
theorem kit_bool_int : kitB "bool" "int" = some true := by decide +kernel
theorem kit_bool_str : kitB "bool" "str" = some false := by decide +kernel
theorem kit_bool_list : kitB "bool" "list" = some false := by decide +kernel
theorem kit_bool_tuple : kitB "bool" "tuple" = some false := by decide +kernel
theorem kit_int_bool : kitB "int" "bool" = some false := by decide +kernel
theorem kit_int_int : kitB "int" "int" = some true := by decide +kernel
theorem kit_int_str : kitB "int" "str" = some false := by decide +kernel
theorem kit_int_list : kitB "int" "list" = some false := by decide +kernel
theorem kit_int_tuple : kitB "int" "tuple" = some false := by decide +kernel
theorem kit_str_bool : kitB "str" "bool" = some false := by decide +kernel
theorem kit_str_int : kitB "str" "int" = some false := by decide +kernel
theorem kit_str_str : kitB "str" "str" = some true := by decide +kernel
theorem kit_str_list : kitB "str" "list" = some false := by decide +kernel
theorem kit_str_tuple : kitB "str" "tuple" = some false := by decide +kernel
theorem kit_list_bool : kitB "list" "bool" = some false := by decide +kernel
theorem kit_list_int : kitB "list" "int" = some false := by decide +kernel
theorem kit_list_str : kitB "list" "str" = some false := by decide +kernel
theorem kit_list_list : kitB "list" "list" = some true := by decide +kernel
theorem kit_list_tuple : kitB "list" "tuple" = some false := by decide +kernel
theorem kit_tuple_bool : kitB "tuple" "bool" = some false := by decide +kernel
theorem kit_tuple_int : kitB "tuple" "int" = some false := by decide +kernel
theorem kit_tuple_str : kitB "tuple" "str" = some false := by decide +kernel
theorem kit_tuple_list : kitB "tuple" "list" = some false := by decide +kernel
theorem kit_tuple_tuple : kitB "tuple" "tuple" = some true := by decide +kernel
theorem cut_from {α : Type} (xs : List α) (k : Nat) : cut xs (some (k : Int)) none = xs.drop k := by
  unfold cut
  rw [HT.sIx_nat, HT.sIx_none]
  by_cases h : k ≤ xs.length
  · rw [Nat.min_eq_left h, List.take_of_length_le (by rw [List.length_drop]; omega)]
  · rw [Nat.min_eq_right (by omega), List.drop_of_length_le (Nat.le_refl _), List.drop_of_length_le (by omega)]; simp
theorem cut_to {α : Type} (xs : List α) (k : Nat) : cut xs none (some (k : Int)) = xs.take k := by
  unfold cut
  rw [HT.sIx_nat, HT.sIx_none, List.drop_zero, Nat.sub_zero]
  by_cases h : k ≤ xs.length
  · rw [Nat.min_eq_left h]
  · rw [Nat.min_eq_right (by omega), List.take_of_length_le (Nat.le_refl _), List.take_of_length_le (by omega)]
theorem cut_f1 {α : Type} {xs : List α} : cut xs (some 1) none = xs.drop 1 := cut_from xs 1
theorem cut_f2 {α : Type} {xs : List α} : cut xs (some 2) none = xs.drop 2 := cut_from xs 2
theorem cut_f3 {α : Type} {xs : List α} : cut xs (some 3) none = xs.drop 3 := cut_from xs 3
theorem cut_t1 {α : Type} {xs : List α} : cut xs none (some 1) = xs.take 1 := cut_to xs 1
theorem cut_t2 {α : Type} {xs : List α} : cut xs none (some 2) = xs.take 2 := cut_to xs 2
theorem cut_t3 {α : Type} {xs : List α} : cut xs none (some 3) = xs.take 3 := cut_to xs 3
theorem cut_f4 {α : Type} {xs : List α} : cut xs (some 4) none = xs.drop 4 := cut_from xs 4
theorem cut_t4 {α : Type} {xs : List α} : cut xs none (some 4) = xs.take 4 := cut_to xs 4
theorem cut_f5 {α : Type} {xs : List α} : cut xs (some 5) none = xs.drop 5 := cut_from xs 5
theorem cut_t5 {α : Type} {xs : List α} : cut xs none (some 5) = xs.take 5 := cut_to xs 5
theorem cut_f6 {α : Type} {xs : List α} : cut xs (some 6) none = xs.drop 6 := cut_from xs 6
theorem cut_t6 {α : Type} {xs : List α} : cut xs none (some 6) = xs.take 6 := cut_to xs 6
theorem cut_f7 {α : Type} {xs : List α} : cut xs (some 7) none = xs.drop 7 := cut_from xs 7
theorem cut_t7 {α : Type} {xs : List α} : cut xs none (some 7) = xs.take 7 := cut_to xs 7
theorem cut_f8 {α : Type} {xs : List α} : cut xs (some 8) none = xs.drop 8 := cut_from xs 8
theorem cut_t8 {α : Type} {xs : List α} : cut xs none (some 8) = xs.take 8 := cut_to xs 8
theorem lf_app : ∀ (xs ys : List D), lfAll (xs ++ ys) = (lfAll xs && lfAll ys)
  | [], ys => by simp [lfAll]
  | x :: xs, ys => by simp [lfAll, lf_app xs ys, Bool.and_assoc]
mutual
theorem eqv_refl : ∀ (n : Nat) (d : D), sh n d = true → PyData.eqv d d = true
  | _, .none, _ => by simp [PyData.eqv]
  | _, .bool b, _ => by simp [PyData.eqv]
  | _, .int i, _ => by simp [PyData.eqv]
  | _, .str x, _ => by simp [PyData.eqv]
  | n, .list ds, h => by
    cases n with
    | zero => simp [sh] at h
    | succ n =>
      simp only [sh] at h
      simp only [PyData.eqv]
      exact eqvAll_refl n ds h
  | n, .tuple ds, h => by
    cases n with
    | zero => simp [sh] at h
    | succ n =>
      simp only [sh] at h
      simp only [PyData.eqv]
      exact eqvAll_refl n ds h
  | _, .dict _, h => by simp [sh] at h
theorem eqvAll_refl : ∀ (n : Nat) (ds : List D), shAll n ds = true → PyData.eqvAll ds ds = true
  | _, [], _ => by simp [PyData.eqvAll]
  | n, d :: ds, h => by
    simp only [shAll, Bool.and_eq_true] at h
    simp only [PyData.eqvAll, eqv_refl n d h.1, eqvAll_refl n ds h.2, Bool.and_self]
end
/-- the same on both sides -/
theorem eq_same {a : Bool} {d e : D} {B : Bool → Prop} (h : d = e) (s : sh 32 d = true) (hb : B (!a)) : fEq a d e B := by
  subst h
  refine ⟨s, s, ?_⟩
  rw [eqv_refl 32 d s]
  cases a <;> exact hb
theorem ne_ok {d e : D} {P Q : Prop} (h : d = e) (s : sh 32 d = true) (hp : P) : fEq true d e fun z => (z = true → Q) ∧ (z = false → P) := eq_same h s ⟨fun z => (by cases z), fun _ => hp⟩
theorem q_eqf_i {i j : Int} {B : Bool → Prop} : fEq false (.int i) (.int j) B = B (decide (i = j)) := by
  simp [fEq, sh, PyData.eqv]
  have : (i == j) = decide (i = j) := by by_cases h : i = j <;> simp [h]
  rw [this]
theorem q_eqt_i {i j : Int} {B : Bool → Prop} : fEq true (.int i) (.int j) B = B (!decide (i = j)) := by
  simp [fEq, sh, PyData.eqv]
  have : (i == j) = decide (i = j) := by by_cases h : i = j <;> simp [h]
  simp [bne, this]
/-! ### loops over lists, no draws -/
theorem lcC_det {g : UG} {tt : UT} {te : UV} {C : List D → Prop} {ρ : En} (keep : D → Bool) (val : D → D) : ∀ (ds acc : List D),
    (∀ d ∈ ds, ∀ (P1 : D → Prop) (P2 : Prop), (keep d = true → P1 (val d)) → (keep d = false → P2) → g d ρ fun ρ2 => tt ρ2 fun z => (z = true → te ρ2 P1) ∧ (z = false → P2)) →
    C (acc ++ (ds.filter keep).map val) → lcC g tt te C ρ ds acc
  | [], acc, _, hc => by simpa [lcC] using hc
  | d :: ds, acc, h, hc => by
    unfold lcC
    refine h d (List.mem_cons_self ..) _ _ (fun k => ?_) (fun k => ?_)
    · refine lcC_det keep val ds _ (fun d hd => h d (List.mem_cons_of_mem _ hd)) ?_
      rw [List.filter_cons, if_pos k] at hc
      simpa using hc
    · refine lcC_det keep val ds _ (fun d hd => h d (List.mem_cons_of_mem _ hd)) ?_
      rw [List.filter_cons, if_neg (by simp [k])] at hc
      exact hc
/-- over things that are made of α -/
theorem lcC_map {α : Type} {g : UG} {tt : UT} {te : UV} {C : List D → Prop} {ρ : En} (mk : α → D) (keep : α → Bool) (val : α → D) : ∀ (as : List α) (acc : List D),
    (∀ a ∈ as, ∀ (P1 : D → Prop) (P2 : Prop), (keep a = true → P1 (val a)) → (keep a = false → P2) → g (mk a) ρ fun ρ2 => tt ρ2 fun z => (z = true → te ρ2 P1) ∧ (z = false → P2)) →
    C (acc ++ (as.filter keep).map val) → lcC g tt te C ρ (as.map mk) acc
  | [], acc, _, hc => by simpa [lcC] using hc
  | d :: ds, acc, h, hc => by
    rw [List.map_cons]
    unfold lcC
    refine h d (List.mem_cons_self ..) _ _ (fun k => ?_) (fun k => ?_)
    · refine lcC_map mk keep val ds _ (fun d hd => h d (List.mem_cons_of_mem _ hd)) ?_
      rw [List.filter_cons, if_pos k] at hc
      simpa using hc
    · refine lcC_map mk keep val ds _ (fun d hd => h d (List.mem_cons_of_mem _ hd)) ?_
      rw [List.filter_cons, if_neg (by simp [k])] at hc
      exact hc
/-- no tests -/
theorem lcC_yes {α : Type} {g : UG} {te : UV} {C : List D → Prop} {ρ : En} (mk : α → D) (val : α → D) : ∀ (as : List α) (acc : List D),
    (∀ a ∈ as, ∀ P1 : D → Prop, P1 (val a) → g (mk a) ρ fun ρ2 => te ρ2 P1) → C (acc ++ as.map val) → lcC g bYes te C ρ (as.map mk) acc
  | [], acc, _, hc => by simpa [lcC] using hc
  | d :: ds, acc, h, hc => by
    rw [List.map_cons]
    unfold lcC
    simp only [bYes, forall_const, reduceCtorEq, false_implies, and_true, true_implies]
    refine h d (List.mem_cons_self ..) _ ?_
    refine lcC_yes mk val ds _ (fun d hd => h d (List.mem_cons_of_mem _ hd)) ?_
    simpa using hc
/-- a for by an invariant that knows what is left -/
theorem forC_inv {g : UG} {tb : US} {E : Ed} (I : List D → En → Prop)
    (h : ∀ d rest ρ, I (d :: rest) ρ → ∀ K : En → Prop, (∀ ρ', I rest ρ' → K ρ') → g d ρ fun ρ' => tb { E with nx := K, ct := K, bk := E.nx } ρ') (hn : ∀ ρ, I [] ρ → E.nx ρ) : ∀ (ds : List D) (ρ : En), I ds ρ → forC g tb E ds ρ
  | [], ρ, i => hn ρ i
  | d :: ds, ρ, i => by
    unfold forC
    exact h d ds ρ i _ fun ρ' i' => forC_inv I h hn ds ρ' i'
theorem mem_rngD {lo : Int} {n : Nat} {d : D} (h : d ∈ rngD lo n) : ∃ i : Nat, i < n ∧ d = .int (lo + (i : Int)) := by
  unfold rngD at h
  obtain ⟨i, hi, rfl⟩ := List.mem_map.mp h
  exact ⟨i, List.mem_range.mp hi, rfl⟩
/-- a while that ends, by a measure -/
theorem whC_up {tt : UT} {tb : US} {E : Ed} {ρ : En} (n : Nat) (h : whC tt tb E n ρ) : sWhile tt tb E ρ := ⟨n, h⟩
def enumF : Nat → List D → List D
  | _, [] => []
  | i, d :: ds => .tuple [.int (i : Int), d] :: enumF (i + 1) ds
theorem enumD_eq (ds : List D) : enumD ds = enumF 0 ds := by
  unfold enumD
  have h : ∀ (ds : List D) (k : Nat), (List.range' k ds.length).zipWith (fun (i : Nat) d => (.tuple [.int (i : Int), d] : D)) ds = enumF k ds := by
    intro ds
    induction ds with
    | nil => intro k; rfl
    | cons d ds ih =>
      intro k
      rw [List.length_cons, List.range'_succ, List.zipWith_cons_cons, ih (k + 1)]; rfl
  rw [List.range_eq_range']
  exact h ds 0
theorem zipD_cons {x y : D} {xs ys : List D} : zipD (x :: xs) (y :: ys) = .tuple [x, y] :: zipD xs ys := rfl
theorem zipD_nil {xs : List D} : zipD xs [] = [] := by simp [zipD]
theorem zipD_map {α : Type} {f : α → D} : ∀ (xs ys : List α), zipD (xs.map f) (ys.map f) = (xs.zip ys).map fun p => .tuple [f p.1, f p.2]
  | [], _ => rfl
  | _ :: _, [] => rfl
  | x :: xs, y :: ys => by
    have := zipD_map (f := f) xs ys
    simp only [List.map_cons, zipD_cons, this, List.zip_cons_cons]
/-- of numbers -/
theorem intsOf_map (ns : List Int) : intsOf (ns.map PyData.int) = some ns := by
  induction ns with
  | nil => rfl
  | cons n ns ih => simp [intsOf, ih]
theorem bools_map {α : Type} (f : α → Bool) (as : List α) : boolsOf (as.map fun a => .bool (f a)) = some (as.map f) := by
  induction as with
  | nil => rfl
  | cons n ns ih => simp [boolsOf, ih]
theorem ints_map {α : Type} (f : α → Int) (as : List α) : intsOf (as.map fun a => .int (f a)) = some (as.map f) := by
  induction as with
  | nil => rfl
  | cons n ns ih => simp [intsOf, ih]
theorem boolsOf_map (bs : List Bool) : boolsOf (bs.map PyData.bool) = some bs := by
  induction bs with
  | nil => rfl
  | cons n ns ih => simp [boolsOf, ih]
end Pu
namespace Pu
open PySem PySem.Spec PyProof.Rows L2
theorem units65 {k : Nat} {A : Around} (r : Room k A) : A.units + 65 < cLine := by have := r.un; omega
theorem se_Constant {c : Const} {j : Nat} {p : Pos} {es : List Expr} {env : Env} : starEach (.Constant c j p :: es) env = (false, eval (.Constant c j p) env) :: starEach es env := rfl
theorem se_Tuple {xs : List Expr} {j : Nat} {p : Pos} {es : List Expr} {env : Env} : starEach (.Tuple xs j p :: es) env = (false, eval (.Tuple xs j p) env) :: starEach es env := rfl
theorem se_List {xs : List Expr} {p : Pos} {es : List Expr} {env : Env} : starEach (.List xs p :: es) env = (false, eval (.List xs p) env) :: starEach es env := rfl
theorem se_UnaryOp {o : UnaryOp} {e : Expr} {p : Pos} {es : List Expr} {env : Env} : starEach (.UnaryOp o e p :: es) env = (false, eval (.UnaryOp o e p) env) :: starEach es env := rfl
theorem se_BinOp {o : Operator} {e d : Expr} {p : Pos} {es : List Expr} {env : Env} : starEach (.BinOp e o d p :: es) env = (false, eval (.BinOp e o d p) env) :: starEach es env := rfl
theorem se_Name {x : Str} {p : Pos} {es : List Expr} {env : Env} : starEach (.Name x p :: es) env = (false, eval (.Name x p) env) :: starEach es env := rfl
theorem sw_List {xs : List Expr} {p : Pos} {t : Option Expr} {l : Nat} {env : Env} : swapsWith (.List xs p) t l env = pure false := rfl
theorem sw_BinOp {o : Operator} {e d : Expr} {p : Pos} {t : Option Expr} {l : Nat} {env : Env} : swapsWith (.BinOp e o d p) t l env = pure false := rfl
/-! a list unpacked -/
def gLstl (n : Nat) (gs : UGs) : UG := fun d ρ C => match d with
  | .list ds => ds.length = n ∧ gs ds ρ C
  | _ => False
theorem jg_lst {cp : List Str} {G : Gx} {N : List Str} {sc : Scope} {k : Nat} {τ : Tn} {X : Cx} {es : List Expr} {gs : UGs} {pos : Pos} {kk n : Nat} (S : Ok cp G N sc k X) (h : JGs τ X es gs) (hn : (assignEach es X.env).length = n := by rfl) (hst : (assignEach es X.env).findIdx? (·.1) = none := by rfl) : JG τ X (.Tuple es kk pos) (gLstl n gs) := fun d ρ C c H0 γ σ H v r hd Q q => by
  unfold gLstl at c
  split at c
  · rename_i ds
    cases hd with
    | lst hs ha =>
      exact wpG_of (pg_lst S.calm pgs_w hn hst) ⟨_, _, rfl, sqL_same res_le hs, (dpAll_len ha).trans c.1, h ds ρ C c.2 H0 γ σ H _ r ha Q q⟩
  · exact c.elim
/-! tuple * int -/
def fRepT : D → D → (D → Prop) → Prop
  | .tuple xs, .int k, C => xs ≠ [] ∧ 2 ≤ k ∧ k ≤ 1000 ∧ xs.length ≤ 1000 ∧ C (.tuple (List.replicate k.toNat xs).flatten)
  | _, _, _ => False
theorem dpAll_rep {K : PySem.W.Frag} {H : Hp} {vs : List V} {ds : List D} (h : DpAll K H vs ds) : ∀ m : Nat, DpAll K H (List.replicate m vs).flatten (List.replicate m ds).flatten
  | 0 => .nil
  | m + 1 => by
    rw [List.replicate_succ, List.replicate_succ, List.flatten_cons, List.flatten_cons]
    exact dpAll_append h (dpAll_rep h m)
/-- laid plainly -/
def rRepP (K : PySem.W.Frag) : R2 := fun x y H Q => ∃ l k xs, x = .ref l ∧ y = .int k ∧ SqT K H l xs ∧ xs ≠ [] ∧ 2 ≤ k ∧ k ≤ 1000 ∧ xs.length ≤ 1000 ∧ ∀ p o, o.dict = none → H p = none → Q (.ref p) (upd H p (.frz o (.tup (List.replicate k.toNat xs).flatten)))
theorem op_repP {X : Cx} : OpR X (binaryOp .Mult) (rRepP X.K) := by
  intro pins s σ H x y v u Q I rx ry h
  obtain ⟨l, k, xs, rfl, rfl, hT, hne, h1, h2, hz, q⟩ := h
  cases rx
  obtain ⟨t, rfl⟩ := ry
  obtain ⟨us, r, ⟨⟨cls, dd, data, sl⟩, ho, hc, n, hd⟩, hs⟩ := I.tuple hT
  simp only at hc hd
  subst hc hd
  have hle : us.length = xs.length := r.length.symm
  have he : us.toArray.isEmpty = false := by
    cases us with
    | nil => exact absurd (List.eq_nil_of_length_eq_zero hle.symm) hne
    | cons a b => rfl
  have sz : us.toArray.size = xs.length := by rw [List.size_toArray, hle]
  have hm : ((us.toArray.size : Nat) : Int) * k ≤ 1000000 := by
    have a1 : ((xs.length : Nat) : Int) * k ≤ 1000 * k := Int.mul_le_mul_of_nonneg_right (by omega) (by omega)
    rw [sz]
    omega
  have fl : ∀ {α : Type} (zs : List α), zs.length = xs.length → (List.replicate k.toNat zs).flatten.length ≤ sizeLine := fun zs e => by
    have a1 : k.toNat * xs.length ≤ 1000 * 1000 := Nat.mul_le_mul (by omega) hz
    rw [PyProof.Rows.lm_len_rep_flat, e, sizeLine_eq]
    omega
  have b0 : (decide (k < -(2 ^ 63)) || decide (k ≥ 2 ^ 63)) = false := by simp; omega
  have b1 : (us.toArray.isEmpty || k == 1) = false := by rw [he, Bool.false_or]; exact beq_eq_false_iff_ne.mpr (by omega)
  have b2 : (decide (k ≤ 0) || us.toArray.isEmpty) = false := by rw [he, Bool.or_false]; exact decide_eq_false (by omega)
  have b4 : Builtin.Tuple.tupleTooMany (((us.toArray.size : Nat) : Int) * k) = false := by unfold Builtin.Tuple.tupleTooMany; rw [sizeLine_eq]; exact decide_eq_false (by omega)
  have ex : (List.foldl (fun x1 x2 => x1 ++ x2) #[] (List.replicate k.toNat us.toArray)) = (List.replicate k.toNat us).flatten.toArray := size_rep us _
  refine wpAny_binaryOp_repeat_ref (T := "tuple") (U := "int") (by decide) ⟨_, ho, rfl⟩ (fun s' => typeIs_int s' k t) noFill_tuple_mul F.fills_int_mul F.slot_int_rmul repeat_tuple F.slot_int_index.lookup
    (call_meets F.slot_int_rmul (typeIs_int s k t) F.entry_int_rmul (F.args_int_rmul_2 _ _) (int_rmul_tuple k t l us.toArray n dd sl) ⟨ho, rfl, ⟨_, ho, rfl⟩, ?_⟩)
  refine call_meets F.slot_tuple_mul ⟨_, ho, rfl⟩ F.entry_tuple_mul (F.args_tuple_mul_2 _ _) (tuple_mulW l us.toArray n dd sl k t b0 b1 b2 (by omega) b4 (by rw [ex, List.size_toArray]; exact fl us hle)) ⟨ho, ?_⟩
  rw [ex]
  exact ⟨.ref s.heap.objs.size, _, inv_plT (t' := s.toks) I (fl xs rfl) (r.rep k.toNat), rfl, q _ _ rfl (I.hok.fresh (Nat.le_refl _))⟩
theorem fRepT_ok {X : Cx} : Op2 X (rRepP X.K) fRepT := fun τ H0 H γ σ ρ v1 v2 d1 d2 C r b1 b2 h Q q => by
  cases d1 <;> cases d2 <;> first | exact h.elim | skip
  obtain ⟨h1, h2, h3, h4, h5⟩ := h
  obtain ⟨a, vs, rfl, hs, ha⟩ := b1
  cases b2
  refine ⟨a, _, vs, rfl, rfl, sqT_same res_le hs, fun z => ?_, h2, h3, by rw [dpAll_len ha]; exact h4, fun p o ho hp => ?_⟩
  · subst z
    cases ha
    exact h1 rfl
  · exact q _ _ _ h5 (.new hp) (.tup (.inl (.inr ⟨o, res_put (r.notOwn hp) upd_same ho⟩)) (dpAll_after (.new hp) (dpAll_rep ha _)))
theorem jd_rep {τ : Tn} {X : Cx} {a b : Expr} {t u : UV} {pos : Pos} (ha : JV τ X a t) (hb : JV τ X b u) : JD τ X (.BinOp a .Mult b pos) (d2 fRepT t u) := jd_op op_repP fRepT_ok ha hb
/-! sorted, of ints -/
def fSorted : List D → (Rs → Prop) → Prop
  | [.list ds], C => ∃ ns, intsOf ds = some ns ∧ ns.length < 64 ∧ ∀ ns' : List Int, ns'.Perm ns → ns'.Pairwise (· ≤ ·) → C (.lst (ns'.map PyData.int))
  | _, _ => False
theorem fSorted_ok {X : Cx} : Cb X (rSorted X.K) fSorted := fun τ H0 H γ σ ρ vs ds C r b f Q q => by
  unfold fSorted at f
  split at f
  · obtain ⟨v, rfl, p, ws, rfl, hs, ha⟩ := paired1 b
    obtain ⟨ns, h1, h2, h3⟩ := f
    have e := intsOf_dp h1 ha
    subst e
    exact ⟨p, ns, rfl, sqL_same res_le hs, h2, fun ns' l p1 p2 hl => q _ _ _ (h3 ns' p1 p2) (.new hl) (new_lst r hl (dp_ints ns'))⟩
  · exact f.elim
/-! constants of any depth -/
mutual
def litD : Nat → Expr → Option D
  | _, .Constant (.int i) _ _ => some (.int i)
  | _, .Constant (.str x) _ _ => some (.str x)
  | _, .Constant (.bool b) _ _ => some (.bool b)
  | _, .Constant .none _ _ => some .none
  | _, .UnaryOp .USub (.Constant (.int i) _ _) _ => some (.int (-i))
  | n + 1, .Tuple es _ _ => if es.length ≤ 1000 then (litAll n es).map PyData.tuple else none
  | _, _ => none
def litAll : Nat → List Expr → Option (List D)
  | _, [] => some []
  | 0, _ :: _ => none
  | n + 1, e :: es => (litD n e).bind fun d => (litAll n es).map fun ds => d :: ds
end
theorem lit_star {n : Nat} {e : Expr} {d : D} (h : litD n e = some d) (es : List Expr) (env : Env) : starEach (e :: es) env = (false, eval e env) :: starEach es env := by
  unfold litD at h
  split at h
  · rfl
  · rfl
  · rfl
  · rfl
  · rfl
  · rfl
  · cases h
theorem lit_ok {τ : Tn} {X : Cx} : ∀ (n : Nat), (∀ {e : Expr} {d : D}, litD n e = some d → JD τ X e (dC d)) ∧ ∀ {es : List Expr} {ds : List D}, litAll n es = some ds → JDs τ X es (fun _ C => C ds) := by
  intro n
  induction n with
  | zero =>
    refine ⟨fun {e d} h => ?_, fun {es ds} h => ?_⟩
    · unfold litD at h
      split at h
      · cases h; exact jd_int
      · cases h; exact jd_str
      · cases h; exact jd_bl
      · cases h; exact jd_non
      · cases h
        exact jd_neg (jv_d jd_int)
      · rename_i hn
        cases hn
      · cases h
    · cases es with
      | nil => cases h; exact jds_nil
      | cons e es => cases h
  | succ n ih =>
    refine ⟨fun {e d} h => ?_, fun {es ds} h => ?_⟩
    · unfold litD at h
      split at h
      · cases h; exact jd_int
      · cases h; exact jd_str
      · cases h; exact jd_bl
      · cases h; exact jd_non
      · cases h
        exact jd_neg (jv_d jd_int)
      · rename_i hn
        cases hn
        split at h
        · rename_i hl
          obtain ⟨ds, h1, rfl⟩ := Option.map_eq_some_iff.mp h
          exact jd_tup (ih.2 h1) hl
        · cases h
      · cases h
    · cases es with
      | nil => cases h; exact jds_nil
      | cons e es =>
        unfold litAll at h
        obtain ⟨d, h1, h2⟩ := Option.bind_eq_some_iff.mp h
        obtain ⟨ds', h3, rfl⟩ := Option.map_eq_some_iff.mp h2
        exact jds_cons (ih.1 h1) (ih.2 h3) (lit_star h1 es _)
theorem jd_lit {τ : Tn} {X : Cx} (n : Nat) {e : Expr} {d : D} (h : litD n e = some d) : JD τ X e (dC d) := (lit_ok n).1 h
theorem jds_lit {τ : Tn} {X : Cx} (n : Nat) {es : List Expr} {ds : List D} (h : litAll n es = some ds) : JDs τ X es (fun _ C => C ds) := (lit_ok n).2 h
theorem js_asgC {cp : List Str} {G : Gx} {N : List Str} {sc : Scope} {k : Nat} {τ : Tn} {X : Cx} {e tg : Expr} {tv : UV} {g : UG} {pos : Pos} (S : Ok cp G N sc k X) (he : JD τ X e tv) (hg : JG τ X tg g) (hw : swappedStores [tg] e { (default : Env) with scope := sc } = pure none := by rfl) (hs : swapsWithSole [tg] e pos.line X.env = pure false := by rfl)
    (h1 : (assignEach [tg] X.env).map (·.2) = [assign tg X.env] := by rfl) : JS τ X (.Assign [tg] e pos) (sAsg tv g) := js_asg he hg hs ((swapped_env S.es).trans hw) h1
section
variable {t u : US} {E : Ed} {ρ : En} {te ue we : UE} {tt tu : UT} {tv tw ts' : UV} {ta tb : UA} {tl : UL} {g : UG} {gs : UGs} {C : D → Prop} {B : Bool → Prop} {R : Rs → Prop} {L : List D → Prop} {A : List Ar → Prop} {K : En → Prop} {O : Option Int → Prop} {to to' : UO} {S : Sf} {d e : D} {ds : List D} {i j l n : Nat}
theorem c_sfOf {N : List Str} {as : List Ar} : sfOf N n t as R = (as.length = n ∧ t { nx := fun _ => R (.dat .none), rt := fun r => r.lf = true ∧ R r } (en0 N as)) := propext Iff.rfl
theorem c_sNext : sNext E ρ = E.nx ρ := propext Iff.rfl
theorem c_sSeq : sSeq t u E ρ = t { E with nx := u E } ρ := propext Iff.rfl
theorem c_sNever : sNever E ρ = False := propext Iff.rfl
theorem c_sBreak : sBreak E ρ = E.bk ρ := propext Iff.rfl
theorem c_sCont : sCont E ρ = E.ct ρ := propext Iff.rfl
theorem c_sDrop : sDrop te E ρ = te ρ fun _ => E.nx ρ := propext Iff.rfl
theorem c_sRet : sRet te E ρ = te ρ E.rt := propext Iff.rfl
theorem c_sRetN : sRetN E ρ = E.rt (.dat .none) := propext Iff.rfl
theorem c_sIf : sIf tt t u E ρ = tt ρ fun z => (z = true → t E ρ) ∧ (z = false → u E ρ) := propext Iff.rfl
theorem c_sSet : sSet i te E ρ = te ρ fun r => E.nx (ρ.set i r.sl) := propext Iff.rfl
theorem c_gNam : gNam i d ρ K = K (ρ.set i (.dat d)) := propext Iff.rfl
theorem c_gsNil : gsNil [] ρ K = K ρ := propext Iff.rfl
theorem c_gsCons : gsCons g gs (d :: ds) ρ K = g d ρ fun ρ' => gs ds ρ' K := propext Iff.rfl
theorem c_gTupl : gTupl n gs (.tuple ds) ρ K = (ds.length = n ∧ gs ds ρ K) := propext Iff.rfl
theorem c_sAsg : sAsg tv g E ρ = tv ρ fun d => g d ρ E.nx := propext Iff.rfl
theorem c_sPar2 : sPar2 i j te ue E ρ = te ρ fun r1 => ue ρ fun r2 => r1.lf = true ∧ r2.lf = true ∧ E.nx ((ρ.set i r1.sl).set j r2.sl) := propext Iff.rfl
theorem c_sPar3 : sPar3 i j l te ue we E ρ = te ρ fun r1 => ue ρ fun r2 => we ρ fun r3 => r1.lf = true ∧ r2.lf = true ∧ r3.lf = true ∧ E.nx (((ρ.set i r1.sl).set j r2.sl).set l r3.sl) := propext Iff.rfl
def xRs : Rs → (List D → Prop) → Prop
  | .lst es, L => L es
  | _, _ => False
theorem xRs_l : xRs (.lst ds) L = L ds := propext Iff.rfl
theorem c_sExtend : sExtend i te E ρ = lSl ρ[i]? fun ds => te ρ fun r => xRs r fun es => ds.length + es.length ≤ 1000000 ∧ E.nx (ρ.set i (.lst (ds ++ es))) := by
  unfold sExtend
  cases ρ[i]? with
  | none => rfl
  | some s => cases s with
    | lst ds =>
      show (te ρ fun r => _) = _
      unfold lSl
      congr 1
      funext r
      cases r <;> rfl
    | _ => rfl
theorem c_sFor : sFor tl g t E ρ = tl ρ fun ds => forC g t E ds ρ := propext Iff.rfl
def frSl : Option Sl → Nat → En → En
  | some (.lst ds), i, ρ => ρ.set i (.dat (.list ds))
  | _, _, ρ => ρ
theorem frSl_l : frSl (some (.lst ds)) i ρ = ρ.set i (.dat (.list ds)) := rfl
theorem frSl_d : frSl (some (.dat d)) i ρ = ρ := rfl
theorem c_sFrz : sFrz i t E ρ = t E (frSl ρ[i]? i ρ) := by
  unfold sFrz
  cases ρ[i]? with
  | none => rfl
  | some s => cases s <;> rfl
theorem c_eAdd : eAdd tv tw ρ R = tv ρ fun x => tw ρ fun y => fAddE x y R := propext Iff.rfl
theorem q_adde_i {i j : Int} : fAddE (.int i) (.int j) R = R (.dat (.int (i + j))) := propext Iff.rfl
theorem q_adde_s {x y : Str} : fAddE (.str x) (.str y) R = (x.length + y.length ≤ 1000000 ∧ R (.dat (.str (x ++ y)))) := propext Iff.rfl
theorem q_adde_t {xs ys : List D} : fAddE (.tuple xs) (.tuple ys) R = (xs.length + ys.length ≤ 1000000 ∧ R (.dat (.tuple (xs ++ ys)))) := propext Iff.rfl
theorem q_adde_l {xs ys : List D} : fAddE (.list xs) (.list ys) R = (xs.length + ys.length ≤ 1000000 ∧ R (.lst (xs ++ ys))) := propext Iff.rfl
theorem c_gLstl : gLstl n gs (.list ds) ρ K = (ds.length = n ∧ gs ds ρ K) := propext Iff.rfl
theorem q_sorted : fSorted [.list ds] R ↔ ixC (intsOf ds) fun ns => ns.length < 64 ∧ ∀ ns' : List Int, ns'.Perm ns → ns'.Pairwise (· ≤ ·) → R (.lst (ns'.map PyData.int)) := by rw [ixC_iff]; rfl
theorem q_rep {xs : List D} {k : Int} : fRepT (.tuple xs) (.int k) C = (xs ≠ [] ∧ 2 ≤ k ∧ k ≤ 1000 ∧ xs.length ≤ 1000 ∧ C (.tuple (List.replicate k.toNat xs).flatten)) := propext Iff.rfl
theorem c_iSeq : iSeq tv ρ L = tv ρ fun d => fSeq d L := propext Iff.rfl
theorem c_iRange1 : iRange1 tv ρ L = tv ρ fun d => ∃ n, d = .int n ∧ n ≤ 1000000 ∧ -1000000000 ≤ n ∧ L (rngD 0 n.toNat) := propext Iff.rfl
theorem c_iRange2 : iRange2 tv tw ρ L = tv ρ fun d => tw ρ fun d2 => ∃ m n, d = .int m ∧ d2 = .int n ∧ n - m ≤ 1000000 ∧ -1000000000000 ≤ m ∧ m ≤ 1000000000000 ∧ -1000000000000 ≤ n ∧ n ≤ 1000000000000 ∧ L (rngD m (n - m).toNat) := propext Iff.rfl
theorem c_iEnumS : iEnumS tv ρ L = tv ρ fun d => fSeq0 d fun ds => L (enumD ds) := propext Iff.rfl
theorem c_iZip2 : iZip2 tv tw ρ L = tv ρ fun x => tw ρ fun y => fZip x y L := propext Iff.rfl
theorem c_eLc {vs : List Nat} : eLc tl g tt tv vs ρ R = (noOwn ρ vs ∧ tl ρ fun ds => lcC g tt tv (fun acc => R (.lst acc)) (wipeS ρ vs) ds []) := propext Iff.rfl
theorem c_eD : eD tv ρ R = tv ρ fun d => R (.dat d) := propext Iff.rfl
theorem c_dE : dE te ρ C = te ρ fun r => r.cold C := propext Iff.rfl
theorem c_lCons : lCons tv tl ρ L = tv ρ fun d => tl ρ fun ds => L (d :: ds) := propext Iff.rfl
theorem c_dC : dC d ρ C = C d := propext Iff.rfl
theorem c_dTup : dTup tl ρ C = tl ρ fun ds => C (.tuple ds) := propext Iff.rfl
theorem c_eLst : eLst tl ρ R = tl ρ fun ds => R (.lst ds) := propext Iff.rfl
theorem c_d2 {f : D → D → (D → Prop) → Prop} : d2 f tv tw ρ C = tv ρ fun x => tw ρ fun y => f x y C := propext Iff.rfl
theorem c_d1 {f : D → (D → Prop) → Prop} : d1 f tv ρ C = tv ρ fun x => f x C := propext Iff.rfl
theorem c_dB : dB tt ρ C = tt ρ fun z => C (.bool z) := propext Iff.rfl
theorem c_b2 {f : D → D → (Bool → Prop) → Prop} : b2 f tv tw ρ B = tv ρ fun x => tw ρ fun y => f x y B := propext Iff.rfl
theorem c_b3 {f h : D → D → (Bool → Prop) → Prop} : b3 f h tv tw ts' ρ B = tv ρ fun x => tw ρ fun y => f x y fun z => (z = true → ts' ρ fun w => h y w B) ∧ (z = false → B false) := propext Iff.rfl
theorem c_bTru : bTru tv ρ B = tv ρ fun d => fTru d B := propext Iff.rfl
theorem c_bAnd : bAnd tt tu ρ B = tt ρ fun z => (z = true → tu ρ B) ∧ (z = false → B false) := propext Iff.rfl
theorem c_bOr : bOr tt tu ρ B = tt ρ fun z => (z = true → B true) ∧ (z = false → tu ρ B) := propext Iff.rfl
theorem c_bNot : bNot tt ρ B = tt ρ fun z => B (!z) := propext Iff.rfl
theorem c_dAnd : dAnd tv tw ρ C = tv ρ fun d => fBoolK d fun z => (z = true → tw ρ C) ∧ (z = false → C (.bool false)) := propext Iff.rfl
theorem c_dOr : dOr tv tw ρ C = tv ρ fun d => fBoolK d fun z => (z = true → C (.bool true)) ∧ (z = false → tw ρ C) := propext Iff.rfl
theorem c_dNot : dNot tv ρ C = tv ρ fun d => fBoolK d fun z => C (.bool (!z)) := propext Iff.rfl
theorem c_eIf : eIf tt te ue ρ R = tt ρ fun z => (z = true → te ρ R) ∧ (z = false → ue ρ R) := propext Iff.rfl
theorem c_dIf : dIf tt tv tw ρ C = tt ρ fun z => (z = true → tv ρ C) ∧ (z = false → tw ρ C) := propext Iff.rfl
theorem c_oNone : oNone ρ O = O none := propext Iff.rfl
theorem c_eCut : eCut tv to to' ρ R = tv ρ fun d => to ρ fun l => to' ρ fun h => fCut d l h R := propext Iff.rfl
theorem c_aNil : aNil ρ A = A [] := propext Iff.rfl
theorem c_aCons : aCons tv ta ρ A = tv ρ fun d => ta ρ fun as => A (.dat d :: as) := propext Iff.rfl
def tSl : Option Sl → Prop → Prop
  | some .town, P => P
  | _, _ => False
theorem tSl_t {P : Prop} : tSl (some .town) P = P := propext Iff.rfl
theorem c_aTown : aTown i ta ρ A = tSl ρ[i]? (ta ρ fun as => A (.town :: as)) := by
  unfold aTown
  cases ρ[i]? with
  | none => rfl
  | some s => cases s <;> rfl
theorem c_eCall : eCall S ta ρ R = ta ρ fun as => S as R := propext Iff.rfl
theorem c_eCallK {h : List Ar → List Ar → List Ar} : eCallK S h ta tb ρ R = ta ρ fun as => tb ρ fun bs => S (h as bs) R := propext Iff.rfl
theorem c_eB {f : List D → (Rs → Prop) → Prop} : eB f tl ρ R = tl ρ fun ds => f ds R := propext Iff.rfl
theorem c_sTick : sTick i E ρ = (ρ[i]? = some .town ∧ E.nx ρ) := propext Iff.rfl
theorem c_dCount : dCount i ρ C = (ρ[i]? = some .town ∧ ∀ c : Int, C (.int c)) := propext Iff.rfl
theorem c_dRest : dRest i tv tw ρ C = (ρ[i]? = some .town ∧ tv ρ fun d => ∃ n, d = .int n ∧ tw ρ fun d' => ∃ m, d' = .int m ∧ ∀ n : Int, C (.int n)) := propext Iff.rfl
theorem c_sRest : sRest i tv tw E ρ = (ρ[i]? = some .town ∧ tw ρ fun d => ∃ n, d = .int n ∧ tv ρ fun d => ∃ n, d = .int n ∧ 0 ≤ n ∧ n < 64 ∧ E.nx ρ) := propext Iff.rfl
theorem c_lcC0 {acc : List D} : lcC g tt tv L ρ [] acc = L acc := propext Iff.rfl
end
end Pu
/-! ### sorted, of data alike; xs[::-1] -/
namespace Pu
open PySem PySem.Spec PyProof.Rows L2 PySem.W
abbrev dLe : D → D → Bool := dataLe false (fun d : D => d)
theorem zip_dpAll {K : PySem.W.Frag} {H : Hp} : ∀ {xs : List V} {ds : List D}, DpAll K H xs ds → (∀ p ∈ xs.zip ds, Dp K H p.1 p.2) ∧ (xs.zip ds).map Prod.snd = ds ∧ (xs.zip ds).map Prod.fst = xs
  | _, _, .nil => ⟨fun _ h => (by cases h), rfl, rfl⟩
  | _, _, .cons h t => by
    obtain ⟨h1, h2, h3⟩ := zip_dpAll t
    refine ⟨fun p hp => ?_, by rw [List.zip_cons_cons, List.map_cons, h2], by rw [List.zip_cons_cons, List.map_cons, h3]⟩
    rcases List.mem_cons.mp (by simpa only [List.zip_cons_cons] using hp) with rfl | hp
    · exact h
    · exact h1 p hp
theorem dpAll_of {K : PySem.W.Frag} {H : Hp} : ∀ {ps : List (V × D)}, (∀ p ∈ ps, Dp K H p.1 p.2) → DpAll K H (ps.map Prod.fst) (ps.map Prod.snd)
  | [], _ => .nil
  | p :: ps, h => .cons (h p (by simp)) (dpAll_of fun q hq => h q (by simp [hq]))
theorem each_zip {R : Value → V × D → Prop} : ∀ {xs : List V} {ds : List D} {us : List Value}, Vals xs us → xs.length = ds.length → (∀ v d u, (v, d) ∈ xs.zip ds → RelV v u → R u (v, d)) → EachIs R us (xs.zip ds)
  | [], [], [], _, _, _ => .nil
  | x :: xs, d :: ds, u :: us, r, hl, h => by
    cases r with
    | cons r1 r2 => exact .cons (h x d u (by simp) r1) (each_zip r2 (by simpa using hl) fun v d u hm => h v d u (by simp [hm]))
  | [], _ :: _, _, _, hl, _ => by cases hl
  | _ :: _, [], _, _, hl, _ => by cases hl
  | [], [], _ :: _, r, _, _ => by cases r
  | _ :: _, _ :: _, [], r, _, _ => by cases r
theorem vals_each : ∀ {ps : List (V × D)} {us : List Value}, EachIs (fun u (p : V × D) => RelV p.1 u) us ps → Vals (ps.map Prod.fst) us
  | _, _, .nil => .nil
  | _, _, .cons h t => .cons h (vals_each t)
/-- sorted(xs), xs a list or a tuple of data alike -/
def rSortD (K : PySem.W.Frag) : List V → Hp → VK → Prop := fun vs H Q => ∃ (a : Addr) (xs : List V) (ds : List D), vs = [V.ref a] ∧ (SqL K H a xs ∨ SqT K H a xs) ∧ DpAll K H xs ds ∧ AllAlike ds ∧ Sortable ds ∧ (∀ d ∈ ds, d.depth ≤ 32) ∧
  ∀ ys p, (∀ H' : Hp, DpAll K H' xs ds → DpAll K H' ys (ds.mergeSort dLe)) → H p = none → Q (.ref p) (upd H p (.lst ys))
section
variable {X : Cx}
theorem cr_sortD (hu : X.A.units + 65 < cLine) : CallR X (.builtin "sorted") (rSortD X.K) := by
  intro pins s σ H vs us Q I r h
  obtain ⟨a, xs, ds, rfl, hs, hd, hal, hk, hdep, q⟩ := h
  obtain ⟨u, rfl, ru⟩ := vals1 r
  obtain rfl : u = Value.ref a := ru
  obtain ⟨its, T, o, n, rv, hT, ho, hc, hdt, hz⟩ : ∃ (its : List Value) (T : String) (o : Obj) (n : Nat), Vals xs its ∧ (T = "list" ∨ T = "tuple") ∧ s.heap.get? a = some o ∧ o.cls = .type T ∧ o.data = .seq its.toArray n ∧ xs.length ≤ sizeLine := by
    rcases hs with hs | hs
    · obtain ⟨its, rv, ⟨o, n, ho, hc, _, hd⟩, hz⟩ := I.list hs
      exact ⟨its, "list", o, n, rv, .inl rfl, ho, hc, hd, hz⟩
    · obtain ⟨its, rv, ⟨o, ho, hc, n, hd⟩, hz⟩ := I.tuple hs
      exact ⟨its, "tuple", o, n, rv, .inr rfl, ho, hc, hd, hz⟩
  have hzi : its.length ≤ sizeLine := by rw [← rv.length]; exact hz
  have hdl := dpAll_len hd
  obtain ⟨z1, z2, z3⟩ := zip_dpAll hd
  refine Calls.call_function_entry kind_sorted plain_sorted entry_sorted (args_sorted1 _) ?_
  unfold Builtin.«sorted»
  refine wpAny_bind (m := checkCount "sorted" 1 1 _) (wpAny_pure ?_)
  refine wpAny_bind (wpAny_collect_seq a hT ho hc hdt (fun h' kp => ?_) (by rw [List.size_toArray]; exact hzi))
  have e0 : its.toArray.toList = its := by simp
  rw [e0]
  refine wpAny_bind (wpAny_newList ?_ hzi)
  have hoL : (h'.push (seqObj "list" its.toArray 0)).get? h'.objs.size = some (seqObj "list" its.toArray 0) := Heap.get?_push_size _ rfl
  have hkeep : ∀ b o', s.heap.get? b = some o' → (h'.push (seqObj "list" its.toArray 0)).get? b = some o' := fun b o' e => Heap.get?_push_of_some _ (kp b o' e)
  have e1 : EachIs (fun u (p : V × D) => RelV p.1 u) its (xs.zip ds) := each_zip rv hdl fun v d u _ h => h
  have e2 : EachIs (fun u (p : V × D) => ∃ as, Reads (h'.push (seqObj "list" its.toArray 0)) u p.2 as ∧ h'.objs.size ∉ as) its (xs.zip ds) := each_zip rv hdl fun v d u hm hr => by
    obtain ⟨as, rd⟩ := Dp.reads I d v u (z1 _ hm) hr
    refine ⟨as, PyProof.Rows.Reads.keeps (fun _ _ => hkeep _ _) rd, fun hin => ?_⟩
    obtain ⟨o', ho'⟩ := PyProof.On.reads_mem_get rd _ hin
    exact absurd (Heap.lt_size (kp _ _ ho')) (Nat.lt_irrefl _)
  have hal' : AllAlike ((xs.zip ds).map Prod.snd) := by rw [z2]; exact hal
  have hk' : Sortable ((xs.zip ds).map Prod.snd) := by rw [z2]; exact hk
  show wpAny _ _ _ _ _ { s with heap := h'.push (seqObj "list" its.toArray 0) }
  refine wpAny_bind (wpAny_holding (list_sort_data (R := fun u (p : V × D) => RelV p.1 u) (enc := Prod.snd) (s := { s with heap := h'.push (seqObj "list" its.toArray 0) }) hoL e1 e2 hal' hk' (by rw [List.length_zip]; omega) (fun p hp => ?_) fun out ho1 ho2 => ?_))
  · have hm : p.2 ∈ ds := by
      rw [← z2]
      exact List.mem_map_of_mem (f := Prod.snd) hp
    have h1 := hdep _ hm
    have h2 : X.A.in1.units = X.A.units + 1 := rfl
    rw [h2]
    omega
  · have I1 : L2.Inv X pins σ H { s with heap := h' } := I.kept (t' := s.toks) kp
    have hsz : h'.objs.size < (h'.push (seqObj "list" its.toArray 0)).objs.size := by rw [size_push']; omega
    have k3 : ∀ b u, h'.get? b = some u → (sortedHeap (h'.push (seqObj "list" its.toArray 0)) h'.objs.size its out.toArray).get? b = some u := fun b u e => by
      have hlt := Heap.lt_size e
      rw [sortedHeap_old (Nat.ne_of_lt hlt) (Nat.lt_trans hlt hsz)]
      exact Heap.get?_push_of_some _ e
    obtain ⟨n2, hn2⟩ := sortedHeap_at (out := out.toArray) hoL
    have hv : Vals (((xs.zip ds).mergeSort (dataLe false Prod.snd)).map Prod.fst) out := vals_each ho2
    refine wpAny_pure ⟨_, rfl, .ref h'.objs.size, upd H h'.objs.size (.lst (((xs.zip ds).mergeSort (dataLe false Prod.snd)).map Prod.fst)), I1.laid (t' := s.toks) k3 (Nat.le_refl _) ⟨?_, out, n2, hv, hn2⟩, rfl, q _ _ (fun H' hd' => ?_) (I1.hok.fresh (Nat.le_refl _))⟩
    · rw [List.length_map, List.length_mergeSort, List.length_zip]
      omega
    · obtain ⟨w1, w2, w3⟩ := zip_dpAll hd'
      have e5 : ds.mergeSort dLe = ((xs.zip ds).mergeSort (dataLe false Prod.snd)).map Prod.snd := by
        have := List.map_mergeSort (r := dataLe false Prod.snd) (s := dLe) (f := Prod.snd) (l := xs.zip ds) (fun a _ b _ => rfl)
        rw [this, w2]
      rw [e5]
      exact dpAll_of fun p hp => w1 p (List.mem_mergeSort.mp hp)
/-- data that sorted takes -/
def SortOk (ds : List D) : Prop := (∀ d ∈ ds, sh 31 d = true) ∧ AllAlike ds ∧ Sortable ds
def fSortD : List D → (Rs → Prop) → Prop
  | [.list ds], C => SortOk ds ∧ C (.lst (ds.mergeSort dLe))
  | [.tuple ds], C => SortOk ds ∧ C (.lst (ds.mergeSort dLe))
  | _, _ => False
theorem SortOk.dep {ds : List D} (h : SortOk ds) : ∀ d ∈ ds, d.depth ≤ 32 := fun d hd => by
  have := (sh_lay 31 d (h.1 d hd)).2
  omega
theorem fSortD_ok : Cb X (rSortD X.K) fSortD := fun τ H0 H γ σ ρ vs ds C r b f Q q => by
  unfold fSortD at f
  split at f
  · obtain ⟨v, rfl, p, ws, rfl, hs, ha⟩ := paired1 b
    exact ⟨p, ws, _, rfl, .inl (sqL_same res_le hs), dpAll_same res_le _ _ ha, f.1.2.1, f.1.2.2, f.1.dep, fun ys l hy hl => q _ _ _ f.2 (.new hl) (new_lst r hl (hy _ ha))⟩
  · obtain ⟨v, rfl, p, ws, rfl, hs, ha⟩ := paired1 b
    exact ⟨p, ws, _, rfl, .inr (sqT_same res_le hs), dpAll_same res_le _ _ ha, f.1.2.1, f.1.2.2, f.1.dep, fun ys l hy hl => q _ _ _ f.2 (.new hl) (new_lst r hl (hy _ ha))⟩
  · exact f.elim
end
/-! xs[::-1] -/
section
variable {prog : Program} {w : World} {A : Around} {E : Value → Shared → Prop} {s : Shared}
theorem places_back (n : Nat) : Builtin.Slice.slicePlaces ((n : Int) - 1) (-1) (-1) = n := by
  unfold Builtin.Slice.slicePlaces
  rw [if_neg (by decide), show (- -1 : Int) = 1 from rfl, Int.ediv_one]
  split <;> omega
theorem applied_back {sl : Addr} {vl vu vs : Value} {n : Nat} {Q : Int × Int × Nat → Shared → Prop} (hs : s.heap.IsSliceOf sl vl vu vs) (pl : IsPart vl none) (pu : IsPart vu none) (ps : IsPart vs (some (-1)))
    (h : Q ((n : Int) - 1, -1, n) s) : wpAny (model prog w) A (Builtin.Slice.sliceApplied (.ref sl) (pure (n : Int))) Q E s := by
  obtain ⟨os, hos, hcs, hds⟩ := id hs
  unfold Builtin.Slice.sliceApplied Builtin.Slice.sliceFields
  refine wpAny_bind (wpAny_bind (wpAny_field hos hds (x := vl) rfl (wpAny_bind (wpAny_field hos hds (x := vu) rfl (wpAny_bind (wpAny_field hos hds (x := vs) rfl (wpAny_pure ?_)))))))
  refine wpAny_bind (HT.slicePart_ ps ?_)
  show wpAny _ _ (if ((-1 : Int) == 0) = true then _ else _) _ _ s
  rw [if_neg (by decide)]
  refine wpAny_bind (HT.slicePart_ pl (wpAny_bind (HT.slicePart_ pu (wpAny_bind (wpAny_pure ?_)))))
  show wpAny _ _ (pure ((n : Int) - 1, (-1 : Int), Builtin.Slice.slicePlaces ((n : Int) - 1) (-1) (-1))) _ _ s
  rw [places_back]
  exact wpAny_pure h
theorem fm_congr {α β : Type} {f g : α → Option β} : ∀ {l : List α}, (∀ x ∈ l, f x = g x) → l.filterMap f = l.filterMap g
  | [], _ => rfl
  | a :: l, h => by rw [List.filterMap_cons, List.filterMap_cons, h a (by simp), fm_congr fun x hx => h x (by simp [hx])]
theorem pick_back (xs : Array Value) : ((List.range xs.size).filterMap fun (m : Nat) => xs[((xs.size : Int) - 1 + (m : Int) * (-1)).toNat]?).toArray = xs.toList.reverse.toArray := by
  have e : (List.range xs.size).filterMap (fun (m : Nat) => xs[((xs.size : Int) - 1 + (m : Int) * (-1)).toNat]?) = ((List.range xs.size).map fun k => xs.size - 1 - k).filterMap (xs[·]?) := by
    rw [List.filterMap_map]
    refine fm_congr fun m hm => ?_
    have := List.mem_range.mp hm
    have e2 : ((xs.size : Int) - 1 + (m : Int) * (-1)).toNat = xs.size - 1 - m := by omega
    rw [e2]
    rfl
  rw [e, krv_range, List.filterMap_reverse, krv_all]
theorem getItem_tuple_back {t sl : Addr} {items : Array Value} {vl vu vs : Value} {Q : Value → Shared → Prop} (ht : IsTup s.heap t items) (hs : s.heap.IsSliceOf sl vl vu vs) (pl : IsPart vl none) (pu : IsPart vu none) (ps : IsPart vs (some (-1)))
    (h : Q (.ref s.heap.objs.size) { s with heap := s.heap.push { cls := .type "tuple", data := .seq items.toList.reverse.toArray } }) (hsz : items.size ≤ sizeLine) : wpAny (model prog w) A (getItem (.ref t) (.ref sl)) Q E s := by
  have htake : sizeOk (.seq items.toList.reverse.toArray) := by
    show items.toList.reverse.toArray.size ≤ sizeLine
    rw [List.size_toArray, List.length_reverse, Array.length_toList]
    exact hsz
  obtain ⟨os, hos, hcs, hds⟩ := id hs
  have hTs : s.TypeIs (.ref sl) "slice" := ⟨os, hos, hcs⟩
  unfold getItem
  try with_reducible refine wpAny_holding ?_
  first | refine wpAny_bind (wpAny_pure ?_) | skip
  refine wpAny_bind (wpAny_sequenceKey ht.typeIs (by decide) ?_)
  refine wpAny_bind (wpAny_callSpecial?_slot (name := Str.ofString "__getitem__") ht.typeIs PyProof.Rows.slot_tuple_getitem
    (wpAny_call_entry PyProof.Rows.slot_tuple_getitem ht.typeIs PyProof.Rows.entry_tuple_getitem ?_ (PyProof.Rows.args_tuple_getitem _ _)))
  show wpAny _ _ (Builtin.Tuple.tupleItemsOf (.ref t) >>= _) _ _ s
  refine wpAny_bind (PyProof.Rows.tupleItemsOf_ ht ?_)
  refine wpAny_bind (wpAny_typeOf hTs ?_)
  rw [if_pos (by decide)]
  refine wpAny_bind (applied_back hs pl pu ps ?_)
  have hno : ¬ (((((items.size : Int) - 1) == 0) && ((-1 : Int) == 1) && (items.size == items.size)) = true) := by simp
  show wpAny _ _ (if ((((items.size : Int) - 1) == 0) && ((-1 : Int) == 1) && (items.size == items.size)) = true then _ else _) _ _ s
  rw [if_neg hno, pick_back]
  first
    | exact wpAny_bind (m := Builtin.Tuple.tupleExact _) (wpAny_newObj_type (wpAny_pure ⟨_, rfl, wpAny_pure h⟩) htake)
    | exact wpAny_bind (m := Builtin.Tuple.tupleExact _) (wpAny_newObj_type (wpAny_bind (wpAny_pure (wpAny_pure ⟨_, rfl, wpAny_pure h⟩))) htake)
    | exact wpAny_bind (wpAny_bind (m := Builtin.Tuple.tupleExact _) (wpAny_newObj_type (wpAny_pure (wpAny_pure ⟨_, rfl, wpAny_pure h⟩)) htake))
    | exact wpAny_bind (wpAny_bind (m := Builtin.Tuple.tupleExact _) (wpAny_newObj_type (wpAny_pure ⟨_, rfl, wpAny_pure h⟩) htake))
end
section
variable {X : Cx}
def tRev (K : PySem.W.Frag) (te : TE) : TE := fun σ H Q => te σ H fun x H1 => ∃ a xs, x = .ref a ∧ ((SqL K H1 a xs ∧ ∀ p, H1 p = none → Q (.ref p) (upd H1 p (.lst xs.reverse))) ∨ (SqT K H1 a xs ∧ ∀ p o, o.dict = none → H1 p = none → Q (.ref p) (upd H1 p (.frz o (.tup xs.reverse)))))
theorem pe_rev {e : Expr} {te : TE} {k : Nat} {p1 p2 p3 pos : Pos} (he : PE X e te) : PE X (.Subscript e (.Slice none none (some (.UnaryOp .USub (.Constant (.int 1) k p1) p2)) p3) pos) (tRev X.K te) := by
  refine ⟨fun pins s σ H Q I h => ?_⟩
  refine Subscript_ (thn (he.run pins s σ H _ I h) fun v s1 ⟨x, H1, I1, r1, q1⟩ => ?_)
  obtain ⟨a, xs, ex, q⟩ := q1
  subst ex
  cases r1
  have hst : PO X (some (.UnaryOp .USub (.Constant (.int 1) k p1) p2)) (tPart (tUn (rU fun i => .int (-i)) (tC (.int 1)))) := po_some (pe_un un_neg pe_int)
  refine wpAny_Slice (thn (po_none.run pins s1 σ H1 (fun o H2 => o = none ∧ H2 = H1) I1 ⟨rfl, rfl⟩) fun vl s2 ⟨l, H2, I2, pl, el, e2⟩ => ?_)
  subst el e2
  refine thn (po_none.run pins s2 σ H2 (fun o H3 => o = none ∧ H3 = H2) I2 ⟨rfl, rfl⟩) fun vu s3 ⟨u, H3, I3, pu, eu, e3⟩ => ?_
  subst eu e3
  refine thn (hst.run pins s3 σ H3 (fun o H4 => o = some (-1) ∧ H4 = H3) I3 ⟨1, rfl, -1, rfl, rfl, rfl⟩) fun vs s4 ⟨o, H4, I4, ps, eo, e4⟩ => ?_
  subst eo e4
  have I5 : L2.Inv X pins σ H4 { s4 with heap := s4.heap.push { cls := .type "slice", data := .fields #[vl, vu, vs] } } := I4.kept (t' := s4.toks) fun b ob q => Heap.get?_push_of_some _ q
  show wpAny (model X.prog X.w) X.A (subscriptTail e (.Slice none none (some (.UnaryOp .USub (.Constant (.int 1) k p1) p2)) p3) (.ref a) (.ref s4.heap.objs.size)) (EP X pins σ Q) X.xe { s4 with heap := s4.heap.push { cls := .type "slice", data := .fields #[vl, vu, vs] } }
  rcases q with ⟨hx, q⟩ | ⟨hx, q⟩
  · obtain ⟨its, r, ht, hz⟩ := I5.list hx
    have hlen := r.length
    refine tail_any (ops := [.ref a, .ref s4.heap.objs.size]) ht.isList.typeIs (PySem.slot_list_getitem.lookup) ?_ (by with_unfolding_all rfl)
    refine wpAny_getItem_list_slice ht.isList (Heap.IsSliceOf.new _ vl vu vs) pl pu ps (by decide) ?_ (by rw [List.size_toArray]; omega)
    rw [PySem.W.krv_pick]
    refine ⟨.ref _, _, I5.laid (t' := s4.toks) (o := .lst xs.reverse) (fun b ob q => Heap.get?_push_of_some _ q) (Nat.le_refl _) ?_, rfl, q _ (I5.hok.fresh (Nat.le_refl _))⟩
    exact ⟨by rw [List.length_reverse]; exact hz, _, 0, r.reverse, Heap.get?_push_size _ rfl⟩
  · obtain ⟨its, r, ht, hz⟩ := I5.tuple hx
    have hlen := r.length
    refine tail_any (ops := [.ref a, .ref s4.heap.objs.size]) ht.typeIs PyProof.Rows.slot_tuple_getitem.lookup ?_ (by with_unfolding_all rfl)
    refine getItem_tuple_back ht (Heap.IsSliceOf.new _ vl vu vs) pl pu ps ?_ (by rw [List.size_toArray]; omega)
    exact ⟨.ref _, _, inv_plT (t' := s4.toks) I5 (xs := xs.reverse) (by rw [List.length_reverse]; exact hz) r.reverse, rfl, q _ _ rfl (I5.hok.fresh (Nat.le_refl _))⟩
theorem dpAll_rev {K : PySem.W.Frag} {H : Hp} {vs : List V} {ds : List D} (h : DpAll K H vs ds) : DpAll K H vs.reverse ds.reverse := by
  obtain ⟨h1, h2, h3⟩ := zip_dpAll h
  have := dpAll_of (ps := (vs.zip ds).reverse) fun p hp => h1 p (List.mem_reverse.mp hp)
  rwa [List.map_reverse, List.map_reverse, h2, h3] at this
variable {τ : Tn} {a : Expr} {t : UV} {pos : Pos}
def fRev : D → (Rs → Prop) → Prop
  | .list ds, C => C (.lst ds.reverse)
  | .tuple ds, C => C (.dat (.tuple ds.reverse))
  | _, _ => False
def eRev (t : UV) : UE := fun ρ C => t ρ fun d => fRev d C
theorem je_rev {k : Nat} {p1 p2 p3 : Pos} (ha : JV τ X a t) : JE τ X (.Subscript a (.Slice none none (some (.UnaryOp .USub (.Constant (.int 1) k p1) p2)) p3) pos) (eRev t) := by
  intro ρ C c H0 γ σ H r Q q
  refine wpE_of (pe_rev pe_w) (ha ρ _ c H0 γ σ H r _ fun d v H2 c e b => ?_)
  have r2 := r.after e
  cases d with
  | list ds =>
    obtain ⟨p, vs, rfl, hs, ha⟩ := b
    refine ⟨p, vs, rfl, .inl ⟨sqL_same res_le hs, fun p' hp => q _ _ _ c (e.trans (.new hp)) ⟨p', _, rfl, e.fresh r.inv hp, upd_same, dpAll_same (res_mono fun a o n ea => ?_) _ _ (dpAll_rev ha)⟩⟩⟩
    have hne : a ≠ p' := ne_of_none ea hp
    exact ⟨fun z => z.elim n hne, by rw [upd_ne hne]; exact ea⟩
  | tuple ds =>
    obtain ⟨p, vs, rfl, hs, ha⟩ := b
    exact ⟨p, vs, rfl, .inr ⟨sqT_same res_le hs, fun p' o ho hp => q _ _ _ c (e.trans (.new hp)) (.tup (.inl (.inr ⟨o, res_put (r2.notOwn hp) upd_same ho⟩)) (dpAll_after (.new hp) (dpAll_rev ha)))⟩⟩
  | str x => exact c.elim
  | none => exact c.elim
  | bool _ => exact c.elim
  | int _ => exact c.elim
  | dict _ => exact c.elim
end
/-! lemmas for the math -/
section
variable {ds : List D} {R : Rs → Prop} {ρ : En} {tv : UV}
theorem c_eRev : eRev tv ρ R = tv ρ fun d => fRev d R := propext Iff.rfl
theorem q_rev_l : fRev (.list ds) R = R (.lst ds.reverse) := rfl
theorem q_rev_t : fRev (.tuple ds) R = R (.dat (.tuple ds.reverse)) := rfl
theorem q_sortd_l : fSortD [.list ds] R = (SortOk ds ∧ R (.lst (ds.mergeSort dLe))) := rfl
theorem q_sortd_t : fSortD [.tuple ds] R = (SortOk ds ∧ R (.lst (ds.mergeSort dLe))) := rfl
end
end Pu
/-! ### sorted(set(xs)), xs a list or a tuple of ints -/
namespace Pu
open PySem PySem.Spec PyProof.Rows L2 PySem.W
section
variable {P : Program} {w : World} {A : Around} {E : Value → Shared → Prop} {s : Shared}
theorem call_set_listI {l : Addr} {items : Array Value} (ns : List Int) {Q : Value → Shared → Prop} (hh : A.handled = none) (hl : s.heap.IsList l items) (hit : IntsAre items.toList ns) (hb : ns.length + 1 < scanBound)
    (h : ∀ (h' : Heap) (tk c : Nat), SetR w h' s.heap.objs.size (fun j => decide (j ∈ ns)) c → c ≤ ns.length → (∀ b o, s.heap.get? b = some o → h'.get? b = some o) → Q (.ref s.heap.objs.size) { s with heap := h', toks := tk }) :
    wpAny (model P w) A (call (.type "set") [.ref l]) Q E s := by
  have hisz : items.size = ns.length := by
    have q := IntsAre.length hit
    rw [Array.length_toList] at q
    exact q
  obtain ⟨c, tl, hmro⟩ := F.called_set.mro
  have hmade := F.called_set.made
  have hsub := F.called_set.sub
  refine wpAny_call (codeAny_of_tree ?_)
  show wpAny _ _ (callAny (.type "set") _) _ _ _
  refine wpAny_pure ⟨Code.quiet_builtin _ (by decide +kernel), codeAny_builtin F.entry_type_call ?_⟩
  rw [Around.under_plain (weight_type_call_type "set" [.ref l] []) rfl]
  have h1 := F.called_set.notType
  have h2 := F.called_set.canCreate
  have hct := F.typeCall_set_1 (.ref l)
  repeat (any_goals (first | assumption | wp_step))
  refine codeAny_mono (code_set_led1 (.ref l) (E := E) (Q₁ := fun obj s₁ => obj = .ref s.heap.objs.size ∧ s₁ = { s with heap := s.heap.push { cls := .type "set", dict := none, data := .set #[] 0 (.fresh 0 0 (!w.params.followText "set-order")) } }) ⟨rfl, rfl⟩) fun r s₁ hr => ?_
  cases r with
  | error e => exact hr
  | ok fl =>
    cases fl with
    | ret obj =>
      obtain ⟨rfl, rfl⟩ := hr
      have hS : (s.heap.push { cls := .type "set", dict := none, data := .set #[] 0 (.fresh 0 0 (!w.params.followText "set-order")) }).get? s.heap.objs.size = some { cls := .type "set", dict := none, data := .set #[] 0 (.fresh 0 0 (!w.params.followText "set-order")) } := Heap.get?_push_size _ rfl
      have hT : Shared.TypeIs { s with heap := s.heap.push { cls := .type "set", dict := none, data := .set #[] 0 (.fresh 0 0 (!w.params.followText "set-order")) } } (.ref s.heap.objs.size) "set" := ⟨_, hS, rfl⟩
      have hli := F.called_set.init.lookup
      have hbi := F.called_set.init.bind (.ref s.heap.objs.size)
      repeat (any_goals (first | assumption | wp_step))
      refine codeAny_mono (codeAny_call_builtin (R := wants (fun r s₂ => r = .none ∧ ∃ h' tk c, s₂ = { s with heap := h', toks := tk } ∧ SetR w h' s.heap.objs.size (fun j => decide (j ∈ ns)) c ∧ c ≤ ns.length ∧
          (∀ b o, s.heap.get? b = some o → h'.get? b = some o)) E) F.called_set.init.plain F.entry_set_init (check_set_init_1 hT ?_)) fun r₂ s₂ hr₂ => ?_
      · obtain ⟨ol, hol, hcl, nl, hdl⟩ := hl
        obtain ⟨ocls, odict, odata, oslots⟩ := ol
        simp only at hcl hdl
        subst hcl; subst hdl
        have hol' : (s.heap.push { cls := .type "set", dict := none, data := .set #[] 0 (.fresh 0 0 (!w.params.followText "set-order")) }).get? l = some { cls := .type "list", dict := odict, data := .seq items nl, slots := oslots } := Heap.get?_push_of_some _ hol
        have hsls := F.sub_list_set
        have hslf := F.sub_list_frozenset
        have hne : (Value.type "list" == Value.type "dict") = false := by decide
        have hl1 : (s.heap.push { cls := .type "set", dict := none, data := .set #[] 0 (.fresh 0 0 (!w.params.followText "set-order")) }).IsList l items := ⟨_, hol', rfl, nl, rfl⟩
        unfold Builtin.«set.__init__» noKeywords Builtin.Frozenset.updateFrom
        generalize hPI : pyIter = PI
        wp_walk
        subst hPI
        refine wpAny_pyIter_list hl1 ?_
        refine wpAny_bind (wpAny_runValue ?_)
        have hlS : l < s.heap.objs.size := Heap.lt_size hol
        have hh3 : A.in1.in1.in1.handled = none := by simp [hh]
        have hneI : l ≠ (s.heap.push { cls := .type "set", dict := none, data := .set #[] 0 (.fresh 0 0 (!w.params.followText "set-order")) }).objs.size := by
          rw [Heap.size_push]; exact Nat.ne_of_lt (Nat.lt_succ_of_lt hlS)
        have hSf : s.heap.objs.size ∉ [(s.heap.push { cls := .type "set", dict := none, data := .set #[] 0 (.fresh 0 0 (!w.params.followText "set-order")) }).objs.size, l] := by
          rw [Heap.size_push]; simp only [List.mem_cons, List.mem_singleton, List.not_mem_nil, or_false, not_or]
          exact ⟨Nat.ne_of_lt (Nat.lt_succ_self _), Nat.ne_of_gt hlS⟩
        have hval : ∀ (i : Nat) (v : Value), items[i]? = some v → ∃ k t, ns[i]? = some k ∧ v = .int k t := fun i v hv => by
          have hi : i < ns.length := by rw [← hisz]; exact (Array.getElem?_eq_some_iff.mp hv).1
          obtain ⟨t, e⟩ := PyProof.Rows.IntsAre.int_at hit i v (by rw [Array.getElem?_toList]; exact hv)
          refine ⟨ns[i], t, List.getElem?_eq_getElem hi, ?_⟩
          rw [e, List.getD_eq_getElem?_getD, List.getElem?_eq_getElem hi] <;> rfl
        refine set_update_ints ((Walks.list hh3 _ l hneI items).toS) s.heap.objs.size
          hSf ns hisz hb hval (items.size - 0) 0 _ (by omega) (Nat.zero_le _)
          ⟨⟨_, Heap.get?_push_size _ rfl, rfl, rfl⟩, (hl1.push _)⟩ ⟨0, Nat.le_refl 0, setR_new_at (Heap.get?_push_of_some _ hS)⟩ ?_
        intro s' c' hm hc' hS'
        obtain ⟨h', g2, d', tk', os'⟩ := s'
        have eg : g2 = s.gens := hm.gens
        have ed : d' = s.drawn := hm.drawn
        have eo : os' = s.os := hm.os
        subst eg; subst ed; subst eo
        show wpAny _ _ _ _ _ _
        refine wpAny_pure ?_
        show wpAny _ _ (ret Value.none) _ _ _
        rw [hisz] at hc'
        refine wpAny_pure ⟨rfl, h', tk', c', rfl, hS', hc', fun b o e => ?_⟩
        have hb0 : b < s.heap.objs.size := Heap.lt_size e
        have hb1 : b ≠ s.heap.objs.size := Nat.ne_of_lt hb0
        have hb2 : b ≠ (s.heap.push { cls := .type "set", dict := none, data := .set #[] 0 (.fresh 0 0 (!w.params.followText "set-order")) }).objs.size := by
          rw [Heap.size_push]; exact Nat.ne_of_lt (Nat.lt_succ_of_lt hb0)
        exact hm.heap b o (by simp only [List.mem_cons, List.mem_singleton, List.not_mem_nil, or_false, not_or]; exact ⟨hb1, hb2⟩) (Heap.get?_push_of_some _ (Heap.get?_push_of_some _ e))
      · cases r₂ with
        | error e => exact hr₂
        | ok fl₂ =>
          cases fl₂ with
          | ret r =>
            obtain ⟨rfl, h', tk, c', rfl, hS', hc', hk'⟩ := hr₂
            repeat (any_goals (first | assumption | wp_step))
            exact h _ _ _ hS' hc' hk'
          | _ => exact hr₂.elim
    | _ => exact hr.elim
end
end Pu
namespace Pu
open PySem PySem.Spec PyProof.Rows L2 PySem.W
section
variable {X : Cx}
/-- set(xs), xs a list or a tuple of ints -/
def rSetI (K : PySem.W.Frag) (w : World) : List V → Hp → VK → Prop := fun vs H Q => ∃ (a : Addr) (ns : List Int), vs = [V.ref a] ∧ (SqL K H a (ns.map V.int) ∨ SqT K H a (ns.map V.int)) ∧ ns.length < 1000 ∧
  ∀ p c, c ≤ ns.length → H p = none → Q (.ref p) (upd H p (SetO w p (fun j => decide (j ∈ ns)) c))
theorem bound1000 {n : Nat} (h : n < 1000) : n + 1 < scanBound := by
  have : (2000 : Nat) ≤ scanBound := by decide
  omega
theorem cr_setI (hc : X.calm = true) : CallR X (.type "set") (rSetI X.K X.w) := by
  intro pins s σ H vs us Q I r h
  obtain ⟨a, ns, rfl, hs, hl, q⟩ := h
  rw [Vals.ref1 r]
  have fin : ∀ (h' : Heap) (tk c : Nat), SetR X.w h' s.heap.objs.size (fun j => decide (j ∈ ns)) c → c ≤ ns.length → (∀ b o, s.heap.get? b = some o → h'.get? b = some o) → EP X pins σ Q (.ref s.heap.objs.size) { s with heap := h', toks := tk } := fun h' tk c hS hc hk =>
    ⟨.ref s.heap.objs.size, upd H s.heap.objs.size (SetO X.w s.heap.objs.size (fun j => decide (j ∈ ns)) c), I.laid (t' := tk) hk (Nat.le_refl _) (setO_new hS), rfl, q _ c hc (I.hok.fresh (Nat.le_refl _))⟩
  rcases hs with hs | hs
  · obtain ⟨its, rv, p, hz⟩ := I.list hs
    exact call_set_listI ns (I.ok.hd hc) p.isList (by simpa using intsAre_of rv) (bound1000 hl) fin
  · obtain ⟨its, rv, p, hz⟩ := I.tuple hs
    exact call_set_tupI ns (I.ok.hd hc) p (by simpa using intsAre_of rv) (bound1000 hl) fin
end
section
variable {X : Cx} {τ : Tn} {cp : List Str} {G : Gx} {N : List Str} {sc : Scope} {k : Nat} {e : Expr} {t : UV} {p p2 pos pos2 : Pos}
def fSSet : D → (Rs → Prop) → Prop
  | .list ds, C => ∃ ns, intsOf ds = some ns ∧ ns.length < 64 ∧ ∀ ms : List Int, ms.Pairwise (· < ·) → (∀ j, j ∈ ms ↔ j ∈ ns) → C (.lst (ms.map PyData.int))
  | .tuple ds, C => ∃ ns, intsOf ds = some ns ∧ ns.length < 64 ∧ ∀ ms : List Int, ms.Pairwise (· < ·) → (∀ j, j ∈ ms ↔ j ∈ ns) → C (.lst (ms.map PyData.int))
  | _, _ => False
def eSSet (t : UV) : UE := fun ρ C => t ρ fun d => fSSet d C
theorem je_sset (O : Ok cp G N sc k X) (hm : Free G "sorted") (hm2 : Free G "set") (ha : JV τ X e t) (hg : sc.names.lookup ("sorted" : Str) = some .globalImplicit := by rfl) (hg2 : sc.names.lookup ("set" : Str) = some .globalImplicit := by rfl)
    (he : starEach [e] X.env = (false, eval e X.env) :: starEach [] X.env := by rfl) : JE τ X (.Call (.Name "sorted" p) [.Call (.Name "set" p2) [e] [] pos2] [] pos) (eSSet t) := by
  intro ρ C c H0 γ σ H r Q q
  refine wpE_of (pe_callB (cr_sortedSet O.calm) (by show X.env.scope.names.lookup ("sorted" : Str) = _; rw [O.es]; exact hg) (by rw [O.em]; exact hm) (by decide +kernel : bootBuiltins "sorted" = some (.builtin "sorted"))
    (pa_cons (pe_callTy (cr_setI O.calm) (by show X.env.scope.names.lookup ("set" : Str) = _; rw [O.es]; exact hg2) (by rw [O.em]; exact hm2) (by decide +kernel : bootBuiltins "set" = some (.type "set")) (pa_cons pe_w pa_nil he) (by decide) (by decide) he (by rfl)) pa_nil (by rfl)) (by decide) (by decide) (by rfl) (by rfl)) ?_
  refine ha ρ _ c H0 γ σ H r _ fun d v H2 c e1 b => ?_
  have main : ∀ (a : Addr) (vs : List V) (ds : List D), v = .ref a → (SqL X.K H2 a vs ∨ SqT X.K H2 a vs) → DpAll X.K (res H2 (own τ σ ρ)) vs ds → (∃ ns, intsOf ds = some ns ∧ ns.length < 64 ∧ ∀ ms : List Int, ms.Pairwise (· < ·) → (∀ j, j ∈ ms ↔ j ∈ ns) → C (.lst (ms.map PyData.int))) →
      rSetI X.K X.w [v] H2 fun v1 H3 => rSortedSet X.w [v1] H3 Q := fun a vs ds ev hs ha ⟨ns, h1, h2, h3⟩ => by
    have e2 := intsOf_dp h1 ha
    subst e2
    refine ⟨a, ns, by rw [ev], hs, by omega, fun p' c hc hp => ⟨p', _, c, rfl, upd_same, by omega, fun ms p'' hpw hmem hlen hp2 => ?_⟩⟩
    have e3 : Ext τ H2 (upd H2 p' (SetO X.w p' (fun j => decide (j ∈ ns)) c)) := .new hp
    have e4 := e1.trans e3
    have r3 := (r.after e1).after e3
    refine q _ _ _ (h3 ms hpw fun j => by rw [hmem j, decide_eq_true_iff]) (e4.trans (.new hp2)) ?_
    exact rs_back r e4 (new_lst r3 hp2 (dp_ints ms))
  cases d with
  | list ds =>
    obtain ⟨a, vs, rfl, hs, ha⟩ := b
    exact main a vs ds rfl (.inl (sqL_same res_le hs)) ha c
  | tuple ds =>
    obtain ⟨a, vs, rfl, hs, ha⟩ := b
    exact main a vs ds rfl (.inr (sqT_same res_le hs)) ha c
  | str x => exact c.elim
  | none => exact c.elim
  | bool _ => exact c.elim
  | int _ => exact c.elim
  | dict _ => exact c.elim
theorem c_eSSet {ρ : En} {R : Rs → Prop} : eSSet t ρ R = t ρ fun d => fSSet d R := propext Iff.rfl
theorem q_sset_l {ds : List D} {R : Rs → Prop} : fSSet (.list ds) R ↔ ixC (intsOf ds) fun ns => ns.length < 64 ∧ ∀ ms : List Int, ms.Pairwise (· < ·) → (∀ j, j ∈ ms ↔ j ∈ ns) → R (.lst (ms.map PyData.int)) := by rw [ixC_iff]; rfl
theorem q_sset_t {ds : List D} {R : Rs → Prop} : fSSet (.tuple ds) R ↔ ixC (intsOf ds) fun ns => ns.length < 64 ∧ ∀ ms : List Int, ms.Pairwise (· < ·) → (∀ j, j ∈ ms ↔ j ∈ ns) → R (.lst (ms.map PyData.int)) := by rw [ixC_iff]; rfl
end
end Pu
/-! ### dicts of one's own: {}, d[k] = v, d.update(e), dict(pairs), sorted(d), d[k], d.get(k, v) -/
namespace Pu
open PySem PySem.Spec PyProof.Rows L2 PySem.W
def keyD : D → Option Key
  | .int i => some (.inl i)
  | .str x => some (.inr x)
  | _ => none
theorem dp_key {K : PySem.W.Frag} {H : Hp} {v : V} {d : D} {k : Key} (h : Dp K H v d) (e : keyD d = some k) : v = kV k := by
  cases d with
  | int i => cases e; cases h; rfl
  | str x => cases e; cases h; rfl
  | none => cases e
  | bool b => cases e
  | list ds => cases e
  | tuple ds => cases e
  | dict kvs => cases e
/-- a key's datum stored -/
def putD (kds : List (Key × D)) (k : Key) (d : D) : List (Key × D) :=
  if kds.any (fun p => decide (p.1 = k)) then kds.map fun p => if p.1 = k then (p.1, d) else p else kds ++ [(k, d)]
def mergeD (kds more : List (Key × D)) : List (Key × D) := more.foldl (fun acc p => putD acc p.1 p.2) kds
theorem kv_any {K : PySem.W.Frag} {H : Hp} {k : Key} : ∀ {kvs : List (Key × V)} {kds : List (Key × D)}, KvOk K H kvs kds → (kvs.any fun p => decide (p.1 = k)) = kds.any fun p => decide (p.1 = k)
  | _, _, .nil => rfl
  | _, _, .cons h t => by
    rw [List.any_cons, List.any_cons, kv_any t, h.1]
theorem kv_map {K : PySem.W.Frag} {H : Hp} {k : Key} {v : V} {d : D} (hv : Dp K H v d) : ∀ {kvs : List (Key × V)} {kds : List (Key × D)}, KvOk K H kvs kds → KvOk K H (kvs.map fun p => if p.1 = k then (p.1, v) else p) (kds.map fun p => if p.1 = k then (p.1, d) else p)
  | _, _, .nil => .nil
  | _, _, .cons (a := p) (b := q) h t => by
    rw [List.map_cons, List.map_cons]
    refine .cons ?_ (kv_map hv t)
    rw [← h.1]
    by_cases e : p.1 = k
    · rw [if_pos e, if_pos e]
      exact ⟨rfl, hv⟩
    · rw [if_neg e, if_neg e]
      exact h
theorem kv_app {K : PySem.W.Frag} {H : Hp} {k : Key} {v : V} {d : D} (hv : Dp K H v d) : ∀ {kvs : List (Key × V)} {kds : List (Key × D)}, KvOk K H kvs kds → KvOk K H (kvs ++ [(k, v)]) (kds ++ [(k, d)])
  | _, _, .nil => .cons ⟨rfl, hv⟩ .nil
  | _, _, .cons h t => .cons h (kv_app hv t)
theorem kv_put {K : PySem.W.Frag} {H : Hp} {k : Key} {v : V} {d : D} {kvs : List (Key × V)} {kds : List (Key × D)} (h : KvOk K H kvs kds) (hv : Dp K H v d) : KvOk K H (putK kvs k v) (putD kds k d) := by
  unfold putK putD
  rw [kv_any h]
  split
  · exact kv_map hv h
  · exact kv_app hv h
theorem kv_merge {K : PySem.W.Frag} {H : Hp} : ∀ {more : List (Key × V)} {mds : List (Key × D)} {kvs : List (Key × V)} {kds : List (Key × D)}, KvOk K H more mds → KvOk K H kvs kds → KvOk K H (mergeK kvs more) (mergeD kds mds)
  | _, _, _, _, .nil, h => h
  | _, _, _, _, .cons (a := p) (b := q) h1 t, h => by
    have e := h1.1
    show KvOk K H (mergeK (putK _ p.1 p.2) _) (mergeD (putD _ q.1 q.2) _)
    rw [e]
    exact kv_merge t (kv_put h h1.2)
theorem kv_len {K : PySem.W.Frag} {H : Hp} : ∀ {kvs : List (Key × V)} {kds : List (Key × D)}, KvOk K H kvs kds → kvs.length = kds.length
  | _, _, .nil => rfl
  | _, _, .cons h t => by rw [List.length_cons, List.length_cons, kv_len t]
theorem kv_keys {K : PySem.W.Frag} {H : Hp} : ∀ {kvs : List (Key × V)} {kds : List (Key × D)}, KvOk K H kvs kds → kvs.map (·.1) = kds.map (·.1)
  | _, _, .nil => rfl
  | _, _, .cons h t => by rw [List.map_cons, List.map_cons, kv_keys t, h.1]
def getD? (kds : List (Key × D)) (k : Key) : Option D := (kds.find? fun p => decide (p.1 = k)).map (·.2)
theorem kv_get {K : PySem.W.Frag} {H : Hp} {k : Key} : ∀ {kvs : List (Key × V)} {kds : List (Key × D)}, KvOk K H kvs kds → (∀ d, getD? kds k = some d → ∃ v, valV kvs k = some v ∧ Dp K H v d) ∧ (getD? kds k = none → valV kvs k = none)
  | _, _, .nil => ⟨fun _ h => (by cases h), fun _ => rfl⟩
  | _, _, .cons (a := p) (b := q) h t => by
    unfold getD? valV
    obtain ⟨i1, i2⟩ := kv_get (k := k) t
    rw [List.find?_cons, List.find?_cons, h.1]
    by_cases e : q.1 = k
    · simp only [e, decide_true]
      exact ⟨fun d hd => ⟨_, rfl, by cases hd; exact h.2⟩, fun hd => by cases hd⟩
    · simp only [e, decide_false]
      exact ⟨i1, i2⟩
section
variable {τ : Tn} {G : Gx} {cp : List Str} {N : List Str} {sc : Scope} {k : Nat} {X : Cx} {e e2 : Expr} {tv tw : UV} {te : UE} {pos p2 p3 apos : Pos} {x : Str}
/-- {} -/
def eDic0 : UE := fun _ C => C (.dic [])
theorem je_dic0 : JE τ X (.Dict [] [] pos) eDic0 := fun ρ C c H0 γ σ H r Q q =>
  wpE_of pe_dnewK fun p hp => q (.dic []) (.ref p) _ c (.new hp) ⟨p, [], rfl, hp, upd_same, .nil⟩
/-- x[k] = v -/
def sDPutD (i : Nat) (tk tv : UV) : US := fun E ρ => match ρ[i]? with
  | some (.dic kds) => tv ρ fun d => tk ρ fun dk => ∃ k, keyD dk = some k ∧ kds.length < 1000000 ∧ E.nx (ρ.set i (.dic (putD kds k d)))
  | _ => False
theorem js_dput (S : Ok cp G N sc k X) (i : Nat) (hk : JD τ X e tw) (hv : JD τ X e2 tv) (hN : N[i]? = some x := by rfl) (hvis : Vis sc x := by first | exact Or.inl rfl | exact Or.inr (Or.inl rfl) | exact Or.inr (Or.inr rfl)) (hd : (x == ("__debug__" : Str)) = false := by decide) (hcd : (x == ("__classdict__" : Str)) = false := by decide)
    (hs : swapsWith e2 (some (.Subscript (.Name x p2) e p3)) pos.line X.env = pure false := by rfl) :
    JS τ X (.Assign [.Subscript (.Name x p2) e p3] e2 pos) (sDPutD i tw tv) := fun ρ E c H0 γ σ H r Dn d => by
  refine wpS_of (ps_dput (by have := S.room.un; omega) (pe_var (i := i) (by rw [S.eN]; exact hN) (by rw [S.es]; exact hvis) hd hcd) pe_w pe_w hs) ?_
  unfold sDPutD at c
  split at c
  · rename_i kds hi
    obtain ⟨p, kvs, e0, h0, hn, h, h'⟩ := r.sl i _ hi
    refine hv ρ _ c H0 γ σ H r _ fun d1 v1 H1 c e1 b1 => ⟨_, e0, ?_⟩
    refine hk ρ _ c H0 γ σ H1 (r.after e1) _ fun d2 v2 H2 c e2 b2 => ?_
    obtain ⟨kk, hkk, hl, c⟩ := c
    have e12 := e1.trans e2
    have hp := e12.kp p _ h hn
    have b1' := dp_after e2 b1
    have h2 := KvOk.same (res_ext e12 fun _ => own_ad) h'
    refine ⟨p, _, rfl, ?_, d.nx _ _ _ c ((r.after e12).change hi rfl rfl e0 hn h0 ⟨p, _, rfl, h0, hn, upd_same, kv_put h2 b1'⟩)⟩
    rw [dp_key b2 hkk]
    exact DPut.k hp (by rw [kv_len h']; exact slice_line (by omega))
  · exact c.elim
/-- x.update(a new dict) -/
theorem putK_lenD {kvs : List (Key × V)} {k : Key} {v : V} : (putK kvs k v).length ≤ kvs.length + 1 := length_putK kvs k v
theorem mergeK_lenD : ∀ {more kvs : List (Key × V)}, (mergeK kvs more).length ≤ kvs.length + more.length
  | [], kvs => Nat.le_refl _
  | p :: more, kvs => by
    have h1 := mergeK_lenD (more := more) (kvs := putK kvs p.1 p.2)
    have h2 := putK_lenD (kvs := kvs) (k := p.1) (v := p.2)
    have e : mergeK kvs (p :: more) = mergeK (putK kvs p.1 p.2) more := rfl
    rw [e, List.length_cons]
    omega
def rUpdD : V → List V → Hp → VK → Prop := fun x xs H Q => ∃ (a b : Addr) (kvs more : List (Key × V)), x = .ref a ∧ xs = [.ref b] ∧ a ≠ b ∧ H a = some (.dK kvs) ∧ H b = some (.dK more) ∧ kvs.length + more.length ≤ sizeLine ∧ Q .non (upd H a (.dK (mergeK kvs more)))
theorem mt_updD {X : Cx} : MtR X "dict.update" rUpdD := by
  intro pins s σ H x xs v us Q I rx rv h
  obtain ⟨a, b, kvs, more, rfl, rfl, ne, ha, hb, hl, q⟩ := h
  obtain rfl : v = Value.ref a := rx
  cases rv with
  | cons rb rn =>
    cases rn
    rename_i u
    obtain rfl : u = Value.ref b := rb
    obtain ⟨z, hd, vs, rel, dd⟩ := dk_of I.hok ha
    obtain ⟨z', hd', ws, rel', dd'⟩ := dk_of I.hok hb
    refine call_meetsIn PySem.F.slot_dict_update dd.typeIs PySem.F.entry_dict_update (PySem.F.args_dict_update_2 _ _) (meets_dict_update (mixKind X.prog X.w) a b ne hd') ⟨vs, ws, dd, dd', by rw [← rel.length, ← rel'.length]; exact hl, fun h' m1 _ sb => ?_⟩
    have he : ∃ q, h'.get? a = some q := let ⟨q, _, _, hq, _⟩ := m1; ⟨q, hq⟩
    exact ⟨.non, _, d_write (t' := s.toks) I (by rw [ha]; exact True.intro) sb he (dk_new (Nat.le_trans mergeK_lenD hl) hd (KV.merge rel' rel) m1), rfl, q⟩
def sDUpd (i : Nat) (te : UE) : US := fun E ρ => match ρ[i]? with
  | some (.dic kds) => te ρ fun r => match r with
    | .dic more => kds.length + more.length ≤ 1000000 ∧ E.nx (ρ.set i (.dic (mergeD kds more)))
    | _ => False
  | _ => False
theorem js_dupd (S : Ok cp G N sc k X) (i : Nat) (he : JE τ X e te) (hN : N[i]? = some x := by rfl) (hv : Vis sc x := by first | exact Or.inl rfl | exact Or.inr (Or.inl rfl) | exact Or.inr (Or.inr rfl)) (hd : (x == ("__debug__" : Str)) = false := by decide) (hcd : (x == ("__classdict__" : Str)) = false := by decide)
    (hfew : ((backTo p3 (starEach [e] X.env)).all (fun x => !x.1) && (backToKw p3 (keywordEach [] X.env)).all (fun x => x.1.isSome) && decide ([e].length + ([] : List Keyword).length + (if ([] : List Keyword).isEmpty then 0 else 1) < 30)) = true := by rfl)
    (hline : (apos.endLine == p3.line) = true := by rfl) (hst : starEach [e] X.env = (false, eval e X.env) :: starEach [] X.env := by rfl) :
    JS τ X (.Expr (.Call (.Attribute (.Name x p2) "update" apos) [e] [] p3) pos) (sDUpd i te) := fun ρ E c H0 γ σ H r Dn d => by
  refine wpS_of (ps_expr (pe_bm PySem.F.plainAttrs_dict PySem.F.slot_dict_update PySem.F.type_dict_update mt_updD (pe_var (i := i) (by rw [S.eN]; exact hN) (by rw [S.es]; exact hv) hd hcd) (pa_cons pe_w pa_nil hst) rfl hfew hline hst rfl)) ?_
  unfold sDUpd at c
  split at c
  · rename_i kds hi
    obtain ⟨p, kvs, e0, h0, hn, h, h'⟩ := r.sl i _ hi
    refine ⟨_, e0, .inr (.inr (.inl ⟨rfl, .inl ⟨_, h⟩⟩)), he ρ _ c H0 γ σ H r _ fun rs v H2 c e1 h1 => ?_⟩
    cases rs with
    | dat _ => exact c.elim
    | lst _ => exact c.elim
    | th _ => exact c.elim
    | dll _ => exact c.elim
    | dic more =>
      obtain ⟨q, ws, rfl, hq, hq2, ha⟩ := h1
      have hp := e1.kp p _ h hn
      have ne : p ≠ q := fun z => by rw [z, hq] at h; cases h
      refine ⟨p, q, kvs, ws, rfl, rfl, ne, hp, hq2, ?_, d.nx _ _ _ c.2 ?_⟩
      · rw [kv_len h', kv_len ha]; exact small_line c.1
      · exact (r.after e1).change hi rfl rfl e0 hn h0 ⟨p, _, rfl, h0, hn, upd_same, kv_merge (KvOk.same (res_mono fun b o n eb => ⟨fun z => n (.inl z), eb⟩) ha) (KvOk.same (res_ext e1 fun _ => own_ad) h')⟩
  · exact c.elim
/-! dict(a list of pairs) -/
def pairK : D → Option (Key × D)
  | .tuple [a, b] => (keyD a).map fun k => (k, b)
  | _ => none
def pairsK : List D → Option (List (Key × D))
  | [] => some []
  | d :: ds => match pairK d, pairsK ds with
    | some p, some ps => some (p :: ps)
    | _, _ => none
theorem pairsK_dp {K : PySem.W.Frag} {H H' : Hp} (hs : Same H H') : ∀ {ds : List D} {kds : List (Key × D)} {ws : List V}, pairsK ds = some kds → DpAll K H ws ds → ∃ (ps : List Addr) (kvs : List (Key × V)), ws = ps.map V.ref ∧ Paired (fun p kv => SqT K H' p [kV kv.1, kv.2]) ps kvs ∧ KvOk K H kvs kds
  | [], kds, ws, e, h => by
    cases e
    cases h
    exact ⟨[], [], rfl, .nil, .nil⟩
  | d :: ds, kds, ws, e, h => by
    unfold pairsK at e
    split at e
    · rename_i p ps e1 e2
      cases e
      cases h with
      | cons h1 h2 =>
        obtain ⟨as, kvs, rfl, hp, hk⟩ := pairsK_dp hs e2 h2
        unfold pairK at e1
        split at e1
        · rename_i a b
          cases ek : keyD a with
          | none => rw [ek] at e1; cases e1
          | some k =>
            rw [ek] at e1
            cases e1
            cases h1 with
            | tup hs1 ha =>
              rename_i q vs
              cases ha with
              | cons g1 g2 =>
                cases g2 with
                | cons g2 g3 =>
                  cases g3
                  rename_i v1 v2
                  have e5 := dp_key g1 ek
                  subst e5
                  exact ⟨q :: as, (k, v2) :: kvs, rfl, .cons (sqT_same hs hs1) hp, .cons ⟨rfl, g2⟩ hk⟩
        · cases e1
    · cases e
def fDictP : List D → (Rs → Prop) → Prop
  | [.list ds], C => ∃ kds, pairsK ds = some kds ∧ C (.dic (mergeD [] kds))
  | _, _ => False
theorem fDictP_ok : Cb X (fun xs H Q => ∃ (a : Addr) (ps : List Addr) (kvs : List (Key × V)), xs = [.ref a] ∧ SqL X.K H a (ps.map V.ref) ∧ Paired (fun p kv => SqT X.K H p [kV kv.1, kv.2]) ps kvs ∧ ∀ p, H p = none → Q (.ref p) (upd H p (.dK (mergeK [] kvs)))) fDictP := fun τ H0 H γ σ ρ vs ds C r b f Q q => by
  unfold fDictP at f
  split at f
  · obtain ⟨v, rfl, p, ws, rfl, hs, ha⟩ := paired1 b
    obtain ⟨kds, h1, h2⟩ := f
    obtain ⟨ps, kvs, rfl, hp, hk⟩ := pairsK_dp res_le h1 ha
    refine ⟨p, ps, kvs, rfl, sqL_same res_le hs, hp, fun l hl => q _ _ _ h2 (.new hl) ⟨l, _, rfl, hl, upd_same, KvOk.same (res_mono fun a o n ea => ?_) (kv_merge hk .nil)⟩⟩
    have hne : a ≠ l := ne_of_none ea hl
    exact ⟨fun z => z.elim n hne, by rw [upd_ne hne]; exact ea⟩
  · exact f.elim
/-! sorted(x), x a dict of one's own with ints for keys -/
def eSortK (i : Nat) : UE := fun ρ C => match ρ[i]? with
  | some (.dic kds) => ∃ ks : List Int, kds.map (·.1) = ks.map Sum.inl ∧ ks.length < 64 ∧ ∀ ys : List Int, ys.Perm ks → ys.Pairwise (· ≤ ·) → C (.lst (ys.map PyData.int))
  | _ => False
theorem je_sortK (S : Ok cp G N sc k X) (i : Nat) (hm : Free G "sorted") (hN : N[i]? = some x := by rfl) (hvis : Vis sc x := by first | exact Or.inl rfl | exact Or.inr (Or.inl rfl) | exact Or.inr (Or.inr rfl)) (hd : (x == ("__debug__" : Str)) = false := by decide) (hcd : (x == ("__classdict__" : Str)) = false := by decide)
    (hg : sc.names.lookup ("sorted" : Str) = some .globalImplicit := by rfl) : JE τ X (.Call (.Name "sorted" p2) [.Name x p3] [] pos) (eSortK i) := fun ρ C c H0 γ σ H r Q q => by
  refine wpE_of (pe_callB (call_sortedDI S.calm) (by show X.env.scope.names.lookup ("sorted" : Str) = _; rw [S.es]; exact hg) (by rw [S.em]; exact hm) (by decide +kernel : bootBuiltins "sorted" = some (.builtin "sorted")) (pa_cons (pe_var (i := i) (by rw [S.eN]; exact hN) (by rw [S.es]; exact hvis) hd hcd) pa_nil (by rfl)) (by decide) (by decide) (by rfl) (by rfl)) ?_
  unfold eSortK at c
  split at c
  · rename_i kds hi
    obtain ⟨p, kvs, e0, h0, hn, h, h'⟩ := r.sl i _ hi
    obtain ⟨ks, h1, h2, h3⟩ := c
    exact ⟨_, e0, p, kvs, ks, rfl, .inl h, (kv_keys h').trans h1, h2, fun ys l y1 y2 hl => q _ _ _ (h3 ys y1 y2) (.new hl) (new_lst r hl (dp_ints ys))⟩
  · exact c.elim
/-! x[k], x a dict of one's own -/
def dDGet (i : Nat) (tk : UV) : UV := fun ρ C => match ρ[i]? with
  | some (.dic kds) => tk ρ fun dk => ∃ k d, keyD dk = some k ∧ getD? kds k = some d ∧ C d
  | _ => False
theorem jd_dget (S : Ok cp G N sc k X) (i : Nat) (hk : JD τ X e tw) (hN : N[i]? = some x := by rfl) (hvis : Vis sc x := by first | exact Or.inl rfl | exact Or.inr (Or.inl rfl) | exact Or.inr (Or.inr rfl)) (hd : (x == ("__debug__" : Str)) = false := by decide) (hcd : (x == ("__classdict__" : Str)) = false := by decide)
    (hs : NoSl e := by exact fun _ _ => rfl) : JD τ X (.Subscript (.Name x p2) e pos) (dDGet i tw) := fun ρ C c H0 γ σ H r Q q => by
  refine wpE_of (pe_dget (by have := S.room.un; omega) (pe_var (i := i) (by rw [S.eN]; exact hN) (by rw [S.es]; exact hvis) hd hcd) pe_w hs) ?_
  unfold dDGet at c
  split at c
  · rename_i kds hi
    obtain ⟨p, kvs, e0, h0, hn, h, h'⟩ := r.sl i _ hi
    refine ⟨_, e0, hk ρ _ c H0 γ σ H r _ fun d2 v2 H2 c e2 b2 => ?_⟩
    obtain ⟨kk, dd, hkk, hg, c⟩ := c
    have hp := e2.kp p _ h hn
    have h2 := KvOk.same (res_ext e2 fun _ => own_ad) h'
    obtain ⟨v, hv1, hv2⟩ := (kv_get (k := kk) h2).1 dd hg
    refine ⟨p, v, rfl, ?_, q _ _ _ c e2 hv2⟩
    rw [dp_key b2 hkk, ← hv1]
    exact DGet.k hp
  · exact c.elim
end
/-! what is never reached -/
def eNo : UE := fun _ _ => False
theorem je_no {τ : Tn} {X : Cx} {e : Expr} : JE τ X e eNo := fun _ _ c => c.elim
/-! range(a, b, -1) -/
def dnD (lo : Int) (n : Nat) : List D := (List.range n).map fun (i : Nat) => .int (lo - (i : Int))
theorem dnD_len {lo : Int} {n : Nat} : (dnD lo n).length = n := by
  unfold dnD
  rw [List.length_map, List.length_range]
theorem itOk_dn {K : PySem.W.Frag} {τ : Tn} {lo : Int} {n : Nat} : ItOk K τ (Itc lo (-1) n) [] (dnD lo n) where
  go := fun H ow g i hi => by rw [dnD_len] at hi; exact hi
  yld := fun H ow g hr i d hd x H' y => by
    obtain ⟨rfl, rfl⟩ := y
    unfold dnD at hd
    rw [List.getElem?_map] at hd
    by_cases hi : i < n
    · rw [List.getElem?_range hi] at hd
      cases hd
      refine ⟨Same.refl _, ?_⟩
      have e : lo + (i : Int) * (-1) = lo - (i : Int) := by omega
      rw [e]
      exact .int _
    · rw [List.getElem?_eq_none (by rw [List.length_range]; omega)] at hd
      cases hd
  stop := fun H ow g i hi => by rw [dnD_len] at hi; exact hi
section
variable {τ : Tn} {G : Gx} {cp : List Str} {N : List Str} {sc : Scope} {k : Nat} {X : Cx} {e e2 tg : Expr} {tv tw : UV} {pos p : Pos}
def iRangeN (tv tw : UV) : UL := fun ρ C => tv ρ fun d => tw ρ fun d2 => ∃ m n, d = .int m ∧ d2 = .int n ∧ m - n ≤ 1000000 ∧ -1000000000000 ≤ m ∧ m ≤ 1000000000000 ∧ -1000000000000 ≤ n ∧ n ≤ 1000000000000 ∧ C (dnD m (m - n).toNat)
theorem ji_rangeN {j : Nat} {p1 p2 : Pos} (S : Ok cp G N sc k X) (hm : Free G "range") (he : JV τ X e tv) (he2 : JV τ X e2 tw) (hg : sc.names.lookup ("range" : Str) = some .globalImplicit := by rfl) (hs : starEach [e, e2, (.UnaryOp .USub (.Constant (.int 1) j p1) p2)] X.env = (false, eval e X.env) :: starEach [e2, (.UnaryOp .USub (.Constant (.int 1) j p1) p2)] X.env := by rfl)
    (hs2 : starEach [e2, (.UnaryOp .USub (.Constant (.int 1) j p1) p2)] X.env = (false, eval e2 X.env) :: starEach [(.UnaryOp .USub (.Constant (.int 1) j p1) p2)] X.env := by rfl) (hpl : (backTo pos (starEach [e2, (.UnaryOp .USub (.Constant (.int 1) j p1) p2)] X.env)).any (·.1) = false := by rfl) :
    JI τ X tg (.Call (.Name "range" p) [e, e2, (.UnaryOp .USub (.Constant (.int 1) j p1) p2)] [] pos) (iRangeN tv tw) := fun ρ C c H0 γ σ H r R q =>
  wpI_of (pi_range3 (by show X.env.scope.names.lookup _ = _; rw [S.es]; exact hg) (by rw [S.em]; exact hm) (pa_cons pe_w (pa_cons pe_w (pa_cons (pe_un un_neg pe_int) pa_nil (by rfl)) hs2) hs) hs hpl) (he ρ _ c H0 γ σ H r _ fun d v H2 c e1 h => he2 ρ _ c H0 γ σ H2 (r.after e1) _ fun d2 v2 H3 c e2 h2 => by
    obtain ⟨m, n, rfl, rfl, h3, h4, h5, h6, h7, c⟩ := c
    cases h; cases h2
    obtain ⟨a1, b1⟩ := pow62 (n := m) (by omega) (by omega)
    obtain ⟨a2, b2⟩ := pow62 (n := n) (by omega) (by omega)
    exact ⟨1, rfl, m, n, -1, (m - n).toNat, rfl, RgC.neg a1 b1 a2 b2, q _ [] _ H3 c (e1.trans e2) (fun p hp => by cases hp) itOk_dn (by rw [dnD_len]; exact small_line (by omega))⟩)
end
/-! lemmas for the math -/
section
variable {ρ : En} {R : Rs → Prop} {C : D → Prop} {E : Ed} {i : Nat} {tv tw : UV} {te : UE} {kds : List (Key × D)} {ds : List D}
def kSl : Option Sl → (List (Key × D) → Prop) → Prop
  | some (.dic kds), C => C kds
  | _, _ => False
theorem kSl_d {C : List (Key × D) → Prop} : kSl (some (.dic kds)) C = C kds := rfl
def kRs : Rs → (List (Key × D) → Prop) → Prop
  | .dic kds, C => C kds
  | _, _ => False
theorem kRs_d {C : List (Key × D) → Prop} : kRs (.dic kds) C = C kds := rfl
theorem c_eNo : eNo ρ R = False := rfl
theorem c_eDic0 : eDic0 ρ R = R (.dic []) := propext Iff.rfl
theorem c_sDPutD : sDPutD i tw tv E ρ = kSl ρ[i]? fun kds => tv ρ fun d => tw ρ fun dk => ∃ k, keyD dk = some k ∧ kds.length < 1000000 ∧ E.nx (ρ.set i (.dic (putD kds k d))) := by
  unfold sDPutD
  cases ρ[i]? with
  | none => rfl
  | some s => cases s <;> rfl
theorem c_sDUpd : sDUpd i te E ρ = kSl ρ[i]? fun kds => te ρ fun r => kRs r fun more => kds.length + more.length ≤ 1000000 ∧ E.nx (ρ.set i (.dic (mergeD kds more))) := by
  unfold sDUpd
  cases ρ[i]? with
  | none => rfl
  | some s =>
    cases s with
    | dic kds =>
      show te ρ _ = te ρ _
      congr 1
      funext r
      cases r <;> rfl
    | un => rfl
    | dat d => rfl
    | lst ds => rfl
    | town => rfl
    | ldc kds => rfl
    | dtc kds => rfl
    | th _ => rfl
    | tv _ => rfl
    | tl _ => rfl
    | dls _ => rfl
theorem c_eSortK : eSortK i ρ R = kSl ρ[i]? fun kds => ∃ ks : List Int, kds.map (·.1) = ks.map Sum.inl ∧ ks.length < 64 ∧ ∀ ys : List Int, ys.Perm ks → ys.Pairwise (· ≤ ·) → R (.lst (ys.map PyData.int)) := by
  unfold eSortK
  cases ρ[i]? with
  | none => rfl
  | some s => cases s <;> rfl
theorem c_dDGet : dDGet i tw ρ C = kSl ρ[i]? fun kds => tw ρ fun dk => ∃ k d, keyD dk = some k ∧ getD? kds k = some d ∧ C d := by
  unfold dDGet
  cases ρ[i]? with
  | none => rfl
  | some s => cases s <;> rfl
theorem q_dictp : fDictP [.list ds] R = ∃ kds, pairsK ds = some kds ∧ R (.dic (mergeD [] kds)) := rfl
theorem c_iRangeN {C : List D → Prop} : iRangeN tv tw ρ C = tv ρ fun d => tw ρ fun d2 => ∃ m n, d = .int m ∧ d2 = .int n ∧ m - n ≤ 1000000 ∧ -1000000000000 ≤ m ∧ m ≤ 1000000000000 ∧ -1000000000000 ≤ n ∧ n ≤ 1000000000000 ∧ C (dnD m (m - n).toNat) := propext Iff.rfl
theorem sl_dic : Rs.sl (.dic kds) = .dic kds := rfl
end
end Pu
/-! ### x, y = e, e2 by the plain road (a tuple made and taken apart) -/
namespace Pu
open PySem PySem.Spec PyProof.Rows L2 PySem.W
section
variable {cp : List Str} {τ : Tn} {G : Gx} {N : List Str} {sc : Scope} {k : Nat} {X : Cx} {e e2 : Expr} {te ue : UE} {x y : Str} {pos : Pos}
def sPlr2 (i j : Nat) (te ue : UE) : US := fun E ρ => te ρ fun r1 => ue ρ fun r2 => r1.lf = true ∧ r2.lf = true ∧ E.nx ((ρ.set i r1.sl).set j r2.sl)
theorem js_plr2 {px py pt pt2 : Pos} {kt k2 : Nat} (S : Ok cp G N sc k X) (i j : Nat) (ha : JE τ X e te) (hb : JE τ X e2 ue) (hi : N[i]? = some x := by rfl) (hj : N[j]? = some y := by rfl) 
    (hx : LocC cp sc x := by first | exact Or.inl rfl | exact Or.inr ⟨rfl, rfl⟩) (hy : LocC cp sc y := by first | exact Or.inl rfl | exact Or.inr ⟨rfl, rfl⟩)
    (hw : swappedStores [.Tuple [.Name x px, .Name y py] kt pt] (.Tuple [e, e2] k2 pt2) { (default : Env) with scope := sc } = pure none := by rfl)
    (hs : swapsWithSole [.Tuple [.Name x px, .Name y py] kt pt] (.Tuple [e, e2] k2 pt2) pos.line X.env = pure false := by rfl) (hst : starEach [e, e2] X.env = (false, eval e X.env) :: starEach [e2] X.env := by rfl) (hst2 : starEach [e2] X.env = (false, eval e2 X.env) :: starEach [] X.env := by rfl) :
    JS τ X (.Assign [.Tuple [.Name x px, .Name y py] kt pt] (.Tuple [e, e2] k2 pt2) pos) (sPlr2 i j te ue) := fun ρ E c H0 γ σ H r Dn d =>
  wpS_of (ps_asg (pe_tup (pa_cons pe_w (pa_cons pe_w pa_nil hst2) hst))
      (pg_tup (n := 2) S.calm (pgs_cons (pg_name (i := i) (by rw [S.eN]; exact S.nd) (by rw [S.eN]; exact hi) (loc_of S hx) (fn_of_loc S hx)) (pgs_cons (pg_name (i := j) (by rw [S.eN]; exact S.nd) (by rw [S.eN]; exact hj) (loc_of S hy) (fn_of_loc S hy)) pgs_nil)))
      hs ((swapped_env S.es).trans hw))
    (ha ρ _ c H0 γ σ H r _ fun r1 v1 H2 c e1 h1 => hb ρ _ c H0 γ σ H2 (r.after e1) _ fun r2 v2 H3 c e2 h2 => ⟨small_line (by simp), fun p hp =>
      ⟨_, _, rfl, .inl (.inl upd_same), rfl, ⟨_, _, rfl, ⟨_, _, rfl, ⟨rfl, d.nx _ _ _ c.2.2 (((r.set e1 h1).set e2 (RsOk.beside r e1 e2 h1 c.2.1 h2)).after (.new hp))⟩⟩⟩⟩⟩)
end
theorem c_sPlr2 {te ue : UE} {i j : Nat} {E : Ed} {ρ : En} : sPlr2 i j te ue E ρ = te ρ fun r1 => ue ρ fun r2 => r1.lf = true ∧ r2.lf = true ∧ E.nx ((ρ.set i r1.sl).set j r2.sl) := propext Iff.rfl
end Pu
/-! ### dict(a tuple of pairs) -/
namespace Pu
open PySem PySem.Spec PyProof.Rows L2 PySem.W
/-- a tuple whose object has no dict -/
def PlT (K : PySem.W.Frag) (H : Hp) (a : Addr) (xs : List V) : Prop := SqT K H a xs ∧ ((∃ o, H a = some (.frz o (.tup xs)) ∧ o.dict = none) ∨ ∃ o, K.lookup a = some o ∧ o.cls = .type "tuple")
theorem plT_of {K : PySem.W.Frag} {H : Hp} {ow : Addr → Prop} {a : Addr} {ps : List Addr} (h : SqT K (res H ow) a (ps.map V.ref)) : PlT K H a (ps.map V.ref) := by
  refine ⟨sqT_same res_le h, ?_⟩
  rcases h with (h | ⟨o, h⟩) | ⟨o, its, n, h1, h2, _⟩
  · obtain ⟨x, hx, hn⟩ := res_ok h
    cases ps with
    | nil => cases hx
    | cons p ps =>
      cases hx
      exact absurd rfl (hn p)
  · exact .inl ⟨o, res_at h, res_ok h⟩
  · exact .inr ⟨o, h1, h2⟩
section
variable {X : Cx}
theorem PlT.plain {pins : List (Addr × Obj)} {σ : L2.St} {H : Hp} {s : Shared} {a : Addr} {xs : List V} (hK : PlK X.K) (I : Inv X pins σ H s) (h : PlT X.K H a xs) : ∃ its : List Value, Vals xs its ∧ PlainSeq "tuple" s.heap a its.toArray ∧ xs.length ≤ sizeLine := by
  obtain ⟨its, r, ⟨o, ho, hc, n, hd⟩, hz⟩ := I.tuple h.1
  refine ⟨its, r, ⟨o, n, ho, hc, ?_, hd⟩, hz⟩
  rcases h.2 with ⟨u, hu, hn⟩ | ⟨u, hu, hn⟩
  · have e := (I.hok a _ hu).1
    rw [ho] at e; cases e
    exact hn
  · have e := I.kIn a u hu
    rw [ho] at e; cases e
    exact hK a o hu hn
theorem call_dictPT (hcalm : X.calm = true) (hK : PlK X.K) : CallR X (.type "dict") (fun xs H Q => ∃ (a : Addr) (ps : List Addr) (kvs : List (Key × V)), xs = [.ref a] ∧ PlT X.K H a (ps.map V.ref) ∧ Paired (fun p kv => SqT X.K H p [kV kv.1, kv.2]) ps kvs ∧
    ∀ p, H p = none → Q (.ref p) (upd H p (.dK (mergeK [] kvs)))) := by
  intro pins s σ H xs us Q I r ⟨a, ps, kvs, ex, hq, hp, q⟩
  subst ex
  obtain ⟨u, rfl, rx⟩ := vals1 r
  cases rx
  obtain ⟨its, rv, pl, hz⟩ := PlT.plain hK I hq
  have ei := refs_at rv
  subst ei
  rw [List.length_map] at hz
  obtain ⟨prs, rel, hl, hpr⟩ := pairs_of I hp
  have ch : ∀ j : Fin prs.length, ∃ (b : Addr) (u : Value), ps[(j : Nat)]? = some b ∧ IsTup s.heap b #[u, prs[j].2] ∧ keyIs prs[j].1 u = true := fun j => hpr j _ (List.getElem?_eq_getElem j.2)
  let Ts : Nat → Addr := fun j => ps[j]?.getD 0
  let qs : List (Value × Value) := List.ofFn fun j : Fin prs.length => ((ch j).choose_spec.choose, prs[j].2)
  have hql : qs.length = prs.length := List.length_ofFn
  have hqa : ∀ (j : Nat) (k v : Value), qs[j]? = some (k, v) → ∃ (key : Key) (b : Addr), prs[j]? = some (key, v) ∧ keyIs key k = true ∧ ps[j]? = some b ∧ IsTup s.heap b #[k, v] := fun j k v e => by
    have hj : j < prs.length := by rw [← hql]; exact (List.getElem?_eq_some_iff.mp e).1
    have h1 := (ch ⟨j, hj⟩).choose_spec.choose_spec
    rw [List.getElem?_ofFn, dif_pos hj] at e
    obtain ⟨e1, e2⟩ := Prod.mk.inj (Option.some.inj e)
    subst e1 e2
    exact ⟨_, _, List.getElem?_eq_getElem hj, h1.2.2, h1.1, h1.2.1⟩
  have hm : (s.heap.objs.size == sysModules) = false := beq_eq_false_iff_ne.mpr (Nat.ne_of_gt I.big)
  have P := PairArg.tuple (prog := X.prog) (w := X.w) a (ps.map Value.ref).toArray Ts qs
  refine PySem.call_dict_pairs (knd := mixKind X.prog X.w) (kvs := prs) P (I.ok.hd hcalm) ⟨pl, ?_, fun j k v e => ?_⟩ ⟨hql.symm, fun i key v e => ?_⟩ (by rw [hql, hl]; exact hz) fun h' tk hd' k => ?_
  · rw [List.size_toArray, List.length_map, hql, hl]
  · obtain ⟨key, b, _, _, e3, e4⟩ := hqa j k v e
    have et : Ts j = b := by show ps[j]?.getD 0 = b; rw [e3]; rfl
    exact ⟨by rw [et]; simp [e3], by rw [et]; exact .inl e4⟩
  · obtain ⟨key', b, e1, e2, _, _⟩ := hqa i key v e
    exact ⟨key', e1, e2⟩
  · have hlen : (mergeK [] kvs).length ≤ sizeLine := by
      refine Nat.le_trans (length_mergeK kvs []) ?_
      rw [List.length_nil, Nat.zero_add, rel.length, hl]
      exact hz
    exact ⟨.ref s.heap.objs.size, upd H s.heap.objs.size (.dK (mergeK [] kvs)), I.laid (t' := tk) (fun b o e => k b o (fun z => nomatch z) e) (Nat.le_refl _) (dk_new hlen hm (KV.merge rel .nil) hd'), rfl, q _ (I.hok.fresh (Nat.le_refl _))⟩
def fDictT : List D → (Rs → Prop) → Prop
  | [.tuple ds], C => ∃ kds, pairsK ds = some kds ∧ C (.dic (mergeD [] kds))
  | _, _ => False
theorem fDictT_ok : Cb X (fun xs H Q => ∃ (a : Addr) (ps : List Addr) (kvs : List (Key × V)), xs = [.ref a] ∧ PlT X.K H a (ps.map V.ref) ∧ Paired (fun p kv => SqT X.K H p [kV kv.1, kv.2]) ps kvs ∧ ∀ p, H p = none → Q (.ref p) (upd H p (.dK (mergeK [] kvs)))) fDictT := fun τ H0 H γ σ ρ vs ds C r b f Q q => by
  unfold fDictT at f
  split at f
  · obtain ⟨v, rfl, p, ws, rfl, hs, ha⟩ := paired1 b
    obtain ⟨kds, h1, h2⟩ := f
    obtain ⟨ps, kvs, rfl, hp, hk⟩ := pairsK_dp res_le h1 ha
    refine ⟨p, ps, kvs, rfl, plT_of hs, hp, fun l hl => q _ _ _ h2 (.new hl) ⟨l, _, rfl, hl, upd_same, KvOk.same (res_mono fun a o n ea => ?_) (kv_merge hk .nil)⟩⟩
    have hne : a ≠ l := ne_of_none ea hl
    exact ⟨fun z => z.elim n hne, by rw [upd_ne hne]; exact ea⟩
  · exact f.elim
section
variable {τ : Tn} {G : Gx} {cp : List Str} {N : List Str} {sc : Scope} {k : Nat} {e : Expr} {tk tx : UV} {x : Str} {p p2 p3 pos apos cpos : Pos}
/-! e in d, e not in d, for a dict of one's own -/
def bInK (neg : Bool) (i : Nat) (tk : UV) : UT := fun ρ C => tk ρ fun dk => match ρ[i]? with
  | some (.dic kds) => ∃ k, keyD dk = some k ∧ C (bif neg then !(getD? kds k).isSome else (getD? kds k).isSome)
  | _ => False
theorem kv_isSome {K : PySem.W.Frag} {H : Hp} {k : Key} {kvs : List (Key × V)} {kds : List (Key × D)} (h : KvOk K H kvs kds) : (valV kvs k).isSome = (getD? kds k).isSome := by
  obtain ⟨h1, h2⟩ := kv_get (k := k) h
  cases q : getD? kds k with
  | none => rw [h2 q]; rfl
  | some d =>
    obtain ⟨v, e, _⟩ := h1 d q
    rw [e]; rfl
theorem in_own {H0 H H2 : Hp} {γ : List (V × D)} {σ : L2.St} {ρ : En} {i : Nat} {kds : List (Key × D)} (r : Rep X.K τ H0 γ H σ ρ) (e : Ext τ H H2) (hi : ρ[i]? = some (.dic kds)) : ∃ a kvs, σ[i]? = some (some (.ref a)) ∧ H2 a = some (.dK kvs) ∧ KvOk X.K (res H2 (own τ σ ρ)) kvs kds := by
  obtain ⟨a, kvs, e0, _, hn, h, h'⟩ := r.sl i _ hi
  exact ⟨a, kvs, e0, e.kp a _ h hn, KvOk.same (res_ext e fun _ => own_ad) h'⟩
theorem wp_inK {neg : Bool} {C : Bool → Prop} {ρ : En} {H0 H : Hp} {γ : List (V × D)} {σ : L2.St} {i : Nat} {Q : VK} (hk : JD τ X e tk) (r : Rep X.K τ H0 γ H σ ρ) (c : bInK neg i tk ρ C) (q : ∀ b H2, C b → Ext τ H H2 → Q (.bl b) H2) :
    wpE X e σ H fun y H1 => ∃ v, σ[i]? = some (some v) ∧ ∃ a o, v = .ref a ∧ DGet H1 a y o ∧ Q (.bl (bif neg then !o.isSome else o.isSome)) H1 := by
  refine hk ρ _ c H0 γ σ H r _ fun dk y H1 c e1 b => ?_
  cases hi : ρ[i]? with
  | none => rw [hi] at c; exact c.elim
  | some s =>
    rw [hi] at c
    cases s with
    | dic kds =>
      obtain ⟨kk, hkk, c⟩ := c
      obtain ⟨a, kvs, e0, ha, hkv⟩ := in_own r e1 hi
      refine ⟨_, e0, a, valV kvs kk, rfl, ?_, q _ _ (by rw [kv_isSome hkv]; exact c) e1⟩
      rw [dp_key b hkk]
      exact DGet.k ha
    | _ => exact c.elim
theorem jt_inK (S : Ok cp G N sc k X) (i : Nat) (hk : JD τ X e tk) (hN : N[i]? = some x := by rfl) (hvis : Vis sc x := by first | exact Or.inl rfl | exact Or.inr (Or.inl rfl) | exact Or.inr (Or.inr rfl)) (hd : (x == ("__debug__" : Str)) = false := by decide) (hcd : (x == ("__classdict__" : Str)) = false := by decide) :
    JT τ X (.Compare e [.In] [.Name x p2] pos) (bInK false i tk) := fun ρ C c H0 γ σ H r Q q =>
  wpT_of (pt_cmp (pc_din (by have := S.room.un; omega) pe_w (pe_var (i := i) (by rw [S.eN]; exact hN) (by rw [S.es]; exact hvis) hd hcd)) (by rfl))
    (wp_inK (neg := false) (Q := fun v H2 => ∃ b, v = .bl b ∧ Q b H2) hk r c fun b H2 cb e2 => ⟨b, rfl, q b H2 cb e2⟩)
theorem jt_ninK (S : Ok cp G N sc k X) (i : Nat) (hk : JD τ X e tk) (hN : N[i]? = some x := by rfl) (hvis : Vis sc x := by first | exact Or.inl rfl | exact Or.inr (Or.inl rfl) | exact Or.inr (Or.inr rfl)) (hd : (x == ("__debug__" : Str)) = false := by decide) (hcd : (x == ("__classdict__" : Str)) = false := by decide) :
    JT τ X (.Compare e [.NotIn] [.Name x p2] pos) (bInK true i tk) := fun ρ C c H0 γ σ H r Q q =>
  wpT_of (pt_cmp (pc_dnotin (by have := S.room.un; omega) pe_w (pe_var (i := i) (by rw [S.eN]; exact hN) (by rw [S.es]; exact hvis) hd hcd)) (by rfl))
    (wp_inK (neg := true) (Q := fun v H2 => ∃ b, v = .bl b ∧ Q b H2) hk r c fun b H2 cb e2 => ⟨b, rfl, q b H2 cb e2⟩)
theorem jd_inK (S : Ok cp G N sc k X) (i : Nat) (hk : JD τ X e tk) (hN : N[i]? = some x := by rfl) (hvis : Vis sc x := by first | exact Or.inl rfl | exact Or.inr (Or.inl rfl) | exact Or.inr (Or.inr rfl)) (hd : (x == ("__debug__" : Str)) = false := by decide) (hcd : (x == ("__classdict__" : Str)) = false := by decide) :
    JD τ X (.Compare e [.In] [.Name x p2] pos) (dB (bInK false i tk)) := fun ρ C c H0 γ σ H r Q q =>
  wpE_of (L2.pe_cmp (pc_din (by have := S.room.un; omega) pe_w (pe_var (i := i) (by rw [S.eN]; exact hN) (by rw [S.es]; exact hvis) hd hcd)) (by rfl))
    (wp_inK (neg := false) (Q := Q) hk r c fun b H2 cb e2 => q (.bool b) (.bl b) H2 cb e2 (.bl b))
theorem jd_ninK (S : Ok cp G N sc k X) (i : Nat) (hk : JD τ X e tk) (hN : N[i]? = some x := by rfl) (hvis : Vis sc x := by first | exact Or.inl rfl | exact Or.inr (Or.inl rfl) | exact Or.inr (Or.inr rfl)) (hd : (x == ("__debug__" : Str)) = false := by decide) (hcd : (x == ("__classdict__" : Str)) = false := by decide) :
    JD τ X (.Compare e [.NotIn] [.Name x p2] pos) (dB (bInK true i tk)) := fun ρ C c H0 γ σ H r Q q =>
  wpE_of (L2.pe_cmp (pc_dnotin (by have := S.room.un; omega) pe_w (pe_var (i := i) (by rw [S.eN]; exact hN) (by rw [S.es]; exact hvis) hd hcd)) (by rfl))
    (wp_inK (neg := true) (Q := Q) hk r c fun b H2 cb e2 => q (.bool b) (.bl b) H2 cb e2 (.bl b))
/-! d.get(e), d.get(e, x), for a dict of one's own -/
def dGet1 (i : Nat) (tk : UV) : UV := fun ρ C => match ρ[i]? with
  | some (.dic kds) => tk ρ fun dk => ∃ k, keyD dk = some k ∧ C ((getD? kds k).getD .none)
  | _ => False
theorem kv_getD {K : PySem.W.Frag} {H : Hp} {k : Key} {kvs : List (Key × V)} {kds : List (Key × D)} {v : V} {d : D} (h : KvOk K H kvs kds) (hd : Dp K H v d) : Dp K H ((valV kvs k).getD v) ((getD? kds k).getD d) := by
  obtain ⟨h1, h2⟩ := kv_get (k := k) h
  cases q : getD? kds k with
  | none => rw [h2 q]; exact hd
  | some d =>
    obtain ⟨v, e, hv⟩ := h1 d q
    rw [e]; exact hv
theorem jd_get1 (S : Ok cp G N sc k X) (i : Nat) (hk : JD τ X e tk) (hN : N[i]? = some x := by rfl) (hvis : Vis sc x := by first | exact Or.inl rfl | exact Or.inr (Or.inl rfl) | exact Or.inr (Or.inr rfl)) (hd : (x == ("__debug__" : Str)) = false := by decide) (hcd : (x == ("__classdict__" : Str)) = false := by decide)
    (hm : M1 X (.Name x p2) "get" apos e cpos := by exact ⟨rfl, rfl, rfl, rfl⟩) : JD τ X (.Call (.Attribute (.Name x p2) "get" apos) [e] [] cpos) (dGet1 i tk) := fun ρ C c H0 γ σ H r Q q => by
  refine wpE_of (pe_dget1 (by have := S.room.un; omega) (pe_var (i := i) (by rw [S.eN]; exact hN) (by rw [S.es]; exact hvis) hd hcd) pe_w hm) ?_
  unfold dGet1 at c
  split at c
  · rename_i kds hi
    obtain ⟨a, kvs, e0, ha, _⟩ := in_own r .refl hi
    refine ⟨_, e0, a, rfl, .inl ⟨_, .inl ha⟩, hk ρ _ c H0 γ σ H r _ fun dk y H1 c e1 b => ?_⟩
    obtain ⟨kk, hkk, c⟩ := c
    obtain ⟨a', kvs', e0', ha', hkv⟩ := in_own r e1 hi
    rw [e0] at e0'
    cases e0'
    exact ⟨valV kvs' kk, by rw [dp_key b hkk]; exact DGet.k ha', q _ _ _ c e1 (kv_getD hkv .non)⟩
  · exact c.elim
def dGet2 (i : Nat) (tk tx : UV) : UV := fun ρ C => match ρ[i]? with
  | some (.dic kds) => tk ρ fun dk => tx ρ fun dx => ∃ k, keyD dk = some k ∧ C ((getD? kds k).getD dx)
  | _ => False
theorem jd_get2 {f : Expr} {tx : UV} (S : Ok cp G N sc k X) (i : Nat) (hk : JD τ X e tk) (hx : JD τ X f tx) (hN : N[i]? = some x := by rfl) (hvis : Vis sc x := by first | exact Or.inl rfl | exact Or.inr (Or.inl rfl) | exact Or.inr (Or.inr rfl)) (hd : (x == ("__debug__" : Str)) = false := by decide) (hcd : (x == ("__classdict__" : Str)) = false := by decide)
    (hm : M2 X (.Name x p2) "get" apos e f cpos := by exact ⟨rfl, rfl, rfl, rfl⟩) : JD τ X (.Call (.Attribute (.Name x p2) "get" apos) [e, f] [] cpos) (dGet2 i tk tx) := fun ρ C c H0 γ σ H r Q q => by
  refine wpE_of (pe_dget2 (by have := S.room.un; omega) (pe_var (i := i) (by rw [S.eN]; exact hN) (by rw [S.es]; exact hvis) hd hcd) pe_w pe_w hm) ?_
  unfold dGet2 at c
  split at c
  · rename_i kds hi
    obtain ⟨a, kvs, e0, ha, _⟩ := in_own r .refl hi
    refine ⟨_, e0, a, rfl, .inl ⟨_, .inl ha⟩, hk ρ _ c H0 γ σ H r _ fun dk y H1 c e1 b => hx ρ _ c H0 γ σ H1 (r.after e1) _ fun dx z H2 c e2 b2 => ?_⟩
    obtain ⟨kk, hkk, c⟩ := c
    obtain ⟨a', kvs', e0', ha', hkv⟩ := in_own r (e1.trans e2) hi
    rw [e0] at e0'
    cases e0'
    exact ⟨valV kvs' kk, by rw [dp_key b hkk]; exact DGet.k ha', q _ _ _ c (e1.trans e2) (kv_getD hkv b2)⟩
  · exact c.elim
variable {ρ : En} {C : Bool → Prop} {R : D → Prop} {kds : List (Key × D)} {neg : Bool} {i : Nat}
/-! lemmas for the math -/
theorem c_bInK : bInK neg i tk ρ C = tk ρ fun dk => kSl ρ[i]? fun kds => ∃ k, keyD dk = some k ∧ C (bif neg then !(getD? kds k).isSome else (getD? kds k).isSome) := by
  unfold bInK
  congr 1
  funext dk
  cases ρ[i]? with
  | none => rfl
  | some s => cases s <;> rfl
theorem c_dGet2 {tx : UV} : dGet2 i tk tx ρ R = kSl ρ[i]? fun kds => tk ρ fun dk => tx ρ fun dx => ∃ k, keyD dk = some k ∧ R ((getD? kds k).getD dx) := by
  unfold dGet2
  cases ρ[i]? with
  | none => rfl
  | some s => cases s <;> rfl
theorem c_dGet1 : dGet1 i tk ρ R = kSl ρ[i]? fun kds => tk ρ fun dk => ∃ k, keyD dk = some k ∧ R ((getD? kds k).getD .none) := by
  unfold dGet1
  cases ρ[i]? with
  | none => rfl
  | some s => cases s <;> rfl
end
theorem q_dictT {ds : List D} {R : Rs → Prop} : fDictT [.tuple ds] R = ∃ kds, pairsK ds = some kds ∧ R (.dic (mergeD [] kds)) := rfl
end
end Pu
/-! ### zip of a text with a list, in a comprehension -/
namespace Pu
open PySem PySem.Spec PyProof.Rows L2
section
variable {τ : Tn} {G : Gx} {cp : List Str} {N : List Str} {sc : Scope} {k : Nat} {X : Cx} {e e2 : Expr} {tv tw : UV} {p pos tpos : Pos} {elts : List Expr} {kk : Nat}
/-- zip of a text with a list: pairs laid plainly -/
def ItzPS (K : PySem.W.Frag) (s1 : Str) (b : Addr) (n2 : Nat) : It where
  go := fun i H => ∃ (c : Nat) (y : V) (ys : List V), s1.cps[i]? = some c ∧ (SqL K H b ys ∧ ys[i]? = some y) ∧ ys.length = n2
  yld := fun i H v H' => ∃ (T : Addr) (o : Obj) (c : Nat) (y : V), v = .ref T ∧ H T = none ∧ o.dict = none ∧ H' = upd H T (.frz o (.tup [.str ⟨#[c]⟩, y])) ∧ s1.cps[i]? = some c ∧ ∀ l, SqL K H b l → l[i]? = some y
  stop := fun i H => ∃ r : List V, SqL K H b r ∧ r.length = n2 ∧ (s1.cps.size ≤ i ∨ n2 ≤ i)
theorem turn_zipPS {P : Program} {w : World} {K : PySem.W.Frag} {es : List Expr} {n n2 : Nat} {tp : Pos} {s1 : Str} {t : Tok} {b z t1 t2 i1 i2 : Addr} (hb2 : b ≠ i2) (D : ZipSep2 z t1 t2 i1 i2 [i1] [i2, b]) :
    Turn P w K (.Tuple es n tp) (ItzPS K s1 b n2) [z, t1, t2, i1, i2] z (fun i h => (i ≤ s1.cps.size ∧ i ≤ n2) ∧ IsZip h z t1 t2 .none ∧ IsTupOf2 h t1 (.ref i1) (.ref i2) ∧ (∃ x y, IsTupOf2 h t2 x y) ∧ h.IsStrIter i1 (strIterType s1) s1 t i ∧ h.IsListIter i2 b i) where
  mem := List.mem_cons_self ..
  obj := fun i h ⟨_, g1, g2, ⟨_, _, g3⟩, ⟨o4, g4, _, d4⟩, o5, g5, _, d5⟩ c hc => by
    rcases five_mem hc with rfl | rfl | rfl | rfl | rfl
    · exact ⟨_, g1, fun _ q => nomatch q⟩
    · exact ⟨_, g2, fun _ q => nomatch q⟩
    · exact ⟨_, g3, fun _ q => nomatch q⟩
    · exact ⟨o4, g4, fun _ q => by rw [d4] at q; cases q⟩
    · exact ⟨o5, g5, fun _ q => by rw [d5] at q; cases q⟩
  keep := fun i h h' ⟨g0, g1, g2, ⟨x, y, g3⟩, ⟨o4, g4, r4⟩, g5⟩ k => ⟨g0, k z (by simp) _ g1, k t1 (by simp) _ g2, ⟨x, y, k t2 (by simp) _ g3⟩, ⟨o4, k i1 (by simp) _ g4, r4⟩, g5.at fun o q => k i2 (by simp) o q⟩
  item := by
    intro X hP hw hK hc i pins s σ H E I hf ⟨g0, g1, g2, ⟨x0, y0, g3⟩, g4, g5⟩ ⟨ch, y, ys, hx, ⟨q2, hy⟩, n2e⟩
    subst hP hw hK
    obtain ⟨ws, r2, p2, _⟩ := I.list q2
    obtain ⟨u', hu', ru'⟩ := r2.get hy
    have zl : z < s.heap.objs.size := Heap.lt_size g1
    have rl2 := r2.length
    have lw : i < ws.length := (List.getElem?_eq_some_iff.mp hu').1
    have lc : i < s1.cps.size := (Array.getElem?_eq_some_iff.mp hx).1
    refine wpAny_pyNext_zipD2_item D (Draws.text (show X.A.in1.handled = none from I.ok.hd hc) i1 s1 t) (Draws.list (show X.A.in1.handled = none from I.ok.hd hc) i2 b hb2 ws.toArray) g1 g2 g3 g4 ⟨g5, p2.isList⟩ lc (by simpa using lw) fun x1 x2 h1 tk y1 y2 e1 e2 e4 e5 hT hsz hk => ?_
    obtain ⟨c1, u1, y1, rfl⟩ := y1
    rw [hx] at y1
    cases y1
    have ex2 : x2 = u' := by
      have y2 : ws.toArray[i]? = some x2 := y2
      rw [List.getElem?_toArray, hu'] at y2
      exact (Option.some.inj y2).symm
    subst ex2
    refine ⟨_, rfl, wpAny_letOwnedTupleGo_zip (s := { s with heap := h1, toks := tk }) e1 fun h2 e6 sb => ?_⟩
    have kp : ∀ c o, c ∉ [z, t1, t2, i1, i2] → s.heap.get? c = some o → h2.get? c = some o := fun c o n q =>
      (sb.2 c (fun e => n (by simp [e]))).trans (hk c o (fun e => n (by simp [e])) (fun e => n (by simp [e])) (fun e => n (by simp [e])) (fun e => n (by simp [e])) q)
    have new : ObjOk X.prog X.w (upd H s.heap.objs.size (.frz (plT [.str ⟨#[ch]⟩ u1, x2]) (.tup [.str ⟨#[ch]⟩, y]))) h2 s.heap.objs.size (.frz (plT [.str ⟨#[ch]⟩ u1, x2]) (.tup [.str ⟨#[ch]⟩, y])) := by
      have hT2 := (sb.2 _ (Nat.ne_of_gt zl)).trans hT
      exact ⟨hT2, (by decide : 2 ≤ sizeLine), [.str ⟨#[ch]⟩ u1, x2], .cons ⟨u1, rfl⟩ (.cons ru' .nil), ⟨_, hT2, rfl, _, rfl⟩⟩
    refine ⟨.ref s.heap.objs.size, _, I.turnedNew (t' := tk) (ch := [z, t1, t2, i1, i2]) kp hf (Nat.le_refl _) new, rfl, ⟨_, _, ch, y, rfl, I.hok.fresh (Nat.le_refl _), rfl, rfl, hx, fun l hl => ?_⟩, ⟨⟨by omega, by omega⟩, e6, ?_, ⟨.str ⟨#[ch]⟩ u1, x2, (sb.2 _ D.TOz).trans e2⟩, ?_, e5.1.at fun o q => (sb.2 _ D.zi2.symm).trans q⟩, fun c hcm => ?_⟩
    · rw [I.list_inj hl q2]; exact hy
    · exact (sb.2 _ D.TIz).trans (hk _ _ D.TIz D.TITO D.TIi1 D.TIi2 g2)
    · obtain ⟨o4, g4', r4⟩ := e4
      exact ⟨o4, (sb.2 _ D.zi1.symm).trans g4', r4⟩
    · have hlt : c < s.heap.objs.size := by
        rcases five_mem hcm with rfl | rfl | rfl | rfl | rfl
        · exact zl
        · exact Heap.lt_size g2
        · exact Heap.lt_size g3
        · exact Heap.lt_size g4.choose_spec.1
        · exact Heap.lt_size g5.choose_spec.1
      rw [upd_ne (Nat.ne_of_lt hlt)]
      exact (hf c hcm).1
  done := by
    intro X hP hw hK hc i pins s σ H E I hf ⟨g0, g1, g2, ⟨x0, y0, g3⟩, g4, g5⟩ ⟨ys, q2, n2e, hend⟩
    subst hP hw hK
    obtain ⟨ws, r2, p2, _⟩ := I.list q2
    have l2 := r2.length
    refine wpAny_pyNext_zipD2_end D (Draws.text (show X.A.in1.handled = none from I.ok.hd hc) i1 s1 t) (Draws.list (show X.A.in1.handled = none from I.ok.hd hc) i2 b hb2 ws.toArray) g1 g2 g3 g4 ⟨g5, p2.isList⟩ (by omega) (by simp; omega) (by simp; omega) fun h1 tk hk => ⟨rfl, I.turnedL (t' := tk) (ch := [z, t1, t2, i1, i2]) (fun c o n q => hk c o (fun e => n (by simp [e])) (fun e => n (by simp [e])) (fun e => n (by simp [e])) (fun e => n (by simp [e])) q) hf⟩
  self := fun A i s Q E st h => wpAny_pyIter_zip st.2.1 h
theorem itOk_zipS {K : PySem.W.Frag} {s1 : Str} {b : Addr} {n2 : Nat} {ys : List D} (n2e : n2 = ys.length) : ItOk K τ (ItzPS K s1 b n2) [(.ref b, .list ys)] (zipD (signsD s1) ys) where
  go := fun H ow g i hi => by
    rw [zipD_len, signsD_len] at hi
    obtain ⟨pq, ws, e2, hs2, hb⟩ := g _ (List.mem_cons_self ..)
    cases e2
    obtain ⟨w, hw, _⟩ := dpAll_get hb (List.getElem?_eq_getElem (show i < ys.length by omega))
    exact ⟨s1.cps[i]'(by omega), w, ws, Array.getElem?_eq_getElem (by omega), ⟨sqL_same res_le hs2, hw⟩, by rw [← dpAll_len hb] at n2e; exact n2e.symm⟩
  yld := fun H ow g hn i d hd x H4 hy => by
    obtain ⟨dx, dy, hdx, hdy, rfl⟩ := zipD_get hd
    obtain ⟨pq, ws, e2, hs2, hb⟩ := g _ (List.mem_cons_self ..)
    cases e2
    obtain ⟨T, o, c, y1, rfl, hT, ho, rfl, h1, h2⟩ := hy
    unfold signsD at hdx
    rw [List.getElem?_map, Array.getElem?_toList, h1] at hdx
    cases hdx
    obtain ⟨w, hw, hdp2⟩ := dpAll_get hb hdy
    have := (h2 ws (sqL_same res_le hs2)).symm.trans hw
    cases this
    exact tup_newP hn hT ho (.cons (.str _) (.cons hdp2 .nil))
  stop := fun H ow g i hi => by
    rw [zipD_len, signsD_len] at hi
    obtain ⟨pq, ws, e2, hs2, hb⟩ := g _ (List.mem_cons_self ..)
    cases e2
    refine ⟨ws, sqL_same res_le hs2, by rw [← dpAll_len hb] at n2e; exact n2e.symm, ?_⟩
    rw [n2e]
    omega
def iZipSt (K : PySem.W.Frag) (ta : TA) : TI := fun σ H R => ta σ H fun vs H1 => ∃ s1 b ys, vs = [.str s1, .ref b] ∧ SqL K H1 b ys ∧ R (ItzPS K s1 b ys.length) H1
theorem pi_zipS {X : Cx} {e e2 : Expr} {ta : TA} {p pos tp : Pos} {es : List Expr} {n : Nat} (hg : Gl X "zip") (hm : X.mg "zip" = none) (ha : PA X [e, e2] ta)
    (hs : starEach [e, e2] X.env = (false, eval e X.env) :: starEach [e2] X.env := by rfl) (hpl : (backTo pos (starEach [e2] X.env)).any (·.1) = false := by rfl) :
    PI X (.Tuple es n tp) (.Call (.Name "zip" p) [e, e2] [] pos) (iZipSt X.K ta) := by
  refine ⟨fun pins s σ H R I h => Call_ (ld_blt I hg hm PyProof.Rows.boot_zip (PyProof.Rows.callWith_type1 (thn (ha.run pos pins s σ H _ I h) fun us s1 ⟨vs, H1, I1, r1, x, b, ys, ex, q1⟩ => ?_) hs hpl))⟩
  subst ex
  cases r1 with
  | cons r rr =>
    cases rr with
    | cons r' rr =>
      cases rr
      obtain ⟨t, rfl⟩ := r
      cases r'
      have fr : ∀ c, c ∈ [s1.heap.objs.size + 4, s1.heap.objs.size + 2, s1.heap.objs.size + 3, s1.heap.objs.size, s1.heap.objs.size + 1] → FpOk X pins H1 c := fun c hcm => by
        have hle : s1.heap.objs.size ≤ c := by
          rcases five_mem hcm with z | z | z | z | z <;> rw [z] <;> first | exact Nat.le_add_right _ _ | exact Nat.le_refl _
        exact I1.fpOk hle (I1.hok.fresh hle)
      obtain ⟨g2, q⟩ := q1
      obtain ⟨ws, _, p2, _⟩ := I1.list g2
      have lb := p2.lt
      refine zip_begins2 (begins_text x t) (begins_list b ws.toArray) trivial p2.isList fun h' hz e1 e2 e3 e4 hsz hk => wpAny_pyIter_zip hz ?_
      exact ⟨_, _, _, _, H1, rfl, I1.kept (t' := s1.toks) hk, turn_zipPS (Nat.ne_of_lt (Nat.lt_succ_of_lt lb)) (zip_sep2 (fp1 := []) (fp2 := [b]) (fun c hc => by cases hc) (fun c hc => by rw [List.mem_singleton.mp hc]; exact lb)), ⟨⟨Nat.zero_le _, Nat.zero_le _⟩, hz, e1, ⟨_, _, e2⟩, ⟨_, e3, rfl, rfl⟩, ⟨_, e4, rfl, rfl⟩⟩, fr, q⟩
def fZipS : D → D → (List D → Prop) → Prop
  | .str x, .list ys, C => C (zipD (signsD x) ys)
  | _, _, _ => False
def iZipS (tv tw : UV) : UL := fun ρ C => tv ρ fun x => tw ρ fun y => fZipS x y C
theorem jix_zipS (S : Ok cp G N sc k X) (hm : Free G "zip") (he : JV τ X e tv) (he2 : JV τ X e2 tw) (hg : sc.names.lookup ("zip" : Str) = some .globalImplicit := by rfl) (hs : starEach [e, e2] X.env = (false, eval e X.env) :: starEach [e2] X.env := by rfl) (hs2 : starEach [e2] X.env = (false, eval e2 X.env) :: starEach [] X.env := by rfl) (hpl : (backTo pos (starEach [e2] X.env)).any (·.1) = false := by rfl) :
    JIx τ X (.Tuple elts kk tpos) (.Call (.Name "zip" p) [e, e2] [] pos) (iZipS tv tw) := fun ρ C c H0 γ σ H r R q =>
  wpI_size (wpI_of (pi_zipS (by show X.env.scope.names.lookup _ = _; rw [S.es]; exact hg) (by rw [S.em]; exact hm) (pa_cons pe_w (pa_cons pe_w pa_nil hs2) hs) hs hpl) (he ρ _ c H0 γ σ H r _ fun d1 v1 H2 c e1 h1 => he2 ρ _ c H0 γ σ H2 (r.after e1) _ fun d2 v2 H3 c e2 h2 => by
    have h1 := h1.after e2
    cases d1 <;> first | exact c.elim | skip
    cases d2 <;> first | exact c.elim | skip
    obtain ⟨b, ws, rfl, ht, hb⟩ := id h2
    cases h1
    exact ⟨_, b, ws, rfl, sqL_same res_le ht, fun z1 z2 => q _ [(_, _)] _ H3 c (e1.trans e2) (fun p hp => by
      rw [List.mem_singleton.mp hp]; exact h2) (itOk_zipS (dpAll_len hb)) (by
        have := z1 _ _ (sqL_same res_le ht)
        rw [zipD_len, ← dpAll_len hb]; omega)⟩))
theorem c_iZipS {ρ : En} {L : List D → Prop} : iZipS tv tw ρ L = tv ρ fun x => tw ρ fun y => fZipS x y L := propext Iff.rfl
theorem q_zipS {x : Str} {ys : List D} {L : List D → Prop} : fZipS (.str x) (.list ys) L = L (zipD (signsD x) ys) := rfl
end
end Pu
/-! ### f-strings; how many texts are unlike: len(set(xs)) -/
namespace Pu
open PySem PySem.Spec PyProof.Rows L2 PySem.W
section
variable {X : Cx}
/-- {x}: None, a bool, an int, a text -/
def tFmtX (te : TE) : TE := fun σ H Q => te σ H fun x H1 => (∃ y : Str, x = .str y ∧ y.length ≤ sizeLine ∧ Q (.str y) H1) ∨ (∃ i : Int, x = .int i ∧ i.natAbs.log2 < 1920 ∧ Q (.str (toString i)) H1) ∨ (x = .non ∧ Q (.str "None") H1) ∨ ∃ b, x = .bl b ∧ Q (.str (if b then "True" else "False")) H1
theorem pe_fmtX {e : Expr} {te : TE} {pos : Pos} (he : PE X e te) : PE X (.FormattedValue e (-1) none pos) (tFmtX te) := ⟨fun pins s σ H Q I h => by
  refine wpAny_FormattedValue_plain (thn (he.run pins s σ H _ I h) fun v s1 ⟨x, H1, I1, r1, q⟩ => ?_)
  rcases q with ⟨y, rfl, hz, q⟩ | ⟨i, rfl, hz, q⟩ | ⟨rfl, q⟩ | ⟨b, rfl, q⟩
  · obtain ⟨t, rfl⟩ := r1
    refine wpAny_formatField_str ?_ ?_ hz
    · exact ⟨.str y, H1, I1, ⟨t, rfl⟩, q⟩
    · exact ⟨.str y, H1, I1.tok _, ⟨_, rfl⟩, q⟩
  · obtain ⟨t, rfl⟩ := r1
    exact wpAny_formatField_int hz ⟨.str _, H1, I1.tok _, ⟨_, rfl⟩, q⟩
  · cases r1
    exact wpAny_formatField_none ⟨.str _, H1, I1.tok _, ⟨_, rfl⟩, q⟩
  · cases r1
    exact wpAny_formatField_bool ⟨.str _, H1, I1.tok _, ⟨_, rfl⟩, q⟩⟩
end
def strD : D → (Str → Prop) → Prop
  | .str y, C => y.length ≤ 1000000 ∧ C y
  | .int i, C => i.natAbs < 10 ^ 30 ∧ C (toString i)
  | .none, C => C "None"
  | .bool b, C => C (if b then "True" else "False")
  | _, _ => False
def dFmt (t : UV) : UV := fun ρ C => t ρ fun d => strD d fun y => C (.str y)
theorem log2_30 {n : Nat} (h : n < 10 ^ 30) : n.log2 < 1920 := by
  by_cases e : n = 0
  · subst e; decide
  · have h1 := (Nat.log2_lt e (k := 100)).mpr (Nat.lt_trans h (by decide))
    omega
section
variable {τ : Tn} {X : Cx} {e : Expr} {t : UV} {p1 p2 : Pos}
theorem wp_fmt {ρ : En} {C : D → Prop} (h : JD τ X e t) (c : dFmt t ρ C) {H0 H : Hp} {γ : List (V × D)} {σ : L2.St} (r : Rep X.K τ H0 γ H σ ρ) (Q : VK) (q : ∀ d v H2, C d → Ext τ H H2 → Dp X.K (res H2 (own τ σ ρ)) v d → Q v H2) : tFmtX (wpE X e) σ H Q :=
  h ρ _ c H0 γ σ H r _ fun d v H2 c e1 b => by
    cases b with
    | str y => exact .inl ⟨y, rfl, small_line c.1, q _ _ _ c.2 e1 (.str _)⟩
    | int i => exact .inr (.inl ⟨i, rfl, log2_30 c.1, q _ _ _ c.2 e1 (.str _)⟩)
    | non => exact .inr (.inr (.inl ⟨rfl, q _ _ _ c e1 (.str _)⟩))
    | bl b => exact .inr (.inr (.inr ⟨b, rfl, q _ _ _ c e1 (.str _)⟩))
    | _ => exact c.elim
theorem jd_fmt (h : JD τ X e t) : JD τ X (.FormattedValue e (-1) none p1) (dFmt t) := fun ρ C c H0 γ σ H r Q q =>
  wpE_of (pe_fmtX pe_w) (wp_fmt h c r Q q)
theorem jd_js1 (h : JD τ X e t) : JD τ X (.JoinedStr [e] p2) t := fun ρ C c H0 γ σ H r Q q =>
  wpE_of (pe_joined1 pe_w) (h ρ C c H0 γ σ H r Q q)
/-! parts one behind the other -/
def jsC : List UV → En → Str → (Str → Prop) → Prop
  | [], _, acc, C => C acc
  | t :: ts, ρ, acc, C => t ρ fun d => match d with
    | .str y => acc.length + y.length ≤ 1000000 ∧ jsC ts ρ (acc ++ y) C
    | _ => False
def dJs (ts : List UV) : UV := fun ρ C => jsC ts ρ Str.empty fun y => C (.str y)
inductive JPj (τ : Tn) (X : Cx) : List Expr → List UV → Prop where
  | nil : JPj τ X [] []
  | cons {e : Expr} {t : UV} {es : List Expr} {ts : List UV} (h : JD τ X e t) (r : JPj τ X es ts) : JPj τ X (e :: es) (t :: ts)
theorem jpj_pj : ∀ {es : List Expr} {ts : List UV}, JPj τ X es ts → PJ X es (es.map (wpE X))
  | _, _, .nil => .nil
  | _, _, .cons _ r => .cons pe_w (jpj_pj r)
theorem jpj_run : ∀ {es : List Expr} {ts : List UV}, JPj τ X es ts → ∀ (ρ : En) (acc : Str) (C : Str → Prop), jsC ts ρ acc C → ∀ (H0 : Hp) (γ : List (V × D)) (σ : L2.St) (H : Hp), Rep X.K τ H0 γ H σ ρ → ∀ Q : Str → Hp → Prop, (∀ y H2, C y → Ext τ H H2 → Q y H2) → tJs (es.map (wpE X)) acc σ H Q
  | _, _, .nil, ρ, acc, C, c, H0, γ, σ, H, r, Q, q => q acc H c .refl
  | _, _, .cons h hr, ρ, acc, C, c, H0, γ, σ, H, r, Q, q => h ρ _ c H0 γ σ H r _ fun d v H2 c e1 b => by
    cases b with
    | str y => exact ⟨y, rfl, small_line (by rw [strLen_append]; exact c.1), jpj_run hr ρ _ C c.2 H0 γ σ H2 (r.after e1) Q fun y H3 c e2 => q y H3 c (e1.trans e2)⟩
    | _ => exact c.elim
theorem jd_js {v1 v2 : Expr} {rest : List Expr} {ts : List UV} (h : JPj τ X (v1 :: v2 :: rest) ts) : JD τ X (.JoinedStr (v1 :: v2 :: rest) p2) (dJs ts) := fun ρ C c H0 γ σ H r Q q =>
  wpE_of (pe_joined (jpj_pj h)) (jpj_run h ρ _ _ c H0 γ σ H r _ fun y H2 c e1 => q _ _ _ c e1 (.str y))
end
/-! ### len(set(xs)) -/
/-- how many unlike ones stand among the first i -/
def manyS (xs : List Str) : Nat → Nat
  | 0 => 0
  | i + 1 => if xs.getD i Str.empty ∈ xs.take i then manyS xs i else manyS xs i + 1
theorem manyS_succ {xs : List Str} {i : Nat} : manyS xs (i + 1) = if xs.getD i Str.empty ∈ xs.take i then manyS xs i else manyS xs i + 1 := rfl
theorem manyS_le (xs : List Str) : ∀ i, manyS xs i ≤ i
  | 0 => Nat.le_refl _
  | i + 1 => by
    have := manyS_le xs i
    rw [manyS_succ]
    split <;> omega
section
variable {P : Program} {w : World} {A : Around} {E : Value → Shared → Prop} {s : Shared}
theorem setS_at {h h' : Heap} {a : Addr} {S : Str → Bool} {n : Nat} (z : h.SetOf (strKind P w) a S n) (k : ∀ o, h.get? a = some o → h'.get? a = some o) : h'.SetOf (strKind P w) a S n := let ⟨o, es, ep, t, e, r⟩ := z; ⟨o, es, ep, t, k o e, r⟩
theorem loopS {I S : Addr} {fp wr : List Addr} {Gn : Array GenState → Array GenState → Prop} {n : Nat} {Pv : Nat → Value → Prop} {At : Nat → Shared → Prop} {R : Result → Shared → Prop} (W : WalksS P w A.in1 I fp wr Gn n Pv At) (nS : S ∉ fp) {xs : List Str} (hn : xs.length = n) (hb : n + 1 < scanBound)
    (hv : ∀ i v, Pv i v → ∃ t, v = .str (xs.getD i Str.empty) t) : ∀ (m i : Nat) (s : Shared), n = i + m → At i s → s.heap.SetOf (strKind P w) S (fun y => decide (y ∈ xs.take i)) (manyS xs i) →
      (∀ s', Moved (S :: wr) Gn s s' → s'.heap.SetOf (strKind P w) S (fun y => decide (y ∈ xs)) (manyS xs n) → R (.ok (.ret .none)) s') → codeAny (model P w) A (.builtin "set.update.loop" ⟨[.ref S, .ref I], []⟩) R s := fun m => by
  have nw : S ∉ wr := fun z => nS (W.sub _ z)
  have up : ∀ b ∈ wr, b ∈ S :: wr := fun b z => List.mem_cons_of_mem _ z
  induction m with
  | zero =>
    intro i s ei hs hS hR
    have ei : n = i := by omega
    subst ei
    refine codeAny_builtin PyProof.Rows.F.entry_set_update_loop ?_
    rw [Around.under_plainId PyProof.Rows.F.plain_set_update_loop _]
    refine wpAny_bind (m := pyNext (.ref I)) (W.done s _ _ hs fun s' hm => wpAny_pure (hR s' (hm.mono up) ?_))
    have hS := setS_at hS (h' := s'.heap) fun o e => hm.heap S o nw e
    rwa [List.take_of_length_le (by omega)] at hS
  | succ m ih =>
    intro i s ei hs hS hR
    refine codeAny_builtin PyProof.Rows.F.entry_set_update_loop ?_
    rw [Around.under_plainId PyProof.Rows.F.plain_set_update_loop _]
    refine wpAny_bind (m := pyNext (.ref I)) (W.item i s _ _ (by omega) hs fun v s1 hp hs1 hm => ?_)
    obtain ⟨t, rfl⟩ := hv i v hp
    refine wpAny_bind (m := holding [_] (setAdd S _)) (wpAny_holding ?_)
    unfold setAdd
    refine wpAny_holding (wpAny_bind ((strKind P w).pyHash (k := xs.getD i Str.empty) (strKind_is _ _ _ _) ?_))
    have le := manyS_le xs i
    refine wpAny_setAddHashed_of (knd := strKind P w) (s := { s1 with toks := s1.toks + 1 }) (strKind_is _ _ _ _) rfl (setS_at hS fun o e => hm.heap S o nw e) (by omega) fun h2 sb hS2 => ?_
    have hi : i < xs.length := by omega
    have eg : xs.getD i Str.empty = xs[i] := by rw [List.getD_eq_getElem?_getD, List.getElem?_eq_getElem hi] <;> rfl
    have et : xs.take (i + 1) = xs.take i ++ [xs.getD i Str.empty] := by
      rw [eg, List.take_add_one, List.getElem?_eq_getElem hi]
      rfl
    refine wpAny_pure ⟨plainId_quiet PyProof.Rows.F.plain_set_update_loop _, ih (i + 1) _ (by omega) (W.frame _ s1 _ _ hs1 (Nat.le_succ _) fun b hbf o e => (sb.2 b fun z => nS (z ▸ hbf)).trans e) (SetOf_congr hS2 (fun y => ?_) ?_) fun s3 hm3 hS3 => ?_⟩
    · rw [et]
      by_cases g1 : y ∈ xs.take i
      · rw [decide_eq_true g1, decide_eq_true (List.mem_append_left _ g1)]; rfl
      · by_cases g2 : y = xs.getD i Str.empty
        · rw [decide_eq_true g2, decide_eq_true (List.mem_append_right _ (List.mem_singleton.mpr g2)), Bool.or_true]
        · rw [decide_eq_false g1, decide_eq_false g2, decide_eq_false fun z => (List.mem_append.mp z).elim g1 fun z => g2 (List.mem_singleton.mp z)]; rfl
    · rw [manyS_succ]
      by_cases g : xs.getD i Str.empty ∈ xs.take i
      · rw [if_pos g, if_pos (decide_eq_true g)]
      · rw [if_neg g, if_neg (by rw [decide_eq_false g]; exact Bool.false_ne_true)]
    · refine hR s3 (Moved.trans W.gtrans ((hm.mono up).then_heap (Nat.le_succ _) fun b o nb e => (sb.2 b fun z => nb (by rw [z]; exact List.mem_cons_self)).trans e) hm3) hS3
theorem call_setS {l : Addr} {its : Array Value} {xs : List Str} {Q : Value → Shared → Prop} (hh : A.handled = none) (hl : s.heap.IsList l its) (hi : StrsAre its.toList xs) (hb : xs.length + 1 < scanBound)
    (h : ∀ (h' : Heap) (tk : Nat), h'.SetOf (strKind P w) s.heap.objs.size (fun y => decide (y ∈ xs)) (manyS xs xs.length) → (∀ b o, s.heap.get? b = some o → h'.get? b = some o) → Q (.ref s.heap.objs.size) { s with heap := h', toks := tk }) :
    wpAny (model P w) A (call (.type "set") [.ref l]) Q E s := by
  have hsz : xs.length = its.size := by rw [← StrsAre.len_eq hi, Array.length_toList]
  obtain ⟨c, tl, hmro⟩ := PySem.F.called_set.mro
  have hmade := PySem.F.called_set.made
  have hsub := PySem.F.called_set.sub
  refine wpAny_call (codeAny_of_tree ?_)
  refine wpAny_pure (show _ ∧ _ from ⟨Code.quiet_builtin _ (by decide +kernel), codeAny_builtin PySem.F.entry_type_call ?_⟩)
  rw [Around.under_plain (weight_type_call_type "set" [.ref l] []) rfl]
  have h1 := PySem.F.called_set.notType
  have h2 := PySem.F.called_set.canCreate
  have hct := PySem.F.typeCall_set_1 (.ref l)
  repeat (any_goals (first | assumption | wp_step))
  refine codeAny_mono (code_set_new_1 (.ref l) (E := E) (Q₁ := fun obj s₁ => ∃ led : Bool, obj = .ref s.heap.objs.size ∧ s₁ = { s with heap := s.heap.push { cls := .type "set", dict := none, data := .set #[] 0 (.fresh 0 0 led) } }) fun led => ⟨led, rfl, rfl⟩) fun r s₁ hr => ?_
  cases r with
  | error e => exact hr
  | ok fl =>
    cases fl with
    | ret obj =>
      obtain ⟨led, rfl, rfl⟩ := hr
      generalize hH : s.heap.push { cls := .type "set", dict := none, data := .set #[] 0 (.fresh 0 0 led) } = hp
      have hS : hp.get? s.heap.objs.size = some { cls := .type "set", dict := none, data := .set #[] 0 (.fresh 0 0 led) } := by rw [← hH]; exact Heap.get?_push_size _ rfl
      have up : ∀ b o, s.heap.get? b = some o → hp.get? b = some o := fun b o e => by rw [← hH]; exact Heap.get?_push_of_some _ e
      have hz : hp.objs.size = s.heap.objs.size + 1 := by rw [← hH, Heap.size_push]
      have hT : Shared.TypeIs { s with heap := hp } (.ref s.heap.objs.size) "set" := ⟨_, hS, rfl⟩
      have hli := PySem.F.called_set.init.lookup
      have hbi := PySem.F.called_set.init.bind (.ref s.heap.objs.size)
      repeat (any_goals (first | assumption | wp_step))
      refine codeAny_mono (codeAny_call_builtin (R := wants (fun r s₂ => r = .none ∧ ∃ h' tk, s₂ = { s with heap := h', toks := tk } ∧ h'.SetOf (strKind P w) s.heap.objs.size (fun y => decide (y ∈ xs)) (manyS xs xs.length) ∧ (∀ b o, s.heap.get? b = some o → h'.get? b = some o)) E)
        PySem.F.called_set.init.plain PySem.F.entry_set_init (check_set_init_1 hT ?_)) fun r₂ s₂ hr₂ => ?_
      · obtain ⟨⟨ocls, odict, odata, oslots⟩, hol, hcl, nl, hdl⟩ := hl
        simp only at hcl hdl
        subst hcl hdl
        have hol' := up _ _ hol
        have hsls := PySem.F.sub_list_set
        have hslf := PySem.F.sub_list_frozenset
        have hne : (Value.type "list" == Value.type "dict") = false := by decide
        have hl1 : hp.IsList l its := ⟨_, hol', rfl, nl, rfl⟩
        unfold Builtin.«set.__init__» noKeywords Builtin.Frozenset.updateFrom
        generalize hPI : pyIter = PI
        wp_walk
        subst hPI
        refine wpAny_pyIter_list hl1 (wpAny_bind (wpAny_runValue ?_))
        have hlS : l < s.heap.objs.size := Heap.lt_size hol
        have hh3 : A.in1.in1.in1.handled = none := by simp [hh]
        have hneI : l ≠ hp.objs.size := by rw [hz]; exact Nat.ne_of_lt (Nat.lt_succ_of_lt hlS)
        refine loopS ((Walks.list hh3 _ l hneI its).toS) (S := s.heap.objs.size) (fun z => ?_) hsz (by omega) (fun i v hv => SS.strs_at hi i v (by rw [Array.getElem?_toList]; exact hv)) its.size 0 _ (by omega) ⟨⟨_, Heap.get?_push_size _ rfl, rfl, rfl⟩, (hl1.push _)⟩ ?_ ?_
        · simp only [List.mem_cons, List.not_mem_nil, or_false] at z
          rcases z with z | z
          · rw [hz] at z; exact absurd z (Nat.ne_of_lt (Nat.lt_succ_self _))
          · exact absurd z.symm (Nat.ne_of_lt hlS)
        · exact SetOf_congr ((setObjOf_fresh (knd := strKind P w) led).setOf (Heap.get?_push_of_some _ hS) (by unfold scanBound; omega)) (fun _ => rfl) rfl
        · rintro ⟨h', g', d', tk', os'⟩ hm hS'
          have eg : g' = s.gens := hm.gens
          have ed : d' = s.drawn := hm.drawn
          have eo : os' = s.os := hm.os
          subst eg ed eo
          rw [← hsz] at hS'
          refine wpAny_pure (wpAny_pure ⟨rfl, h', tk', rfl, hS', fun b o e => ?_⟩)
          have hb0 : b < s.heap.objs.size := Heap.lt_size e
          exact hm.heap b o (fun z => by
            simp only [List.mem_cons, List.not_mem_nil, or_false] at z
            rcases z with z | z
            · exact absurd z (Nat.ne_of_lt hb0)
            · rw [hz] at z; exact absurd z (Nat.ne_of_lt (Nat.lt_succ_of_lt hb0))) (Heap.get?_push_of_some _ (up _ _ e))
      · cases r₂ with
        | error e => exact hr₂
        | ok fl₂ =>
          cases fl₂ with
          | ret r =>
            obtain ⟨rfl, h', tk, rfl, hS', hk'⟩ := hr₂
            repeat (any_goals (first | assumption | wp_step))
            exact h _ _ hS' hk'
          | _ => exact hr₂.elim
    | _ => exact hr.elim
end
def strsOf : List D → Option (List Str)
  | [] => some []
  | .str y :: ds => (strsOf ds).map (y :: ·)
  | _ => none
theorem strsOf_dp {K : PySem.W.Frag} {R : Hp} : ∀ {ds : List D} {vs : List V} {xs : List Str}, strsOf ds = some xs → DpAll K R vs ds → vs = xs.map V.str
  | [], _, xs, e, h => by
    cases e
    cases h
    rfl
  | d :: ds, _, xs, e, h => by
    cases h with
    | cons h1 h2 =>
      cases h1 with
      | str y =>
        obtain ⟨ys, e1, rfl⟩ := Option.map_eq_some_iff.mp (show (strsOf ds).map (y :: ·) = some xs from e)
        rw [strsOf_dp e1 h2]
        rfl
      | _ => cases e
section
variable {X : Cx} {a : Expr} {ta : TE} {p p2 q pos : Pos}
def tLenS (K : PySem.W.Frag) (ta : TE) : TE := fun σ H Q => ta σ H fun x H1 => ∃ l, ∃ xs : List Str, x = .ref l ∧ SqL K H1 l (xs.map V.str) ∧ xs.length < 1000 ∧ Q (.int (manyS xs xs.length : Nat)) H1
theorem pe_lenS (hc : X.calm = true) (hg : Gl X "len") (hm : X.mg "len" = none) (hg2 : Gl X "set") (hm2 : X.mg "set" = none) (ha : PE X a ta)
    (na : starEach [a] X.env = (false, eval a X.env) :: starEach [] X.env := by rfl) : PE X (.Call (.Name "len" p) [.Call (.Name "set" p2) [a] [] q] [] pos) (tLenS X.K ta) := ⟨fun pins s σ H Q I h => by
  refine Call_ (ld_blt I hg hm boot_len (PyProof.Rows.callWith_builtin1 (PyProof.Rows.args_cons ?_ rfl) rfl rfl))
  refine Call_ (ld_blt I hg2 hm2 boot_set (PyProof.Rows.callWith_type1 (PyProof.Rows.args_cons (thn (ha.run pins s σ H _ I h) fun v s1 ⟨x, H1, I1, r1, l, xs, ex, hq, hz, q1⟩ => PyProof.Rows.args_nil ?_) na) na rfl))
  subst ex
  cases r1
  obtain ⟨its, r, pl, _⟩ := I1.list hq
  refine call_setS (I1.ok.hd hc) pl.isList (by simpa using strsAre_of r) (bound1000 hz) fun h' tk hS hk => PyProof.Rows.args_nil ?_
  obtain ⟨o, es, ep, t, ho, hex, hd, _, _, _, hf, hn⟩ := hS
  have I2 : Inv X pins σ H1 { s1 with heap := h', toks := tk } := I1.kept fun b o e => hk b o e
  have le := manyS_le xs xs.length
  exact call_len_set ho hex hd hf (by rw [hn]; omega) ⟨.int (manyS xs xs.length : Nat), H1, I2.tok _, ⟨_, by rw [hn]⟩, q1⟩⟩
end
section
variable {τ : Tn} {G : Gx} {cp : List Str} {N : List Str} {sc : Scope} {k : Nat} {X : Cx} {e : Expr} {t : UV} {p p2 pos pos2 : Pos} {ρ : En} {C : D → Prop}
def fLenS : D → (D → Prop) → Prop
  | .list ds, C => ∃ xs, strsOf ds = some xs ∧ xs.length < 1000 ∧ C (.int (manyS xs xs.length : Nat))
  | _, _ => False
def dLenS (t : UV) : UV := fun ρ C => t ρ fun d => fLenS d C
theorem jd_lenS (O : Ok cp G N sc k X) (hm : Free G "len") (hm2 : Free G "set") (ha : JV τ X e t) (hg : sc.names.lookup ("len" : Str) = some .globalImplicit := by rfl) (hg2 : sc.names.lookup ("set" : Str) = some .globalImplicit := by rfl)
    (na : starEach [e] X.env = (false, eval e X.env) :: starEach [] X.env := by rfl) : JD τ X (.Call (.Name "len" p) [.Call (.Name "set" p2) [e] [] pos2] [] pos) (dLenS t) := fun ρ C c H0 γ σ H r Q q =>
  wpE_of (pe_lenS O.calm (by show X.env.scope.names.lookup ("len" : Str) = _; rw [O.es]; exact hg) (by rw [O.em]; exact hm) (by show X.env.scope.names.lookup ("set" : Str) = _; rw [O.es]; exact hg2) (by rw [O.em]; exact hm2) pe_w na) (ha ρ _ c H0 γ σ H r _ fun d v H2 c e1 b => by
    cases d with
    | list ds =>
      obtain ⟨a, vs, rfl, hs, hd⟩ := b
      obtain ⟨xs, h1, h2, c⟩ := c
      have ev := strsOf_dp h1 hd
      subst ev
      exact ⟨a, xs, rfl, sqL_same res_le hs, h2, q _ _ _ c e1 (.int _)⟩
    | _ => exact c.elim)
theorem c_dFmt : dFmt t ρ C = t ρ fun d => strD d fun y => C (.str y) := propext Iff.rfl
theorem c_dLenS : dLenS t ρ C = t ρ fun d => fLenS d C := propext Iff.rfl
theorem q_lenS {ds : List D} : fLenS (.list ds) C = ∃ xs, strsOf ds = some xs ∧ xs.length < 1000 ∧ C (.int (manyS xs xs.length : Nat)) := propext Iff.rfl
variable {S : Str → Prop} {i : Int} {y : Str} {b : Bool}
theorem strD_i : strD (.int i) S = (i.natAbs < 10 ^ 30 ∧ S (toString i)) := propext Iff.rfl
theorem strD_s : strD (.str y) S = (y.length ≤ 1000000 ∧ S y) := propext Iff.rfl
theorem strD_n : strD .none S = S "None" := propext Iff.rfl
theorem strD_b : strD (.bool b) S = S (if b then "True" else "False") := propext Iff.rfl
theorem c_dJs {ts : List UV} : dJs ts ρ C = jsC ts ρ Str.empty fun y => C (.str y) := propext Iff.rfl
end
def tS (S : Str → Prop) : D → Prop
  | .str y => S y
  | _ => False
section
variable {ρ : En} {acc y : Str} {S : Str → Prop} {t : UV} {ts : List UV}
theorem c_js0 : jsC [] ρ acc S = S acc := propext Iff.rfl
theorem c_js1 : jsC (t :: ts) ρ acc S = t ρ (tS fun y => acc.length + y.length ≤ 1000000 ∧ jsC ts ρ (acc ++ y) S) := by
  show t ρ _ = t ρ _
  congr 1
theorem tS_s : tS S (.str y) = S y := propext Iff.rfl
end
end Pu
/-! ### methods of texts; str(i), int(x) -/
namespace L2
open PySem PySem.Spec PyProof.Rows
section
variable {X : Cx} {o e e2 : Expr} {to te te2 : TE}
/-- a method of a text, two values handed in -/
def tM2 (r : V → List V → Hp → VK → Prop) (to te te2 : TE) : TE := fun σ H Q => to σ H fun x H1 => (∃ a, x = .str a) ∧ te σ H1 fun y H2 => te2 σ H2 fun z H3 => r x [y, z] H3 Q
theorem pe_m2 {id : String} {name : Str} {apos pos : Pos} {r : V → List V → Hp → VK → Prop} (slot : Slot "str" name id) (ty : typeOf (.builtin id) = pure (.type "method_descriptor")) (rule : MtR X id r) (ho : PE X o to) (he : PE X e te) (he2 : PE X e2 te2)
    (hs : starEach [e, e2] X.env = [(false, eval e X.env), (false, eval e2 X.env)] := by rfl) (hbase : attributeBase o name X.env (eval o X.env) = eval o X.env := by rfl) (hline : (apos.endLine == pos.line) = true := by rfl) :
    PE X (.Call (.Attribute o name apos) [e, e2] [] pos) (tM2 r to te te2) := by
  refine ⟨fun pins s σ H Q I h => ?_⟩
  refine PySem.Call_method2 hbase hs hline (thn (ho.run pins s σ H _ I h) fun v s1 ⟨x, H1, I1, r1, q1⟩ => ?_)
  obtain ⟨⟨a, rfl⟩, q1⟩ := q1
  obtain ⟨t, rfl⟩ := _root_.id r1
  refine ⟨"str", _, F.plainAttrs_str, slot, ty, typeIs_str _ _ _, (fun _ e => nomatch e), Calls.callWith_builtin rfl (Calls.evalArgs_plain (Calls.spliced_cons ?_))⟩
  exact thn (he.run pins s1 σ H1 _ I1 q1) fun u s2 ⟨y, H2, I2, r2, q2⟩ => Calls.spliced_cons (thn (he2.run pins s2 σ H2 _ I2 q2) fun u2 s3 ⟨z, H3, I3, r3, q3⟩ => Calls.spliced_nil (rule pins s3 σ H3 _ [y, z] _ [u, u2] Q I3 r1 (.cons r2 (.cons r3 .nil)) q3))
/-- x.rsplit(sep, k) -/
theorem mt_rsplitMax : MtR X "str.rsplit" (fun x xs H Q => ∃ (a b : Str) (k : Int), x = .str a ∧ xs = [.str b, .int k] ∧ (b.length == 0) = false ∧ -(2 ^ 63) ≤ k ∧ k < 2 ^ 63 ∧ a.length + 2 ≤ sizeLine ∧ rNewStrs (Txt.rsplitMax a b k) H Q) := by
  intro pins s σ H x xs v us Q I rx rs h
  obtain ⟨a, b, k, rfl, rfl, hb, k1, k2, hz, h⟩ := h
  obtain ⟨t, rfl⟩ := rx
  cases rs with
  | cons r1 rs =>
    cases rs with
    | cons r2 rs =>
      cases rs
      obtain ⟨u, rfl⟩ := r1
      obtain ⟨v, rfl⟩ := r2
      have e1 : decide (k < -(2 ^ 63 : Int)) = false := decide_eq_false (by omega)
      have e2 : decide (k ≥ 2 ^ 63) = false := decide_eq_false (by omega)
      have hk : (decide (k < -(2 ^ 63 : Int)) || decide (k ≥ 2 ^ 63)) = false := by rw [e1, e2, Bool.or_false]
      have hn : (Builtin.Str.partsBetween a (Builtin.Str.occurrencesFromRight a b (limitOf a k)) b.length).length ≤ sizeLine := by
        have e1 := StrLaws.occR_length_le_len a b (limitOf a k)
        rw [length_partsBetween]; omega
      have hl : (Txt.rsplitMax a b k).length ≤ sizeLine := by
        unfold Txt.rsplitMax
        split
        · show 1 ≤ sizeLine; omega
        · split
          · show 1 ≤ sizeLine; omega
          · exact hn
      cases h1 : (decide (a.length < b.length) || decide (Builtin.Str.strKind a < Builtin.Str.strKind b))
      · cases hf : (Builtin.Str.occurrencesFromRight a b (limitOf a k)).isEmpty
        · refine call_meets F.slot_str_rsplit (typeIs_str _ _ _) F.entry_str_rsplit (F.args_str_rsplit_3 _ _ _) (meets_str_rsplit_sep_max a b k t u v hk h1 hb hf (by omega) hn) ?_
          show EP X pins σ Q (.ref s.heap.objs.size) { s with toks := _, heap := s.heap.push { cls := .type "list", data := .seq (strsFrom s.toks (Builtin.Str.partsBetween a (Builtin.Str.occurrencesFromRight a b (limitOf a k)) b.length)).toArray } }
          rw [strsFrom_eq]
          exact laid_strs (ys := Txt.rsplitMax a b k) I ((numbered_texts _ _).trans ((if_neg (ne_true_of_eq_false h1)).trans (if_neg (ne_true_of_eq_false hf))).symm) hl h
        · refine call_meets F.slot_str_rsplit (typeIs_str _ _ _) F.entry_str_rsplit (F.args_str_rsplit_3 _ _ _) (meets_str_rsplit_max_not_found a b k t u v hk h1 hb hf) ?_
          exact laid_strs (l := [(a, t)]) (ys := Txt.rsplitMax a b k) (k := s.toks) I ((if_neg (ne_true_of_eq_false h1)).trans (if_pos hf)).symm hl h
      · refine call_meets F.slot_str_rsplit (typeIs_str _ _ _) F.entry_str_rsplit (F.args_str_rsplit_3 _ _ _) (meets_str_rsplit_max_cannot_occur a b k t u v hk h1) ?_
        exact laid_strs (l := [(a, t)]) (ys := Txt.rsplitMax a b k) (k := s.toks) I (if_pos h1).symm hl h
/-- x.rjust(k, fill) -/
theorem mt_rjustF : MtR X "str.rjust" (fun x xs H Q => ∃ (a f : Str) (i : Int), x = .str a ∧ xs = [.int i, .str f] ∧ PadOk i = true ∧ f.length = 1 ∧ Q (.str (Txt.rjustF a i (f.cps.getD 0 0))) H) := by
  intro pins s σ H x xs v us Q I rx rs h
  obtain ⟨a, f, i, rfl, rfl, hc, hf, h⟩ := h
  obtain ⟨t, rfl⟩ := rx
  cases rs with
  | cons r1 rs =>
    cases rs with
    | cons r2 rs =>
      cases rs
      obtain ⟨u, rfl⟩ := r1
      obtain ⟨w, rfl⟩ := r2
      exact PyProof.Rows.rjust_fill hc hf fun t' k => ⟨.str _, H, I.tok k, ⟨t', rfl⟩, h⟩
end
end L2
namespace Pu
open PySem PySem.Spec PyProof.Rows L2
theorem dp_strs {K : PySem.W.Frag} {H : Hp} : ∀ ns : List Str, DpAll K H (ns.map V.str) (ns.map PyData.str)
  | [] => .nil
  | _ :: ns => .cons (.str _) (dp_strs ns)
theorem small2 {n : Nat} (h : n ≤ 1000000) : n + 2 ≤ sizeLine := by
  have : 1000002 ≤ sizeLine := by decide
  omega
theorem log2_300 {n : Nat} (h : n < 10 ^ 300) : n.log2 < 1920 := by
  by_cases e : n = 0
  · subst e; decide
  · have h1 := (Nat.log2_lt e (k := 1000)).mpr (Nat.lt_trans h (by decide +kernel))
    omega
section
variable {X : Cx}
/-- str(i) -/
def fStrI : List D → (Rs → Prop) → Prop
  | [.int i], C => i.natAbs < 10 ^ 300 ∧ C (.dat (.str (toString i)))
  | _, _ => False
theorem fStrI_ok : Cb X (fun xs H Q => ∃ i, xs = [.int i] ∧ i.natAbs.log2 < 1920 ∧ Q (.str (toString i)) H) fStrI := fun τ H0 H γ σ ρ vs ds C r b f Q q => by
  unfold fStrI at f
  split at f
  · obtain ⟨v, rfl, e⟩ := paired1 b
    cases e
    exact ⟨_, rfl, log2_300 f.1, q _ _ H f.2 .refl (.str _)⟩
  · exact f.elim
/-- int(text) -/
def fIntS : List D → (Rs → Prop) → Prop
  | [.str a], C => ∃ n, PySem.intText? a = some n ∧ a.length ≤ 640 ∧ C (.dat (.int n))
  | _, _ => False
theorem fIntS_ok : Cb X (fun xs H Q => ∃ a n, xs = [.str a] ∧ PySem.intText? a = some n ∧ a.length ≤ 640 ∧ Q (.int n) H) fIntS := fun τ H0 H γ σ ρ vs ds C r b f Q q => by
  unfold fIntS at f
  split at f
  · obtain ⟨v, rfl, e⟩ := paired1 b
    cases e
    obtain ⟨n, h1, h2, h3⟩ := f
    exact ⟨_, n, rfl, h1, h2, q _ _ H h3 .refl (.int _)⟩
  · exact f.elim
/-! methods -/
def sD : D → (Str → Prop) → Prop
  | .str a, C => C a
  | _, _ => False
def Cm1 (X : Cx) (r : V → List V → Hp → VK → Prop) (f : Str → D → (Rs → Prop) → Prop) : Prop := ∀ (τ : Tn) (H0 H : Hp) (γ : List (V × D)) (σ : St) (ρ : En) (a : Str) (v : V) (d : D) (C : Rs → Prop), Rep X.K τ H0 γ H σ ρ →
  Bo X.K τ H (res H (own τ σ ρ)) v d → f a d C → ∀ Q : VK, (∀ rs v H2, C rs → Ext τ H H2 → RsOk X.K τ H H2 σ ρ v rs → Q v H2) → r (.str a) [v] H Q
def eM1 (f : Str → D → (Rs → Prop) → Prop) (t u : UV) : UE := fun ρ C => t ρ fun d => sD d fun a => u ρ fun e => f a e C
def iD : D → (Int → Prop) → Prop
  | .int i, C => C i
  | _, _ => False
def eRjust (t u w : UV) : UE := fun ρ C => t ρ fun d => sD d fun a => u ρ fun e => iD e fun i => w ρ fun z => sD z fun f => f.length = 1 ∧ 0 ≤ i ∧ i ≤ 1000 ∧ C (.dat (.str (Txt.rjustF a i (f.cps.getD 0 0))))
def eRsplit (t u w : UV) : UE := fun ρ C => t ρ fun d => sD d fun a => u ρ fun e => sD e fun b => w ρ fun z => iD z fun k => (b.length == 0) = false ∧ -1000 ≤ k ∧ k ≤ 1000 ∧ a.length ≤ 1000000 ∧ C (.lst ((Txt.rsplitMax a b k).map PyData.str))
theorem padOk_small {i : Int} (h0 : 0 ≤ i) (h1 : i ≤ 1000) : PadOk i = true := by
  obtain ⟨n, rfl⟩ := Int.eq_ofNat_of_zero_le h0
  have hn : n < 1001 := by omega
  have : ∀ m : Nat, m < 1001 → PadOk (m : Int) = true := by decide +kernel
  exact this n hn
end
section
variable {τ : Tn} {X : Cx} {o e e2 : Expr} {t u w : UV} {apos pos : Pos}
theorem je_m1 {id : String} {name : Str} {r : V → List V → Hp → VK → Prop} {f : Str → D → (Rs → Prop) → Prop} (slot : Slot "str" name id) (ty : typeOf (.builtin id) = pure (.type "method_descriptor")) (rule : MtR X id r) (hf : Cm1 X r f) (ho : JV τ X o t) (he : JV τ X e u)
    (hs : starEach [e] X.env = [(false, eval e X.env)] := by rfl) (hbase : attributeBase o name X.env (eval o X.env) = eval o X.env := by rfl) (hline : (apos.endLine == pos.line) = true := by rfl) : JE τ X (.Call (.Attribute o name apos) [e] [] pos) (eM1 f t u) := fun ρ C c H0 γ σ H r Q q =>
  wpE_of (pe_m1 slot ty rule pe_w pe_w hs hbase hline) (ho ρ _ c H0 γ σ H r _ fun d v H2 c e1 b => by
    cases d <;> first | exact c.elim | skip
    rename_i a
    have b : v = V.str a := b
    subst b
    exact ⟨⟨_, rfl⟩, he ρ _ c H0 γ σ H2 (r.after e1) _ fun d2 v2 H3 c e2 b2 => hf τ H0 H3 γ σ ρ _ v2 d2 C ((r.after e1).after e2) b2 c Q fun rs v H4 c e3 h => q rs v H4 c ((e1.trans e2).trans e3) (rs_back r (e1.trans e2) h)⟩)
theorem je_rjust (ho : JV τ X o t) (he : JV τ X e u) (he2 : JV τ X e2 w)
    (hs : starEach [e, e2] X.env = [(false, eval e X.env), (false, eval e2 X.env)] := by rfl) (hbase : attributeBase o "rjust" X.env (eval o X.env) = eval o X.env := by rfl) (hline : (apos.endLine == pos.line) = true := by rfl) : JE τ X (.Call (.Attribute o "rjust" apos) [e, e2] [] pos) (eRjust t u w) := fun ρ C c H0 γ σ H r Q q =>
  wpE_of (pe_m2 F.slot_str_rjust F.type_str_rjust mt_rjustF pe_w pe_w pe_w hs hbase hline) (ho ρ _ c H0 γ σ H r _ fun d v H2 c e1 b => by
    cases d <;> first | exact c.elim | skip
    rename_i a
    have b : v = V.str a := b
    subst b
    refine ⟨⟨_, rfl⟩, he ρ _ c H0 γ σ H2 (r.after e1) _ fun d2 v2 H3 c e2 b2 => ?_⟩
    cases d2 <;> first | exact c.elim | skip
    rename_i i
    have b2 : v2 = V.int i := b2
    subst b2
    refine he2 ρ _ c H0 γ σ H3 ((r.after e1).after e2) _ fun d3 v3 H4 c e3 b3 => ?_
    cases d3 <;> first | exact c.elim | skip
    rename_i f
    have b3 : v3 = V.str f := b3
    subst b3
    obtain ⟨h1, h2, h3, c⟩ := c
    exact ⟨a, f, i, rfl, rfl, padOk_small h2 h3, h1, q _ _ H4 c ((e1.trans e2).trans e3) (.str _)⟩)
theorem je_rsplit (ho : JV τ X o t) (he : JV τ X e u) (he2 : JV τ X e2 w)
    (hs : starEach [e, e2] X.env = [(false, eval e X.env), (false, eval e2 X.env)] := by rfl) (hbase : attributeBase o "rsplit" X.env (eval o X.env) = eval o X.env := by rfl) (hline : (apos.endLine == pos.line) = true := by rfl) : JE τ X (.Call (.Attribute o "rsplit" apos) [e, e2] [] pos) (eRsplit t u w) := fun ρ C c H0 γ σ H r Q q =>
  wpE_of (pe_m2 F.slot_str_rsplit F.type_str_rsplit mt_rsplitMax pe_w pe_w pe_w hs hbase hline) (ho ρ _ c H0 γ σ H r _ fun d v H2 c e1 b => by
    cases d <;> first | exact c.elim | skip
    rename_i a
    have b : v = V.str a := b
    subst b
    refine ⟨⟨_, rfl⟩, he ρ _ c H0 γ σ H2 (r.after e1) _ fun d2 v2 H3 c e2 b2 => ?_⟩
    cases d2 <;> first | exact c.elim | skip
    rename_i f
    have b2 : v2 = V.str f := b2
    subst b2
    refine he2 ρ _ c H0 γ σ H3 ((r.after e1).after e2) _ fun d3 v3 H4 c e3 b3 => ?_
    cases d3 <;> first | exact c.elim | skip
    rename_i k
    have b3 : v3 = V.int k := b3
    subst b3
    obtain ⟨h1, h2, h3, h4, c⟩ := c
    have er := ((e1.trans e2).trans e3)
    refine ⟨a, f, k, rfl, rfl, h1, by omega, by omega, small2 h4, fun l hl => q _ _ _ c (er.trans (.new hl)) (rs_back r er (new_lst (((r.after e1).after e2).after e3) hl (dp_strs _)))⟩)
end
section
variable {X : Cx}
def fStarts : Str → D → (Rs → Prop) → Prop
  | a, .str b, C => C (.dat (.bool (Txt.startswith a b)))
  | _, _, _ => False
theorem fStarts_ok : Cm1 X (fun x xs H Q => ∃ a b, x = .str a ∧ xs = [.str b] ∧ Q (.bl (Txt.startswith a b)) H) fStarts := fun τ H0 H γ σ ρ a v d C r b f Q q => by
  cases d <;> first | exact f.elim | skip
  rename_i y
  have b : v = V.str y := b
  subst b
  exact ⟨a, y, rfl, rfl, q _ _ H f .refl (.bl _)⟩
def fSplit : Str → D → (Rs → Prop) → Prop
  | a, .str b, C => (b.length == 0) = false ∧ a.length ≤ 1000000 ∧ C (.lst ((Txt.split a b).map PyData.str))
  | _, _, _ => False
theorem fSplit_ok : Cm1 X (fun x xs H Q => ∃ a b, x = .str a ∧ xs = [.str b] ∧ (b.length == 0) = false ∧ a.length + 2 ≤ sizeLine ∧ rNewStrs (Txt.split a b) H Q) fSplit := fun τ H0 H γ σ ρ a v d C r b f Q q => by
  cases d <;> first | exact f.elim | skip
  rename_i y
  have b : v = V.str y := b
  subst b
  exact ⟨a, y, rfl, rfl, f.1, small2 f.2.1, fun l hl => q _ _ _ f.2.2 (.new hl) (new_lst r hl (dp_strs _))⟩
theorem strsOf_map : ∀ ys : List Str, strsOf (ys.map PyData.str) = some ys
  | [] => rfl
  | y :: ys => by
    rw [List.map_cons, strsOf, strsOf_map ys]
    rfl
theorem strs_vals {K : PySem.W.Frag} {H : Hp} : ∀ {vs : List V} {ds : List D} {ys : List Str}, DpAll K H vs ds → strsOf ds = some ys → vs = ys.map V.str
  | _, _, _, .nil, e => by
    cases e
    rfl
  | _, _, _, .cons (d := d) (ds := ds) h t, e => by
    cases h <;> first | (cases e; done) | skip
    rename_i x
    simp only [strsOf] at e
    cases e2 : strsOf ds with
    | none => rw [e2] at e; cases e
    | some zs =>
      rw [e2] at e
      cases e
      rw [strs_vals t e2]
      rfl
def fJoin : Str → D → (Rs → Prop) → Prop
  | a, .list ds, C => ixC (strsOf ds) fun ys => (ys.map (·.length)).sum + ys.length * a.length ≤ 1000000 ∧ C (.dat (.str (Txt.join a ys)))
  | a, .tuple ds, C => ixC (strsOf ds) fun ys => (ys.map (·.length)).sum + ys.length * a.length ≤ 1000000 ∧ C (.dat (.str (Txt.join a ys)))
  | _, _, _ => False
theorem fJoin_ok : Cm1 X (fun x xs H Q => ∃ a p, ∃ ys : List Str, x = .str a ∧ xs = [.ref p] ∧ (SqL X.K H p (ys.map V.str) ∨ SqT X.K H p (ys.map V.str)) ∧ (ys.map (·.length)).sum + ys.length * a.length ≤ 16777216 ∧ Q (.str (Txt.join a ys)) H) fJoin := fun τ H0 H γ σ ρ a v d C r b f Q q => by
  cases d <;> first | exact f.elim | skip
  · obtain ⟨p, vs, rfl, h1, h2⟩ := b
    obtain ⟨ys, ey, z, c⟩ := ixC_iff.mp f
    rw [strs_vals h2 ey] at h1
    exact ⟨a, p, ys, rfl, rfl, .inl (sqL_same res_le h1), by omega, q _ _ H c .refl (.str _)⟩
  · obtain ⟨p, vs, rfl, h1, h2⟩ := b
    obtain ⟨ys, ey, z, c⟩ := ixC_iff.mp f
    rw [strs_vals h2 ey] at h1
    exact ⟨a, p, ys, rfl, rfl, .inr (sqT_same res_le h1), by omega, q _ _ H c .refl (.str _)⟩
end
/-! sign * int -/
def fRepS : D → D → (D → Prop) → Prop
  | .str x, .int k, C => x.length = 1 ∧ 0 ≤ k ∧ k ≤ 1000 ∧ C (.str (Txt.mul x k))
  | _, _, _ => False
def rRepS : R2 := fun x y H Q => ∃ a k, x = .str a ∧ y = .int k ∧ a.length = 1 ∧ 0 ≤ k ∧ k ≤ 1000 ∧ Q (.str (Txt.mul a k)) H
theorem mulOk_one {a : Str} {k : Int} (h : a.length = 1) (h0 : 0 ≤ k) (h1 : k ≤ 1000) : PySem.MulOk a k := by
  refine ⟨by simp; omega, fun n0 _ z => ?_, fun _ _ => ?_⟩
  · rw [h] at z
    have : (1 : Int) ≤ (2 ^ 63 - 1) / k := (Int.le_ediv_iff_mul_le (by omega)).mpr (by omega)
    have z : ((1 : Nat) : Int) > (2 ^ 63 - 1) / k := z
    omega
  · unfold Builtin.Str.tooLong
    rw [h, sizeLine_eq]
    exact decide_eq_false (by omega)
theorem op_repS {X : Cx} : OpR X (binaryOp .Mult) rRepS := by
  intro pins s σ H x y v u Q I rx ry h
  obtain ⟨a, k, rfl, rfl, h1, h2, h3, q⟩ := h
  obtain ⟨t, rfl⟩ := rx
  obtain ⟨t2, rfl⟩ := ry
  exact PySem.SB.mul (mulOk_one h1 h2 h3) fun t' k' => ⟨.str _, H, I.tok _, ⟨t', rfl⟩, q⟩
theorem fRepS_ok {X : Cx} : Op2 X rRepS fRepS := fun τ H0 H γ σ ρ v1 v2 d1 d2 C r b1 b2 h Q q => by
  cases d1 <;> cases d2 <;> first | exact h.elim | skip
  obtain ⟨h1, h2, h3, h4⟩ := h
  cases b1
  cases b2
  exact ⟨_, _, rfl, rfl, h1, h2, h3, q _ _ H h4 .refl (.str _)⟩
theorem jd_repS {τ : Tn} {X : Cx} {a b : Expr} {t u : UV} {pos : Pos} (ha : JV τ X a t) (hb : JV τ X b u) : JD τ X (.BinOp a .Mult b pos) (d2 fRepS t u) := jd_op op_repS fRepS_ok ha hb
theorem q_repS {x : Str} {k : Int} {C : D → Prop} : fRepS (.str x) (.int k) C = (x.length = 1 ∧ 0 ≤ k ∧ k ≤ 1000 ∧ C (.str (Txt.mul x k))) := propext Iff.rfl
/-! text += text -/
def fAugS : D → D → (D → Prop) → Prop
  | .str x, .str y, C => x.length + y.length ≤ 1000000 ∧ C (.str (x ++ y))
  | _, _, _ => False
theorem fAugS_ok {X : Cx} : Op2 X (fun x y H Q => ∃ i j, x = .str i ∧ y = .str j ∧ i.length + j.length ≤ sizeLine ∧ Q (.str (i ++ j)) H) fAugS := fun τ H0 H γ σ ρ v1 v2 d1 d2 C r b1 b2 h Q q => by
  cases d1 <;> cases d2 <;> first | exact h.elim | skip
  cases b1; cases b2
  exact ⟨_, _, rfl, rfl, small_line h.1, q _ _ H h.2 .refl (.str _)⟩
theorem js_iaddS {τ : Tn} {G : Gx} {cp : List Str} {N : List Str} {sc : Scope} {k : Nat} {X : Cx} {e : Expr} {tv : UV} {x : Str} {pos p2 : Pos} (S : Ok cp G N sc k X) (i : Nat) (he : JV τ X e tv) (hN : N[i]? = some x := by rfl) (hx : LocC cp sc x := by first | exact Or.inl rfl | exact Or.inr ⟨rfl, rfl⟩) : JS τ X (.AugAssign (.Name x p2) .Add e pos) (sAug i fAugS tv) := js_aug S i (pip_of iop_add_str) fAugS_ok he hN hx
theorem q_augS {x y : Str} {C : D → Prop} : fAugS (.str x) (.str y) C = (x.length + y.length ≤ 1000000 ∧ C (.str (x ++ y))) := propext Iff.rfl
/-! the readings, step by step -/
section
variable {f : Str → D → (Rs → Prop) → Prop} {t u w : UV} {ρ : En} {C : Rs → Prop} {a b : Str} {i : Int} {S : Str → Prop} {N : Int → Prop} {ds : List D}
theorem c_eM1 : eM1 f t u ρ C = t ρ fun d => sD d fun a => u ρ fun e => f a e C := propext Iff.rfl
theorem c_eRjust : eRjust t u w ρ C = t ρ fun d => sD d fun a => u ρ fun e => iD e fun i => w ρ fun z => sD z fun f => f.length = 1 ∧ 0 ≤ i ∧ i ≤ 1000 ∧ C (.dat (.str (Txt.rjustF a i (f.cps.getD 0 0)))) := propext Iff.rfl
theorem c_eRsplit : eRsplit t u w ρ C = t ρ fun d => sD d fun a => u ρ fun e => sD e fun b => w ρ fun z => iD z fun k => (b.length == 0) = false ∧ -1000 ≤ k ∧ k ≤ 1000 ∧ a.length ≤ 1000000 ∧ C (.lst ((Txt.rsplitMax a b k).map PyData.str)) := propext Iff.rfl
theorem q_sD : sD (.str a) S = S a := propext Iff.rfl
theorem q_iD : iD (.int i) N = N i := propext Iff.rfl
theorem q_starts : fStarts a (.str b) C = C (.dat (.bool (Txt.startswith a b))) := propext Iff.rfl
theorem q_split : fSplit a (.str b) C = ((b.length == 0) = false ∧ a.length ≤ 1000000 ∧ C (.lst ((Txt.split a b).map PyData.str))) := propext Iff.rfl
theorem q_join_l : fJoin a (.list ds) C = ixC (strsOf ds) fun ys => (ys.map (·.length)).sum + ys.length * a.length ≤ 1000000 ∧ C (.dat (.str (Txt.join a ys))) := propext Iff.rfl
theorem q_join_t : fJoin a (.tuple ds) C = ixC (strsOf ds) fun ys => (ys.map (·.length)).sum + ys.length * a.length ≤ 1000000 ∧ C (.dat (.str (Txt.join a ys))) := propext Iff.rfl
theorem q_strI : fStrI [.int i] C = (i.natAbs < 10 ^ 300 ∧ C (.dat (.str (toString i)))) := propext Iff.rfl
theorem q_intS : fIntS [.str a] C = ∃ n, PySem.intText? a = some n ∧ a.length ≤ 640 ∧ C (.dat (.int n)) := propext Iff.rfl
end
end Pu
/-! ### zip(tuple, text, strict=True), zip(tuple, text) -/
namespace Zs
open PySem PyProof.Rows
abbrev IsZs (h : Heap) (z t1 t2 : Addr) (f : Value) : Prop := h.get? z = some { cls := .type "zip", dict := none, data := .fields #[f, .bool false, .bool true, .ref t1, .ref t2], slots := #[] }
section
variable {prog : Program} {w : World} {A : Around} {E : Value → Shared → Prop} {s : Shared} {z TI TO i1 i2 : Addr} {fp1 fp2 : List Addr} {n1 n2 i : Nat} {P1 P2 : Nat → Value → Prop} {St1 St2 : Nat → Heap → Prop} {a1 a2 : Value}
theorem orEnd_item {it : Addr} {fp : List Addr} {n : Nat} {P : Nat → Value → Prop} {St : Nat → Heap → Prop} (D : Draws prog w A it fp n P St) {Q : Option Value → Shared → Prop} (hi : i < n) (st : St i s.heap)
    (hQ : ∀ x h' tk, P i x → St (i + 1) h' → Heap.SameBut it s.heap h' → Q (some x) { s with heap := h', toks := tk }) : wpAny (model prog w) A (Builtin.SmallTypes.nextOrEnd (.ref it)) Q E s := by
  unfold Builtin.SmallTypes.nextOrEnd
  exact wpAny_bind (wpAny_attempt (D.item i s _ _ hi st fun x h' tk p1 p2 p3 => wpAny_pure (hQ x h' tk p1 p2 p3)))
theorem orEnd_done {it : Addr} {fp : List Addr} {n : Nat} {P : Nat → Value → Prop} {St : Nat → Heap → Prop} (D : Draws prog w A it fp n P St) {Q : Option Value → Shared → Prop} (st : St n s.heap)
    (hQ : ∀ h', Heap.ExtBut it s.heap h' → Q none { s with heap := h' }) : wpAny (model prog w) A (Builtin.SmallTypes.nextOrEnd (.ref it)) Q E s := by
  unfold Builtin.SmallTypes.nextOrEnd
  refine wpAny_bind (wpAny_attempt (D.done s _ _ st fun h' e p1 ⟨o, p2, p3⟩ => ?_))
  exact wpAny_bind (wpAny_isInstance (T := "StopIteration") (b := true) ⟨o, p2, p3⟩ isSubtype_stop (wpAny_pure (hQ h' p1)))
theorem stop_wp {Q : PySem.Fin → Shared → Prop} (hh : A.handled = none) (hE : ∀ h' e, (∀ c o, s.heap.get? c = some o → h'.get? c = some o) → (∃ o, h'.get? e = some o ∧ o.cls = .type "StopIteration") → E (.ref e) { s with heap := h' }) : wpAny (model prog w) A (Builtin.SmallTypes.stopIteration) Q E s := by
  show wpAny _ _ (newExc (.type "StopIteration") [] >>= _) _ _ _; refine wpAny_bind ?_; simp only [newExc, newTuple]
  refine wpAny_bind (wpAny_newObj_type ?_ (by size_fits)); refine wpAny_bind (m := firstArgMember _ _) (wpAny_of_eq (a := Value.none) (by first | rfl | (simp only [firstArgMember]; rfl)) (wpAny_newObj_type ?_ (by size_fits)))
  simp only [raiseNew]; refine wpAny_bind (wpAny_handled ?_); rw [hh]
  exact wpAny_bind (wpAny_pure (wpAny_throw (hE _ _ (fun c o e => Heap.get?_push_of_some _ (Heap.get?_push_of_some _ e)) ⟨_, Heap.get?_push_size _ rfl, rfl⟩)))
theorem upd2 {T : Addr} {x : Value} {k : Nat} {Q : Unit → Shared → Prop} (hT : IsTupOf2 s.heap T a1 a2)
    (h : ∀ h', h'.get? T = some { cls := .type "tuple", data := .seq ((#[a1, a2] : Array Value).setIfInBounds k x) } → Heap.SameBut T s.heap h' → Q () { s with heap := h' }) : wpAny (model prog w) A (updateSeq T (·.setIfInBounds k x)) Q E s := updateSeq_IsTupOf2 hT h
theorem next_item {Q : Value → Shared → Prop} (S : ZipSep2 z TI TO i1 i2 fp1 fp2) (D1 : Draws prog w A i1 fp1 n1 P1 St1) (D2 : Draws prog w A i2 fp2 n2 P2 St2) (hz : IsZs s.heap z TI TO .none) (hTI : IsTupOf2 s.heap TI (.ref i1) (.ref i2)) (hTO : IsTupOf2 s.heap TO a1 a2) (st1 : St1 i s.heap) (st2 : St2 i s.heap) (l1 : i < n1) (l2 : i < n2)
    (hQ : ∀ x1 x2 h' tk, P1 i x1 → P2 i x2 → IsZs h' z TI TO (rawInt s.heap.objs.size) → IsTupOf2 h' TO x1 x2 → St1 (i + 1) h' → St2 (i + 1) h' → IsTupOf2 h' s.heap.objs.size x1 x2 → h'.objs.size = s.heap.objs.size + 1 → (∀ c o, c ≠ z → c ≠ TO → c ≠ i1 → c ≠ i2 → s.heap.get? c = some o → h'.get? c = some o) → Q (.ref s.heap.objs.size) { s with heap := h', toks := tk }) :
    wpAny (model prog w) A (Builtin.«zip.__next__» ⟨[.ref z], []⟩) (fun fin s' => ∃ v, fin = .done (.ret v) ∧ Q v s') E s := by
  obtain ⟨m0, g, d, k0, os⟩ := s
  show wpAny _ _ (field (.ref z) 2 >>= _) _ _ _; refine wpAny_bind (wpAny_field hz rfl (x := .bool true) rfl ?_)
  show wpAny _ _ (field (.ref z) 3 >>= _) _ _ _; refine wpAny_bind (wpAny_field hz rfl (x := .ref TI) rfl (wpAny_bind (wpAny_seqItems hTI rfl ?_)))
  show wpAny _ _ (Builtin.SmallTypes.ownedTupleIsFree (.ref z) >>= _) _ _ _; refine wpAny_bind ?_
  unfold Builtin.SmallTypes.ownedTupleIsFree; refine wpAny_bind (wpAny_field hz rfl (x := .none) rfl (wpAny_pure ?_))
  simp only [if_true]; refine wpAny_bind (wpAny_rule (wpAny_bind (wpAny_field hz rfl (x := .ref TO) rfl ?_)))
  refine wpAny_bind (wpAny_setField_rec hz (by simp) fun m1 (z1 : IsZs m1 z TI TO .ellipsis) (s1 : Heap.SameBut z m0 m1) => ?_)
  refine wpAny_bind ?_; simp only [List.zipIdx_cons, List.zipIdx_nil, List.forIn_cons, List.forIn_nil]
  refine wpAny_bind (wpAny_bind (wpAny_onRaise ?_)); show wpAny _ _ (Builtin.SmallTypes.nextOrEnd (.ref i1)) _ _ ⟨m1, g, d, k0, os⟩
  refine orEnd_item D1 l1 (D1.over st1 s1 S.zf1) fun x1 m2 k1 y1 u1 (s2 : Heap.SameBut i1 m1 m2) => ?_
  have T2 : IsTupOf2 m2 TO a1 a2 := s2.extBut _ _ S.Ti1 (s1.extBut _ _ S.TOz hTO)
  refine wpAny_bind (wpAny_seqItems (s := ⟨m2, g, d, k1, os⟩) T2 rfl (wpAny_bind (upd2 (s := ⟨m2, g, d, k1, os⟩) T2 fun m3 (T3 : IsTupOf2 m3 TO x1 a2) (s3 : Heap.SameBut TO m2 m3) => ?_)))
  refine wpAny_bind (wpAny_letGo (wpAny_pure ?_)); refine wpAny_bind (wpAny_bind (wpAny_onRaise ?_))
  show wpAny _ _ (Builtin.SmallTypes.nextOrEnd (.ref i2)) _ _ ⟨m3, g, d, k1, os⟩
  refine orEnd_item D2 l2 (D2.over (D2.over (D2.over st2 s1 S.zf2) s2 S.sep1_2) s3 S.Tf2) fun x2 m4 k2 y2 u2 (s4 : Heap.SameBut i2 m3 m4) => ?_
  have T4 : IsTupOf2 m4 TO x1 a2 := s4.extBut _ _ S.Ti2 T3
  refine wpAny_bind (wpAny_seqItems (s := ⟨m4, g, d, k2, os⟩) T4 rfl (wpAny_bind (upd2 (s := ⟨m4, g, d, k2, os⟩) T4 fun m5 (T5 : IsTupOf2 m5 TO x1 x2) (s5 : Heap.SameBut TO m4 m5) => ?_)))
  refine wpAny_bind (wpAny_letGo (wpAny_pure (wpAny_pure ?_))); refine wpAny_bind (wpAny_seqItems (s := ⟨m5, g, d, k2, os⟩) T5 rfl (wpAny_bind (wpAny_newTuple ?_)))
  have hsz : m5.objs.size = m0.objs.size := by rw [s5.1, s4.1, s3.1, s2.1, s1.1]
  have z5 : IsZs m5 z TI TO .ellipsis := s5.extBut _ _ S.TOz.symm (s4.extBut _ _ S.zi2 (s3.extBut _ _ S.TOz.symm (s2.extBut _ _ S.zi1 z1)))
  have kk : ∀ c o, c ≠ z → c ≠ TO → c ≠ i1 → c ≠ i2 → m0.get? c = some o → m5.get? c = some o := fun c o cz cT c1 c2 e => s5.extBut _ _ cT (s4.extBut _ _ c2 (s3.extBut _ _ cT (s2.extBut _ _ c1 (s1.extBut _ _ cz e))))
  have v1 : St1 (i + 1) m5 := D1.over (D1.over (D1.over u1 s3 S.Tf1) s4 S.sep2_1) s5 S.Tf1
  have v2 : St2 (i + 1) m5 := D2.over u2 s5 S.Tf2
  have zlt : z < m5.objs.size := Heap.lt_size z5
  show wpAny _ _ (Builtin.SmallTypes.ownedTupleHandOut (.ref z) (.ref m5.objs.size) >>= _) _ _ ⟨m5.push { cls := .type "tuple", data := .seq #[x1, x2] }, g, d, k2, os⟩
  refine wpAny_bind ?_; unfold Builtin.SmallTypes.ownedTupleHandOut
  have z6 : IsZs (m5.push { cls := .type "tuple", data := .seq #[x1, x2] }) z TI TO .ellipsis := Heap.get?_push_of_some _ z5
  refine wpAny_bind (wpAny_setField_rec z6 (by simp) fun m7 (z7 : IsZs m7 z TI TO (rawInt m5.objs.size)) (s7 : Heap.SameBut z (m5.push { cls := .type "tuple", data := .seq #[x1, x2] }) m7) => ?_)
  refine wpAny_setField_rec z7 (by simp) fun m8 (z8 : IsZs m8 z TI TO (rawInt m5.objs.size)) (s8 : Heap.SameBut z m7 m8) => ?_
  have up : ∀ c o, c ≠ z → m5.get? c = some o → m8.get? c = some o := fun c o c1 e => s8.extBut _ _ c1 (s7.extBut _ _ c1 (Heap.get?_push_of_some _ e))
  have T8 : IsTupOf2 m8 m5.objs.size x1 x2 := s8.extBut _ _ (Nat.ne_of_gt zlt) (s7.extBut _ _ (Nat.ne_of_gt zlt) (Heap.get?_push_size _ rfl))
  have h8 : m8.objs.size = m5.objs.size + 1 := by rw [s8.1, s7.1, Heap.size_push]
  rw [hsz] at z8 T8 h8
  refine wpAny_pure ⟨_, rfl, ?_⟩; show Q (.ref m5.objs.size) ⟨m8, g, d, k2, os⟩; rw [hsz]
  exact hQ x1 x2 m8 k2 y1 y2 z8 (up _ _ S.TOz T5) (D1.frame _ _ _ v1 fun b hb o e => up b o (fun q => S.zf1 (q ▸ hb)) e) (D2.frame _ _ _ v2 fun b hb o e => up b o (fun q => S.zf2 (q ▸ hb)) e) T8 h8 fun c o cz cT c1 c2 e => up c o cz (kk c o cz cT c1 c2 e)
theorem next_end {Q : PySem.Fin → Shared → Prop} (S : ZipSep2 z TI TO i1 i2 fp1 fp2) (D1 : Draws prog w A i1 fp1 n1 P1 St1) (D2 : Draws prog w A i2 fp2 n2 P2 St2) (hh : A.handled = none) (hz : IsZs s.heap z TI TO .none) (hTI : IsTupOf2 s.heap TI (.ref i1) (.ref i2)) (hTO : IsTupOf2 s.heap TO a1 a2) (st1 : St1 i s.heap) (st2 : St2 i s.heap) (l1 : i = n1) (l2 : i = n2)
    (hE : ∀ h' tk e, (∀ c o, c ≠ z → c ≠ TO → c ≠ i1 → c ≠ i2 → s.heap.get? c = some o → h'.get? c = some o) → (∃ o, h'.get? e = some o ∧ o.cls = .type "StopIteration") → E (.ref e) { s with heap := h', toks := tk }) :
    wpAny (model prog w) A (Builtin.«zip.__next__» ⟨[.ref z], []⟩) Q E s := by
  obtain ⟨m0, g, d, k0, os⟩ := s
  subst l1
  show wpAny _ _ (field (.ref z) 2 >>= _) _ _ _; refine wpAny_bind (wpAny_field hz rfl (x := .bool true) rfl ?_)
  show wpAny _ _ (field (.ref z) 3 >>= _) _ _ _; refine wpAny_bind (wpAny_field hz rfl (x := .ref TI) rfl (wpAny_bind (wpAny_seqItems hTI rfl ?_)))
  show wpAny _ _ (Builtin.SmallTypes.ownedTupleIsFree (.ref z) >>= _) _ _ _; refine wpAny_bind ?_
  unfold Builtin.SmallTypes.ownedTupleIsFree; refine wpAny_bind (wpAny_field hz rfl (x := .none) rfl (wpAny_pure ?_))
  simp only [if_true]; refine wpAny_bind (wpAny_rule (wpAny_bind (wpAny_field hz rfl (x := .ref TO) rfl ?_)))
  refine wpAny_bind (wpAny_setField_rec hz (by simp) fun m1 (z1 : IsZs m1 z TI TO .ellipsis) (s1 : Heap.SameBut z m0 m1) => ?_)
  refine wpAny_bind ?_; simp only [List.zipIdx_cons, List.zipIdx_nil, List.forIn_cons, List.forIn_nil]
  refine wpAny_bind (wpAny_bind (wpAny_onRaise ?_)); show wpAny _ _ (Builtin.SmallTypes.nextOrEnd (.ref i1)) _ _ ⟨m1, g, d, k0, os⟩
  refine orEnd_done D1 (D1.over st1 s1 S.zf1) fun m2 (s2 : Heap.ExtBut i1 m1 m2) => ?_
  have z2 : IsZs m2 z TI TO .ellipsis := s2 _ _ S.zi1 z1
  refine wpAny_bind (wpAny_setField_rec (s := ⟨m2, g, d, k0, os⟩) z2 (by simp) fun m3 _ (s3 : Heap.SameBut z m2 m3) => ?_)
  refine wpAny_bind ?_
  refine wpAny_bind ?_; simp only [List.drop_succ_cons, List.drop_zero, List.zipIdx_cons, List.zipIdx_nil, List.forIn_cons, List.forIn_nil]
  subst l2; refine wpAny_bind (wpAny_bind (orEnd_done (s := ⟨m3, g, d, k0, os⟩) D2 (D2.frame _ _ _ st2 fun b hb o e => s3.extBut _ _ (fun q => S.zf2 (q ▸ hb)) (s2 _ _ (fun q => S.sep1_2 (q ▸ hb)) (s1.extBut _ _ (fun q => S.zf2 (q ▸ hb)) e))) fun m4 s4 => ?_))
  rw [if_neg (show ¬ ((none : Option Value).isSome = true) by decide)]; refine wpAny_pure (wpAny_pure (wpAny_bind (wpAny_rule ?_)))
  refine stop_wp hh fun m5 e (s5 : ∀ c o, m4.get? c = some o → m5.get? c = some o) he => ?_
  exact hE m5 k0 e (fun c o cz cT c1 c2 x => s5 c o (s4 c o c2 (s3.extBut _ _ cz (s2 c o c1 (s1.extBut _ _ cz x))))) he
theorem py_item {Q : Option Value → Shared → Prop} (S : ZipSep2 z TI TO i1 i2 fp1 fp2) (D1 : Draws prog w A.in1 i1 fp1 n1 P1 St1) (D2 : Draws prog w A.in1 i2 fp2 n2 P2 St2) (hz : IsZs s.heap z TI TO .none) (hTI : IsTupOf2 s.heap TI (.ref i1) (.ref i2)) (hTO : IsTupOf2 s.heap TO a1 a2) (st1 : St1 i s.heap) (st2 : St2 i s.heap) (l1 : i < n1) (l2 : i < n2)
    (hQ : ∀ x1 x2 h' tk, P1 i x1 → P2 i x2 → IsZs h' z TI TO (rawInt s.heap.objs.size) → IsTupOf2 h' TO x1 x2 → St1 (i + 1) h' → St2 (i + 1) h' → IsTupOf2 h' s.heap.objs.size x1 x2 → h'.objs.size = s.heap.objs.size + 1 → (∀ c o, c ≠ z → c ≠ TO → c ≠ i1 → c ≠ i2 → s.heap.get? c = some o → h'.get? c = some o) → Q (some (.ref s.heap.objs.size)) { s with heap := h', toks := tk }) :
    wpAny (model prog w) A (pyNext (.ref z)) Q E s := by
  have hT : s.TypeIs (.ref z) "zip" := ⟨_, hz, rfl⟩
  unfold pyNext
  exact wpAny_bind (wpAny_attempt (wpAny_callSpecial?_slot (name := Str.ofString "__next__") hT F.slot_zip_next (wpAny_call_entry F.slot_zip_next hT F.entry_zip_next (next_item S D1 D2 hz hTI hTO st1 st2 l1 l2 fun x1 x2 h' tk y1 y2 b1 b2 d1 d2 b5 b6 b7 => wpAny_pure (hQ x1 x2 h' tk y1 y2 b1 b2 d1 d2 b5 b6 b7)) (F.args_zip_next_1 _))))
theorem py_end {Q : Option Value → Shared → Prop} (S : ZipSep2 z TI TO i1 i2 fp1 fp2) (D1 : Draws prog w A.in1 i1 fp1 n1 P1 St1) (D2 : Draws prog w A.in1 i2 fp2 n2 P2 St2) (hh : A.in1.handled = none) (hz : IsZs s.heap z TI TO .none) (hTI : IsTupOf2 s.heap TI (.ref i1) (.ref i2)) (hTO : IsTupOf2 s.heap TO a1 a2) (st1 : St1 i s.heap) (st2 : St2 i s.heap) (l1 : i = n1) (l2 : i = n2)
    (hQ : ∀ h' tk, (∀ c o, c ≠ z → c ≠ TO → c ≠ i1 → c ≠ i2 → s.heap.get? c = some o → h'.get? c = some o) → Q none { s with heap := h', toks := tk }) : wpAny (model prog w) A (pyNext (.ref z)) Q E s := by
  have hT : s.TypeIs (.ref z) "zip" := ⟨_, hz, rfl⟩
  unfold pyNext
  refine wpAny_bind (wpAny_attempt (wpAny_callSpecial?_slot (name := Str.ofString "__next__") hT F.slot_zip_next (wpAny_call_entry F.slot_zip_next hT F.entry_zip_next (next_end S D1 D2 hh hz hTI hTO st1 st2 l1 l2 fun h' tk e hk ⟨o, ho, hc⟩ => ?_) (F.args_zip_next_1 _))))
  exact wpAny_bind (wpAny_isInstance (T := "StopIteration") (b := true) ⟨o, ho, hc⟩ isSubtype_stop (wpAny_pure (hQ _ _ hk)))
theorem go_zs {elts : List Expr} {x1} {pos : Pos} {T : Addr} {Q : Unit → Shared → Prop} (hz : IsZs s.heap z TI TO (rawInt T)) (hQ : ∀ h', IsZs h' z TI TO .none → Heap.SameBut z s.heap h' → Q () { s with heap := h' }) : wpAny (model prog w) A (letOwnedTupleGo (.Tuple elts x1 pos) (.ref z) (.ref T)) Q E s := by
  unfold letOwnedTupleGo
  refine wpAny_bind (wpAny_load hz ?_)
  show wpAny _ _ (if (["enumerate", "zip", "dict_itemiterator", "dict_reverseitemiterator", "odict_iterator", "itertools.zip_longest", "itertools.pairwise"].contains "zip" && (#[rawInt T, .bool false, .bool true, .ref TI, .ref TO] : Array Value)[0]? == some (rawInt T)) = true then _ else _) Q E s
  rw [if_pos (by simp)]
  refine wpAny_bind (wpAny_rule ?_); show wpAny _ _ (setField (.ref z) 0 .none) Q E s
  exact wpAny_setField_rec hz (by simp) fun h' hz' hs' => hQ h' hz' hs'
theorem iter_zs {f0 : Value} {Q : Value → Shared → Prop} (hz : IsZs s.heap z TI TO f0) (h : Q (.ref z) s) : wpAny (model prog w) A (pyIter (.ref z)) Q E s := by
  have hT : s.TypeIs (.ref z) "zip" := ⟨_, hz, rfl⟩
  refine wpAny_pyIter_slot hT F.slot_zip_iter (wpAny_call_entry F.slot_zip_iter hT F.entry_zip_iter ?_ (F.args_zip_iter_1 _)); show wpAny _ _ (ret (.ref z)) _ _ s
  exact wpAny_pure ⟨_, rfl, "zip", _, hT, F.slot_zip_next.lookup, h⟩
def kwS : List (Str × Value) := [(Str.ofString "strict", .bool true)]
theorem init_kw {self : Value} {a b : Value} : Meets (Builtin.«object.__init__» ⟨[self, a, b], kwS⟩) (fun _ R s => s.TypeIs self "zip" ∧ R (.ok (.ret .none)) s) := by
  refine Meets.of_wp fun prog w A R s ⟨hT, hq⟩ => ?_
  have hl := F.called_zip.init.lookup; have hm := F.called_zip.made
  have hne : (some "zip.__new__" != some "object.__new__") = true := by decide
  unfold kwS
  repeat (any_goals (first | assumption | wp_step))
  all_goals exact ⟨_, rfl, hq⟩
theorem new_kw {v1 v2 : Value} {o1 o2 : Obj} {H1 H2 : Heap → Prop} (B1 : Begins v1 o1 H1) (B2 : Begins v2 o2 H2) :
    Meets (Builtin.«zip.__new__» ⟨[.type "zip", v1, v2], kwS⟩) (fun _ R s => (H1 s.heap ∧ H2 s.heap) ∧ R (.ok (.ret (.ref (gzO2 s.heap o1 o2).objs.size))) { s with heap := (gzO2 s.heap o1 o2).push { cls := .type "zip", data := .fields #[.none, .bool false, .bool true, .ref ((s.heap.push o1).push o2).objs.size, .ref (gzT2 s.heap o1 o2).objs.size] } }) :=
  .of_wp fun prog w A R s ⟨⟨h1, h2⟩, h⟩ => by
    obtain ⟨hp, g, d, tk, os⟩ := s
    have hsub := sub_zip
    have q1 : ∀ {A' : Around} {E : Value → Shared → Prop} {Q : Value → Shared → Prop}, Q (.ref hp.objs.size) ⟨(hp.push o1), g, d, tk, os⟩ → wpAny (model prog w) A' (pyIter v1) Q E ⟨hp, g, d, tk, os⟩ := fun q => B1.iter prog w _ _ ⟨hp, g, d, tk, os⟩ _ (B1.keeps _ _ h1 fun b o' e => e) q
    have q2 : ∀ {A' : Around} {E : Value → Shared → Prop} {Q : Value → Shared → Prop}, Q (.ref (hp.push o1).objs.size) ⟨((hp.push o1).push o2), g, d, tk, os⟩ → wpAny (model prog w) A' (pyIter v2) Q E ⟨(hp.push o1), g, d, tk, os⟩ := fun q => B2.iter prog w _ _ ⟨(hp.push o1), g, d, tk, os⟩ _ (B2.keeps _ _ h2 fun b o' e => (Heap.get?_push_of_some _ e)) q
    unfold kwS
    wp_walk using q1, q2; exact ⟨_, rfl, h⟩
theorem w_tc (T : String) (args : List Value) (kw : List (Str × Value)) : (Code.builtin "type.__call__" ⟨.type T :: args, kw⟩).weight = 0 ∧ (Code.builtin "type.__call__" ⟨.type T :: args, kw⟩).cUnits = 1 := ⟨rfl, rfl⟩
theorem a_init (a b c : Value) : argsOk "object.__init__" ⟨[a, b, c], kwS⟩ := by
  unfold argsOk; rw [signature?_of (id := "object.__init__") (n := ['_', '_', 't', 'i', 'n', 'i', '_', '_']) (o := ['t', 'c', 'e', 'j', 'b', 'o']) (by kernel_rfl) F.owner_object]; unfold kwS; kernel_rfl
theorem call_zs {v1 v2 : Value} {o1 o2 : Obj} {H1 H2 : Heap → Prop} {Q : Value → Shared → Prop} (B1 : Begins v1 o1 H1) (B2 : Begins v2 o2 H2) (h1 : H1 s.heap) (h2 : H2 s.heap)
    (h : Q (.ref (gzO2 s.heap o1 o2).objs.size) { s with heap := (gzO2 s.heap o1 o2).push { cls := .type "zip", data := .fields #[.none, .bool false, .bool true, .ref ((s.heap.push o1).push o2).objs.size, .ref (gzT2 s.heap o1 o2).objs.size] } }) :
    wpAny (model prog w) A (call (.type "zip") [v1, v2] kwS) Q E s := by
  obtain ⟨c, tl, e1⟩ := F.called_zip.mro
  have e2 := F.called_zip.made; have e3 := F.called_zip.sub; have e4 := F.called_zip.notType; have e5 := F.called_zip.canCreate
  have hct : checkTypeCall "zip" ⟨[v1, v2], kwS⟩ = pure () := by kernel_rfl
  have hcn : checkBuiltinCall "zip.__new__" ⟨[.type "zip", v1, v2], kwS⟩ = pure () := by kernel_rfl
  refine wpAny_call (codeAny_of_tree ?_); show wpAny _ _ (callAny (.type "zip") _) _ _ _
  refine wpAny_pure ⟨Code.quiet_builtin _ (by decide +kernel), codeAny_builtin F.entry_type_call ?_⟩; rw [Around.under_plain (w_tc "zip" [v1, v2] kwS).1 (w_tc "zip" [v1, v2] kwS).2]
  repeat (any_goals (first | assumption | wp_step))
  refine codeAny_mono (codeAny_call_builtin F.called_zip.plain F.entry_zip_new (wpAny_of_eq hcn (new_kw B1 B2 prog w A.in1 (wants (fun obj s1 => s1.TypeIs obj "zip" ∧ Q obj s1) E) s ⟨⟨h1, h2⟩, ⟨⟨_, Heap.get?_push_size _ rfl, rfl⟩, h⟩⟩))) fun r s1 hr => ?_
  rcases r with e | fl
  · exact hr
  cases fl <;> first | exact hr.elim | skip
  obtain ⟨hT, hq⟩ := hr
  have e6 := F.called_zip.init.lookup; rename_i obj; have e7 := F.called_zip.init.bind obj
  repeat (any_goals (first | assumption | wp_step))
  refine codeAny_mono (codeAny_call_builtin F.called_zip.init.plain F.entry_object_init (F.called_zip.init.check _ _ _ _ _ _ _ _ hT (a_init _ _ _) (init_kw prog w A.in1 (wants (fun r s2 => r = .none ∧ Q obj s2) E) s1 ⟨hT, rfl, hq⟩))) fun r2 s2 hr2 => ?_
  rcases r2 with e | fl
  · exact hr2
  cases fl <;> first | exact hr2.elim | skip
  obtain ⟨rfl, hq⟩ := hr2
  repeat (any_goals (first | assumption | wp_step))
theorem call_zs2 {v1 v2 : Value} {o1 o2 : Obj} {H1 H2 : Heap → Prop} {Q : Value → Shared → Prop} (B1 : Begins v1 o1 H1) (B2 : Begins v2 o2 H2) (h1 : H1 s.heap) (h2 : H2 s.heap)
    (h : ∀ h', IsZs h' (s.heap.objs.size + 4) (s.heap.objs.size + 2) (s.heap.objs.size + 3) .none → IsTupOf2 h' (s.heap.objs.size + 2) (.ref s.heap.objs.size) (.ref (s.heap.objs.size + 1)) → IsTupOf2 h' (s.heap.objs.size + 3) .none .none → h'.get? s.heap.objs.size = some o1 → h'.get? (s.heap.objs.size + 1) = some o2 → h'.objs.size = s.heap.objs.size + 5 → (∀ c o, s.heap.get? c = some o → h'.get? c = some o) → Q (.ref (s.heap.objs.size + 4)) { s with heap := h' }) :
    wpAny (model prog w) A (call (.type "zip") [v1, v2] kwS) Q E s := by
  refine call_zs B1 B2 h1 h2 ?_
  have z1 : (s.heap.push o1).objs.size = s.heap.objs.size + 1 := by rw [Heap.size_push]
  have z2 : ((s.heap.push o1).push o2).objs.size = s.heap.objs.size + 2 := by rw [Heap.size_push, z1]
  have z3 : (gzT2 s.heap o1 o2).objs.size = s.heap.objs.size + 3 := by rw [Heap.size_push, z2]
  have z4 : (gzO2 s.heap o1 o2).objs.size = s.heap.objs.size + 4 := by rw [Heap.size_push, z3]
  have up := fun {h : Heap} {x o : Obj} {c : Addr} (e : h.get? c = some o) => Heap.get?_push_of_some x e
  rw [z4, z3, z2]
  have g5 : ∀ oz : Obj, oz.isFreed = false → ((gzO2 s.heap o1 o2).push oz).get? (s.heap.objs.size + 4) = some oz := fun oz hf => by
    have := Heap.get?_push_size (gzO2 s.heap o1 o2) hf
    rwa [z4] at this
  have g4 : (gzO2 s.heap o1 o2).get? (s.heap.objs.size + 3) = some { cls := .type "tuple", data := .seq #[.none, .none] } := by
    have : (gzO2 s.heap o1 o2).get? (gzT2 s.heap o1 o2).objs.size = some { cls := .type "tuple", data := .seq #[.none, .none] } := Heap.get?_push_size _ rfl
    rwa [z3] at this
  have g3 : (gzT2 s.heap o1 o2).get? (s.heap.objs.size + 2) = some { cls := .type "tuple", data := .seq #[.ref s.heap.objs.size, .ref (s.heap.objs.size + 1)] } := by
    have : (gzT2 s.heap o1 o2).get? ((s.heap.push o1).push o2).objs.size = some { cls := .type "tuple", data := .seq #[.ref s.heap.objs.size, .ref (s.heap.push o1).objs.size] } := Heap.get?_push_size _ rfl
    rwa [z2, z1] at this
  have g2 : ((s.heap.push o1).push o2).get? (s.heap.objs.size + 1) = some o2 := by
    have : ((s.heap.push o1).push o2).get? (s.heap.push o1).objs.size = some o2 := Heap.get?_push_size _ B2.free
    rwa [z1] at this
  have g1 : (s.heap.push o1).get? s.heap.objs.size = some o1 := Heap.get?_push_size _ B1.free
  exact h _ (g5 _ rfl) (up (up g3)) (up g4) (up (up (up (up g1)))) (up (up (up g2))) (by rw [Heap.size_push, z4]) fun c o e => up (up (up (up (up e))))
theorem cw_type {M : Model} {pos : Pos} {T : String} {args : List (Bool × Sem Value)} {kws : List (Option Str × Sem Value)} {Q : Value → Shared → Prop} (h1 : args.any (·.1) = false) (h2 : kws.any (·.1.isNone) = false) (h : wpAny M A (evalArgs (.type T) true args kws) (fun a s1 => wpAny M A (call (.type T) a.pos a.kw) Q E s1) E s) : wpAny M A (callWith pos (.type T) [] args kws) Q E s := by
  unfold callWith; refine wpAny_bind (wpAny_holding (wpAny_mono h (fun a s1 g => wpAny_bind (wpAny_standAt ?_)) fun _ _ x => x))
  simp only [h1, h2, Bool.or_false]; refine wpAny_bind (wpAny_pure ?_)
  exact wpAny_bind (wpAny_mono g (fun r s2 hr => wpAny_bind (wpAny_holding (wpAny_point (wpAny_pure hr)))) fun _ _ x => x)
theorem callWith_tkw {M : Model} {env : Env} {pos kp cp : Pos} {T : String} {e : Expr} {rest : List Expr} {j : Nat} {Q : Value → Shared → Prop} (h : wpAny M A (spliced (backTo pos (starEach (e :: rest) env))) (fun vs s1 => wpAny M A (call (.type T) vs kwS) Q E s1) E s) (he : starEach (e :: rest) env = (false, eval e env) :: starEach rest env := by rfl) (hplain : (backTo pos (starEach rest env)).any (·.1) = false := by rfl) :
    wpAny M A (callWith pos (.type T) [] (backTo pos (starEach (e :: rest) env)) (backToKw pos (keywordEach [⟨some "strict", .Constant (.bool true) j cp, kp⟩] env))) Q E s := by
  rw [he] at h ⊢
  have hp2 : (backTo pos ((false, eval e env) :: starEach rest env)).any (·.1) = false := by show (false || (backTo pos (starEach rest env)).any (·.1)) = false; rw [hplain]; rfl
  refine cw_type hp2 rfl (evalArgs_kwB rfl (wpAny_mono h (fun vs s1 h1 => ?_) fun _ _ x => x))
  exact kws_cons (Constant_bool (kws_nil h1))
theorem call_kw {M : Model} {env : Env} {func : Expr} {args : List Expr} {kws : List Keyword} {pos : Pos} {Q : Value → Shared → Prop} (h : wpAny M A (eval func env) (fun f s1 => wpAny M A (callWith pos f [] (backTo pos (starEach args env)) (backToKw pos (keywordEach kws env))) Q E s1) E s)
    (he : eval (.Call func args kws pos) env = (do callWith pos (← eval func env) [] (backTo pos (starEach args env)) (backToKw pos (keywordEach kws env))) := by rfl) : wpAny M A (eval (.Call func args kws pos) env) Q E s := by
  rw [he]; exact wpAny_bind h
end
end Zs
/-! ### zip(tuple, text): in a loop; strict, in a comprehension -/
namespace Pu
open PySem PySem.Spec PyProof.Rows L2
section
variable {τ : Tn} {G : Gx} {cp : List Str} {N : List Str} {sc : Scope} {k : Nat} {X : Cx} {e e2 : Expr} {tv tw : UV} {p pos tpos : Pos} {elts : List Expr} {kk : Nat}

def ItzTS (K : PySem.W.Frag) (a : Addr) (s2 : Str) (n1 : Nat) : It where
  go := fun i H => ∃ (x : V) (xs : List V) (c : Nat), (SqT K H a xs ∧ xs[i]? = some x) ∧ xs.length = n1 ∧ s2.cps[i]? = some c
  yld := fun i H v H' => ∃ (T : Addr) (o : Obj) (x : V) (c : Nat), v = .ref T ∧ H T = none ∧ o.dict = none ∧ H' = upd H T (.frz o (.tup [x, .str ⟨#[c]⟩])) ∧ (∀ l, SqT K H a l → l[i]? = some x) ∧ s2.cps[i]? = some c
  stop := fun i H => ∃ r : List V, SqT K H a r ∧ r.length = n1 ∧ (n1 ≤ i ∨ s2.cps.size ≤ i)
theorem turn_zipTS {P : Program} {w : World} {K : PySem.W.Frag} {es : List Expr} {n n1 : Nat} {tp : Pos} {s2 : Str} {t : Tok} {a z t1 t2 i1 i2 : Addr} (ha : a ≠ i1) (D : ZipSep2 z t1 t2 i1 i2 [i1, a] [i2]) :
    Turn P w K (.Tuple es n tp) (ItzTS K a s2 n1) [z, t1, t2, i1, i2] z (fun i h => (i ≤ n1 ∧ i ≤ s2.cps.size) ∧ IsZip h z t1 t2 .none ∧ IsTupOf2 h t1 (.ref i1) (.ref i2) ∧ (∃ x y, IsTupOf2 h t2 x y) ∧ h.IsTupleIter i1 a i ∧ h.IsStrIter i2 (strIterType s2) s2 t i) where
  mem := List.mem_cons_self ..
  obj := fun i h ⟨_, g1, g2, ⟨_, _, g3⟩, ⟨o4, g4, _, d4⟩, o5, g5, _, d5⟩ c hc => by
    rcases five_mem hc with rfl | rfl | rfl | rfl | rfl
    · exact ⟨_, g1, fun _ q => nomatch q⟩
    · exact ⟨_, g2, fun _ q => nomatch q⟩
    · exact ⟨_, g3, fun _ q => nomatch q⟩
    · exact ⟨o4, g4, fun _ q => by rw [d4] at q; cases q⟩
    · exact ⟨o5, g5, fun _ q => by rw [d5] at q; cases q⟩
  keep := fun i h h' ⟨g0, g1, g2, ⟨x, y, g3⟩, g4, ⟨o5, g5, r5⟩⟩ k => ⟨g0, k z (by simp) _ g1, k t1 (by simp) _ g2, ⟨x, y, k t2 (by simp) _ g3⟩, g4.at fun o q => k i1 (by simp) o q, ⟨o5, k i2 (by simp) _ g5, r5⟩⟩
  item := by
    intro X hP hw hK hc i pins s σ H E I hf ⟨g0, g1, g2, ⟨x0, y0, g3⟩, g4, g5⟩ ⟨x, xs, ch, ⟨q1, hx⟩, n1e, hch⟩
    subst hP hw hK
    obtain ⟨us, r1, p1, _⟩ := I.tuple q1
    obtain ⟨u, hu, ru⟩ := r1.get hx
    have zl : z < s.heap.objs.size := Heap.lt_size g1
    have rl1 := r1.length
    have lu : i < us.length := (List.getElem?_eq_some_iff.mp hu).1
    have lc : i < s2.cps.size := (Array.getElem?_eq_some_iff.mp hch).1
    refine wpAny_pyNext_zipD2_item D (Draws.tuple (show X.A.in1.handled = none from I.ok.hd hc) i1 a ha us.toArray) (Draws.text (show X.A.in1.handled = none from I.ok.hd hc) i2 s2 t) g1 g2 g3 ⟨g4, p1⟩ g5 (by simpa using lu) lc fun x1 x2 h1 tk y1 y2 e1 e2 e4 e5 hT hsz hk => ?_
    have ex1 : x1 = u := by
      have y1 : us.toArray[i]? = some x1 := y1
      rw [List.getElem?_toArray, hu] at y1
      exact (Option.some.inj y1).symm
    subst ex1
    obtain ⟨c1, u1, y2, rfl⟩ := y2
    rw [hch] at y2
    cases y2
    refine ⟨_, rfl, wpAny_letOwnedTupleGo_zip (s := { s with heap := h1, toks := tk }) e1 fun h2 e6 sb => ?_⟩
    have kp : ∀ c o, c ∉ [z, t1, t2, i1, i2] → s.heap.get? c = some o → h2.get? c = some o := fun c o n q =>
      (sb.2 c (fun e => n (by simp [e]))).trans (hk c o (fun e => n (by simp [e])) (fun e => n (by simp [e])) (fun e => n (by simp [e])) (fun e => n (by simp [e])) q)
    have new : ObjOk X.prog X.w (upd H s.heap.objs.size (.frz (plT [x1, .str ⟨#[ch]⟩ u1]) (.tup [x, .str ⟨#[ch]⟩]))) h2 s.heap.objs.size (.frz (plT [x1, .str ⟨#[ch]⟩ u1]) (.tup [x, .str ⟨#[ch]⟩])) := by
      have hT2 := (sb.2 _ (Nat.ne_of_gt zl)).trans hT
      exact ⟨hT2, (by decide : 2 ≤ sizeLine), [x1, .str ⟨#[ch]⟩ u1], .cons ru (.cons ⟨u1, rfl⟩ .nil), ⟨_, hT2, rfl, _, rfl⟩⟩
    refine ⟨.ref s.heap.objs.size, _, I.turnedNew (t' := tk) (ch := [z, t1, t2, i1, i2]) kp hf (Nat.le_refl _) new, rfl, ⟨_, _, x, ch, rfl, I.hok.fresh (Nat.le_refl _), rfl, rfl, fun l hl => ?_, hch⟩, ⟨⟨by omega, by omega⟩, e6, ?_, ⟨x1, .str ⟨#[ch]⟩ u1, (sb.2 _ D.TOz).trans e2⟩, e4.1.at fun o q => (sb.2 _ D.zi1.symm).trans q, ?_⟩, fun c hcm => ?_⟩
    · rw [I.tuple_inj hl q1]; exact hx
    · exact (sb.2 _ D.TIz).trans (hk _ _ D.TIz D.TITO D.TIi1 D.TIi2 g2)
    · obtain ⟨o5, g5', r5⟩ := e5
      exact ⟨o5, (sb.2 _ D.zi2.symm).trans g5', r5⟩
    · have hlt : c < s.heap.objs.size := by
        rcases five_mem hcm with rfl | rfl | rfl | rfl | rfl
        · exact zl
        · exact Heap.lt_size g2
        · exact Heap.lt_size g3
        · exact Heap.lt_size g4.choose_spec.1
        · exact Heap.lt_size g5.choose_spec.1
      rw [upd_ne (Nat.ne_of_lt hlt)]
      exact (hf c hcm).1
  done := by
    intro X hP hw hK hc i pins s σ H E I hf ⟨g0, g1, g2, ⟨x0, y0, g3⟩, g4, g5⟩ ⟨xs, q1, n1e, hend⟩
    subst hP hw hK
    obtain ⟨us, r1, p1, _⟩ := I.tuple q1
    have l1 := r1.length
    refine wpAny_pyNext_zipD2_end D (Draws.tuple (show X.A.in1.handled = none from I.ok.hd hc) i1 a ha us.toArray) (Draws.text (show X.A.in1.handled = none from I.ok.hd hc) i2 s2 t) g1 g2 g3 ⟨g4, p1⟩ g5 (by simp; omega) (by omega) (by simp; omega) fun h1 tk hk => ⟨rfl, I.turnedL (t' := tk) (ch := [z, t1, t2, i1, i2]) (fun c o n q => hk c o (fun e => n (by simp [e])) (fun e => n (by simp [e])) (fun e => n (by simp [e])) (fun e => n (by simp [e])) q) hf⟩
  self := fun A i s Q E st h => wpAny_pyIter_zip st.2.1 h
theorem itOk_zipTS {K : PySem.W.Frag} {s2 : Str} {a : Addr} {n1 : Nat} {xs : List D} (n1e : n1 = xs.length) : ItOk K τ (ItzTS K a s2 n1) [(.ref a, .tuple xs)] (zipD xs (signsD s2)) where
  go := fun H ow g i hi => by
    rw [zipD_len, signsD_len] at hi
    obtain ⟨pp, vs, e, hs, ha⟩ := g _ (List.mem_cons_self ..)
    cases e
    obtain ⟨v, hv, _⟩ := dpAll_get ha (List.getElem?_eq_getElem (show i < xs.length by omega))
    exact ⟨v, vs, s2.cps[i]'(by omega), ⟨sqT_same res_le hs, hv⟩, by rw [← dpAll_len ha] at n1e; exact n1e.symm, Array.getElem?_eq_getElem (by omega)⟩
  yld := fun H ow g hn i d hd x H4 hy => by
    obtain ⟨dx, dy, hdx, hdy, rfl⟩ := zipD_get hd
    obtain ⟨pp, vs, e, hs, ha⟩ := g _ (List.mem_cons_self ..)
    cases e
    obtain ⟨T, o, x1, c, rfl, hT, ho, rfl, h1, h2⟩ := hy
    unfold signsD at hdy
    rw [List.getElem?_map, Array.getElem?_toList, h2] at hdy
    cases hdy
    obtain ⟨v, hv, hdp⟩ := dpAll_get ha hdx
    have := (h1 vs (sqT_same res_le hs)).symm.trans hv
    cases this
    exact tup_newP hn hT ho (.cons hdp (.cons (.str _) .nil))
  stop := fun H ow g i hi => by
    rw [zipD_len, signsD_len] at hi
    obtain ⟨pp, vs, e, hs, ha⟩ := g _ (List.mem_cons_self ..)
    cases e
    refine ⟨vs, sqT_same res_le hs, by rw [← dpAll_len ha] at n1e; exact n1e.symm, ?_⟩
    rw [n1e]
    omega

def ItzTZ (K : PySem.W.Frag) (a : Addr) (s2 : Str) (n1 : Nat) : It where
  go := fun i H => ∃ (x : V) (xs : List V) (c : Nat), (SqT K H a xs ∧ xs[i]? = some x) ∧ xs.length = n1 ∧ s2.cps[i]? = some c
  yld := fun i H v H' => ∃ (T : Addr) (o : Obj) (x : V) (c : Nat), v = .ref T ∧ H T = none ∧ o.dict = none ∧ H' = upd H T (.frz o (.tup [x, .str ⟨#[c]⟩])) ∧ (∀ l, SqT K H a l → l[i]? = some x) ∧ s2.cps[i]? = some c
  stop := fun i H => ∃ r : List V, SqT K H a r ∧ r.length = n1 ∧ (n1 ≤ i ∧ s2.cps.size ≤ i)
theorem turn_zipTZ {P : Program} {w : World} {K : PySem.W.Frag} {es : List Expr} {n n1 : Nat} {tp : Pos} {s2 : Str} {t : Tok} {a z t1 t2 i1 i2 : Addr} (ha : a ≠ i1) (D : ZipSep2 z t1 t2 i1 i2 [i1, a] [i2]) :
    Turn P w K (.Tuple es n tp) (ItzTZ K a s2 n1) [z, t1, t2, i1, i2] z (fun i h => (i ≤ n1 ∧ i ≤ s2.cps.size) ∧ Zs.IsZs h z t1 t2 .none ∧ IsTupOf2 h t1 (.ref i1) (.ref i2) ∧ (∃ x y, IsTupOf2 h t2 x y) ∧ h.IsTupleIter i1 a i ∧ h.IsStrIter i2 (strIterType s2) s2 t i) where
  mem := List.mem_cons_self ..
  obj := fun i h ⟨_, g1, g2, ⟨_, _, g3⟩, ⟨o4, g4, _, d4⟩, o5, g5, _, d5⟩ c hc => by
    rcases five_mem hc with rfl | rfl | rfl | rfl | rfl
    · exact ⟨_, g1, fun _ q => nomatch q⟩
    · exact ⟨_, g2, fun _ q => nomatch q⟩
    · exact ⟨_, g3, fun _ q => nomatch q⟩
    · exact ⟨o4, g4, fun _ q => by rw [d4] at q; cases q⟩
    · exact ⟨o5, g5, fun _ q => by rw [d5] at q; cases q⟩
  keep := fun i h h' ⟨g0, g1, g2, ⟨x, y, g3⟩, g4, ⟨o5, g5, r5⟩⟩ k => ⟨g0, k z (by simp) _ g1, k t1 (by simp) _ g2, ⟨x, y, k t2 (by simp) _ g3⟩, g4.at fun o q => k i1 (by simp) o q, ⟨o5, k i2 (by simp) _ g5, r5⟩⟩
  item := by
    intro X hP hw hK hc i pins s σ H E I hf ⟨g0, g1, g2, ⟨x0, y0, g3⟩, g4, g5⟩ ⟨x, xs, ch, ⟨q1, hx⟩, n1e, hch⟩
    subst hP hw hK
    obtain ⟨us, r1, p1, _⟩ := I.tuple q1
    obtain ⟨u, hu, ru⟩ := r1.get hx
    have zl : z < s.heap.objs.size := Heap.lt_size g1
    have rl1 := r1.length
    have lu : i < us.length := (List.getElem?_eq_some_iff.mp hu).1
    have lc : i < s2.cps.size := (Array.getElem?_eq_some_iff.mp hch).1
    refine Zs.py_item D (Draws.tuple (show X.A.in1.handled = none from I.ok.hd hc) i1 a ha us.toArray) (Draws.text (show X.A.in1.handled = none from I.ok.hd hc) i2 s2 t) g1 g2 g3 ⟨g4, p1⟩ g5 (by simpa using lu) lc fun x1 x2 h1 tk y1 y2 e1 e2 e4 e5 hT hsz hk => ?_
    have ex1 : x1 = u := by
      have y1 : us.toArray[i]? = some x1 := y1
      rw [List.getElem?_toArray, hu] at y1
      exact (Option.some.inj y1).symm
    subst ex1
    obtain ⟨c1, u1, y2, rfl⟩ := y2
    rw [hch] at y2
    cases y2
    refine ⟨_, rfl, Zs.go_zs (s := { s with heap := h1, toks := tk }) e1 fun h2 e6 sb => ?_⟩
    have kp : ∀ c o, c ∉ [z, t1, t2, i1, i2] → s.heap.get? c = some o → h2.get? c = some o := fun c o n q =>
      (sb.2 c (fun e => n (by simp [e]))).trans (hk c o (fun e => n (by simp [e])) (fun e => n (by simp [e])) (fun e => n (by simp [e])) (fun e => n (by simp [e])) q)
    have new : ObjOk X.prog X.w (upd H s.heap.objs.size (.frz (plT [x1, .str ⟨#[ch]⟩ u1]) (.tup [x, .str ⟨#[ch]⟩]))) h2 s.heap.objs.size (.frz (plT [x1, .str ⟨#[ch]⟩ u1]) (.tup [x, .str ⟨#[ch]⟩])) := by
      have hT2 := (sb.2 _ (Nat.ne_of_gt zl)).trans hT
      exact ⟨hT2, (by decide : 2 ≤ sizeLine), [x1, .str ⟨#[ch]⟩ u1], .cons ru (.cons ⟨u1, rfl⟩ .nil), ⟨_, hT2, rfl, _, rfl⟩⟩
    refine ⟨.ref s.heap.objs.size, _, I.turnedNew (t' := tk) (ch := [z, t1, t2, i1, i2]) kp hf (Nat.le_refl _) new, rfl, ⟨_, _, x, ch, rfl, I.hok.fresh (Nat.le_refl _), rfl, rfl, fun l hl => ?_, hch⟩, ⟨⟨by omega, by omega⟩, e6, ?_, ⟨x1, .str ⟨#[ch]⟩ u1, (sb.2 _ D.TOz).trans e2⟩, e4.1.at fun o q => (sb.2 _ D.zi1.symm).trans q, ?_⟩, fun c hcm => ?_⟩
    · rw [I.tuple_inj hl q1]; exact hx
    · exact (sb.2 _ D.TIz).trans (hk _ _ D.TIz D.TITO D.TIi1 D.TIi2 g2)
    · obtain ⟨o5, g5', r5⟩ := e5
      exact ⟨o5, (sb.2 _ D.zi2.symm).trans g5', r5⟩
    · have hlt : c < s.heap.objs.size := by
        rcases five_mem hcm with rfl | rfl | rfl | rfl | rfl
        · exact zl
        · exact Heap.lt_size g2
        · exact Heap.lt_size g3
        · exact Heap.lt_size g4.choose_spec.1
        · exact Heap.lt_size g5.choose_spec.1
      rw [upd_ne (Nat.ne_of_lt hlt)]
      exact (hf c hcm).1
  done := by
    intro X hP hw hK hc i pins s σ H E I hf ⟨g0, g1, g2, ⟨x0, y0, g3⟩, g4, g5⟩ ⟨xs, q1, n1e, hend⟩
    subst hP hw hK
    obtain ⟨us, r1, p1, _⟩ := I.tuple q1
    have l1 := r1.length
    refine Zs.py_end D (Draws.tuple (show X.A.in1.handled = none from I.ok.hd hc) i1 a ha us.toArray) (Draws.text (show X.A.in1.handled = none from I.ok.hd hc) i2 s2 t) (show X.A.in1.handled = none from I.ok.hd hc) g1 g2 g3 ⟨g4, p1⟩ g5 (by simp; omega) (by omega) fun h1 tk hk => ⟨rfl, I.turnedL (t' := tk) (ch := [z, t1, t2, i1, i2]) (fun c o n q => hk c o (fun e => n (by simp [e])) (fun e => n (by simp [e])) (fun e => n (by simp [e])) (fun e => n (by simp [e])) q) hf⟩
  self := fun A i s Q E st h => Zs.iter_zs st.2.1 h
theorem itOk_zipTZ {K : PySem.W.Frag} {s2 : Str} {a : Addr} {n1 : Nat} {xs : List D} (n1e : n1 = xs.length) (n2e : xs.length = s2.cps.size) : ItOk K τ (ItzTZ K a s2 n1) [(.ref a, .tuple xs)] (zipD xs (signsD s2)) where
  go := fun H ow g i hi => by
    rw [zipD_len, signsD_len] at hi
    obtain ⟨pp, vs, e, hs, ha⟩ := g _ (List.mem_cons_self ..)
    cases e
    obtain ⟨v, hv, _⟩ := dpAll_get ha (List.getElem?_eq_getElem (show i < xs.length by omega))
    exact ⟨v, vs, s2.cps[i]'(by omega), ⟨sqT_same res_le hs, hv⟩, by rw [← dpAll_len ha] at n1e; exact n1e.symm, Array.getElem?_eq_getElem (by omega)⟩
  yld := fun H ow g hn i d hd x H4 hy => by
    obtain ⟨dx, dy, hdx, hdy, rfl⟩ := zipD_get hd
    obtain ⟨pp, vs, e, hs, ha⟩ := g _ (List.mem_cons_self ..)
    cases e
    obtain ⟨T, o, x1, c, rfl, hT, ho, rfl, h1, h2⟩ := hy
    unfold signsD at hdy
    rw [List.getElem?_map, Array.getElem?_toList, h2] at hdy
    cases hdy
    obtain ⟨v, hv, hdp⟩ := dpAll_get ha hdx
    have := (h1 vs (sqT_same res_le hs)).symm.trans hv
    cases this
    exact tup_newP hn hT ho (.cons hdp (.cons (.str _) .nil))
  stop := fun H ow g i hi => by
    rw [zipD_len, signsD_len] at hi
    obtain ⟨pp, vs, e, hs, ha⟩ := g _ (List.mem_cons_self ..)
    cases e
    refine ⟨vs, sqT_same res_le hs, by rw [← dpAll_len ha] at n1e; exact n1e.symm, ?_⟩
    rw [n1e]
    omega
def fZipTS : D → D → (List D → Prop) → Prop
  | .tuple xs, .str y, C => C (zipD xs (signsD y))
  | _, _, _ => False
def fZipTZ : D → D → (List D → Prop) → Prop
  | .tuple xs, .str y, C => xs.length = y.cps.size ∧ C (zipD xs (signsD y))
  | _, _, _ => False
def iZipTt (K : PySem.W.Frag) (ta : TA) : TI := fun σ H R => ta σ H fun vs H1 => ∃ a xs s2, vs = [.ref a, .str s2] ∧ SqT K H1 a xs ∧ R (ItzTS K a s2 xs.length) H1
def iZipZt (K : PySem.W.Frag) (ta : TA) : TI := fun σ H R => ta σ H fun vs H1 => ∃ a xs s2, vs = [.ref a, .str s2] ∧ SqT K H1 a xs ∧ R (ItzTZ K a s2 xs.length) H1
theorem fr5 {X : Cx} {pins : List (Addr × Obj)} {σ : L2.St} {H : Hp} {s : Shared} (I : Inv X pins σ H s) : ∀ c, c ∈ [s.heap.objs.size + 4, s.heap.objs.size + 2, s.heap.objs.size + 3, s.heap.objs.size, s.heap.objs.size + 1] → FpOk X pins H c := fun c hcm => by
  have hle : s.heap.objs.size ≤ c := by
    rcases five_mem hcm with z | z | z | z | z <;> rw [z] <;> first | exact Nat.le_add_right _ _ | exact Nat.le_refl _
  exact I.fpOk hle (I.hok.fresh hle)
theorem pi_zipTS {X : Cx} {e e2 : Expr} {ta : TA} {p pos tp : Pos} {es : List Expr} {n : Nat} (hg : Gl X "zip") (hm : X.mg "zip" = none) (ha : PA X [e, e2] ta)
    (hs : starEach [e, e2] X.env = (false, eval e X.env) :: starEach [e2] X.env := by rfl) (hpl : (backTo pos (starEach [e2] X.env)).any (·.1) = false := by rfl) :
    PI X (.Tuple es n tp) (.Call (.Name "zip" p) [e, e2] [] pos) (iZipTt X.K ta) := by
  refine ⟨fun pins s σ H R I h => Call_ (ld_blt I hg hm PyProof.Rows.boot_zip (PyProof.Rows.callWith_type1 (thn (ha.run pos pins s σ H _ I h) fun us s1 ⟨vs, H1, I1, r1, a, xs, s2, ex, q1⟩ => ?_) hs hpl))⟩
  subst ex
  cases r1 with
  | cons r rr =>
    cases rr with
    | cons r' rr =>
      cases rr
      cases r
      obtain ⟨t, rfl⟩ := r'
      obtain ⟨g1, q⟩ := q1
      obtain ⟨us, _, p1, _⟩ := I1.tuple g1
      have la := p1.lt
      refine zip_begins2 (begins_tuple a us.toArray) (begins_text s2 t) p1 trivial fun h' hz e1 e2 e3 e4 hsz hk => wpAny_pyIter_zip hz ?_
      exact ⟨_, _, _, _, H1, rfl, I1.kept (t' := s1.toks) hk, turn_zipTS (Nat.ne_of_lt la) (zip_sep2 (fp1 := [a]) (fp2 := []) (fun c hc => by rw [List.mem_singleton.mp hc]; exact la) (fun c hc => by cases hc)), ⟨⟨Nat.zero_le _, Nat.zero_le _⟩, hz, e1, ⟨_, _, e2⟩, ⟨_, e3, rfl, rfl⟩, ⟨_, e4, rfl, rfl⟩⟩, fr5 I1, q⟩
theorem pi_zipTZ {X : Cx} {e e2 : Expr} {ta : TA} {p pos tp kp cp : Pos} {es : List Expr} {n j : Nat} (hg : Gl X "zip") (hm : X.mg "zip" = none) (ha : PA X [e, e2] ta)
    (hs : starEach [e, e2] X.env = (false, eval e X.env) :: starEach [e2] X.env := by rfl) (hpl : (backTo pos (starEach [e2] X.env)).any (·.1) = false := by rfl) :
    PI X (.Tuple es n tp) (.Call (.Name "zip" p) [e, e2] [⟨some "strict", .Constant (.bool true) j cp, kp⟩] pos) (iZipZt X.K ta) := by
  refine ⟨fun pins s σ H R I h => ?_⟩
  refine Zs.call_kw (ld_blt I hg hm PyProof.Rows.boot_zip (Zs.callWith_tkw (thn (ha.run pos pins s σ H _ I h) fun us s1 ⟨vs, H1, I1, r1, a, xs, s2, ex, q1⟩ => ?_) hs hpl))
  subst ex
  cases r1 with
  | cons r rr =>
    cases rr with
    | cons r' rr =>
      cases rr
      cases r
      obtain ⟨t, rfl⟩ := r'
      obtain ⟨g1, q⟩ := q1
      obtain ⟨us, _, p1, _⟩ := I1.tuple g1
      have la := p1.lt
      refine Zs.call_zs2 (begins_tuple a us.toArray) (begins_text s2 t) p1 trivial fun h' hz e1 e2 e3 e4 hsz hk => Zs.iter_zs hz ?_
      exact ⟨_, _, _, _, H1, rfl, I1.kept (t' := s1.toks) hk, turn_zipTZ (Nat.ne_of_lt la) (zip_sep2 (fp1 := [a]) (fp2 := []) (fun c hc => by rw [List.mem_singleton.mp hc]; exact la) (fun c hc => by cases hc)), ⟨⟨Nat.zero_le _, Nat.zero_le _⟩, hz, e1, ⟨_, _, e2⟩, ⟨_, e3, rfl, rfl⟩, ⟨_, e4, rfl, rfl⟩⟩, fr5 I1, q⟩
def iZipTS (tv tw : UV) : UL := fun ρ C => tv ρ fun x => tw ρ fun y => fZipTS x y C
def iZipTZ (tv tw : UV) : UL := fun ρ C => tv ρ fun x => tw ρ fun y => fZipTZ x y C
theorem ji_zipTS (S : Ok cp G N sc k X) (hm : Free G "zip") (he : JD τ X e tv) (he2 : JD τ X e2 tw) (hg : sc.names.lookup ("zip" : Str) = some .globalImplicit := by rfl) (hs : starEach [e, e2] X.env = (false, eval e X.env) :: starEach [e2] X.env := by rfl) (hs2 : starEach [e2] X.env = (false, eval e2 X.env) :: starEach [] X.env := by rfl) (hpl : (backTo pos (starEach [e2] X.env)).any (·.1) = false := by rfl) :
    JI τ X (.Tuple elts kk tpos) (.Call (.Name "zip" p) [e, e2] [] pos) (iZipTS tv tw) := fun ρ C c H0 γ σ H r R q =>
  wpI_size (wpI_of (pi_zipTS (by show X.env.scope.names.lookup _ = _; rw [S.es]; exact hg) (by rw [S.em]; exact hm) (pa_cons pe_w (pa_cons pe_w pa_nil hs2) hs) hs hpl) (he ρ _ c H0 γ σ H r _ fun d1 v1 H2 c e1 h1 => he2 ρ _ c H0 γ σ H2 (r.after e1) _ fun d2 v2 H3 c e2 h2 => by
    have h1 := dp_after e2 h1
    cases h1 with
    | tup ht hb =>
      cases h2 <;> first | exact c.elim | skip
      exact ⟨_, _, _, rfl, sqT_same res_le ht, fun z1 z2 => q _ [(_, _)] _ H3 c (e1.trans e2) (fun p hp => by
        rw [List.mem_singleton.mp hp]; exact .tup ht hb) (itOk_zipTS (dpAll_len hb)) (by
          have := z2 _ _ (sqT_same res_le ht)
          rw [zipD_len, ← dpAll_len hb]; omega)⟩
    | _ => cases h2 <;> exact c.elim))
theorem jix_zipTZ {kp q1 : Pos} {j : Nat} (S : Ok cp G N sc k X) (hm : Free G "zip") (he : JV τ X e tv) (he2 : JV τ X e2 tw) (hg : sc.names.lookup ("zip" : Str) = some .globalImplicit := by rfl) (hs : starEach [e, e2] X.env = (false, eval e X.env) :: starEach [e2] X.env := by rfl) (hs2 : starEach [e2] X.env = (false, eval e2 X.env) :: starEach [] X.env := by rfl) (hpl : (backTo pos (starEach [e2] X.env)).any (·.1) = false := by rfl) :
    JIx τ X (.Tuple elts kk tpos) (.Call (.Name "zip" p) [e, e2] [⟨some "strict", .Constant (.bool true) j q1, kp⟩] pos) (iZipTZ tv tw) := fun ρ C c H0 γ σ H r R q =>
  wpI_size (wpI_of (pi_zipTZ (by show X.env.scope.names.lookup _ = _; rw [S.es]; exact hg) (by rw [S.em]; exact hm) (pa_cons pe_w (pa_cons pe_w pa_nil hs2) hs) hs hpl) (he ρ _ c H0 γ σ H r _ fun d1 v1 H2 c e1 h1 => he2 ρ _ c H0 γ σ H2 (r.after e1) _ fun d2 v2 H3 c e2 h2 => by
    have h1 := h1.after e2
    cases d1 <;> first | exact c.elim | skip
    cases d2 <;> first | exact c.elim | skip
    obtain ⟨b, ws, rfl, ht, hb⟩ := id h1
    cases h2
    exact ⟨b, ws, _, rfl, sqT_same res_le ht, fun z1 z2 => q _ [(_, _)] _ H3 c.2 (e1.trans e2) (fun p hp => by
      rw [List.mem_singleton.mp hp]; exact h1) (itOk_zipTZ (dpAll_len hb) c.1) (by
        have := z2 _ _ (sqT_same res_le ht)
        rw [zipD_len, ← dpAll_len hb]; omega)⟩))
theorem c_iZipTS {ρ : En} {L : List D → Prop} : iZipTS tv tw ρ L = tv ρ fun x => tw ρ fun y => fZipTS x y L := propext Iff.rfl
theorem c_iZipTZ {ρ : En} {L : List D → Prop} : iZipTZ tv tw ρ L = tv ρ fun x => tw ρ fun y => fZipTZ x y L := propext Iff.rfl
theorem q_zipTS {xs : List D} {y : Str} {L : List D → Prop} : fZipTS (.tuple xs) (.str y) L = L (zipD xs (signsD y)) := rfl
theorem q_zipTZ {xs : List D} {y : Str} {L : List D → Prop} : fZipTZ (.tuple xs) (.str y) L = (xs.length = y.cps.size ∧ L (zipD xs (signsD y))) := rfl
end
end Pu

/-! ### refusals: a def that may raise -/
namespace Pu
open PySem PySem.Spec PyProof.Rows L2
/-- the own class of the name x stands at C -/
structure ExC (G : Gx) (x : Str) (C : Addr) : Prop where
  gl : G.mg x = some (.ref C)
  ex : PySem.W.excIn G.K C He.veBase "ValueError.__new__" = true
  kp : PySem.W.keepIn G.K (.ref C) = true
  sb : PySem.W.subIn G.K (.ref C) (.type "BaseException") = some true
  ty : PySem.W.typeIn G.K (.ref C) = some (.type "type")
def IsC (G : Gx) (x : Str) (u : Value) : Prop := ∃ C, u = .ref C ∧ ExC G x C
abbrev Xw := Str → Prop
abbrev SfX := List Ar → (Rs → Prop) → Xw → Prop
def Tn.at_ (τ : Tn) (z : Hp → Prop) : Tn := ⟨τ.ad, τ.inv, τ.val, τ.tr, τ.dep, z⟩
section
variable {G : Gx} {τ : Tn} {z : Hp → Prop}
theorem Ext.to_at {H H' : Hp} (e : Ext τ H H') : Ext (τ.at_ z) H H' := ⟨e.kp, e.inv⟩
theorem Ext.of_at {H H' : Hp} (e : Ext (τ.at_ z) H H') : Ext τ H H' := ⟨e.kp, e.inv⟩
theorem arOk_at {K : PySem.W.Frag} {H : Hp} {v : V} {a : Ar} : ArOk K (τ.at_ z) H v a ↔ ArOk K τ H v a := by cases a <;> exact Iff.rfl
theorem arsOk_at {K : PySem.W.Frag} {H : Hp} : ∀ {vs : List V} {as : List Ar}, ArsOk K (τ.at_ z) H vs as → ArsOk K τ H vs as
  | _, _, .nil => .nil
  | _, _, .cons h t => .cons (arOk_at.mp h) (arsOk_at t)
theorem arsOk_to {K : PySem.W.Frag} {H : Hp} : ∀ {vs : List V} {as : List Ar}, ArsOk K τ H vs as → ArsOk K (τ.at_ z) H vs as
  | _, _, .nil => .nil
  | _, _, .cons h t => .cons (arOk_at.mpr h) (arsOk_to t)
theorem rtV_at {K : PySem.W.Frag} {H0 H : Hp} {v : V} {r : Rs} : RtV K (τ.at_ z) H0 H v r ↔ RtV K τ H0 H v r := by cases r <;> exact Iff.rfl
theorem FnD.at_ {k : Nat} {x : Str} {ps : List Str} {S : Sf} (F : FnD G τ k x ps S) : FnD G (τ.at_ z) k x ps S := by
  obtain ⟨f, fd, h1, h2, h3, h4⟩ := F.ex
  exact ⟨⟨f, fd, h1.imp fun vs H Q E ⟨as, C, a, b, c, d⟩ => ⟨as, C, arsOk_at a, b, c, fun r v H' l c e h => d r v H' l c e.to_at (rtV_at.mpr h)⟩, h2, h3, h4⟩⟩
theorem FnK.at_ {k n : Nat} {x : Str} {ps ks : List Str} {S : Sf} {g : List Ar → List Ar → List Ar} (F : FnK G τ k x ps S n ks g) : FnK G (τ.at_ z) k x ps S n ks g := by
  obtain ⟨f, fd, gU, gV, h1, h2, h3, h4, h5⟩ := F.ex
  exact ⟨⟨f, fd, gU, gV, h1.imp fun vs H Q E ⟨as, C, a, b, c, d⟩ => ⟨as, C, arsOk_at a, b, c, fun r v H' l c e h => d r v H' l c e.to_at (rtV_at.mpr h)⟩, h2, h3, h4, fun K H vs zs as bs a b => arsOk_to (h5 K H vs zs as bs (arsOk_at a) (arsOk_at b))⟩⟩
/-- what a def promises: its answer, or its refusal -/
def spX (G : Gx) (τ : Tn) (S : SfX) : Sp := fun vs H Q E => ∃ as C ξ, ArsOk G.K τ H vs as ∧ τ.inv H ∧ S as C ξ ∧ (∀ r v H', r.lf = true → C r → Ext τ H H' → RtV G.K τ H H' v r → Q v H') ∧ ∀ x u H', ξ x → IsC G x u → Ext τ H H' → E u none H'
structure FnX (G : Gx) (τ : Tn) (k : Nat) (x : Str) (ps : List Str) (S : SfX) : Prop where
  ex : ∃ (f : Addr) (fd : FuncData), FnOk G.P G.w G.K G.mg G.base (L2.CX G.P G.w) k f fd ps (spX G τ S) ∧ G.mg x = some (.ref f) ∧ PySem.W.keepIn G.K (.ref f) = true ∧ Binds G.K fd ps []
structure FnXK (G : Gx) (τ : Tn) (k : Nat) (x : Str) (ps : List Str) (S : SfX) (n : Nat) (ks : List Str) (g : List Ar → List Ar → List Ar) : Prop where
  ex : ∃ (f : Addr) (fd : FuncData) (gU : List Value → List Value → List Value) (gV : List V → List V → List V), FnOk G.P G.w G.K G.mg G.base (L2.CX G.P G.w) k f fd ps (spX G τ S) ∧ G.mg x = some (.ref f) ∧ PySem.W.keepIn G.K (.ref f) = true ∧ KBn G.K fd ps n ks gU gV ∧
    ∀ (K : PySem.W.Frag) (H : Hp) (vs zs : List V) (as bs : List Ar), ArsOk K τ H vs as → ArsOk K τ H zs bs → ArsOk K τ H (gV vs zs) (g as bs)
theorem spX_at {S : SfX} {vs : List V} {H : Hp} {Q : VK} {E : XK} (h : spX G (τ.at_ z) S vs H Q E) : spX G τ S vs H Q E := by
  obtain ⟨as, C, ξ, a, b, c, d, e⟩ := h
  exact ⟨as, C, ξ, arsOk_at a, b, c, fun r v H' l c e h => d r v H' l c e.to_at (rtV_at.mpr h), fun x u H' h1 h2 h3 => e x u H' h1 h2 h3.to_at⟩
theorem FnX.at_ {k : Nat} {x : Str} {ps : List Str} {S : SfX} (F : FnX G τ k x ps S) : FnX G (τ.at_ z) k x ps S := by
  obtain ⟨f, fd, h1, h2, h3, h4⟩ := F.ex
  exact ⟨⟨f, fd, h1.imp fun vs H Q E h => spX_at h, h2, h3, h4⟩⟩
theorem FnXK.at_ {k n : Nat} {x : Str} {ps ks : List Str} {S : SfX} {g : List Ar → List Ar → List Ar} (F : FnXK G τ k x ps S n ks g) : FnXK G (τ.at_ z) k x ps S n ks g := by
  obtain ⟨f, fd, gU, gV, h1, h2, h3, h4, h5⟩ := F.ex
  exact ⟨⟨f, fd, gU, gV, h1.imp fun vs H Q E h => spX_at h, h2, h3, h4, fun K H vs zs as bs a b => arsOk_to (h5 K H vs zs as bs (arsOk_at a) (arsOk_at b))⟩⟩
/-- refusals that ξ wishes may leave X -/
def XOk (G : Gx) (τ : Tn) (ξ : Xw) (X : Cx) : Prop := ∃ W : WX, Takes X W ∧ ∀ (x : Str) (u : Value) (σ : St) (H0 H : Hp), τ.z H0 → ξ x → IsC G x u → (∀ a o, H0 a = some o → ¬ τ.ad a → H a = some o) → τ.inv H → W u none σ H
def sfxOf (N : List Str) (np : Nat) (t : Xw → US) : SfX := fun as C ξ => as.length = np ∧ t ξ { nx := fun _ => C (.dat .none), rt := fun r => r.lf = true ∧ C r } (en0 N as)
theorem fnOkX_of {x qual : Str} {params : Arguments} {body : List Stmt} {scope : Scope} {dvs : List V} {kws : List (Str × V)} {f : Addr} {fd : FuncData} {N ps : List Str} {k : Nat} {t : Xw → US} (F : FunD G.K x qual params body scope dvs kws f fd) (S : FnScope N ps scope)
    (h : ∀ z X ξ, Ok [] G N scope k X → XOk G (τ.at_ z) ξ X → JSs (τ.at_ z) X body (t ξ)) : FnOk G.P G.w G.K G.mg G.base (L2.CX G.P G.w) (k + 1) f fd ps (spX G τ (sfxOf N ps.length t)) := by
  refine F.ok S (fun vs H Q E h => ?_) (fun cdv A outer s H vs Q E hr h' => ⟨wpSs (cxOf (L2.CX G.P G.w) G.P G.w G.K G.mg G.base N qual scope f cdv A outer s H E) body, pss_w, ?_⟩)
  · obtain ⟨as, C, ξ, h1, _, h2, _⟩ := h
    exact (Paired.length h1).trans h2.1
  · obtain ⟨as, C, ξ, h1, hi, h2, hq, hx⟩ := h'
    have O : Ok [] G N scope k (cxOf (L2.CX G.P G.w) G.P G.w G.K G.mg G.base N qual scope f cdv A outer s H E) := ⟨rfl, rfl, rfl, rfl, rfl, rfl, S.nd, rfl, S.kind, rfl, hr, fun _ _ _ => rfl, PassesOwn.leaving⟩
    have xo : XOk G (τ.at_ fun H0 => H0 = H) ξ (cxOf (L2.CX G.P G.w) G.P G.w G.K G.mg G.base N qual scope f cdv A outer s H E) :=
      ⟨fun cls d _ H => E cls d H, takes_of rfl rfl rfl rfl, fun x u σ H0 H' h0 hξ hu he hi => by
        cases h0
        exact hx x u H' hξ hu ⟨he, fun _ => hi⟩⟩
    refine h _ _ ξ O xo _ _ h2.2 H [] _ H (rep_start rfl hi (arsOk_to h1)) _ ⟨fun ρ σ H' c r => hq (.dat .none) .non H' rfl c ⟨r.ext, fun _ => r.inv⟩ .non, fun ρ σ H' c r => c.elim, fun ρ σ H' c r => c.elim, fun r v H' c e i q => hq r v H' c.1 c.2 ⟨e, fun _ => i⟩ (rtV_at.mp q)⟩
/-- what never raises may stand where one may raise -/
theorem okX_of_ok {k : Nat} {f : Addr} {fd : FuncData} {ps : List Str} {sp : Sp} (F : FnOk G.P G.w G.K G.mg G.base CX0 k f fd ps sp) : FnOk G.P G.w G.K G.mg G.base (L2.CX G.P G.w) k f fd ps sp :=
  ⟨F.len, fun A outer s H args us vs Q E hr e0 hb r h => codeAny_mono (F.run A outer s H args us vs Q E hr e0 hb r h) fun r s' q => by
    cases r with
    | error e => exact (show False from q).elim
    | ok fl => cases fl <;> exact q⟩
def orX (S : Sf) (T : SfX) : SfX := fun as C ξ => S as C ∨ T as C ξ
theorem ok_or {k : Nat} {f : Addr} {fd : FuncData} {ps : List Str} {S : Sf} {T : SfX} (F : FnOk G.P G.w G.K G.mg G.base CX0 k f fd ps (spD G τ S)) (F' : FnOk G.P G.w G.K G.mg G.base (L2.CX G.P G.w) k f fd ps (spX G τ T)) :
    FnOk G.P G.w G.K G.mg G.base (L2.CX G.P G.w) k f fd ps (spX G τ (orX S T)) := by
  have sep : ∀ vs H Q E, spX G τ (orX S T) vs H Q E → spD G τ S vs H Q E ∨ spX G τ T vs H Q E := fun vs H Q E ⟨as, C, ξ, a, b, c, d, e⟩ => by
    rcases c with c | c
    · exact .inl ⟨as, C, a, b, c, d⟩
    · exact .inr ⟨as, C, ξ, a, b, c, d, e⟩
  exact ⟨fun vs H Q E h => (sep _ _ _ _ h).elim (fun h => F.len _ _ _ _ h) fun h => F'.len _ _ _ _ h, fun A outer s H args us vs Q E hr e0 hb r h => (sep _ _ _ _ h).elim (fun h => (okX_of_ok F).run A outer s H args us vs Q E hr e0 hb r h) fun h => F'.run A outer s H args us vs Q E hr e0 hb r h⟩
theorem fnX_of {x : Str} {st : Stmt} {f : Addr} {fd : FuncData} {k : Nat} {ps : List Str} {S : SfX} (F : Dn G x st [] [] f fd) (ho : FnOk G.P G.w G.K G.mg G.base (L2.CX G.P G.w) k f fd ps (spX G τ S))
    (hb : ∀ (kV doc pm : Value) (an : Option Addr) (cdv ct : Value) (us : List Value), us.length = ps.length → bindArgs (PySem.W.fnOf x x (defArgs st) (defBody st) (defScope st) .none kV doc pm an cdv ct) ⟨us, []⟩ = pure (ps.zip us)) : FnX G τ k x ps S :=
  ⟨⟨f, fd, ho, F.gl, F.fn.kp, F.fn.bindsN hb⟩⟩
/-- plain parameters written with their names -/
theorem fnXP_of {x : Str} {st : Stmt} {kws : List (Str × V)} {f : Addr} {fd : FuncData} {ps : List Str} {j : Nat} {S : SfX} {n : Nat} {ks : List Str} (F : Dn G x st [] kws f fd) (ho : FnOk G.P G.w G.K G.mg G.base (L2.CX G.P G.w) j f fd ps (spX G τ S)) (g : {α : Type} → List α → List α → List α → List α)
    (hrel : ∀ {α β : Type} {Rr : α → β → Prop} {vs mz zs : List α} {us mv ws : List β}, Paired Rr vs us → Paired Rr mz mv → Paired Rr zs ws → Paired Rr (g vs mz zs) (g us mv ws))
    (h : ∀ (kV doc pm : Value) (an : Option Addr) (cdv ct : Value) (us ws : List Value), us.length = n → ws.length = ks.length →
      bindArgs (PySem.W.fnOf x x (defArgs st) (defBody st) (defScope st) .none kV doc pm an cdv ct) ⟨us, ks.zip ws⟩ = pure (ps.zip (g us [] ws))) :
    FnXK G τ j x ps S n ks (fun as bs => g as (List.replicate 0 (.dat .none)) bs) := by
  have hb : KBn G.K fd ps n ks (fun us ws => g us [] ws) (fun vs zs => g vs [] zs) := by
    obtain ⟨oc, od, dV, kV, doc, pm, an, cdv, ct, osl, rfl, lk, hcd, hD, hK⟩ := F.fn.ex
    rcases hD with ⟨_, rfl⟩ | ⟨e, _⟩
    · exact ⟨fun s us ws X l1 l2 => .of_eq (h kV doc pm an cdv ct us ws l1 l2), fun r1 r2 => hrel r1 .nil r2⟩
    · exact absurd rfl e
  exact ⟨⟨f, fd, _, _, ho, F.gl, F.fn.kp, hb, fun K H vs zs as bs h1 h2 => hrel h1 .nil h2⟩⟩
end
section
variable {τ : Tn} {G : Gx} {cp : List Str} {N : List Str} {sc : Scope} {k j n : Nat} {X : Cx} {e : Expr} {es : List Expr} {ta tk : UA} {pos p p2 pos' : Pos} {x m : Str} {ps ks : List Str} {S : SfX} {ξ : Xw} {kws : List Keyword}
/-- raise x("..") -/
def sRaise (ξ : Xw) (x : Str) : US := fun _ _ => ξ x
theorem js_raise {C : Addr} {jj : Nat} (O : Ok cp G N sc k X) (xo : XOk G τ ξ X) (hC : ExC G x C) (hg : sc.names.lookup x = some .globalImplicit := by rfl) (hdb : (x == ("__debug__" : Str)) = false := by decide) :
    JS τ X (.Raise (some (.Call (.Name x p) [.Constant (.str m) jj p2] [] pos)) none pos') (sRaise ξ x) := fun ρ E c H0 γ σ H r Dn d => by
  obtain ⟨W, tk, hW⟩ := xo
  exact wpS_of (ps_raise O.calm tk (pmk_own PySem.F.excBase_ValueError (by rw [O.eK]; exact hC.ex) (by rw [O.em]; exact hC.gl) (by rw [O.eK]; exact hC.kp) (raises_own (by rw [O.eK]; exact hC.sb) (by rw [O.eK]; exact hC.ty)) (by show X.env.scope.names.lookup x = _; rw [O.es]; exact hg) hdb))
    (hW x (.ref C) σ H0 H r.zz c ⟨C, rfl, hC⟩ r.ext r.inv)
def eCallX (S : SfX) (ξ : Xw) (t : UA) : UE := fun ρ C => t ρ fun as => S as C ξ
theorem je_callX (O : Ok cp G N sc k X) (xo : XOk G τ ξ X) (F : FnX G τ j x ps S) (ha : JA τ X (e :: es) ta) (hj : j ≤ k := by decide) (hg : sc.names.lookup x = some .globalImplicit := by rfl) (hdb : (x == ("__debug__" : Str)) = false := by decide)
    (he : starEach (e :: es) X.env = (false, eval e X.env) :: starEach es X.env := by rfl) (hpl : (backTo pos (starEach es X.env)).any (·.1) = false := by rfl) : JE τ X (.Call (.Name x p) (e :: es) [] pos) (eCallX S ξ ta) := by
  obtain ⟨f, fd, F, hm, hk, hb⟩ := F.ex
  obtain ⟨W, tk, hW⟩ := xo
  intro ρ C c H0 γ σ H r Q q
  refine wpE_of (pe_call (CX := L2.CX X.prog X.w) (k := j) (sp := spX G τ S) (E := fun cls d H => ∀ σ, W cls d σ H) (dvs := []) (ds := []) (by rw [O.eP, O.ew, O.eK, O.em, O.eb]; exact F) (O.room.mono hj) (by show X.env.scope.names.lookup x = _; rw [O.es]; exact hg) (by rw [O.em]; exact hm) (by rw [O.eK]; exact hk) (by rw [O.eK]; exact hb) .nil (passes_call tk fun cls d σ H h => h σ) pa_w hdb he hpl) ?_
  refine ha ρ _ c H0 γ σ H r _ fun as vs H2 c e1 h2 _ => ?_
  rw [List.append_nil]
  refine ⟨as, C, ξ, by rw [← O.eK]; exact h2, (r.after e1).inv, c, fun rs v H' l c e2 h => q rs v H' c (e1.trans e2) ?_, fun x u H' h1 h2 h3 σ' => ?_⟩
  · rw [← O.eK] at h
    exact RtV.rs r e1 e2 l h
  · have r3 := (r.after e1).after h3
    exact hW x u σ' H0 H' r.zz h1 h2 r3.ext r3.inv
def eCallXK (S : SfX) (ξ : Xw) (g : List Ar → List Ar → List Ar) (t u : UA) : UE := fun ρ C => t ρ fun as => u ρ fun bs => S (g as bs) C ξ
theorem je_callXK {g : List Ar → List Ar → List Ar} (O : Ok cp G N sc k X) (xo : XOk G τ ξ X) (F : FnXK G τ j x ps S n ks g) (ha : JA τ X (e :: es) ta) (hkw : JK τ X kws tk) (hn : (e :: es).length = n := by rfl) (hn2 : kws.length = ks.length := by rfl) (hj : j ≤ k := by decide) (hg : sc.names.lookup x = some .globalImplicit := by rfl)
    (hall : (backToKw pos (keywordEach kws X.env)).all (·.1.isSome) = true := by rfl) (hks : (backToKw pos (keywordEach kws X.env)).filterMap (·.1) = ks := by rfl)
    (hdb : (x == ("__debug__" : Str)) = false := by decide) (he : starEach (e :: es) X.env = (false, eval e X.env) :: starEach es X.env := by rfl)
    (hpl : ((backTo pos (starEach (e :: es) X.env)).any (·.1) || (backToKw pos (keywordEach kws X.env)).any (·.1.isNone)) = false := by rfl) : JE τ X (.Call (.Name x p) (e :: es) kws pos) (eCallXK S ξ g ta tk) := by
  obtain ⟨f, fd, gU, gV, F, hm, hk, hb, hrel⟩ := F.ex
  obtain ⟨W, tk, hW⟩ := xo
  intro ρ C c H0 γ σ H r Q q
  refine wpE_of (pe_callN (CX := L2.CX X.prog X.w) (k := j) (sp := spX G τ S) (E := fun cls d H => ∀ σ, W cls d σ H) (by rw [O.eP, O.ew, O.eK, O.em, O.eb]; exact F) (O.room.mono hj) (by show X.env.scope.names.lookup x = _; rw [O.es]; exact hg) (by rw [O.em]; exact hm) (by rw [O.eK]; exact hk) (by rw [O.eK]; exact hb) (passes_call tk fun cls d σ H h => h σ) pa_w pk_w hall hks hdb he hpl) ?_
  refine ha ρ _ c H0 γ σ H r _ fun as vs H2 c e1 h2 l1 => hkw ρ _ c H0 γ σ H2 (r.after e1) _ fun bs zs H3 c e2 h3 l2 => ⟨l1.trans hn, l2.trans hn2, ?_⟩
  refine ⟨_, C, ξ, ?_, ((r.after e1).after e2).inv, c, fun rs v H' l c e3 h => q rs v H' c ((e1.trans e2).trans e3) ?_, fun x u H' h1 h2 h3 σ' => ?_⟩
  · have h4 := hrel X.K H3 vs zs as bs (arsOk_after e2 h2) h3
    rw [O.eK] at h4
    exact h4
  · rw [← O.eK] at h
    exact RtV.rs r (e1.trans e2) e3 l h
  · have r3 := ((r.after e1).after e2).after h3
    exact hW x u σ' H0 H' r.zz h1 h2 r3.ext r3.inv
theorem je_callXK0 {g : List Ar → List Ar → List Ar} (O : Ok cp G N sc k X) (xo : XOk G τ ξ X) (F : FnXK G τ j x ps S 0 ks g) (hkw : JK τ X kws tk) (hn2 : kws.length = ks.length := by rfl) (hj : j ≤ k := by decide) (hg : sc.names.lookup x = some .globalImplicit := by rfl)
    (hall : (backToKw pos (keywordEach kws X.env)).all (·.1.isSome) = true := by rfl) (hks : (backToKw pos (keywordEach kws X.env)).filterMap (·.1) = ks := by rfl)
    (hdb : (x == ("__debug__" : Str)) = false := by decide)
    (hpl : ((backTo pos (starEach [] X.env)).any (·.1) || (backToKw pos (keywordEach kws X.env)).any (·.1.isNone)) = false := by rfl) : JE τ X (.Call (.Name x p) [] kws pos) (eCallXK S ξ g aNil tk) := by
  obtain ⟨f, fd, gU, gV, F, hm, hk, hb, hrel⟩ := F.ex
  obtain ⟨W, tk, hW⟩ := xo
  intro ρ C c H0 γ σ H r Q q
  refine wpE_of (pe_callN0 (CX := L2.CX X.prog X.w) (k := j) (sp := spX G τ S) (E := fun cls d H => ∀ σ, W cls d σ H) (by rw [O.eP, O.ew, O.eK, O.em, O.eb]; exact F) (O.room.mono hj) (by show X.env.scope.names.lookup x = _; rw [O.es]; exact hg) (by rw [O.em]; exact hm) (by rw [O.eK]; exact hk) (by rw [O.eK]; exact hb) (passes_call tk fun cls d σ H h => h σ) pk_w hall hks hdb hpl) ?_
  refine hkw ρ _ c H0 γ σ H r _ fun bs zs H3 c e2 h3 l2 => ⟨l2.trans hn2, ?_⟩
  refine ⟨_, C, ξ, ?_, (r.after e2).inv, c, fun rs v H' l c e3 h => q rs v H' c (e2.trans e3) ?_, fun x u H' h1 h2 h3 σ' => ?_⟩
  · have h4 := hrel X.K H3 [] zs [] bs .nil h3
    rw [O.eK] at h4
    exact h4
  · rw [← O.eK] at h
    exact RtV.rs r e2 e3 l h
  · have r3 := (r.after e2).after h3
    exact hW x u σ' H0 H' r.zz h1 h2 r3.ext r3.inv
end
end Pu
/-! ### a lambda handed to a def that calls it -/
namespace Pu
open PySem PySem.Spec PyProof.Rows L2
section
variable {X : Cx} {pins : List (Addr × Obj)} {σ : St} {H : Hp} {s : Shared}
/-- made: only the table at P has grown, a code object is there -/
theorem lam_mk {c P : Addr} {args : Arguments} {e : Expr} {lsc : Scope} {ps : Pos} {E : Value → Shared → Prop} {Q : Value → Shared → Prop} {q : Str} (hq : q = X.env.qual ++ "<lambda>")
    (TB : LamX.TabB X.base X.mg c P) (hcd : X.env.code = .ref c) (hT : LamX.TabS H P q) (hdf : defaultsOf args X.env = ([], [])) (hfr : ∀ y ∈ lsc.names, y.2 = .free → ∃ c, X.env.cells.lookup y.1 = some c) (I : Inv X pins σ H s)
    (k : ∀ (f c1 : Addr) (pm ct : Value) (H1 : Hp) (t : Shared), Inv X pins σ H1 t → (∀ b o, H b = some o → b ≠ P → H1 b = some o) → LamX.TabS H1 P q →
      t.heap.get? f = some (PySem.W.kla_obj "<lambda>" q args e lsc (cloFrom X.env.cells lsc.names []) pm c1 ct) → H1 f = none → f ∉ frs X.stack → H1 c1 = some (LamX.CodeO c1 q) → Q (.ref f) t) :
    wpAny (model X.prog X.w) X.A (eval (.Lambda args e lsc ps) X.env) Q E s := by
  subst hq
  obtain ⟨tb, h1, h2, h3⟩ := hT
  have gB := TB.bm.keeps I.bk
  have gP : s.heap.get? P = some { cls := .none, data := .fields tb } := I.hok P _ h1
  have new : ∀ a, s.heap.objs.size ≤ a → a ∉ frs X.stack := by
    intro a ha hm
    rcases List.mem_cons.mp (I.stkSub _ hm) with z | z
    · exact absurd (Nat.lt_of_lt_of_le (z ▸ I.lt) ha) (Nat.lt_irrefl _)
    · exact I.nofs ha z
  refine PySem.W.kla_eval hdf ?_
  cases am : codeAmong ps tb.toList with
  | some w =>
    obtain ⟨c1, rfl, hc1⟩ := h3 ps w am
    refine PySem.W.kla_makeFunctionHit (closure_ok hfr) I.ok.glob (I.mod.glob.keeps I.bk) hcd (TB.code.keeps I.bk) gP h2 am gB fun ct h' tk up hs => ?_
    exact k _ c1 _ ct H _ (I.kept fun b o z => Heap.get?_push_of_some _ (up b o z)) (fun _ _ z _ => z) ⟨tb, h1, h2, h3⟩ (Heap.get?_push_size _ rfl) (I.hok.fresh hs) (new _ hs) hc1
  | none =>
    refine PySem.W.kla_makeFunction (closure_ok hfr) I.ok.glob (I.mod.glob.keeps I.bk) hcd (TB.code.keeps I.bk) gP h2 am TB.gP gB fun c1 ct h' tk up ge lt rec htb => ?_
    obtain ⟨c2, oc, vs, t, r0, r1, r2, r3⟩ := rec
    obtain rfl := Value.ref.inj r0
    have big : s.heap.objs.size ≤ h'.objs.size := by omega
    have n1 : H c1 = none := I.hok.fresh ge
    have J := LamX.inv_table (q := X.env.qual ++ "<lambda>") (t' := tk) (more := #[rawInt ps.line, rawInt ps.col, .ref c1])
      (h' := h'.push (PySem.W.kla_obj "<lambda>" (X.env.qual ++ "<lambda>") args e lsc (cloFrom X.env.cells lsc.names []) ((X.mg "__name__").getD .none) c1 ct)) I h1
      (fun b o hb z => Heap.get?_push_of_some _ (up b o hb z)) (Heap.get?_push_of_some _ htb) ge ⟨oc, vs, t, Heap.get?_push_of_some _ r1, r2, r3⟩
    have nP : P ≠ c1 := ne_of_none h1 n1
    refine k _ c1 _ ct _ _ J (fun b o z hb => ?_) ⟨_, by rw [upd_ne nP]; exact upd_same, ?_, fun p' cv z => ?_⟩ (Heap.get?_push_size _ rfl) ?_ (new _ big) upd_same
    · rw [upd_ne (ne_of_none z n1), upd_ne hb]
      exact z
    · rw [Array.toList_append]
      exact PySem.TriplesOk_snoc _ _ _ _ h2
    · rw [Array.toList_append] at z
      rcases LamX.among_app _ h2 z with z | z
      · obtain ⟨c0, e1, e2⟩ := h3 p' cv z
        refine ⟨c0, e1, ?_⟩
        rw [upd_ne (ne_of_none e2 n1), upd_ne fun w => by rw [w, h1] at e2; cases e2]
        exact e2
      · exact ⟨c1, z, upd_same⟩
    · have d1 : h'.objs.size ≠ c1 := by omega
      have d2 : h'.objs.size ≠ P := Nat.ne_of_gt (Nat.lt_of_lt_of_le (Heap.lt_size gP) big)
      rw [upd_ne d1, upd_ne d2]
      exact I.hok.fresh big
/-- what the called def makes of the lambda's reading -/
abbrev Tel := XK → Hp → VK → Prop
def tHand (P : Addr) (q : Str) (TT : Tel → Hp → VK → Prop) (t : XK → TE) : TE := fun σ H Q => LamX.TabS H P q ∧ ∀ H1, (∀ b o, H b = some o → b ≠ P → H1 b = some o) → LamX.TabS H1 P q → TT (fun E H' Q' => t E σ H' Q') H1 Q
/-- x(lambda: e) -/
theorem pe_hand {TT : Tel → Hp → VK → Prop} {x a q : Str} {g c P : Addr} {k : Nat} {pg : Arguments} {bg : List Stmt} {sg : Scope} {dV kV doc pm cdv ct oc : Value} {an od : Option Addr} {osl : Array (Option Value)} {Ng : List Str}
    {args : Arguments} {e : Expr} {lsc : Scope} {t : XK → TE} {p lpos pos : Pos} (hq : q = X.env.qual ++ "<lambda>") (hg : Gl X x) (hm : X.mg x = some (.ref g)) (hk : PySem.W.keepIn X.K (.ref g) = true)
    (lk : X.K.lookup g = some ⟨oc, od, .func (PySem.W.fnOf x x pg bg sg dV kV doc pm an cdv ct), osl⟩) (hcg : PySem.W.codeIn X.K cdv x = true) (hb : L2.Binds X.K (PySem.W.fnOf x x pg bg sg dV kV doc pm an cdv ct) [a] []) (Sg : FnScope Ng [a] sg) (hNg : Ng[0]? = some a) (hva : Vis sg a)
    (hG : LamX.GivesTo X Ng x sg g cdv bg a q TT) (TB : LamX.TabB X.base X.mg c P) (hcd : X.env.code = .ref c) (hr : Room (k + 2) X.A) (L : LamX.LamS X.env.scope lsc) (hdf : defaultsOf args X.env = ([], []))
    (hbind : ∀ (q : Str) (cl : List (Str × Addr)) (pm cv ctv : Value), bindArgs (PySem.W.kla_fn "<lambda>" q args e lsc cl pm cv ctv) ⟨[], []⟩ = pure [])
    (hbody : ∀ (A : Around) (outer : List Env) (s : Shared) (H : Hp) (E : XK) (f c' : Addr), Room k (A.deeper (LamX.lamEnv X lsc s.heap.objs.size f c')) → PE (LamX.lamCx X A outer s H E lsc f c') e (t E))
    (hdb : (x == ("__debug__" : Str)) = false := by decide) (hd : (a == ("__debug__" : Str)) = false := by decide) (hcdn : (a == ("__classdict__" : Str)) = false := by decide) :
    PE X (.Call (.Name x p) [.Lambda args e lsc lpos] [] pos) (tHand P q TT t) := by
  subst hq
  refine ⟨fun pins s σ H Q I ⟨hT, h⟩ => wpAny_Call_Name_kw (ld_glob I hg hm ?_ hdb)⟩
  refine PySem.W.callWith_K (h₀ := X.base) I.ok.mod.kin hk ?_ (by rfl) (by rfl)
  refine Calls.spliced_cons (rest := backTo pos (starEach [] X.env)) (lam_mk rfl TB hcd hT hdf (L.has I.ok) I fun f c1 pm' ctv H1 s1 I1 up T1 o1 o2 o3 o4 => Calls.spliced_nil ⟨I1.kIn, ?_⟩)
  have run : codeAny (model X.prog X.w) X.A (.call (.ref g) ⟨[.ref f], []⟩) (CR C8.CX0 X.stack X.prog X.w H1 s1 Q C8.E0) s1 := by
    refine LamX.run_ofS (ps := [a]) (us := [.ref f]) (vs := [.ref f]) lk hcg Sg hr I1.env0 (hb s1 [.ref f] I1.kIn rfl) (.cons rfl .nil) rfl fun hr' => ?_
    obtain ⟨t', ht, hq'⟩ := hG f c1 s1 H1 Q (fun E H' Q' => t E σ H' Q') (fun W pn xe E p1 p2 tk hW => LamX.pe_act (i := 0) I1 L o1 o2 o3 (hbind _ _ _ _ _) tk hW hr' (fun A outer s H hr2 => hbody A outer s H E f c1 hr2) hNg hva hd hcdn) o4 (h H1 up T1)
    exact ⟨t', ht.nox, hq'⟩
  exact wpAny_call (codeAny_mono run fun r s2 hq => by
    cases r with
    | error e => exact False.elim hq
    | ok fl => cases fl <;> first | exact I1.after hq | exact False.elim hq)
end
end Pu
/-! ### try: .. except x as n: .., the exception kept -/
namespace Pu
open PySem PySem.Spec PyProof.Rows L2
/-- a caught exception of the class cls stands at a -/
def ExH (cls : Value) (a : Addr) : HO := .ext fun h => ∃ (oe : Obj) (vs : Array Value), h.get? a = some oe ∧ Zc cls none oe ∧ oe.data = .fields vs
theorem inv_track {X : Cx} {pins : List (Addr × Obj)} {σ : St} {H : Hp} {s : Shared} {a : Addr} {cls : Value} {oe : Obj} {vs : Array Value} (I : Inv X pins σ H s) (g : s.heap.get? a = some oe) (hz : Zc cls none oe) (hd : oe.data = .fields vs) (n : H a = none)
    (n0 : X.s_0.heap.get? a = none) (nL : X.env.locals ≠ a) (nC : ∀ x c, X.env.cells.lookup x = some c → c ≠ a) (nP : ∀ p ∈ X.pn ++ pins, p.1 ≠ a) : Inv X pins σ (upd H a (ExH cls a)) s := by
  have ne : ∀ b u, H b = some u → b ≠ a := fun b u e => ne_of_none e n
  have at0 : ∀ b o, X.s_0.heap.get? b = some o → b ≠ a := fun b o e z => by rw [z, n0] at e; cases e
  refine ⟨I.ok, I.os, I.bare, ⟨I.base.keep, I.base.slot, fun b o e h x => ?_, I.base.there, fun b xs e => ?_, fun b o u e => ?_, fun b ps e => ?_⟩, I.loc, I.cell, ?_, fun x c e => ?_, fun p hp => ?_, ?_, I.len⟩
  · rw [upd_ne (at0 b o e)]; exact I.base.free b o e h x
  · have q := I.base.tups b xs e
    rw [upd_ne (ne b _ q)]; exact q
  · have q := I.base.frzs b o u e
    rw [upd_ne (ne b _ q)]; exact q
  · obtain ⟨m, q⟩ := I.base.tbls b ps e
    exact ⟨m, by rw [upd_ne (ne b _ q)]; exact q⟩
  · rw [upd_ne nL]; exact I.free
  · rw [upd_ne (nC x c e)]; exact I.freeC x c e
  · obtain ⟨a1, a2, a3⟩ := I.pin p hp
    exact ⟨a1, by rw [upd_ne (nP p hp)]; exact a2, a3⟩
  · exact I.hok.laidN (fun _ _ q => q) n ⟨⟨oe, vs, g, hz, hd⟩, ⟨oe, g⟩, fun _ _ ⟨o, v, q, r⟩ k => ⟨o, v, k o q, r⟩⟩
/-- what such a clause wishes of a refusal of the body, the suite being: m = n -/
def wKeep (n : Nat) (K : PySem.W.Frag) (c : Value) (i j : Nat) (D : Ends) : WX := fun cls d σ H => d = none ∧ PySem.W.exmOne K cls c = some true ∧ ∀ a, H a = none → σ.length = n → D.nx (((σ.set i (some (.ref a))).set j (some (.ref a))).set i none) (upd H a (ExH cls a))
theorem ps_try_keep {X : Cx} {x n m : Str} {c : Value} {i j : Nat} {body : List Stmt} {np pos pos' p1 p2 p3 : Pos} {tb : WX → TS} (hs : X.stack = X.env :: X.outer) (hf : X.env.frame = some X.env.locals) (hex : X.ex = []) (nd : X.N.Nodup) (hi : X.N[i]? = some n) (hj : X.N[j]? = some m) (hij : i ≠ j)
    (hn : X.env.kindOf n = some .local) (hm : X.env.kindOf m = some .local) (hc : Names X x c) (hsw : ∀ env : Env, swapsWith (.Name n p2) (some (.Name m p1)) p3.line env = pure false) (hd : (n == ("__debug__" : Str)) = false) (hcd : (n == ("__classdict__" : Str)) = false)
    (hb : ∀ (W : WX) (pn : List (Addr × Obj)) (xe : Value → Shared → Prop), Takes (X.tr pn xe) W → PassesOwn (model X.prog X.w) X.A X.env xe → PSs (X.tr pn xe) body (tb W)) :
    PS X (.Try body [.ExceptHandler (some (.Name x np)) (some n) [.Assign [.Name m p1] (.Name n p2) p3] pos'] [] [] pos) (fun D σ H => tb (wKeep X.N.length X.K c i j D) D σ H) := by
  refine ⟨fun pins s σ H D I h => wpAny_Try_except ?_⟩
  have ok := I.ok
  have fr : X.A.frames = some (X.env :: X.outer) := by rw [ok.frames, hs]
  refine wpAny_mono ((hb (wKeep X.N.length X.K c i j D) (X.pn ++ pins) (fun e t => wpAny (model X.prog X.w) X.A (noteFrame e X.env) (fun _ t => wpAny (model X.prog X.w) X.A (setFlight e none) (fun _ t =>
    wpAny (model X.prog X.w) X.A (handleBy e X.env [.ExceptHandler (some (.Name x np)) (some n) [.Assign [.Name m p1] (.Name n p2) p3] pos']) (SP X pins D) X.xe t) X.xe t) X.xe t) (fun u t y => ?_) PassesOwn.looking).run [] s σ H D (I.toTry _) h) (fun fl t hsp => ?_) fun _ _ q => q
  · obtain ⟨a, B, sI, pins', σ', H', cls, d, rfl, J', nb, up, sky, na, os, ag, rfl, em, go⟩ := y
    have J : Inv X pins σ' H' sI := J'.ofTry ok
    rw [show (X.tr (X.pn ++ pins) _).stack = X.env :: X.outer from hs] at sky
    refine Sky.land Zc.steady fr hf sky fun h3 f3 up3 => ?_
    have J3 : Inv X pins σ' H' { t with heap := h3 } := J.landed nb f3.1 (up.trans up3) os ag
    obtain ⟨o3, v3, e3, z3, d3⟩ := f3.there
    have out : a ∉ frs (X.env :: X.outer) := fun hm => by
      obtain ⟨_, o', e', hnf⟩ := f3.2.2.1.mem hm
      rw [e3] at e'; cases e'
      exact hnf _ d3
    have nL : a ≠ X.env.locals := fun q => out (List.mem_filterMap.mpr ⟨X.env, List.mem_cons_self, by rw [hf, q]⟩)
    have nF : a ∉ X.fs := fun q => by
      obtain ⟨e, he, r⟩ := List.mem_filterMap.mp q
      exact out (List.mem_filterMap.mpr ⟨e, List.mem_cons_of_mem _ he, r⟩)
    have nI : sI.heap.get? a = none := by
      cases q : sI.heap.get? a with
      | none => rfl
      | some o =>
        have q2 := nb a o q (by rw [show (X.tr (X.pn ++ pins) _).stack = X.env :: X.outer from hs]; exact out)
        rw [f3.2.1] at q2; cases q2
    have S3 := J3.suite e3 d3 na nL nF
    refine wpAny_handleBy_cons (codeAny_handlers_test ?_) (by intro q; cases q)
    have LM := PySem.W.exm_one (M := model X.prog X.w) J3.kIn (fun A Q E t k q => wpAny_typeOf_ref (k _ _ e3) (by rw [z3.1]; exact q)) em
    have test : ∀ {Q : Value → Shared → Prop} {E : Value → Shared → Prop}, Q c { t with heap := h3 } → wpAny (model X.prog X.w) (X.A.mark (some (.ref a))) (eval (.Name x np) X.env) Q E { t with heap := h3 } := fun {Q E} q => by
      obtain ⟨hg, hdb, hm | ⟨hm, hv, hnn⟩⟩ := hc
      · exact ld_glob (X := X.suite a ((a, o3) :: (X.pn ++ pins))) S3 hg hm q hdb
      · exact ld_blt (X := X.suite a ((a, o3) :: (X.pn ++ pins))) S3 hg hm hv q hnn hdb
    refine test (LM.here (codeAny_handlers_suite_as (HandSPX.lands_againZ f3 fun h4 f4 up4 => ?_)))
    have J4 : Inv X pins σ' H' { t with heap := h4 } := J.landed nb f4.1 ((up.trans up3).trans up4) os ag
    obtain ⟨o4, v4, e4, z4, d4⟩ := f4.there
    have S4 := J4.suite e4 d4 na nL nF
    refine store_ok (X := X.suite a ((a, o4) :: (X.pn ++ pins))) (v := .ref a) S4 nd hi (.inl hn) rfl (fun t5 S5 => ?_) (.inr hn)
    have ph := pss_one (ps_set (X := X.suite a ((a, o4) :: (X.pn ++ pins))) (pos := p3) nd hj (.inl hm) (pe_var (i := i) (pos := p2) hi (.inl hn) hd hcd) (hsw _) (.inr hm))
    have il : i < σ'.length := by
      rw [J.len]
      exact (List.getElem?_eq_some_iff.mp hi).1
    refine wpAny_mono (ph.run [] t5 _ H' { nx := fun σ6 H6 => D.nx (σ6.set i none) (upd H6 a (ExH cls a)), rt := D.rt, bk := fun _ _ => False, ct := fun _ _ => False } S5 ⟨.ref a, List.getElem?_set_self il, go a na J.len⟩) (fun fl t6 hsp => ?_) fun _ _ q => q.elim
    cases fl with
    | next =>
      obtain ⟨σ6, H6, S6, q6⟩ := hsp
      refine gone_ok (X := X.suite a ((a, o4) :: (X.pn ++ pins))) S6 nd hi hn fun t7 S7 => ?_
      obtain ⟨p1', p2', _⟩ := S7.pin (a, o4) (List.mem_append.mpr (.inl List.mem_cons_self))
      have J7 : Inv X pins (σ6.set i none) H6 t7 := S7.unsuite ok
      refine ⟨_, _, inv_track J7 p1' z4 d4 p2' ?_ (Ne.symm nL) (fun y c' e z => ?_) (fun p hp z => ?_), q6⟩
      · cases q : X.s_0.heap.get? a with
        | none => rfl
        | some o =>
          obtain ⟨o', q'⟩ := J.base.there a o q (by rw [hex]; simp)
          rw [nI] at q'; cases q'
      · obtain ⟨w, oc, q, _⟩ := J.cell y c' e
        rw [z, nI] at q; cases q
      · have q := (J.pin p hp).1
        rw [z, nI] at q; cases q
    | brk =>
      obtain ⟨_, _, _, q⟩ := hsp
      exact q.elim
    | cont =>
      obtain ⟨_, _, _, q⟩ := hsp
      exact q.elim
    | ret u =>
      obtain ⟨v6, σ6, H6, S6, r6, q6⟩ := hsp
      exact gone_ok (S6.unsuite ok) nd hi hn fun t7 J7 => ⟨_, _, _, J7, r6, q6⟩
  · cases fl with
    | next =>
      obtain ⟨σ', H', J, q⟩ := hsp
      exact wpAny_execs_nil ⟨σ', H', J.ofTry ok, q⟩
    | brk =>
      obtain ⟨σ', H', J, q⟩ := hsp
      exact ⟨σ', H', J.ofTry ok, q⟩
    | cont =>
      obtain ⟨σ', H', J, q⟩ := hsp
      exact ⟨σ', H', J.ofTry ok, q⟩
    | ret u =>
      obtain ⟨v, σ', H', J, r, q⟩ := hsp
      exact ⟨v, σ', H', J.ofTry ok, r, q⟩
/-- isinstance(e, c), e a caught exception -/
def rIsK (K : PySem.W.Frag) : List V → Hp → VK → Prop := fun xs H Q => ∃ (a Da : Addr) (c : V) (cv : Value) (b : Bool), xs = [.ref a, c] ∧ H a = some (ExH (.ref Da) a) ∧ ExcC K Da ∧ (∀ u, RelV c u → u = cv) ∧ PySem.W.kitOne K (.ref Da) cv = some b ∧ Q (.bl b) H
theorem call_isK {X : Cx} : CallR X (.builtin "isinstance") (rIsK X.K) := by
  intro pins s σ H xs us Q I r h
  obtain ⟨a, Da, c, cv, b, rfl, ha, C, hcv, e, q⟩ := h
  cases r with
  | cons rx rr =>
    cases rr with
    | cons rt rr =>
      cases rr
      cases rx
      have ec := hcv _ rt
      subst ec
      obtain ⟨⟨oe, vs, hget, hz, hv⟩, _, _⟩ := I.hok a _ ha
      have J : PySem.W.InstAt s.heap a oe Da none := by
        obtain ⟨oc, od, oda, osl⟩ := oe
        obtain ⟨h1, h2⟩ := hz
        dsimp only at h1 h2 hv
        subst h1 h2 hv
        exact ⟨hget, rfl, rfl, trivial⟩
      exact PySem.W.kia_one (PySem.W.handS_kitx_exc C.hg C.hk C.hs C.hd C.ha C.hn C.ht C.hm) I.kIn J e (fun z => nomatch z) fun tk => ⟨.bl b, H, I.kept (t' := tk) fun _ _ z => z, rfl, q⟩
end Pu
/-! ### _law_heard: what is told, or how it is refused -/
namespace Pu
open PySem PySem.Spec PyProof.Rows L2
/-! d.update(e) -/
theorem putK_len {kvs : List (Key × V)} {k : Key} {v : V} : (putK kvs k v).length ≤ kvs.length + 1 := by
  unfold putK
  split <;> simp
theorem mergeK_len : ∀ {more kvs : List (Key × V)}, (mergeK kvs more).length ≤ kvs.length + more.length
  | [], kvs => Nat.le_refl _
  | p :: more, kvs => by
    have h1 := mergeK_len (more := more) (kvs := putK kvs p.1 p.2)
    have h2 := putK_len (kvs := kvs) (k := p.1) (v := p.2)
    have e : mergeK kvs (p :: more) = mergeK (putK kvs p.1 p.2) more := rfl
    rw [e, List.length_cons]
    omega
def rUpd : V → List V → Hp → VK → Prop := fun x xs H Q => ∃ (a b : Addr) (kvs more : List (Key × V)), x = .ref a ∧ xs = [.ref b] ∧ a ≠ b ∧ H a = some (.dK kvs) ∧ H b = some (.dK more) ∧ kvs.length + more.length ≤ sizeLine ∧ Q .non (upd H a (.dK (mergeK kvs more)))
theorem mt_upd {X : Cx} : MtR X "dict.update" rUpd := by
  intro pins s σ H x xs v us Q I rx rv h
  obtain ⟨a, b, kvs, more, rfl, rfl, ne, ha, hb, hl, q⟩ := h
  obtain rfl : v = Value.ref a := rx
  cases rv with
  | cons rb rn =>
    cases rn
    rename_i u
    obtain rfl : u = Value.ref b := rb
    obtain ⟨z, hd, vs, rel, dd⟩ := dk_of I.hok ha
    obtain ⟨z', hd', ws, rel', dd'⟩ := dk_of I.hok hb
    refine call_meetsIn PySem.F.slot_dict_update dd.typeIs PySem.F.entry_dict_update (PySem.F.args_dict_update_2 _ _) (meets_dict_update (mixKind X.prog X.w) a b ne hd') ⟨vs, ws, dd, dd', by rw [← rel.length, ← rel'.length]; exact hl, fun h' m1 _ sb => ?_⟩
    have he : ∃ q, h'.get? a = some q := let ⟨q, _, _, hq, _⟩ := m1; ⟨q, hq⟩
    exact ⟨.non, _, d_write (t' := s.toks) I (by rw [ha]; exact True.intro) sb he (dk_new (Nat.le_trans mergeK_len hl) hd (KV.merge rel' rel) m1), rfl, q⟩
/-! the def's slots: deed 0, refused 1, found 2, e 3, some 4, names 5, word 6 -/
abbrev Ngh : List Str := ["deed", "refused", "found", "e", "some", "names", "word"]
/-- isinstance(refused, y) tells b -/
def Kl (G : Gx) (C : Addr) (y : Str) (b : Bool) : Prop := ∃ cy, G.mg y = some (.ref cy) ∧ PySem.W.kitOne G.K (.ref C) (.ref cy) = some b
structure Hs (K : PySem.W.Frag) (H1 : Hp) (a C : Addr) (σ : St) (H : Hp) : Prop where
  r : σ[1]? = some (some (.ref a))
  ex : H a = some (ExH (.ref C) a)
  ec : ExcC K C
  up : ∀ b o, H1 b = some o → H b = some o
  len : σ.length = 7
structure Hd (K : PySem.W.Frag) (H1 : Hp) (a C : Addr) (kvs : List (Key × V)) (σ : St) (H : Hp) : Prop extends Hs K H1 a C σ H where
  d : ∃ d, σ[4]? = some (some (.ref d)) ∧ H d = some (.dK kvs) ∧ H1 d = none ∧ d ≠ a
section
variable {G : Gx} {sg : Scope} {k : Nat} {X : Cx} {C a : Addr} {H1 : Hp} {y y1 y2 k1 k2 : Str} {b b1 b2 : Bool} {kvs : List (Key × V)} {p p0 p1 p2 p3 p4 p5 p6 p7 p8 p9 q0 q1 q2 q3 q4 q5 q6 q7 q8 q9 pos : Pos} {j1 j2 : Nat}
theorem pe_isY (O : Ok [] G Ngh sg k X) (hi : Free G "isinstance") (hy : Kl G C y b) (hgi : sg.names.lookup ("isinstance" : Str) = some .globalImplicit) (hgy : sg.names.lookup y = some .globalImplicit) (hr : Vis sg "refused") (hdy : (y == ("__debug__" : Str)) = false) :
    PE X (.Call (.Name "isinstance" p) [.Name "refused" p1, .Name y p2] [] pos) (fun σ H Q => σ[1]? = some (some (.ref a)) ∧ H a = some (ExH (.ref C) a) ∧ ExcC X.K C ∧ Q (.bl b) H) := by
  obtain ⟨cy, h1, h2⟩ := hy
  have h := pe_callB (X := X) (p := p) (pos := pos) call_isK (by show X.env.scope.names.lookup ("isinstance" : Str) = _; rw [O.es]; exact hgi) (by rw [O.em]; exact hi) (by decide +kernel : bootBuiltins "isinstance" = some (.builtin "isinstance"))
    (pa_cons (pe_var (i := 1) (pos := p1) (by rw [O.eN]; rfl) (by rw [O.es]; exact hr) (by decide) (by decide)) (pa_cons (pe_glob (v := .ref cy) (pos := p2) (by show X.env.scope.names.lookup y = _; rw [O.es]; exact hgy) (by rw [O.em]; exact h1) rfl hdy) pa_nil))
  refine ⟨fun pins s σ H Q I ⟨e1, e2, e3, e4⟩ => h.run pins s σ H Q I ⟨_, e1, a, C, .ref cy, .ref cy, b, rfl, e2, e3, fun u r => r, by rw [O.eK]; exact h2, e4⟩⟩
/-- a display of two such -/
theorem pe_two (O : Ok [] G Ngh sg k X) (hi : Free G "isinstance") (h1 : Kl G C y1 b1) (h2 : Kl G C y2 b2) (hgi : sg.names.lookup ("isinstance" : Str) = some .globalImplicit) (hg1 : sg.names.lookup y1 = some .globalImplicit) (hg2 : sg.names.lookup y2 = some .globalImplicit) (hr : Vis sg "refused")
    (hd1 : (y1 == ("__debug__" : Str)) = false) (hd2 : (y2 == ("__debug__" : Str)) = false) (hne : k1 ≠ k2) {σ : St} {H : Hp} {Q : VK} (h : Hs X.K H1 a C σ H) (q : ∀ d, H d = none → Q (.ref d) (upd H d (.dK [(.inr k1, .bl b1), (.inr k2, .bl b2)]))) :
    wpE X (.Dict [some (.Constant (.str k1) j1 p1), some (.Constant (.str k2) j2 p2)] [.Call (.Name "isinstance" p3) [.Name "refused" p4, .Name y1 p5] [] p6, .Call (.Name "isinstance" p7) [.Name "refused" p8, .Name y2 p9] [] q0] q1) σ H Q := by
  refine wpE_of (pe_disp (pps_cons pe_str (pe_isY (a := a) O hi h1 hgi hg1 hr hd1) (pps_cons pe_str (pe_isY (a := a) O hi h2 hgi hg2 hr hd2) pps_nil)) rfl rfl (by simp) (by simp)) ?_
  intro d hd
  have ne : a ≠ d := ne_of_none h.ex hd
  have e1 : (upd H d (.dK [])) a = some (ExH (.ref C) a) := by rw [upd_ne ne]; exact h.ex
  refine ⟨h.r, e1, h.ec, h.r, e1, h.ec, upd_same, [(.inr k1, .bl b1), (.inr k2, .bl b2)], rfl, by simp, ?_⟩
  have em : mergeK [] [((.inr k1 : Key), V.bl b1), (.inr k2, .bl b2)] = [(.inr k1, .bl b1), (.inr k2, .bl b2)] := by
    simp [mergeK, putK, hne]
  rw [em, upd_upd]
  exact q d hd
/-- some = {..} -/
theorem h_some (O : Ok [] G Ngh sg k X) (hi : Free G "isinstance") (h1 : Kl G C y1 b1) (h2 : Kl G C y2 b2) (hgi : sg.names.lookup ("isinstance" : Str) = some .globalImplicit) (hg1 : sg.names.lookup y1 = some .globalImplicit) (hg2 : sg.names.lookup y2 = some .globalImplicit) (hr : Vis sg "refused") (hs : LocC [] sg "some")
    (hd1 : (y1 == ("__debug__" : Str)) = false) (hd2 : (y2 == ("__debug__" : Str)) = false) (hne : k1 ≠ k2)
    (hsw : ∀ env : Env, swapsWith (.Dict [some (.Constant (.str k1) j1 p1), some (.Constant (.str k2) j2 p2)] [.Call (.Name "isinstance" p3) [.Name "refused" p4, .Name y1 p5] [] p6, .Call (.Name "isinstance" p7) [.Name "refused" p8, .Name y2 p9] [] q0] q1) (some (.Name "some" q2)) q3.line env = pure false)
    {σ : St} {H : Hp} {D : Ends} (h : Hs X.K H1 a C σ H) (q : ∀ σ' H', Hd X.K H1 a C [(.inr k1, .bl b1), (.inr k2, .bl b2)] σ' H' → D.nx σ' H') :
    wpS X (.Assign [.Name "some" q2] (.Dict [some (.Constant (.str k1) j1 p1), some (.Constant (.str k2) j2 p2)] [.Call (.Name "isinstance" p3) [.Name "refused" p4, .Name y1 p5] [] p6, .Call (.Name "isinstance" p7) [.Name "refused" p8, .Name y2 p9] [] q0] q1) q3) D σ H := by
  refine wpS_of (ps_set (i := 4) (by rw [O.eN]; exact O.nd) (by rw [O.eN]; rfl) (loc_of O hs) pe_w (hsw _) (fn_of_loc O hs)) ?_
  refine pe_two O hi h1 h2 hgi hg1 hg2 hr hd1 hd2 hne h fun d hd => q _ _ ?_
  have ne : a ≠ d := ne_of_none h.ex hd
  refine ⟨⟨by rw [List.getElem?_set_ne (by decide)]; exact h.r, by rw [upd_ne ne]; exact h.ex, h.ec, fun b' o e => by rw [upd_ne (ne_of_none (h.up b' o e) hd)]; exact h.up b' o e, by rw [List.length_set]; exact h.len⟩, d, List.getElem?_set_self (by rw [h.len]; decide), upd_same, ?_, Ne.symm ne⟩
  cases e : H1 d with
  | none => rfl
  | some o => rw [h.up d o e] at hd; cases hd
/-- some.update({..}) -/
theorem h_upd (O : Ok [] G Ngh sg k X) (hi : Free G "isinstance") (h1 : Kl G C y1 b1) (h2 : Kl G C y2 b2) (hgi : sg.names.lookup ("isinstance" : Str) = some .globalImplicit) (hg1 : sg.names.lookup y1 = some .globalImplicit) (hg2 : sg.names.lookup y2 = some .globalImplicit) (hr : Vis sg "refused") (hs : Vis sg "some")
    (hd1 : (y1 == ("__debug__" : Str)) = false) (hd2 : (y2 == ("__debug__" : Str)) = false) (hne : k1 ≠ k2) (hl : kvs.length ≤ 1000) {kvs' : List (Key × V)} (hk' : mergeK kvs [(.inr k1, .bl b1), (.inr k2, .bl b2)] = kvs') (hline : (q3.endLine == q4.line) = true)
    (hst : ∀ env : Env, starEach [(.Dict [some (.Constant (.str k1) j1 p1), some (.Constant (.str k2) j2 p2)] [.Call (.Name "isinstance" p3) [.Name "refused" p4, .Name y1 p5] [] p6, .Call (.Name "isinstance" p7) [.Name "refused" p8, .Name y2 p9] [] q0] q1 : Expr)] env = (false, eval (.Dict [some (.Constant (.str k1) j1 p1), some (.Constant (.str k2) j2 p2)] [.Call (.Name "isinstance" p3) [.Name "refused" p4, .Name y1 p5] [] p6, .Call (.Name "isinstance" p7) [.Name "refused" p8, .Name y2 p9] [] q0] q1) env) :: starEach [] env)
    {σ : St} {H : Hp} {D : Ends} (h : Hd X.K H1 a C kvs σ H) (q : ∀ σ' H', Hd X.K H1 a C kvs' σ' H' → D.nx σ' H') :
    wpS X (.Expr (.Call (.Attribute (.Name "some" q2) "update" q3) [.Dict [some (.Constant (.str k1) j1 p1), some (.Constant (.str k2) j2 p2)] [.Call (.Name "isinstance" p3) [.Name "refused" p4, .Name y1 p5] [] p6, .Call (.Name "isinstance" p7) [.Name "refused" p8, .Name y2 p9] [] q0] q1] [] q4) q5) D σ H := by
  subst hk'
  obtain ⟨d, hd, hk, h0, hda⟩ := h.d
  refine wpS_of (ps_expr (pe_bm PySem.F.plainAttrs_dict PySem.F.slot_dict_update PySem.F.type_dict_update mt_upd (pe_var (i := 4) (by rw [O.eN]; rfl) (by rw [O.es]; exact hs) (by decide) (by decide)) (pa_cons pe_w pa_nil (hst _)) (by rfl) (by rw [hst]; rfl) hline (hst _))) ?_
  refine ⟨_, hd, .inr (.inr (.inl ⟨rfl, .inl ⟨_, hk⟩⟩)), ?_⟩
  refine pe_two O hi h1 h2 hgi hg1 hg2 hr hd1 hd2 hne h.toHs fun e he => ?_
  have ne : d ≠ e := ne_of_none hk he
  refine ⟨d, e, kvs, [(.inr k1, .bl b1), (.inr k2, .bl b2)], rfl, rfl, ne, by rw [upd_ne ne]; exact hk, upd_same, ?_, q _ _ ⟨⟨h.r, ?_, h.ec, fun b' o e' => ?_, h.len⟩, d, hd, upd_same, h0, hda⟩⟩
  · exact small_line (by simp; omega)
  · rw [upd_ne (Ne.symm hda), upd_ne (ne_of_none h.ex he)]; exact h.ex
  · rw [upd_ne (ne_of_none e' h0), upd_ne (ne_of_none (h.up b' o e') he)]; exact h.up b' o e'
/-- the words that are so -/
def yesW (kvs : List (Key × V)) : List V := (kvs.filter fun p => decide (p.2 = .bl true)).map fun p => kV p.1
/-- names = [word for word in some if some[word]] -/
theorem h_names {scope : Scope} (O : Ok [] G Ngh sg k X) (hs : Vis sg "some") (hn : sg.names.lookup ("names" : Str) = some .local) (hok : blkC Ngh sg scope [("word", 6)] = true) (hsw : (p0.line == p8.line) = true) (hsn : (scope.names.any fun (n, k) => n == ("names" : Str) && (k == .local || k == .cell)) = false)
    (hv1 : Vis (relS scope sg) "some") (hv2 : LocC (capt scope) (relS scope sg) "word") (hv3 : Vis (relS scope sg) "word") (nd : (kvs.map (·.1)).Nodup) (hb : ∀ p ∈ kvs, ∃ z, p.2 = V.bl z) (hl : kvs.length ≤ 1000)
    {σ : St} {H : Hp} {D : Ends} (h : Hd X.K H1 a C kvs σ H) (q : ∀ σ' H' n, Hs X.K H1 a C σ' H' → σ'[5]? = some (some (.ref n)) → H' n = some (.lst (yesW kvs)) → D.nx σ' H') :
    wpS X (.Assign [.Name "names" p0] (.ListComp (.Name "word" p1) [⟨.Name "word" p2, .Name "some" p3, [.Subscript (.Name "some" p4) (.Name "word" p5) p6], 0⟩] scope p8) p9) D σ H := by
  have hkd := (blkOk_by hok).kind
  have OB : ∀ s H C cl fp, Ok (capt scope) G Ngh (relS scope sg) k (X.blk s H scope (compEnvC scope cl C X.env) fp) := fun s H C cl fp => isBlk_ok O hkd ⟨s, H, C, cl, fp, rfl⟩
  obtain ⟨d, hd, hk, h0, hda⟩ := h.d
  refine wpS_of (ps_lock (ps_setLc (i := 5) (own := [("word", 6)]) (g := gName 6) (tt := fun σ2 H2 Q => tDGet (tVar 4) (tVar 6) σ2 H2 fun v H3 => ∃ z, v = .bl z ∧ Q z H3) (te := tVar 6) O.calm (by rw [O.eN]; exact O.nd) (by rw [O.eN]; rfl) (by rw [O.es]; exact hn)
    (sw_true (by rw [O.es]; exact O.kd) (by rw [O.es]; exact hn) hsw hsn) (pi_keys (pe_var (i := 4) (by rw [O.eN]; rfl) (by rw [O.es]; exact hs) (by decide) (by decide))) (by rw [O.eN, O.es]; exact blkOk_by hok)
    (fun s H C cl fp => pg_name (i := 6) (by rw [(OB s H C cl fp).eN]; exact (OB s H C cl fp).nd) (by rw [(OB s H C cl fp).eN]; rfl) (loc_of (OB s H C cl fp) hv2) (fn_of_loc (OB s H C cl fp) hv2))
    (fun s H C cl fp => pts_one (pt_val (pe_dget (by have := (OB s H C cl fp).room.un; omega) (pe_var (i := 4) (by rw [(OB s H C cl fp).eN]; rfl) (by rw [(OB s H C cl fp).es]; exact hv1) (by decide) (by decide)) (pe_var (i := 6) (by rw [(OB s H C cl fp).eN]; rfl) (by rw [(OB s H C cl fp).es]; exact hv3) (by decide) (by decide)) (fun _ _ => rfl))))
    (fun s H C cl fp => pe_var (i := 6) (by rw [(OB s H C cl fp).eN]; rfl) (by rw [(OB s H C cl fp).es]; exact hv3) (by decide) (by decide)))) ?_
  refine ⟨d, .dK kvs, hk, trivial, fun od => ?_⟩
  refine ⟨_, hd, d, od, rfl, .inl ⟨kvs, upd_same, fun L hL => ?_⟩⟩
  have hLd : L ≠ d := fun z => by rw [z, upd_same] at hL; cases hL
  have hL' : H L = none := by rw [upd_ne hLd] at hL; exact hL
  have wl : ∀ i, i ≠ 6 → (wipe σ [6])[i]? = σ[i]? := fun i hi => wipe_out (by simp; exact hi)
  refine lc_it (g := gName 6) (tt := fun σ2 H2 Q => tDGet (tVar 4) (tVar 6) σ2 H2 fun v H3 => ∃ z, v = .bl z ∧ Q z H3) (te := tVar 6) (vs := [6]) (σ := σ) (H1 := upd H d (.frz od (.dK kvs))) (D := L) (Qd := fun H' => H' d = some (.frz od (.dK kvs)) ∧ D.nx (σ.set 5 (some (.ref L))) (upd H' d (.dK kvs))) walk_keys (fun i H' => H' d = some (.frz od (.dK kvs)) ∧ (∀ b' o, H b' = some o → b' ≠ d → H' b' = some o) ∧ H' L = some (.lst (yesW (kvs.take i)))) ⟨?_, ?_, ?_⟩ (fun i H' _ p => p.1) (fun i x H' H'' hi g y => ?_) (fun H' g => ?_)
  · rw [upd_ne (Ne.symm hLd), upd_same]
  · intro b' o e hb'
    rw [upd_ne (ne_of_none e hL'), upd_ne hb']; exact e
  · exact upd_same
  · obtain ⟨g1, g2, g3⟩ := g
    obtain ⟨eH, kk, vv, gk, gx⟩ := y
    subst eH gx
    obtain ⟨z, hz⟩ := hb _ (List.mem_of_getElem? gk)
    simp only at hz
    subst hz
    have e6 : ((wipe σ [6]).set 6 (some (kV kk)))[6]? = some (some (kV kk)) := List.getElem?_set_self (by rw [wipe_length, h.len]; decide)
    have e4 : ((wipe σ [6]).set 6 (some (kV kk)))[4]? = some (some (.ref d)) := by rw [List.getElem?_set_ne (by decide), wl 4 (by decide)]; exact hd
    have gv : valV kvs kk = some (.bl z) := by
      clear g3 hi
      induction kvs generalizing i with
      | nil => simp at gk
      | cons p r ih =>
        cases i with
        | zero =>
          simp only [List.getElem?_cons_zero, Option.some.injEq] at gk
          subst gk
          exact valV_pos rfl
        | succ i =>
          simp only [List.getElem?_cons_succ] at gk
          have hm := List.mem_of_getElem? gk
          simp only [List.map_cons, List.nodup_cons] at nd
          have hne : ¬ p.1 = kk := fun z => nd.1 (by rw [z]; exact List.mem_map.mpr ⟨_, hm, rfl⟩)
          obtain ⟨p1, p2⟩ := p
          rw [valV_neg hne]
          unfold valV
          cases hf : r.find? fun kv => decide (kv.1 = kk) with
          | none =>
            have := List.find?_eq_none.mp hf _ hm
            simp at this
          | some w =>
            have hw := List.mem_of_find?_eq_some hf
            have hp := List.find?_some hf
            simp only [decide_eq_true_eq] at hp
            obtain ⟨i1, e1⟩ := List.getElem?_of_mem hw
            have : i1 = i := by
              have n2 := nd.2
              have a1 : (r.map (·.1))[i1]? = some kk := by rw [List.getElem?_map, e1]; simp [hp]
              have a2 : (r.map (·.1))[i]? = some kk := by rw [List.getElem?_map, gk]; rfl
              have l1 := (List.getElem?_eq_some_iff.mp a1).1
              exact (List.getElem?_inj l1 n2).mp (a1.trans a2.symm)
            subst this
            rw [gk] at e1
            cases e1
            rfl
    refine ⟨?_, _, e4, _, e6, d, .bl z, rfl, .inl ⟨kvs, kk, .inr ⟨od, g1⟩, rfl, gv.symm⟩, z, rfl, ?_⟩
    · rw [wipe_set (by decide)]
      apply List.ext_getElem?
      intro j
      by_cases hj : j ∈ [6]
      · rw [wipe_in hj, wipe_in hj, wipe_length]
      · simp only [wipe_out hj]
    · have tk : kvs.take (i + 1) = kvs.take i ++ [(kk, .bl z)] := by rw [List.take_add_one, gk]; rfl
      have nn : ∀ b' o, H b' = some o → b' ≠ L := fun b' o e => ne_of_none e hL'
      cases z with
      | true =>
        refine iteT ⟨_, e6, _, g3, ?_, ?_, ?_, ?_⟩
        · refine Nat.lt_of_le_of_lt (Nat.le_trans (by unfold yesW; rw [List.length_map]; exact List.length_filter_le _ _) (Nat.le_trans (List.length_take_le _ _) (Nat.le_of_lt hi))) (small1000 hl)
        · rw [upd_ne (Ne.symm hLd)]; exact g1
        · intro b' o e hb'
          rw [upd_ne (nn b' o e)]; exact g2 b' o e hb'
        · rw [upd_same, tk]
          simp [yesW]
      | false =>
        refine iteF ⟨g1, g2, ?_⟩
        rw [g3, tk]
        simp [yesW]
  · obtain ⟨g1, g2, g3⟩ := g
    refine ⟨g1, q _ _ L ⟨?_, ?_, h.ec, fun b' o e => ?_, ?_⟩ ?_ ?_⟩
    · rw [List.getElem?_set_ne (by decide)]; exact h.r
    · rw [upd_ne (Ne.symm hda)]; exact g2 a _ h.ex (Ne.symm hda)
    · rw [upd_ne (ne_of_none e h0)]; exact g2 b' o (h.up b' o e) (ne_of_none e h0)
    · rw [List.length_set]; exact h.len
    · exact List.getElem?_set_self (by rw [h.len]; decide)
    · rw [upd_ne hLd, g3, List.take_length]
/-- return (names[0],) if len(names) == 1 and isinstance(refused, ValueError) else ("is wrong",) -/
theorem h_ret {w : Str} {e2 : Expr} {n : Addr} {t2 : Nat} (O : Ok [] G Ngh sg k X) (hi : Free G "isinstance") (hln : Free G "len") (hve : Free G "ValueError") (hgi : sg.names.lookup ("isinstance" : Str) = some .globalImplicit) (hgl : sg.names.lookup ("len" : Str) = some .globalImplicit) (hgv : sg.names.lookup ("ValueError" : Str) = some .globalImplicit)
    (hr : Vis sg "refused") (hn : Vis sg "names") (hk : PySem.W.kitOne G.K (.ref C) (.type "ValueError") = some true)
    {σ : St} {H : Hp} {D : Ends} (h : Hs X.K H1 a C σ H) (h5 : σ[5]? = some (some (.ref n))) (hN : H n = some (.lst [.str w])) (q : ∀ p, H p = none → D.rt (.ref p) (upd H p (.tup [.str w]))) :
    wpS X (.Return (some (.IfExp (.BoolOp .And [.Compare (.Call (.Name "len" p) [.Name "names" p1] [] p2) [.Eq] [.Constant (.int 1) j1 p3] p4, .Call (.Name "isinstance" p5) [.Name "refused" p6, .Name "ValueError" p7] [] p8] p9)
      (.Tuple [.Subscript (.Name "names" q1) (.Constant (.int 0) j2 q2) q3] t2 q4) e2 q5)) q6) D σ H := by
  have hv : PE X (.Call (.Name "isinstance" p5) [.Name "refused" p6, .Name "ValueError" p7] [] p8) (fun σ H Q => σ[1]? = some (some (.ref a)) ∧ H a = some (ExH (.ref C) a) ∧ ExcC X.K C ∧ Q (.bl true) H) := by
    have h := pe_callB (X := X) (p := p5) (pos := p8) call_isK (by show X.env.scope.names.lookup ("isinstance" : Str) = _; rw [O.es]; exact hgi) (by rw [O.em]; exact hi) (by decide +kernel : bootBuiltins "isinstance" = some (.builtin "isinstance"))
      (pa_cons (pe_var (i := 1) (pos := p6) (by rw [O.eN]; rfl) (by rw [O.es]; exact hr) (by decide) (by decide)) (pa_cons (pe_bltn (v := .ty "ValueError") (pos := p7) (by show X.env.scope.names.lookup ("ValueError" : Str) = _; rw [O.es]; exact hgv) (by rw [O.em]; exact hve) (by decide +kernel : bootBuiltins "ValueError" = some (.type "ValueError")) rfl) pa_nil))
    exact ⟨fun pins s σ H Q I ⟨e1, e2, e3, e4⟩ => h.run pins s σ H Q I ⟨_, e1, a, C, .ty "ValueError", .type "ValueError", true, rfl, e2, e3, fun u r => r, by rw [O.eK]; exact hk, e4⟩⟩
  refine wpS_of (ps_ret (pe_ifExp (PW.pt (pw_and (pt_cmpR op_eq (pe_callB call_len_seq (by show X.env.scope.names.lookup ("len" : Str) = _; rw [O.es]; exact hgl) (by rw [O.em]; exact hln) (by decide +kernel) (pa_cons (pe_var (i := 5) (by rw [O.eN]; rfl) (by rw [O.es]; exact hn) (by decide) (by decide)) pa_nil)) pe_int (nomark _)) (pw_and1 (pt_val hv))))
    (pe_tup (pa_cons (pe_ix ix_list (pe_var (i := 5) (by rw [O.eN]; rfl) (by rw [O.es]; exact hn) (by decide) (by decide)) pe_int (fun _ _ => rfl)) pa_nil)) pe_w)) ?_
  refine ⟨_, h5, n, _, rfl, .inl (SqL.of hN), rfl, _, rfl, iteT ⟨h.r, h.ex, h.ec, true, rfl, iteT ?_⟩⟩
  exact ⟨_, h5, n, _, _, _, rfl, rfl, SqL.of hN, rfl, by show 1 ≤ sizeLine; decide, q⟩
end
end Pu
/-! ### _law_heard(lambda: e) -/
namespace Pu
open PySem PySem.Spec PyProof.Rows L2
/-- the table of the def in which lambdas are made -/
structure LamOk (τ : Tn) (X : Cx) (c P : Addr) (q : Str) : Prop where
  TB : LamX.TabB X.base X.mg c P
  cd : X.env.code = .ref c
  hq : q = X.env.qual ++ "<lambda>"
  ad : τ.ad P
  tab : ∀ H, τ.inv H → LamX.TabS H P q
  keep : ∀ H H1, τ.inv H → (∀ b o, H b = some o → b ≠ P → H1 b = some o) → LamX.TabS H1 P q → τ.inv H1
theorem lamOk_tw {T R c P : Addr} {Ts : List (Addr × Str)} {z : Hp → Prop} {X : Cx} {q : Str} {G : Gx} {cd : Value} {qx : Str} (em : X.mg = G.mg) (eb : X.base = G.base) (TB : LamX.TabB G.base G.mg c P) (at_ : AtC X cd qx) (hcd : cd = .ref c) (hq : q = qx ++ "<lambda>") (hm : (P, q) ∈ Ts) (hu : ∀ p ∈ Ts, p.1 = P → p.2 = q) : LamOk (tw T R Ts z) X c P q where
  TB := by rw [em, eb]; exact TB
  cd := at_.code.trans hcd
  hq := by rw [at_.qual]; exact hq
  ad := .inr (.inr ⟨_, hm, rfl⟩)
  tab := fun H h => h.2 _ hm
  keep := fun H H1 h up t => by
    obtain ⟨⟨n, c0, kvs, h1, h2, h3⟩, ht⟩ := h
    obtain ⟨ps, g1, _, _⟩ := ht _ hm
    have nT : T ≠ P := fun e => by rw [e, g1] at h1; cases h1
    have nR : R ≠ P := fun e => by rw [e, g1] at h2; cases h2
    refine ⟨⟨n, c0, kvs, up T _ h1 nT, up R _ h2 nR, h3⟩, fun p hp => ?_⟩
    by_cases e : p.1 = P
    · rw [hu p hp e, e]; exact t
    · obtain ⟨ps', f1, f2, f3⟩ := ht p hp
      refine ⟨ps', up _ _ f1 e, f2, fun pos cv hc => ?_⟩
      obtain ⟨c1, e1, e2⟩ := f3 pos cv hc
      exact ⟨c1, e1, up _ _ e2 fun e => by rw [e, g1] at e2; cases e2⟩
/-- all is laid still -/
def frzS : Sl → Sl
  | .lst ds => .dat (.list ds)
  | .dic _ => .un
  | .dtc _ => .un
  | .th _ => .un
  | .dls _ => .un
  | s => s
theorem Rep.freeze {K : PySem.W.Frag} {τ : Tn} {H0 H : Hp} {γ : List (V × D)} {σ : St} {ρ : En} {z : Hp → Prop} (r : Rep K τ H0 γ H σ ρ) (hz : z H) : Rep K (τ.at_ z) H [] H σ (ρ.map frzS) := by
  have nown : ∀ {i : Nat} {s : Sl}, (ρ.map frzS)[i]? = some s → s.isOwn = false := fun {i s} h => by
    rw [List.getElem?_map] at h
    obtain ⟨u, _, rfl⟩ := Option.map_eq_some_iff.mp h
    cases u <;> rfl
  have only : ∀ a, own (τ.at_ z) σ (ρ.map frzS) a → τ.ad a := fun a h => by
    rcases h with h | ⟨i, s, h1, h2, _⟩
    · exact h
    · rw [nown h1] at h2; cases h2
  have le : Same (res H (own τ σ ρ)) (res H (own (τ.at_ z) σ (ρ.map frzS))) := res_mono fun a o n e => ⟨fun y => n (own_ad (only a y)), e⟩
  refine ⟨by rw [List.length_map]; exact r.len, fun _ _ e _ => e, r.inv, fun i s h => ?_, fun i j s t a h1 _ h3 => ?_, (fun p hp => by cases hp), hz⟩
  · rw [List.getElem?_map] at h
    obtain ⟨u, hu, rfl⟩ := Option.map_eq_some_iff.mp h
    have q := r.sl i u hu
    cases u with
    | un => trivial
    | dat d =>
      obtain ⟨v, e1, e2⟩ := q
      exact ⟨v, e1, dp_same le _ _ e2⟩
    | lst ds =>
      obtain ⟨a, vs, e1, _, hn, e2, e3⟩ := q
      exact ⟨_, e1, .lst (.inl (.inl (res_put (fun y => hn (only a y)) e2))) (dpAll_same le _ _ e3)⟩
    | dic kds => trivial
    | town => exact q
    | ldc kds =>
      obtain ⟨a, od, kvs, e1, e2, e3⟩ := q
      exact ⟨a, od, kvs, e1, le _ _ e2, KvOk.same le e3⟩
    | dtc kds => trivial
    | th x => trivial
    | dls m => trivial
    | tv x =>
      obtain ⟨a, e1, e2⟩ := q
      exact ⟨a, e1, e2.same le⟩
    | tl x =>
      obtain ⟨a, od, o, e1, e2, e3⟩ := q
      exact ⟨a, od, o, e1, le _ _ e2, e3.same le⟩
  · rw [nown h1] at h3; cases h3
/-- the refusal C is heard as w -/
def keysH : List (Str × Str) := [("NoDate", "no date"), ("BadWay", "bad way"), ("NoText", "no text"), ("NoEdition", "no edition"), ("NoZone", "no zone"), ("NoComing", "no coming"), ("NoWork", "no work"), ("BadRate", "bad rate"), ("BadZones", "bad zones"), ("BadName", "bad name"), ("Taken", "taken"), ("BadWish", "bad wish"), ("BadTask", "bad task"), ("NoWish", "no wish"), ("NoRing", "no ring"), ("NoBack", "no back")]
def kvN (bs : Str → Bool) (n : Nat) : List (Key × V) := (keysH.take n).map fun y => ((.inr y.2 : Key), V.bl (bs y.1))
theorem kvN_len {bs : Str → Bool} {n : Nat} : (kvN bs n).length ≤ 1000 := by
  unfold kvN
  rw [List.length_map, List.length_take]
  exact Nat.le_trans (Nat.min_le_right _ _) (by decide)
theorem kvN_bl {bs : Str → Bool} {n : Nat} : ∀ p ∈ kvN bs n, ∃ z, p.2 = V.bl z := fun p hp => by
  obtain ⟨y, _, rfl⟩ := List.mem_map.mp hp
  exact ⟨_, rfl⟩
structure HearOk (G : Gx) (C : Addr) (bs : Str → Bool) (w : Str) : Prop where
  ec : ExcC G.K C
  te : ∃ CT, G.mg "TimeError" = some (.ref CT) ∧ PySem.W.exmOne G.K (.ref C) (.ref CT) = some true
  ve : PySem.W.kitOne G.K (.ref C) (.type "ValueError") = some true
  kl : ∀ y ∈ keysH, Kl G C y.1 (bs y.1)
  yes : yesW (keysH.map fun y => ((.inr y.2 : Key), V.bl (bs y.1))) = [.str w]
/-- how the heard refusals are called -/
abbrev Hn := Str → Option Str
def HearAll (G : Gx) (hn : Hn) : Prop := ∀ x C w, ExC G x C → hn x = some w → ∃ bs, HearOk G C bs w
def HearE (G : Gx) (Q : VK) : XK := fun cls d H' => ∃ C bs w, d = none ∧ cls = .ref C ∧ HearOk G C bs w ∧ ∀ p H'', Same H' H'' → H' p = none → H'' p = some (.tup [.str w]) → Q (.ref p) H''
def HearQ (Q : VK) : VK := fun v H' => ∀ p, H' p = none → Q (.ref p) (upd H' p (.tup [.str "told", v]))
def TTh (G : Gx) : Tel → Hp → VK → Prop := fun tl H Q => ∀ H0, Same H H0 → ∀ (Ech : XK) (Qn : VK), (∀ cls d H', HearE G Q cls d H' → Ech cls d H') → (∀ v H', HearQ Q v H' → Qn v H') → tl Ech H0 Qn
/-- what is known of the def _law_heard -/
structure HearD (G : Gx) (g : Addr) : Prop where
  ex : ∃ (oc dV kV doc pm cdv ct : Value) (od an : Option Addr) (osl : Array (Option Value)) (pg : Arguments) (bg : List Stmt) (sg : Scope), G.mg "_law_heard" = some (.ref g) ∧ PySem.W.keepIn G.K (.ref g) = true ∧
    G.K.lookup g = some ⟨oc, od, .func (PySem.W.fnOf "_law_heard" "_law_heard" pg bg sg dV kV doc pm an cdv ct), osl⟩ ∧ PySem.W.codeIn G.K cdv "_law_heard" = true ∧ L2.Binds G.K (PySem.W.fnOf "_law_heard" "_law_heard" pg bg sg dV kV doc pm an cdv ct) ["deed"] [] ∧
    FnScope Ngh ["deed"] sg ∧ Vis sg "deed" ∧ ∀ (X : Cx) (q : Str), X.prog = G.P → X.w = G.w → X.K = G.K → X.mg = G.mg → X.base = G.base → Room 1 X.A → LamX.GivesTo X Ngh "_law_heard" sg g cdv bg "deed" q (TTh G)
def eHeard (hn : Hn) (tb : Xw → UV) : UV := fun ρ C => tb (fun x => ∃ w, hn x = some w ∧ C (.tuple [.str w])) (ρ.map frzS) fun d => lf d = true ∧ C (.tuple [.str "told", d])
section
variable {τ : Tn} {G : Gx} {cp : List Str} {N : List Str} {sc lsc : Scope} {k j : Nat} {X : Cx} {e : Expr} {args : Arguments} {p lpos pos : Pos} {g c P : Addr} {q : Str} {hn : Hn} {tb : Xw → UV}
theorem jd_heard (O : Ok cp G N sc k X) (L : LamOk τ X c P q) (Hd : HearD G g) (Ha : HearAll G hn) (hb : ∀ z X' ξ, Ok [] G N lsc j X' → XOk G (τ.at_ z) ξ X' → JD (τ.at_ z) X' e (tb ξ)) (hj : j + 2 ≤ k := by decide)
    (hL : LamX.lamSB sc lsc = true := by decide +kernel) (hg : sc.names.lookup ("_law_heard" : Str) = some .globalImplicit := by rfl) (hdf : ∀ env : Env, defaultsOf args env = ([], []) := by intro _; rfl)
    (hbd : ∀ (q : Str) (cl : List (Str × Addr)) (pm cv ctv : Value), bindArgs (PySem.W.kla_fn "<lambda>" q args e lsc cl pm cv ctv) ⟨[], []⟩ = pure [] := by intro _ _ _ _ _; rfl) :
    JD τ X (.Call (.Name "_law_heard" p) [.Lambda args e lsc lpos] [] pos) (eHeard hn tb) := by
  obtain ⟨oc, dV, kV, doc, pm, cdv, ct, od, an, osl, pg, bg, sg, h1, h2, h3, h4, h5, h6, h7, h8⟩ := Hd.ex
  have LS : LamX.LamS X.env.scope lsc := by rw [O.es]; exact LamX.lamS_by hL
  intro ρ C cc H0 γ σ H r Q qq
  refine wpE_of (pe_hand (k := j) (t := fun E σ H Q => ∀ (A : Around) (outer : List Env) (s : Shared) (HH : Hp) (f c' : Addr), Room j (A.deeper (LamX.lamEnv X lsc s.heap.objs.size f c')) → wpE (LamX.lamCx X A outer s HH E lsc f c') e σ H Q) L.hq (by show X.env.scope.names.lookup _ = _; rw [O.es]; exact hg) (by rw [O.em]; exact h1) (by rw [O.eK]; exact h2) (by rw [O.eK]; exact h3) (by rw [O.eK]; exact h4) (by rw [O.eK]; exact h5) h6 rfl h7
    (h8 X q O.eP O.ew O.eK O.em O.eb (O.room.mono (by omega))) L.TB L.cd (O.room.mono hj) LS (hdf _) hbd (fun A outer s HH E f c' hr => ⟨fun pins s' σ H' Q I h => pe_w.run pins s' σ H' Q I (h A outer s HH f c' hr)⟩)) ?_
  refine ⟨L.tab H r.inv, fun H1 up t1 H2 s2 Ech Qn hE hQ A outer s HH f c' hr => ?_⟩
  have e1 : Ext τ H H1 := ⟨fun a o ea na => up a o ea fun z => na (by rw [z]; exact L.ad), fun hi => L.keep H H1 hi up t1⟩
  have e2 : Ext τ H1 H2 := .of_same s2
  have r2 := (r.after e1).after e2
  have rf : Rep X.K (τ.at_ fun H0 => H0 = H2) H2 [] H2 σ (ρ.map frzS) := r2.freeze rfl
  have O' : ∀ E, Ok [] G N lsc j (LamX.lamCx X A outer s HH E lsc f c') := fun E => ⟨O.eP, O.ew, O.eK, O.em, O.eb, O.eN, O.nd, rfl, LS.kind, rfl, hr, fun x hx _ => absurd rfl (LS.own _ (PySem.mem_of_lookup hx)).2, PassesOwn.leaving⟩
  refine hb (fun H0 => H0 = H2) _ (fun x => ∃ w, hn x = some w ∧ C (.tuple [.str w])) (O' _) ⟨fun cls d _ H => _, takes_of rfl rfl rfl rfl, fun x u σ' H0' H' hz hξ hu he hi => ?_⟩ _ _ cc H2 [] σ H2 rf _ fun d v H3 cd e3 b => ?_
  · cases hz
    obtain ⟨w, hw, hC⟩ := hξ
    obtain ⟨Ca, rfl, hEx⟩ := hu
    obtain ⟨bs, hok⟩ := Ha x Ca w hEx hw
    refine hE _ _ _ ⟨Ca, bs, w, rfl, rfl, hok, fun p' H'' sm hp hp' => ?_⟩
    have e3 : Ext τ H2 H' := ⟨he, fun _ => hi⟩
    have e4 : Ext τ H' H'' := .of_same sm
    have e5 := ((e1.trans e2).trans e3).trans e4
    have r5 := r.after e5
    have r3 := r.after ((e1.trans e2).trans e3)
    have no : ¬ own τ σ ρ p' := fun z => by
      obtain ⟨o, eo, _⟩ := r3.ownMut z
      rw [hp] at eo; cases eo
    exact qq _ _ _ hC e5 (.tup (.inl (.inl (res_put no hp' ⟨_, rfl, fun _ z => nomatch z⟩))) (.cons (.str _) .nil))
  · refine hQ _ _ fun p' hp' => ?_
    have e3' : Ext τ H2 H3 := e3.of_at
    have e5 := ((e1.trans e2).trans e3').trans (Ext.new (τ := τ) (o := .tup [.str "told", v]) hp')
    have r3 := r.after ((e1.trans e2).trans e3')
    have r5 := r.after e5
    refine qq _ _ _ cd.2 e5 (.tup (.inl (.inl (res_put (r3.notOwn hp') upd_same ⟨_, rfl, fun _ z => nomatch z⟩))) (.cons (.str _) (.cons ?_ .nil)))
    exact dp_after (Ext.new hp') (r3.lfRes (fun a z => r3.ownMut z) res_le (fun _ _ => res_ok) cd.1 b)
end
end Pu
namespace Pu
open PySem PySem.Spec PyProof.Rows L2
/-- the first three statements of _law_heard -/
def tnF (f : Addr) : Tn := ⟨fun _ => False, fun _ => True, .ref f, fun _ h => h.elim, fun _ _ => trivial, fun _ => True⟩
section
variable {G : Gx} {sg : Scope} {g : Addr} {cdv : Value} {q : Str} {p1 p2 p3 p4 p5 p6 p7 p8 p9 q0 q1 q2 q3 q4 q5 q6 q7 q8 q9 r0 r1 r2 r3 : Pos} {t1 t2 t3 j1 j2 j3 j4 : Nat} {rest : List Stmt}
theorem hear_gives {X : Cx} (eP : X.prog = G.P) (ew : X.w = G.w) (eK : X.K = G.K) (em : X.mg = G.mg) (eb : X.base = G.base) (hr : Room 1 X.A) (S : FnScope Ngh ["deed"] sg) (hd : Vis sg "deed") (hv1 : sg.names.lookup ("refused" : Str) = some .local) (hv2 : sg.names.lookup ("found" : Str) = some .local) (hv3 : sg.names.lookup ("e" : Str) = some .local)
    (hT : sg.names.lookup ("TimeError" : Str) = some .globalImplicit) (hTm : ∃ CT, G.mg "TimeError" = some (.ref CT))
    (hw : swappedStores [.Tuple [.Name "refused" p1, .Name "found" p2] t1 p3] (.Tuple [.Constant .none j1 p4, .Constant .none j2 p5] t2 p6) { (default : Env) with scope := sg } = pure none)
    (hs0 : ∀ env : Env, swapsWithSole [.Tuple [.Name "refused" p1, .Name "found" p2] t1 p3] (.Tuple [.Constant .none j1 p4, .Constant .none j2 p5] t2 p6) p7.line env = pure false)
    (hs1 : ∀ env : Env, swapsWith (.Name "e" r1) (some (.Name "refused" r0)) r2.line env = pure false) (hs2 : ∀ env : Env, swapsWith (.Call (.Name "deed" p9) [] [] q0) (some (.Name "found" p8)) q1.line env = pure false)
    (hrest : ∀ (Y : Cx) (H1 : Hp) (a C : Addr) (bs : Str → Bool) (w : Str) (σ : St) (D : Ends), Ok [] G Ngh sg 0 Y → HearOk G C bs w → Hs Y.K H1 a C σ H1 → (∀ p H'', Same H1 H'' → H1 p = none → H'' p = some (.tup [.str w]) → D.rt (.ref p) H'') → wpSs Y rest D σ H1) :
    LamX.GivesTo X Ngh "_law_heard" sg g cdv (.Assign [.Tuple [.Name "refused" p1, .Name "found" p2] t1 p3] (.Tuple [.Constant .none j1 p4, .Constant .none j2 p5] t2 p6) p7 ::
      .Try [.Assign [.Name "found" p8] (.Call (.Name "deed" p9) [] [] q0) q1] [.ExceptHandler (some (.Name "TimeError" q2)) (some "e") [.Assign [.Name "refused" r0] (.Name "e" r1) r2] q4] [] [] q5 ::
      .If (.Compare (.Name "refused" q6) [.Is] [.Constant .none j3 q7] q8) [.Return (some (.Tuple [.Constant (.str "told") j4 q9, .Name "found" r3] t3 q3)) p1'] [] p2' :: rest) "deed" q (TTh G) := by
  intro f c' s H Q tl act hc hTT
  obtain ⟨CT, hCT⟩ := hTm
  have O : Ok [] G Ngh sg 0 (cxOf C8.CX0 X.prog X.w X.K X.mg X.base Ngh "_law_heard" sg g cdv X.A X.stack s H C8.E0).nox := ⟨eP, ew, eK, em, eb, rfl, S.nd, rfl, S.kind, rfl, hr.deeper _, fun _ _ _ => rfl, PassesOwn.never⟩
  generalize hY : (cxOf C8.CX0 X.prog X.w X.K X.mg X.base Ngh "_law_heard" sg g cdv X.A X.stack s H C8.E0).nox = Y at O
  refine ⟨wpSs Y _, pss_w, ?_⟩
  have j0 : JS (tnF f) Y (.Assign [.Tuple [.Name "refused" p1, .Name "found" p2] t1 p3] (.Tuple [.Constant .none j1 p4, .Constant .none j2 p5] t2 p6) p7) (sAsg (dC (.tuple [.none, .none])) (gTupl 2 (gsCons (gNam 1) (gsCons (gNam 2) gsNil)))) :=
    js_asgC O (jd_lit 40 rfl) (jg_tup O (jgs_cons (jg_name O 1 rfl (.inl hv1)) (jgs_cons (jg_name O 2 rfl (.inl hv2)) jgs_nil))) hw (hs0 _)
  have rep0 : Rep Y.K (tnF f) H [] H (L2.start Ngh [.ref f]) [.town, .un, .un, .un, .un, .un, .un] := by
    refine ⟨rfl, fun _ _ e _ => e, trivial, fun i s h => ?_, fun i j s t a h1 h2 h3 => ?_, (fun p hp => by cases hp), trivial⟩
    · match i, h with
      | 0, h => cases h; rfl
      | 1, h => cases h; trivial
      | 2, h => cases h; trivial
      | 3, h => cases h; trivial
      | 4, h => cases h; trivial
      | 5, h => cases h; trivial
      | 6, h => cases h; trivial
    · match i, h1 with
      | 0, h => cases h; cases h3
      | 1, h => cases h; cases h3
      | 2, h => cases h; cases h3
      | 3, h => cases h; cases h3
      | 4, h => cases h; cases h3
      | 5, h => cases h; cases h3
      | 6, h => cases h; cases h3
  refine wpSs_of (pss_cons ps_w pss_w) (j0 [.town, .un, .un, .un, .un, .un, .un] { nx := fun ρ => ρ = [.town, .dat .none, .dat .none, .un, .un, .un, .un], rt := fun _ => False } ⟨rfl, rfl⟩ H [] _ H rep0 _ ⟨fun ρ σ H' c r => ?_, fun _ _ _ c => c.elim, fun _ _ _ c => c.elim, fun _ _ _ c => c.elim⟩)
  subst c
  have s0 : σ[0]? = some (some (.ref f)) := r.sl 0 _ rfl
  have l7 : σ.length = 7 := r.len
  have sm : Same H H' := fun a o e => r.ext a o e id
  have s1 : σ[1]? = some (some .non) := by
    obtain ⟨v, e1, e2⟩ := r.sl 1 _ rfl
    cases e2; exact e1
  have tt := hTT H' sm
  clear rep0 j0 r
  have tail : ∀ (σ : St) (H' : Hp) (a : Addr), H' a = none → σ.length = 7 → ∀ (C : Addr) (bs : Str → Bool) (w : Str), HearOk G C bs w → (∀ p H'', Same H' H'' → H' p = none → H'' p = some (.tup [.str w]) → Q (.ref p) H'') →
      wpSs Y (.If (.Compare (.Name "refused" q6) [.Is] [.Constant .none j3 q7] q8) [.Return (some (.Tuple [.Constant (.str "told") j4 q9, .Name "found" r3] t3 q3)) p1'] [] p2' :: rest) { nx := fun _ H' => Q .non H', rt := Q } (((σ.set 3 (some (.ref a))).set 1 (some (.ref a))).set 3 none) (upd H' a (ExH (.ref C) a)) := by
    intro σ H' a ha hl C bs w hok hq
    have e1 : (((σ.set 3 (some (.ref a))).set 1 (some (.ref a))).set 3 none)[1]? = some (some (.ref a)) := by
      rw [List.getElem?_set_ne (by decide), List.getElem?_set_self (by rw [List.length_set, hl]; decide)]
    refine wpSs_of (pss_cons (ps_if (pt_cmpR op_isN (pe_var (i := 1) (by rw [O.eN]; rfl) (by rw [O.es]; exact .inl hv1) (by decide) (by decide)) pe_non (nomark _)) pss_w pss_nil) pss_w) ?_
    refine ⟨_, e1, rfl, _, rfl, iteF (hrest Y _ a C bs w _ _ O hok ⟨e1, upd_same, by rw [O.eK]; exact hok.ec, fun _ _ e => e, by simp [hl]⟩ fun p H'' sm2 hp hp2 => ?_)⟩
    have np : p ≠ a := fun z => by rw [z, upd_same] at hp; cases hp
    refine hq p H'' (fun b o e => sm2 b o (by rw [upd_ne (ne_of_none e ha)]; exact e)) (by rw [upd_ne np] at hp; exact hp) hp2
  subst hY
  refine wpSs_of (pss_cons (ps_try_keep (X := (cxOf C8.CX0 X.prog X.w X.K X.mg X.base Ngh "_law_heard" sg g cdv X.A X.stack s H C8.E0).nox) (i := 3) (j := 1) (c := .ref CT)
    (tb := fun W D σ H => ∃ Ech : XK, (∀ cls d σ' H', Ech cls d H' → W cls d σ' H') ∧ σ[0]? = some (some (.ref f)) ∧ H c' = some (LamX.CodeO c' q) ∧ tl Ech H fun v H' => D.nx (σ.set 2 (some v)) H')
    rfl rfl rfl O.nd rfl rfl (by decide) hv3 hv1 ⟨hT, by decide, .inl (by show X.mg _ = _; rw [em]; exact hCT)⟩ hs1 (by decide) (by decide) fun W pn xe tk _ => ?_) pss_w) ?_
  · refine ⟨fun pins t σ H D I ⟨Ech, hW, h1, h2, h3⟩ => ?_⟩
    have hp := act W pn xe Ech p9 q0 tk hW
    exact (pss_one (ps_set (i := 2) (pos := q1) O.nd rfl (.inl hv2) hp (hs2 _) (.inr hv2))).run pins t σ H D I ⟨h1, h2, h3⟩
  · refine ⟨HearE G Q, fun cls d σ' H2 ⟨C, bs, w, hd, hcl, hok, hq⟩ => ?_, s0, sm _ _ hc, tt _ _ (fun _ _ _ h => h) fun v H2 hq => ?_⟩
    · subst hd hcl
      obtain ⟨CT', g1, g2⟩ := hok.te
      rw [hCT] at g1
      cases g1
      refine ⟨rfl, by rw [O.eK]; exact g2, fun a ha hl => tail _ _ a ha hl C bs w hok hq⟩
    · refine wpSs_of (pss_cons (ps_if (pt_cmpR op_isN (pe_var (i := 1) rfl (.inl hv1) (by decide) (by decide)) pe_non (nomark _)) (pss_one (ps_ret (pe_tup (pa_cons pe_str (pa_cons (pe_var (i := 2) rfl (.inl hv2) (by decide) (by decide)) pa_nil))))) pss_nil) pss_w) ?_
      refine ⟨.non, by rw [List.getElem?_set_ne (by decide)]; exact s1, rfl, _, rfl, iteT ⟨v, List.getElem?_set_self (by rw [l7]; decide), by show 2 ≤ sizeLine; decide, hq⟩⟩
end
end Pu
namespace Pu
open PySem PySem.Spec PyProof.Rows L2
def excCB (K : PySem.W.Frag) (C : Addr) : Bool := He.eqO (PySem.W.findIn K (.ref C) "__getattribute__") (some (some (.builtin "BaseException.__getattribute__"))) && (He.eqO (PySem.W.findIn K (.ref C) "__getattr__") (some none) && (decide (PySem.W.subIn K (.ref C) (.type "BaseException") = some true) && (PySem.W.hasDictIn K C && (He.eqO (PySem.W.findIn K (.ref C) "__class__") (some (some (.builtin "object.__class__"))) &&
  (He.eqO (PySem.W.specialIn K (.builtin "object.__class__") "__get__") (some (some (.builtin "getset_descriptor.__get__"))) && (decide (PySem.W.takesIn K (.builtin "object.__class__") = some true) && decide (PySem.W.mroIn K C (.type "object") = some true)))))))
theorem excCB_ok {K : PySem.W.Frag} {C : Addr} (h : excCB K C = true) : ExcC K C := by
  obtain ⟨h1, h⟩ := He.ba h
  obtain ⟨h2, h⟩ := He.ba h
  obtain ⟨h3, h⟩ := He.ba h
  obtain ⟨h4, h⟩ := He.ba h
  obtain ⟨h5, h⟩ := He.ba h
  obtain ⟨h6, h⟩ := He.ba h
  obtain ⟨h7, h8⟩ := He.ba h
  exact ⟨He.eqO_ok h1, He.eqO_ok h2, of_decide_eq_true h3, h4, He.eqO_ok h5, He.eqO_ok h6, of_decide_eq_true h7, of_decide_eq_true h8⟩
/-- the class p.1 is heard as p.2 -/
def hearB (K : PySem.W.Frag) (p : Str × Str) : Bool := excCB K (He.ga K p.1) && (decide (PySem.W.exmOne K (.ref (He.ga K p.1)) (.ref (He.ga K "TimeError")) = some true) && (decide (PySem.W.kitOne K (.ref (He.ga K p.1)) (.type "ValueError") = some true) &&
  (keysH.all (fun y => decide (PySem.W.kitOne K (.ref (He.ga K p.1)) (.ref (He.ga K y.1)) = some (y.1 == p.1)) && He.eqO (PySem.W.nsIn K mainGlobals y.1) (some (some (.ref (He.ga K y.1))))) && (decide (yesW (keysH.map fun y => ((.inr y.2 : Key), V.bl (y.1 == p.1))) = [.str p.2]) && (He.Fa.glo "TimeError").ok K))))
theorem hearB_ok {G : Gx} {h : Heap} (X : G.K.In h) (N : h.Ns mainGlobals G.mg) {p : Str × Str} (c : hearB G.K p = true) : HearOk G (He.ga G.K p.1) (fun y => y == p.1) p.2 := by
  obtain ⟨c1, c⟩ := He.ba c
  obtain ⟨c2, c⟩ := He.ba c
  obtain ⟨c3, c⟩ := He.ba c
  obtain ⟨c4, c⟩ := He.ba c
  obtain ⟨c5, c6⟩ := He.ba c
  refine ⟨excCB_ok c1, ⟨_, He.glo_ok X N c6, of_decide_eq_true c2⟩, of_decide_eq_true c3, fun y hy => ?_, of_decide_eq_true c5⟩
  obtain ⟨d1, d2⟩ := He.ba (List.all_eq_true.mp c4 y hy)
  exact ⟨_, PySem.W.mg_of X N (He.eqO_ok d2), of_decide_eq_true d1⟩
def hnOf (l : List (Str × Str)) : Hn := fun x => l.lookup x
theorem hearAll_of {G : Gx} {h : Heap} (X : G.K.In h) (N : h.Ns mainGlobals G.mg) {l : List (Str × Str)} (c : l.all (hearB G.K) = true) (gl : l.all (fun p => (He.Fa.glo p.1).ok G.K) = true) : HearAll G (hnOf l) := fun x C w hE hw => by
  have hm : (x, w) ∈ l := PySem.mem_of_lookup hw
  have e : G.mg x = some (.ref (He.ga G.K x)) := He.glo_ok X N (List.all_eq_true.mp gl _ hm)
  rw [hE.gl] at e
  cases e
  exact ⟨_, hearB_ok X N (List.all_eq_true.mp c _ hm)⟩
theorem exC_of {G : Gx} {h : Heap} (X : G.K.In h) (N : h.Ns mainGlobals G.mg) {x : Str} (c1 : (He.Fa.glo x).ok G.K = true) (c2 : (He.Fa.exc x).ok G.K = true) : ExC G x (He.ga G.K x) := by
  obtain ⟨d1, d2, d3, d4⟩ := He.exc_ok c2
  exact ⟨He.glo_ok X N c1, d1, d2, d3, d4⟩
theorem hearD_of {G : Gx} {pg : Arguments} {bg : List Stmt} {sg : Scope} {g : Addr} {fd : FuncData} (F : FunD G.K "_law_heard" "_law_heard" pg bg sg [] [] g fd) (gl : G.mg "_law_heard" = some (.ref g))
    (hb : ∀ (kV doc pm : Value) (an : Option Addr) (cdv ct : Value) (us : List Value), us.length = 1 → bindArgs (PySem.W.fnOf "_law_heard" "_law_heard" pg bg sg .none kV doc pm an cdv ct) ⟨us, []⟩ = pure ((["deed"] : List Str).zip us)) (S : FnScope Ngh ["deed"] sg) (hv : Vis sg "deed")
    (h : ∀ (X : Cx) (cdv : Value) (q : Str), X.prog = G.P → X.w = G.w → X.K = G.K → X.mg = G.mg → X.base = G.base → Room 1 X.A → LamX.GivesTo X Ngh "_law_heard" sg g cdv bg "deed" q (TTh G)) : HearD G g := by
  have B := F.bindsN (ps := ["deed"]) hb
  obtain ⟨oc, od, dV, kV, doc, pm, an, cdv, ct, osl, rfl, lk, hcd, hD, hK⟩ := F.ex
  exact ⟨⟨oc, dV, kV, doc, pm, cdv, ct, od, an, osl, pg, bg, sg, gl, F.kp, lk, hcd, B, S, hv, fun X q => h X cdv q⟩⟩
/-- a def's code object -/
theorem code_of {K : PySem.W.Frag} {x qual : Str} {params : Arguments} {body : List Stmt} {scope : Scope} {dvs : List V} {kws : List (Str × V)} {fd : FuncData} {p : Str × Option Str} (F : FunD K x qual params body scope dvs kws (He.fAd K p) fd) : fd.code = .ref (He.codeOf K p) := by
  obtain ⟨oc, od, dV, kV, doc, pm, an, cdv, ct, osl, rfl, lk, hcd, _, _⟩ := F.ex
  obtain ⟨c, rfl⟩ := He.codeIn_ref hcd
  rw [He.codeOf_eq (c := c) lk rfl]
/-- the tables of the defs tf, each with the name of its lambdas -/
def tabsOf (K : PySem.W.Frag) (tf : List (Str × Scope)) : List (Addr × Str) := tf.map fun p => ((He.cT K (p.1, none)).2, qOf p.1 p.2 ++ "<lambda>")
theorem tabs_u {K : PySem.W.Frag} {tf : List (Str × Scope)} (h : decide (((tabsOf K tf).map Prod.fst).Nodup) = true) {P : Addr} {q : Str} (hm : (P, q) ∈ tabsOf K tf) : ∀ p ∈ tabsOf K tf, p.1 = P → p.2 = q := fun p hp e => by
  have nd : ((tabsOf K tf).map Prod.fst).Nodup := of_decide_eq_true h
  clear h
  generalize tabsOf K tf = l at *
  induction l with
  | nil => cases hp
  | cons a r ih =>
    simp only [List.map_cons, List.nodup_cons, List.mem_map, not_exists, not_and] at nd
    rcases List.mem_cons.mp hm with h1 | h1
    · rcases List.mem_cons.mp hp with h2 | h2
      · rw [h2, ← h1]
      · exact absurd (by rw [e, ← h1]) (nd.1 p h2)
    · rcases List.mem_cons.mp hp with h2 | h2
      · exact absurd (show (P, q).1 = a.1 by rw [← h2]; exact e.symm) (nd.1 _ h1)
      · exact ih h1 h2 nd.2
end Pu
namespace Pu
open PySem PySem.Spec PyProof.Rows L2
section
variable {t : Xw → US} {E : Ed} {ρ : En} {ta tb : UA} {R : Rs → Prop} {C : D → Prop} {S : SfX} {ξ : Xw} {x : Str} {n : Nat} {g : List Ar → List Ar → List Ar} {h : Hn} {tv : Xw → UV} {d : D} {ds : List D}
theorem c_sfxOf {N : List Str} {as : List Ar} : sfxOf N n t as R ξ = (as.length = n ∧ t ξ { nx := fun _ => R (.dat .none), rt := fun r => r.lf = true ∧ R r } (en0 N as)) := propext Iff.rfl
theorem c_sRaise : sRaise ξ x E ρ = ξ x := propext Iff.rfl
theorem c_eCallX : eCallX S ξ ta ρ R = ta ρ fun as => S as R ξ := propext Iff.rfl
theorem c_eCallXK : eCallXK S ξ g ta tb ρ R = ta ρ fun as => tb ρ fun bs => S (g as bs) R ξ := propext Iff.rfl
theorem c_eHeard : eHeard h tv ρ C = tv (fun x => ∃ w, h x = some w ∧ C (.tuple [.str w])) (ρ.map frzS) fun d => lf d = true ∧ C (.tuple [.str "told", d]) := propext Iff.rfl
theorem q_frz_d : frzS (.dat d) = .dat d := rfl
theorem q_frz_l : frzS (.lst ds) = .dat (.list ds) := rfl
theorem q_frz_u : frzS .un = .un := rfl
theorem q_frz_t : frzS .town = .town := rfl
end
end Pu
namespace Py
open PySem PySem.Spec PyProof.Rows L2 Pu

def q_read_span_text : {α : Type} → List α → List α → List α → List α := fun us mv ws => us ++ (ws.drop 0).take 1
def g_read_span_text : List Ar → List Ar → List Ar := fun as bs => q_read_span_text as (List.replicate 0 (.dat .none)) bs
def c_FIGURES : D := .str "0123456789"
def c_SIGNS : D := .str "MDS"
def hearL : List (Str × Str) := [("NoText", "no text")]
abbrev hn : Hn := hnOf hearL
/-! _law_draw -/
def N__law_draw : List Str := ["script", "town", "many", "at", "rest", "number"]
def t__law_draw : US := sSeq (sTick 1) (sSeq (sSet 3 (eD (dIf (bTru (vVar 0)) (d2 fMod (dCount 1) (dE (eB (fLen) (lCons (vVar 0) (fun _ C => C []))))) (dC (.int (0)))))) (sSeq (sSet 4 (eD (dRest 1 (vVar 3) (dIf (bTru (vVar 0)) (d2 fIx (vVar 0) (vVar 3)) (dC (.int (0))))))) (sSeq (sIf (b2 (fGe) (vVar 4) (d2 fPow (dC (.int (10))) (dC (.int (18))))) (sSeq (sRest 1 (vVar 3) (d2 fDiv (vVar 4) (vVar 2))) (sRet (eD (d2 fMod (vVar 4) (vVar 2))))) (sNext)) (sSeq (sSet 5 (eD (d2 fMod (d2 fAdd (vVar 4) (d2 fMul (dC (.int (104729))) (dCount 1))) (dC (.int (4294967291)))))) (sSeq (sSet 5 (eD (d2 fMod (d2 fPow (vVar 5) (dC (.int (5)))) (dC (.int (4294967279)))))) (sRet (eD (d2 fMod (d2 fDiv (d2 fMod (d2 fAdd (d2 fMul (d2 fDiv (vVar 5) (dC (.int (64)))) (dC (.int (69621)))) (vVar 5)) (dC (.int (4294967231)))) (dC (.int (8)))) (vVar 2)))))))))
@[irreducible] def S__law_draw : Sf := sfOf N__law_draw 3 t__law_draw
/-! _law_text -/
def N__law_text : List Str := ["span", "found", "number", "sign"]
def b__law_text_1 : US := sSet 1 (eAdd (vVar 1) (dIf (b2 (fEq true) (vVar 2) (dC (.int (0)))) (d2 fAdd (dE (eB (fStrI) (lCons (vVar 2) (fun _ C => C [])))) (vVar 3)) (dC (.str ""))))
def t__law_text : US := sSeq (sSet 1 (eD (dC (.str "P")))) (sSeq (sFor (iZipTS (dVar 0) (dC (.str "MDS"))) (gTupl 2 (gsCons (gNam 2) (gsCons (gNam 3) (gsNil)))) b__law_text_1) (sRet (eD (dIf (b2 (fEq true) (vVar 1) (dC (.str "P"))) (dVar 1) (dC (.str "P0S"))))))
@[irreducible] def S__law_text : Sf := sfOf N__law_text 1 t__law_text
/-! number_in -/
def N_number_in : List Str := ["word", "figures", "found", "sign"]
def t_number_in : US := sSeq (sSet 1 (eIf (bTru (dE (eM1 fStarts (vVar 0) (dC (.str "-"))))) (eCut (vVar 0) (oSome (dC (.int (1)))) (oNone)) (eD (dVar 0)))) (sSeq (sIf (bOr (bNot (b3 (fLe) (fLe) (dC (.int (1))) (dE (eB (fLen) (lCons (vVar 1) (fun _ C => C [])))) (dC (.int (30))))) (bNot (bTru (dE (eB (fAllB fun bs => bs.all id) (lCons (dE (eLc (iSeq (vVar 1)) (gNam 3) (bYes) (dB (b2 (fIn false) (vVar 3) (dC c_FIGURES))) [3])) (fun _ C => C []))))))) (sNever) (sNext)) (sSeq (sSet 2 (eIf (bTru (dE (eM1 fStarts (vVar 0) (dC (.str "-"))))) (eD (d1 fNeg (dE (eB (fIntS) (lCons (vVar 1) (fun _ C => C [])))))) (eB (fIntS) (lCons (vVar 1) (fun _ C => C []))))) (sSeq (sIf (b2 (fEq true) (dE (eB (fStrI) (lCons (vVar 2) (fun _ C => C [])))) (vVar 0)) (sNever) (sNext)) (sRetV 2))))
@[irreducible] def S_number_in : Sf := sfOf N_number_in 1 t_number_in
def tx_number_in (ξ : Xw) : US := sSeq (sSet 1 (eIf (bTru (dE (eM1 fStarts (vVar 0) (dC (.str "-"))))) (eCut (vVar 0) (oSome (dC (.int (1)))) (oNone)) (eD (dVar 0)))) (sSeq (sIf (bOr (bNot (b3 (fLe) (fLe) (dC (.int (1))) (dE (eB (fLen) (lCons (vVar 1) (fun _ C => C [])))) (dC (.int (30))))) (bNot (bTru (dE (eB (fAllB fun bs => bs.all id) (lCons (dE (eLc (iSeq (vVar 1)) (gNam 3) (bYes) (dB (b2 (fIn false) (vVar 3) (dC c_FIGURES))) [3])) (fun _ C => C []))))))) (sRaise ξ "NoText") (sNext)) (sSeq (sSet 2 (eIf (bTru (dE (eM1 fStarts (vVar 0) (dC (.str "-"))))) (eD (d1 fNeg (dE (eB (fIntS) (lCons (vVar 1) (fun _ C => C [])))))) (eB (fIntS) (lCons (vVar 1) (fun _ C => C []))))) (sSeq (sIf (b2 (fEq true) (dE (eB (fStrI) (lCons (vVar 2) (fun _ C => C [])))) (vVar 0)) (sRaise ξ "NoText") (sNext)) (sRetV 2))))
@[irreducible] def X_number_in : SfX := sfxOf N_number_in 1 tx_number_in
abbrev U_number_in : SfX := orX S_number_in X_number_in
/-! span_text -/
def N_span_text : List Str := ["span", "parts", "number", "sign"]
def t_span_text : US := sSeq (sSet 1 (eLc (iZipTZ (vVar 0) (dC c_SIGNS)) (gTupl 2 (gsCons (gNam 2) (gsCons (gNam 3) (gsNil)))) (b2 (fEq true) (vVar 2) (dC (.int (0)))) (dJs [dFmt (dVar 2), dFmt (dVar 3)]) [2, 3])) (sRet (eAdd (dC (.str "P")) (dE (eIf (bTru (vVar 1)) (eM1 fJoin (dC (.str "")) (vVar 1)) (eD (dC (.str "0S")))))))
@[irreducible] def S_span_text : Sf := sfOf N_span_text 1 t_span_text
/-! read_span -/
def N_read_span : List Str := ["text", "told", "word", "sign", "found"]
def b_read_span_1 : US := sIf (bAnd (b2 (fIn false) (vVar 3) (dC c_SIGNS)) (bInK true 1 (dVar 3))) (sSeq (sDPutD 1 (dVar 3) (dE (eCall S_number_in (aCons (vVar 2) (aNil))))) (sSet 2 (eD (dC (.str ""))))) (sAug 2 fAugS (vVar 3))
def t_read_span : US := sSeq (sPlr2 1 2 (eDic0) (eD (dC (.str "")))) (sSeq (sFor (iSeq (dE (eCut (vVar 0) (oSome (dC (.int (1)))) (oNone)))) (gNam 3) b_read_span_1) (sSeq (sSet 4 (eB (fTuple) (lCons (dE (eLc (iSeq (dC c_SIGNS)) (gNam 3) (bYes) (dGet2 1 (dVar 3) (dC (.int (0)))) [3])) (fun _ C => C [])))) (sSeq (sIf (bOr (b2 (fEq true) (vVar 2) (dC (.str ""))) (b2 (fEq true) (dE (eCall S_span_text (aCons (vVar 4) (aNil)))) (vVar 0))) (sNever) (sNext)) (sRetV 4))))
@[irreducible] def S_read_span : Sf := sfOf N_read_span 1 t_read_span
def bx_read_span_1 (ξ : Xw) : US := sIf (bAnd (b2 (fIn false) (vVar 3) (dC c_SIGNS)) (bInK true 1 (dVar 3))) (sSeq (sDPutD 1 (dVar 3) (dE (eCallX U_number_in ξ (aCons (vVar 2) (aNil))))) (sSet 2 (eD (dC (.str ""))))) (sAug 2 fAugS (vVar 3))
def tx_read_span (ξ : Xw) : US := sSeq (sPlr2 1 2 (eDic0) (eD (dC (.str "")))) (sSeq (sFor (iSeq (dE (eCut (vVar 0) (oSome (dC (.int (1)))) (oNone)))) (gNam 3) (bx_read_span_1 ξ)) (sSeq (sSet 4 (eB (fTuple) (lCons (dE (eLc (iSeq (dC c_SIGNS)) (gNam 3) (bYes) (dGet2 1 (dVar 3) (dC (.int (0)))) [3])) (fun _ C => C [])))) (sSeq (sIf (bOr (b2 (fEq true) (vVar 2) (dC (.str ""))) (b2 (fEq true) (dE (eCall S_span_text (aCons (vVar 4) (aNil)))) (vVar 0))) (sRaise ξ "NoText") (sNext)) (sRetV 4))))
@[irreducible] def X_read_span : SfX := sfxOf N_read_span 1 tx_read_span
abbrev U_read_span : SfX := orX S_read_span X_read_span
/-! law -/
def N_law : List Str := ["script", "town", "k", "span", "part", "great", "small", "line", "j", "at", "sign", "others", "other", "told"]
def b_law_1 : US := sIf (b2 (fEq true) (eHeard hn (fun ξ => dE (eCallX U_read_span ξ (aCons (vVar 7) (aNil))))) (dC (.tuple [.str "no text"]))) (sRet (eD (dC (.bool false)))) (sNext)
def b_law_2 : US := sSeq (sPar2 9 10 (eCall S__law_draw (aCons (vVar 0) (aTown 1 (aCons (d2 fAdd (dE (eB (fLen) (lCons (vVar 7) (fun _ C => C [])))) (dC (.int (1)))) (aNil))))) (eD (d2 fIx (dC (.str "PMDS-+0123 ")) (dE (eCall S__law_draw (aCons (vVar 0) (aTown 1 (aCons (dC (.int (11))) (aNil))))))))) (sSeq (sSet 11 (eLst (lCons (d2 fAdd (d2 fAdd (dE (eCut (vVar 7) (oNone) (oSome (vVar 9)))) (vVar 10)) (dE (eCut (vVar 7) (oSome (vVar 9)) (oNone)))) (lCons (d2 fAdd (dE (eCut (vVar 7) (oNone) (oSome (vVar 9)))) (dE (eCut (vVar 7) (oSome (d2 fAdd (vVar 9) (dC (.int (1))))) (oNone)))) (fun _ C => C []))))) (sSeq (sAppend 11 (d2 fAdd (d2 fAdd (dE (eCut (vVar 7) (oNone) (oSome (vVar 9)))) (vVar 10)) (dE (eCut (vVar 7) (oSome (d2 fAdd (vVar 9) (dC (.int (1))))) (oNone))))) (sSeq (sSet 12 (eD (d2 fIx (vVar 11) (dE (eCall S__law_draw (aCons (vVar 0) (aTown 1 (aCons (dC (.int (3))) (aNil))))))))) (sSeq (sSet 13 (eD (eHeard hn (fun ξ => dE (eCallX U_read_span ξ (aCons (vVar 12) (aNil))))))) (sIf (bAnd (b2 (fEq true) (vVar 13) (dC (.tuple [.str "no text"]))) (bOr (b2 (fEq true) (dE (eB (fLen) (lCons (vVar 13) (fun _ C => C [])))) (dC (.int (2)))) (b2 (fEq true) (dE (eCall S__law_text (aCons (d2 fIx (vVar 13) (dC (.int (1)))) (aNil)))) (vVar 12)))) (sRet (eD (dC (.bool false)))) (sNext))))))
def b_law_3 : US := sSeq (sPar2 5 6 (eD (d2 fSub (dE (eCall S__law_draw (aCons (vVar 0) (aTown 1 (aCons (dC (.int (99))) (aNil)))))) (dC (.int (50))))) (eD (d2 fSub (dE (eCall S__law_draw (aCons (vVar 0) (aTown 1 (aCons (dC (.int (9))) (aNil)))))) (dC (.int (4)))))) (sAppend 3 (d2 fIx (dE (eLst (lCons (dC (.int (0))) (lCons (dVar 5) (lCons (dVar 6) (fun _ C => C [])))))) (dE (eCall S__law_draw (aCons (vVar 0) (aTown 1 (aCons (dC (.int (3))) (aNil))))))))
def b_law_4 : US := sSeq (sSet 3 (eLst (fun _ C => C []))) (sSeq (sFor (iRange1 (dC (.int (3)))) (gNam 4) b_law_3) (sSeq (sSet 3 (eB (fTuple) (lCons (vVar 3) (fun _ C => C [])))) (sSeq (sSet 7 (eCall S__law_text (aCons (vVar 3) (aNil)))) (sSeq (sIf (bOr (b2 (fEq true) (dE (eCall S_span_text (aCons (vVar 3) (aNil)))) (vVar 7)) (b2 (fEq true) (dE (eCallK S_read_span g_read_span_text (aNil) (aCons (vVar 7) (aNil)))) (vVar 3))) (sRet (eD (dC (.bool false)))) (sNext)) (sFor (iRange1 (dC (.int (4)))) (gNam 8) b_law_2)))))
def t_law : US := sSeq (sFor (iRange1 (dC (.int (5)))) (gNam 2) b_law_4) (sSeq (sFor (iSeq (dC (.tuple [.str "", .str "P", .str "P0M", .str "P1S2D", .str "P01D", .str "P-0S", .str "1D", .str "P1D1D", .str "P1", .str "p1D", .str "PM", .str "P+1D"]))) (gNam 7) b_law_1) (sRet (eD (dAnd (dB (b2 (fEq false) (dE (eCall S_read_span (aCons (dC (.str "P-1M2D-3S")) (aNil)))) (dC (.tuple [.int (-1), .int (2), .int (-3)])))) (dB (b2 (fEq false) (dE (eCall S_read_span (aCons (dC (.str "P0S")) (aNil)))) (dC (.tuple [.int (0), .int (0), .int (0)]))))))))
local macro_rules | `(tactic| walk_at "pu") => `(tactic| try simp -implicitDefEqProofs only [c_sfOf, en0, Ar.sl, List.map_cons, List.map_nil, List.length_cons, List.length_nil, List.replicate, List.cons_append, List.nil_append, List.set_cons_zero, List.set_cons_succ, List.set_nil, List.getElem?_cons_zero, List.getElem?_cons_succ, List.getElem?_nil, List.drop_zero, List.drop_succ_cons, List.drop_nil, List.take_zero, List.take_succ_cons, List.take_nil, List.append_nil, Nat.reduceAdd, Nat.reduceSub, Nat.zero_add, true_and, and_true, false_and, and_false, q_sl_d, q_sl_l, q_lf_d, q_lf_l, lf, lfAll, lf_app, cut_f1, cut_f2, cut_f3, cut_t1, cut_t2, cut_t3, cut_f4, cut_f5, cut_f6, cut_f7, cut_f8, cut_t4, cut_t5, cut_t6, cut_t7, cut_t8, Bool.and_true, Bool.true_and, c_sNext, c_sSeq, c_sNever, c_sBreak, c_sCont, c_sDrop, c_sRet, c_sRetN, c_sIf, c_sSet, c_gNam, c_gsNil, c_gsCons, c_gTupl, c_sAsg, c_sPar2, c_sPar3, c_sExtend, c_sFor, c_sFrz, c_iSeq, c_iRange1, c_iRange2, c_iEnumS, c_iZip2, c_eLc, wipeS, bYes, c_eD, c_dE, c_lCons, q_vVar, q_dVar, vSl_d, vSl_l, dSl_d, q_retV, rSl_d, rSl_l, q_aug, aSl_d, lSl_l, q_append, q_pop, c_dC, c_dTup, c_eLst, c_d2, c_d1, c_dB, c_b2, c_b3, c_bTru, c_bAnd, c_bOr, c_bNot, c_dAnd, c_dOr, c_dNot, c_eIf, c_dIf, c_oNone, c_eCut, c_aNil, c_aCons, c_aTown, c_eCall, c_eCallK, c_eB, c_sTick, c_dCount, c_dRest, c_sRest, ixC_some, ixC_none, q_add_i, q_add_s, q_add_t, q_add_l, q_rep, c_gLstl, q_sorted, c_eAdd, q_adde_i, q_adde_s, q_adde_t, q_adde_l, q_min_t, q_min_l, q_max_t, q_max_l, q_sub, q_int, q_i0, q_neg, q_ord, q_lt_i, q_lt_s, q_lt_t, q_gt_i, q_gt_t, q_ix_t, q_ix_l, q_eqf_i, q_eqt_i, q_is_nn, q_is_in, q_is_sn, q_is_ln, q_is_tn, q_is_bn, q_is_bb, q_in_t, q_in_l, q_in_s, q_bk, q_cut_l, q_cut_t, q_cut_s, q_osome, q_len_l, q_len_t, q_len_s, q_i1, q_i2, q_tup_l, q_tup_t, q_list_l, q_list_t, q_divmod, q_int1_i, q_int1_b, q_sum_l, q_sum_t, q_all, q_cold_d, q_cold_l, q_seq_l, q_seq0_l, q_seq0_t, q_seq_s, q_seq_t, q_zip_l, q_zip_t, q_zip_m, q_zip_n, q_tru_b, q_tru_i, q_tru_l, q_tru_t, q_own_nil, q_own_cons, ownN_un, ownN_dat, ownN_town, ownN_none, at0, at1, at2, at3, at4, PyData.int.injEq, exists_eq_left', exists_eq_left, q_isi, tyName, kit_NoneType_bool, kit_NoneType_int, kit_NoneType_str, kit_NoneType_list, kit_NoneType_tuple, kit_bool_bool, kit_bool_int, kit_bool_str, kit_bool_list, kit_bool_tuple, kit_int_bool, kit_int_int, kit_int_str, kit_int_list, kit_int_tuple, kit_str_bool, kit_str_int, kit_str_str, kit_str_list, kit_str_tuple, kit_list_bool, kit_list_int, kit_list_str, kit_list_list, kit_list_tuple, kit_tuple_bool, kit_tuple_int, kit_tuple_str, kit_tuple_list, kit_tuple_tuple, Bool.not_true, Bool.not_false, forall_const, false_implies, true_implies, reduceCtorEq, eq_self, Bool.not_eq_true', Bool.not_eq_false', decide_eq_true_eq, decide_eq_false_iff_not, if_true, if_false, ite_true, ite_false, Bool.false_eq_true, if_pos, Bool.not_not, not_true_eq_false, not_false_eq_true, tSl_t, xRs_l, frSl_l, frSl_d, Option.some.injEq, c_sfxOf, c_sRaise, c_eCallX, c_eCallXK, c_eHeard, q_frz_d, q_frz_l, q_frz_u, q_frz_t, c_eRev, c_sPlr2, c_dGet2, c_bInK, c_dJs, c_js0, c_js1, tS_s, c_dFmt, strD_i, strD_s, strD_n, strD_b, c_iZipTZ, q_zipTZ, c_iZipTS, q_zipTS, q_augS, q_intS, q_strI, c_eM1, q_sD, q_starts, q_split, q_join_l, q_join_t, c_eDic0, c_eNo, c_iRangeN, c_sDPutD, c_sDUpd, c_eSortK, c_dDGet, q_dictp, kSl_d, kRs_d, sl_dic, q_rev_l, q_rev_t, q_sortd_l, q_sortd_t])
theorem cmul_r {i j : Int} (h1 : -1000000000000000000 ≤ j) (h2 : j ≤ 1000000000000000000) : CMul i j := .inr ⟨by omega, by omega⟩
theorem cmul_l {i j : Int} (h1 : -1000000000000000000 ≤ i) (h2 : i ≤ 1000000000000000000) : CMul i j := .inl ⟨by omega, by omega⟩
def optD : Option Int → D
  | none => .none
  | some l => .int l
def wholeB (i : Int) : Option Int → Option Int → Bool
  | none, none => true
  | some l, none => decide (l ≤ i)
  | none, some h => decide (i ≤ h)
  | some l, some h => decide (l ≤ i) && decide (i ≤ h)

theorem draw_tail {many : Int} {C : Rs → Prop} (h0 : 0 < many) (hC : ∀ r, 0 ≤ r → r < many → C (.dat (.int r))) (rest count : Int) :
    CMul 104729 count ∧ 0 < (4294967291 : Int) ∧ CPow ((rest + 104729 * count) % 4294967291) 5 ∧ 0 < (4294967279 : Int) ∧ CDiv (((rest + 104729 * count) % 4294967291) ^ Int.toNat 5 % 4294967279) 64 ∧
      CMul (((rest + 104729 * count) % 4294967291) ^ Int.toNat 5 % 4294967279 / 64) 69621 := by
  refine ⟨cmul_l (by omega) (by omega), by decide, ⟨by decide, by decide, ?_⟩, by decide, ⟨by decide, by decide⟩, cmul_r (by decide) (by decide)⟩
  omega
theorem m_draw {ns : List Int} {many : Int} {C : Rs → Prop} (hl : ns.length ≤ 63) (h0 : 0 < many) (h1 : many < 1073741824) (hC : ∀ r, 0 ≤ r → r < many → C (.dat (.int r))) : S__law_draw [.dat (scrD ns), .town, .dat (.int many)] C := by
  unfold S__law_draw t__law_draw N__law_draw scrD
  have last : ∀ n : Int, C (.dat (.int (n % many))) := fun n => hC _ (Int.emod_nonneg _ (by omega)) (Int.emod_lt_of_pos _ h0)
  walk_at "pu"
  have tl := draw_tail (C := C) h0 hC
  have d8 : ∀ i : Int, CDiv i 8 := fun i => ⟨by decide, by decide⟩
  have p1 : CPow 10 18 := ⟨by decide, by decide, by decide⟩
  have rest : ∀ (x n : Int), 0 ≤ x → x < 64 → CPow 10 18 ∧
      (10 ^ Int.toNat 18 ≤ n → CDiv n many ∧ 0 ≤ x ∧ x < 64 ∧ 0 < many ∧ C (Rs.dat (PyData.int (n % many)))) ∧
      (¬10 ^ Int.toNat 18 ≤ n → ∀ (c : Int), CMul 104729 c ∧ 0 < (4294967291 : Int) ∧ CPow ((n + 104729 * c) % 4294967291) 5 ∧ 0 < (4294967279 : Int) ∧ CDiv (((n + 104729 * c) % 4294967291) ^ Int.toNat 5 % 4294967279) 64 ∧
        CMul (((n + 104729 * c) % 4294967291) ^ Int.toNat 5 % 4294967279 / 64) 69621 ∧ 0 < (4294967231 : Int) ∧
        CDiv ((((n + 104729 * c) % 4294967291) ^ Int.toNat 5 % 4294967279 / 64 * 69621 + ((n + 104729 * c) % 4294967291) ^ Int.toNat 5 % 4294967279) % 4294967231) 8 ∧ 0 < many ∧
        C (Rs.dat (PyData.int ((((n + 104729 * c) % 4294967291) ^ Int.toNat 5 % 4294967279 / 64 * 69621 + ((n + 104729 * c) % 4294967291) ^ Int.toNat 5 % 4294967279) % 4294967231 / 8 % many)))) := by
    intro x n hx hx2
    refine ⟨p1, fun _ => ⟨⟨h0, h1⟩, hx, hx2, h0, last _⟩, fun _ c => ?_⟩
    obtain ⟨t1, t2, t3, t4, t5, t6⟩ := tl n c
    exact ⟨t1, t2, t3, t4, t5, t6, by decide, d8 _, h0, last _⟩
  refine ⟨fun hne c => ?_, fun he => ?_⟩
  · have hlen : 0 < ((List.map PyData.int ns).length : Int) := by
      cases ns with
      | nil => simp at hne
      | cons a b => simp
    have hlt : c % ((List.map PyData.int ns).length : Int) < ((List.map PyData.int ns).length : Int) := Int.emod_lt_of_pos _ hlen
    have hge : 0 ≤ c % ((List.map PyData.int ns).length : Int) := Int.emod_nonneg _ (by omega)
    have hml : (List.map PyData.int ns).length = ns.length := List.length_map ..
    refine ⟨hlen, fun _ => ?_, fun he => by rw [he] at hne; cases hne⟩
    generalize hk : c % ((List.map PyData.int ns).length : Int) = k at hlt hge ⊢
    obtain ⟨j, rfl⟩ : ∃ j : Nat, k = (j : Int) := ⟨k.toNat, by omega⟩
    have hj : j < ns.length := by omega
    rw [atI_nat (v := PyData.int ns[j]) (by simp [hj])]
    exact ⟨_, rfl, fun n => rest _ n hge (by omega)⟩
  · refine ⟨fun hne => (by rw [he] at hne; cases hne), fun _ n => ?_⟩
    exact rest 0 n (by decide) (by decide)

structure Cal where
  e : Int
  ms : List Int
  c : Int
  ls : List Int
  p : Int
def calD (k : Cal) : D := .tuple [.int k.e, .tuple (k.ms.map PyData.int), .int k.c, .tuple (k.ls.map PyData.int), .int k.p]
theorem calD_ap (k : Cal) : calD k = .tuple [.int k.e, .tuple (k.ms.map PyData.int), .int k.c, .tuple (k.ls.map PyData.int), .int k.p] := rfl
structure CalOk (k : Cal) : Prop where
  ms1 : ∀ m ∈ k.ms, 1 ≤ m ∧ m ≤ 1000
  msn : 0 < k.ms.length
  msl : k.ms.length ≤ 100
  c1 : 1 ≤ k.c
  c2 : k.c ≤ 1000
  ls : ∀ l ∈ k.ls, 0 ≤ l ∧ l < k.c
  nd : k.ls.Nodup
  lsl : k.ls.length ≤ 1000
  p1 : 1 ≤ k.p
  p2 : k.p ≤ k.ms.length
def isLong (k : Cal) (y : Int) : Bool := k.ls.any fun l => l == y % k.c
theorem flat_ints (ns : List Int) : (ns.map PyData.int).all flatD = true := by
  induction ns with
  | nil => rfl
  | cons n ns ih => simp [ih, flatD]
def yf (k : Cal) (y : Int) : Int := k.e + y * k.ms.sum + y / k.c * (k.ls.length : Int) + ((k.ls.filter fun l => decide (l < y % k.c)).length : Int)
theorem sum_bd : ∀ (ms : List Int), (∀ m ∈ ms, 1 ≤ m ∧ m ≤ 1000) → (ms.length : Int) ≤ ms.sum ∧ ms.sum ≤ 1000 * (ms.length : Int)
  | [], _ => by simp
  | m :: ms, h => by
    have h1 := h m (by simp)
    have h2 := sum_bd ms fun x hx => h x (by simp [hx])
    simp only [List.sum_cons, List.length_cons]
    omega
theorem CalOk.s1 {k : Cal} (ok : CalOk k) : 1 ≤ k.ms.sum ∧ k.ms.sum ≤ 100000 := by
  have h := sum_bd k.ms ok.ms1
  have h1 := ok.msn
  have h2 := ok.msl
  omega
def msz (k : Cal) (y m : Int) : Int := k.ms.getD (m - 1).toNat 0 + (if m = k.p ∧ isLong k y = true then 1 else 0)
theorem cnt_succ : ∀ (ls : List Int) (x : Int), ls.Nodup → ((ls.filter fun l => decide (l < x + 1)).length : Int) = ((ls.filter fun l => decide (l < x)).length : Int) + (if (ls.any fun l => l == x) = true then 1 else 0)
  | [], x, _ => by simp
  | a :: ls, x, h => by
    obtain ⟨h1, h2⟩ := List.nodup_cons.mp h
    have ih := cnt_succ ls x h2
    by_cases e : a = x
    · subst e
      have hn : (ls.any fun l => l == a) = false := by
        rw [List.any_eq_false]
        intro b hb z
        have : b = a := by simpa using z
        exact h1 (by rw [← this]; exact hb)
      rw [hn] at ih
      have c1 : a < a + 1 := by omega
      have c2 : ¬ a < a := by omega
      simp only [List.filter_cons, c1, c2, decide_true, decide_false, if_true, if_false, List.length_cons, List.any_cons, beq_self_eq_true, Bool.true_or, Bool.false_eq_true] at ih ⊢
      omega
    · have hne : (a == x) = false := by simp [e]
      by_cases c : a < x
      · have c1 : a < x + 1 := by omega
        simp only [List.filter_cons, c, c1, decide_true, if_true, List.length_cons, List.any_cons, hne, Bool.false_or]
        omega
      · have c1 : ¬ a < x + 1 := by omega
        simp only [List.filter_cons, c, c1, decide_false, if_false, List.any_cons, hne, Bool.false_or, Bool.false_eq_true]
        exact ih
theorem cnt_all {ls : List Int} {c : Int} (h : ∀ l ∈ ls, 0 ≤ l ∧ l < c) : (ls.filter fun l => decide (l < c)).length = ls.length := by
  rw [List.filter_eq_self.mpr fun l hl => decide_eq_true (h l hl).2]
theorem cnt_zero {ls : List Int} {c : Int} (h : ∀ l ∈ ls, 0 ≤ l ∧ l < c) : (ls.filter fun l => decide (l < 0)).length = 0 := by
  rw [List.length_eq_zero_iff, List.filter_eq_nil_iff]
  intro a ha z
  have := of_decide_eq_true z
  have := h a ha
  omega
def lp (k : Cal) (y : Int) : Int := if isLong k y = true then 1 else 0
theorem yf_succ {k : Cal} (ok : CalOk k) (y : Int) : yf k (y + 1) = yf k y + k.ms.sum + lp k y := by
  have hc := ok.c1
  have hr0 : 0 ≤ y % k.c := Int.emod_nonneg _ (by omega)
  have hr1 : y % k.c < k.c := Int.emod_lt_of_pos _ (by omega)
  have hs := cnt_succ k.ls (y % k.c) ok.nd
  have hm : (y + 1) * k.ms.sum = y * k.ms.sum + k.ms.sum := by rw [Int.add_mul, Int.one_mul]
  have hd := Int.mul_ediv_add_emod y k.c
  unfold yf lp isLong
  by_cases e : y % k.c + 1 < k.c
  · have e1 : (y + 1) / k.c = y / k.c := by
      rw [show y + 1 = y % k.c + 1 + k.c * (y / k.c) by omega, Int.add_mul_ediv_left _ _ (by omega), Int.ediv_eq_zero_of_lt (by omega) e]; omega
    have e2 : (y + 1) % k.c = y % k.c + 1 := by
      rw [show y + 1 = y % k.c + 1 + k.c * (y / k.c) by omega, Int.add_mul_emod_self_left, Int.emod_eq_of_lt (by omega) e]
    rw [e1, e2, hs, hm]
    omega
  · have ec : y % k.c + 1 = k.c := by omega
    have e1 : (y + 1) / k.c = y / k.c + 1 := by
      rw [show y + 1 = 0 + k.c * (y / k.c + 1) by rw [Int.mul_add]; omega, Int.add_mul_ediv_left _ _ (by omega)]; simp
    have e2 : (y + 1) % k.c = 0 := by
      rw [show y + 1 = 0 + k.c * (y / k.c + 1) by rw [Int.mul_add]; omega, Int.add_mul_emod_self_left]; simp
    have e3 := cnt_all ok.ls
    have e4 := cnt_zero ok.ls
    rw [ec, e3] at hs
    rw [e1, e2, e4, hm, Int.add_mul]
    omega
theorem lp_bd (k : Cal) (y : Int) : 0 ≤ lp k y ∧ lp k y ≤ 1 := by unfold lp; split <;> omega
theorem yf_lt {k : Cal} (ok : CalOk k) (y : Int) : yf k y < yf k (y + 1) := by
  have := yf_succ ok y
  have := lp_bd k y
  have := ok.s1
  omega
theorem yf_mono {k : Cal} (ok : CalOk k) (y : Int) : ∀ n : Nat, yf k y + n ≤ yf k (y + n)
  | 0 => by simp
  | n + 1 => by
    have ih := yf_mono ok y n
    have := yf_lt ok (y + n)
    have e : y + ((n + 1 : Nat) : Int) = y + (n : Int) + 1 := by omega
    rw [e]
    omega
theorem yf_lt_of {k : Cal} (ok : CalOk k) {y z : Int} (h : y < z) : yf k y < yf k z := by
  have := yf_mono ok y (z - y).toNat
  have e : y + ((z - y).toNat : Int) = z := by omega
  rw [e] at this
  omega
theorem yf_le_of {k : Cal} (ok : CalOk k) {y z : Int} (h : y ≤ z) : yf k y ≤ yf k z := by
  rcases Int.lt_or_eq_of_le h with h | h
  · exact Int.le_of_lt (yf_lt_of ok h)
  · rw [h]; exact Int.le_refl _
/-- the year of a day -/
def YearOf (k : Cal) (d y : Int) : Prop := yf k y ≤ d ∧ d < yf k (y + 1)
theorem YearOf.uniq {k : Cal} (ok : CalOk k) {d y z : Int} (h1 : YearOf k d y) (h2 : YearOf k d z) : y = z := by
  obtain ⟨a1, a2⟩ := h1
  obtain ⟨b1, b2⟩ := h2
  rcases Int.lt_trichotomy y z with h | h | h
  · have := yf_le_of ok (show y + 1 ≤ z by omega)
    omega
  · exact h
  · have := yf_le_of ok (show z + 1 ≤ y by omega)
    omega
/-- the days of the first n months -/
def mb (k : Cal) (y : Int) : Nat → Int
  | 0 => 0
  | n + 1 => mb k y n + msz k y ((n : Int) + 1)
theorem msz_at {k : Cal} {y : Int} {n : Nat} (h : n < k.ms.length) : msz k y ((n : Int) + 1) = k.ms[n] + (if (n : Int) + 1 = k.p ∧ isLong k y = true then 1 else 0) := by
  unfold msz
  have e : ((n : Int) + 1 - 1).toNat = n := by omega
  rw [e, List.getD_eq_getElem?_getD]
  simp [h]
theorem mb_take {k : Cal} (ok : CalOk k) (y : Int) : ∀ n : Nat, n ≤ k.ms.length → mb k y n = (k.ms.take n).sum + (if k.p ≤ (n : Int) then lp k y else 0)
  | 0, _ => by
    have := ok.p1
    unfold mb
    rw [if_neg (by omega)]
    simp
  | n + 1, h => by
    have ih := mb_take ok y n (by omega)
    unfold mb
    rw [ih, msz_at (show n < k.ms.length by omega), List.take_add_one, List.sum_append]
    have e : (k.ms[n]?.toList).sum = k.ms[n]'(by omega) := by
      rw [List.getElem?_eq_getElem (by omega)]; simp
    rw [e]
    unfold lp
    have c1 : ((n + 1 : Nat) : Int) = (n : Int) + 1 := by simp
    rw [c1]
    by_cases h1 : k.p ≤ (n : Int)
    · have h2 : ¬ (n : Int) + 1 = k.p := by omega
      have h3 : k.p ≤ (n : Int) + 1 := by omega
      simp only [h1, h2, h3, false_and, if_true, if_false]
      omega
    · by_cases h2 : (n : Int) + 1 = k.p
      · have h3 : k.p ≤ (n : Int) + 1 := by omega
        simp only [h1, h2, true_and, if_false, Int.le_refl, if_true]
        split <;> omega
      · have h3 : ¬ k.p ≤ (n : Int) + 1 := by omega
        simp only [h1, h2, h3, false_and, if_false]
        omega
theorem mb_all {k : Cal} (ok : CalOk k) (y : Int) : mb k y k.ms.length = k.ms.sum + lp k y := by
  rw [mb_take ok y _ (Nat.le_refl _), List.take_length, if_pos ok.p2]
theorem msz_pos {k : Cal} (ok : CalOk k) {y m : Int} (h1 : 1 ≤ m) (h2 : m ≤ k.ms.length) : 1 ≤ msz k y m ∧ msz k y m ≤ 1001 := by
  obtain ⟨n, hn⟩ : ∃ n : Nat, m = (n : Int) + 1 := ⟨(m - 1).toNat, by omega⟩
  subst hn
  rw [msz_at (show n < k.ms.length by omega)]
  have := ok.ms1 k.ms[n] (List.getElem_mem _)
  split <;> omega
theorem mb_le {k : Cal} (ok : CalOk k) (y : Int) (n : Nat) : ∀ j : Nat, n + j ≤ k.ms.length → mb k y n + j ≤ mb k y (n + j)
  | 0, _ => by simp
  | j + 1, h => by
    have ih := mb_le ok y n j (by omega)
    have e : mb k y (n + (j + 1)) = mb k y (n + j) + msz k y (((n + j : Nat) : Int) + 1) := rfl
    have := msz_pos ok (y := y) (m := ((n + j : Nat) : Int) + 1) (by omega) (by omega)
    rw [e]
    omega
structure Valid (k : Cal) (y m d : Int) : Prop where
  m1 : 1 ≤ m
  m2 : m ≤ k.ms.length
  d1 : 1 ≤ d
  d2 : d ≤ msz k y m
def dn (k : Cal) (y m d : Int) : Int := yf k y + mb k y (m - 1).toNat + d - 1
theorem Valid.year {k : Cal} (ok : CalOk k) {y m d : Int} (v : Valid k y m d) : YearOf k (dn k y m d) y := by
  obtain ⟨n, hn⟩ : ∃ n : Nat, m = (n : Int) + 1 := ⟨(m - 1).toNat, by have := v.m1; omega⟩
  subst hn
  have h1 := v.m2
  have h2 := v.d1
  have h3 := v.d2
  have e : ((n : Int) + 1 - 1).toNat = n := by omega
  have g0 := mb_le ok y 0 n (by omega)
  have g1 := mb_le ok y (n + 1) (k.ms.length - (n + 1)) (by omega)
  have e2 : n + 1 + (k.ms.length - (n + 1)) = k.ms.length := by omega
  rw [e2, mb_all ok] at g1
  have e3 : mb k y (n + 1) = mb k y n + msz k y ((n : Int) + 1) := rfl
  have e4 : mb k y 0 = 0 := rfl
  have g2 := yf_succ ok y
  simp only [Nat.zero_add] at g0
  unfold YearOf dn
  rw [e]
  constructor <;> omega
theorem Valid.uniq {k : Cal} (ok : CalOk k) {y m d y' m' d' : Int} (v : Valid k y m d) (v' : Valid k y' m' d') (h : dn k y m d = dn k y' m' d') : y = y' ∧ m = m' ∧ d = d' := by
  have hy := YearOf.uniq ok (v.year ok) (by rw [h]; exact v'.year ok)
  subst hy
  obtain ⟨n, hn⟩ : ∃ n : Nat, m = (n : Int) + 1 := ⟨(m - 1).toNat, by have := v.m1; omega⟩
  obtain ⟨n', hn'⟩ : ∃ n : Nat, m' = (n : Int) + 1 := ⟨(m' - 1).toNat, by have := v'.m1; omega⟩
  subst hn hn'
  have h1 := v.m2
  have h2 := v.d1
  have h3 := v.d2
  have h1' := v'.m2
  have h2' := v'.d1
  have h3' := v'.d2
  have e : ((n : Int) + 1 - 1).toNat = n := by omega
  have e' : ((n' : Int) + 1 - 1).toNat = n' := by omega
  unfold dn at h
  rw [e, e'] at h
  rcases Nat.lt_trichotomy n n' with c | c | c
  · have g := mb_le ok y (n + 1) (n' - (n + 1)) (by omega)
    have e2 : n + 1 + (n' - (n + 1)) = n' := by omega
    rw [e2] at g
    have e3 : mb k y (n + 1) = mb k y n + msz k y ((n : Int) + 1) := rfl
    omega
  · subst c
    exact ⟨rfl, rfl, by omega⟩
  · have g := mb_le ok y (n' + 1) (n - (n' + 1)) (by omega)
    have e2 : n' + 1 + (n - (n' + 1)) = n := by omega
    rw [e2] at g
    have e3 : mb k y (n' + 1) = mb k y n' + msz k y ((n' : Int) + 1) := rfl
    omega
theorem mb_sum (k : Cal) (y : Int) (n : Nat) : ((List.range n).map fun i : Nat => msz k y (1 + (i : Int))).sum = mb k y n := by
  induction n with
  | zero => rfl
  | succ n ih =>
    rw [List.range_succ, List.map_append, List.sum_append, ih]
    show mb k y n + (List.map (fun i : Nat => msz k y (1 + (i : Int))) [n]).sum = mb k y n + msz k y ((n : Int) + 1)
    rw [Int.add_comm (n : Int) 1]
    simp
theorem lcC_dem {α : Type} {g : UG} {te : UV} {C : List D → Prop} {ρ : En} (mk : α → D) (Q : D → Prop) : ∀ (as : List α) (acc : List D),
    (∀ a ∈ as, ∀ P1 : D → Prop, (∀ v, Q v → P1 v) → g (mk a) ρ fun ρ2 => te ρ2 P1) → (∀ vs, vs.length = as.length → (∀ v ∈ vs, Q v) → C (acc ++ vs)) → lcC g bYes te C ρ (as.map mk) acc
  | [], acc, _, hc => by
    have := hc [] rfl (fun _ h => by cases h)
    simpa [lcC] using this
  | d :: ds, acc, h, hc => by
    rw [List.map_cons]
    unfold lcC
    simp only [bYes, forall_const, reduceCtorEq, false_implies, and_true, true_implies]
    refine h d (List.mem_cons_self ..) _ fun v hv => ?_
    refine lcC_dem mk Q ds _ (fun d hd => h d (List.mem_cons_of_mem _ hd)) fun vs hl hq => ?_
    have := hc (v :: vs) (by simp [hl]) (fun x hx => by
      rcases List.mem_cons.mp hx with rfl | hx
      · exact hv
      · exact hq x hx)
    simpa using this
theorem lcC_sub {α : Type} {g : UG} {tt : UT} {te : UV} {C : List D → Prop} {ρ : En} (mk : α → D) (val : α → D) : ∀ (as : List α) (acc : List D),
    (∀ a ∈ as, ∀ (P1 : D → Prop) (P2 : Prop), P1 (val a) → P2 → g (mk a) ρ fun ρ2 => tt ρ2 fun z => (z = true → te ρ2 P1) ∧ (z = false → P2)) → (∀ bs : List α, bs.Sublist as → C (acc ++ bs.map val)) → lcC g tt te C ρ (as.map mk) acc
  | [], acc, _, hc => by
    have := hc [] (List.Sublist.refl _)
    simpa [lcC] using this
  | d :: ds, acc, h, hc => by
    rw [List.map_cons]
    unfold lcC
    refine h d (List.mem_cons_self ..) _ _ ?_ ?_
    · refine lcC_sub mk val ds _ (fun d hd => h d (List.mem_cons_of_mem _ hd)) fun bs hb => ?_
      have := hc (d :: bs) (hb.cons_cons d)
      simpa using this
    · exact lcC_sub mk val ds _ (fun d hd => h d (List.mem_cons_of_mem _ hd)) fun bs hb => hc bs (hb.cons d)
theorem ints_of_all : ∀ (vs : List D), (∀ v ∈ vs, ∃ n : Int, v = .int n ∧ 1 ≤ n ∧ n ≤ 6) → ∃ ns : List Int, vs = ns.map PyData.int ∧ ∀ n ∈ ns, 1 ≤ n ∧ n ≤ 6
  | [], _ => ⟨[], rfl, fun _ h => by cases h⟩
  | v :: vs, h => by
    obtain ⟨n, rfl, h1, h2⟩ := h v (by simp)
    obtain ⟨ns, rfl, h3⟩ := ints_of_all vs fun x hx => h x (by simp [hx])
    exact ⟨n :: ns, rfl, fun x hx => by
      rcases List.mem_cons.mp hx with rfl | hx
      · exact ⟨h1, h2⟩
      · exact h3 x hx⟩
theorem lf_ints (ns : List Int) : lfAll (ns.map PyData.int) = true := by
  induction ns with
  | nil => rfl
  | cons n ns ih => simp [lfAll, lf, ih]
theorem emod_per {k : Cal} (y : Int) : (y + k.c) % k.c = y % k.c := by
  rw [Int.add_emod_right]
theorem isLong_per {k : Cal} (y : Int) : isLong k (y + k.c) = isLong k y := by
  unfold isLong
  rw [emod_per]
theorem msz_per {k : Cal} (y m : Int) : msz k (y + k.c) m = msz k y m := by
  unfold msz
  rw [isLong_per]
theorem mb_per {k : Cal} (y : Int) : ∀ n, mb k (y + k.c) n = mb k y n
  | 0 => rfl
  | n + 1 => by unfold mb; rw [mb_per y n, msz_per]
theorem yf_per {k : Cal} (ok : CalOk k) (y : Int) : yf k (y + k.c) = yf k y + (k.c * k.ms.sum + (k.ls.length : Int)) := by
  have hc := ok.c1
  unfold yf
  have e1 : (y + k.c) / k.c = y / k.c + 1 := by
    rw [show y + k.c = y + k.c * 1 by omega, Int.add_mul_ediv_left _ _ (by omega)]
  rw [emod_per, e1, Int.add_mul, Int.add_mul]
  omega
theorem Valid.per {k : Cal} {y m d : Int} (v : Valid k y m d) : Valid k (y + k.c) m d := ⟨v.m1, v.m2, v.d1, by rw [msz_per]; exact v.d2⟩
theorem dn_per {k : Cal} (ok : CalOk k) (y m d : Int) : dn k (y + k.c) m d = dn k y m d + (k.c * k.ms.sum + (k.ls.length : Int)) := by
  unfold dn
  rw [mb_per, yf_per ok]
  omega
theorem Valid.lex {k : Cal} (ok : CalOk k) {y m d y' m' d' : Int} (v : Valid k y m d) (v' : Valid k y' m' d') (h : dn k y m d < dn k y' m' d') : HT.lexLt [y, m, d] [y', m', d'] = true := by
  have a := v.year ok
  have b := v'.year ok
  have hy : y ≤ y' := by
    rcases Int.lt_or_le y' y with c | c
    · have := yf_le_of ok (show y' + 1 ≤ y by omega)
      have := a.1
      have := b.2
      omega
    · exact c
  obtain ⟨n, hn⟩ : ∃ n : Nat, m = (n : Int) + 1 := ⟨(m - 1).toNat, by have := v.m1; omega⟩
  obtain ⟨n', hn'⟩ : ∃ n : Nat, m' = (n : Int) + 1 := ⟨(m' - 1).toNat, by have := v'.m1; omega⟩
  have hm : y = y' → m ≤ m' := fun e => by
    subst e
    subst hn hn'
    rcases Nat.lt_or_ge n' n with c | c
    · exfalso
      have h1 := v.m2
      have g := mb_le ok y (n' + 1) (n - (n' + 1)) (by omega)
      have e2 : n' + 1 + (n - (n' + 1)) = n := by omega
      rw [e2] at g
      have e3 : mb k y (n' + 1) = mb k y n' + msz k y ((n' : Int) + 1) := rfl
      have e4 : ((n : Int) + 1 - 1).toNat = n := by omega
      have e5 : ((n' : Int) + 1 - 1).toNat = n' := by omega
      unfold dn at h
      rw [e4, e5] at h
      have := v'.d2
      have := v.d1
      omega
    · omega
  have hd : y = y' → m = m' → d < d' := fun e1 e2 => by
    subst e1 e2
    unfold dn at h
    omega
  rw [HT.lexLt_cons]
  by_cases e1 : y = y'
  · rw [if_pos e1, HT.lexLt_cons]
    by_cases e2 : m = m'
    · rw [if_pos e2, HT.lexLt_cons]
      have := hd e1 e2
      rw [if_neg (by omega)]
      exact decide_eq_true this
    · rw [if_neg e2]
      have := hm e1
      exact decide_eq_true (by omega)
  · rw [if_neg e1]
    exact decide_eq_true (by omega)
theorem next_in {k : Cal} (ok : CalOk k) {y m d : Int} (v : Valid k y m d) (h : d = msz k y m) (hm : m < k.ms.length) : Valid k y (m + 1) 1 ∧ dn k y (m + 1) 1 = dn k y m d + 1 := by
  have h1 := v.m1
  obtain ⟨n, hn⟩ : ∃ n : Nat, m = (n : Int) + 1 := ⟨(m - 1).toNat, by omega⟩
  subst hn
  refine ⟨⟨by omega, by omega, by decide, (msz_pos ok (by omega) (by omega)).1⟩, ?_⟩
  unfold dn
  rw [show ((n : Int) + 1 + 1 - 1).toNat = n + 1 by omega, show ((n : Int) + 1 - 1).toNat = n by omega]
  have e3 : mb k y (n + 1) = mb k y n + msz k y ((n : Int) + 1) := rfl
  omega
theorem first_day {k : Cal} (ok : CalOk k) (y : Int) : Valid k y 1 1 ∧ dn k y 1 1 = yf k y := by
  have := ok.msn
  refine ⟨⟨by decide, by omega, by decide, (msz_pos ok (by decide) (by omega)).1⟩, ?_⟩
  unfold dn
  have e : mb k y ((1 : Int) - 1).toNat = 0 := rfl
  rw [e]
  omega
theorem next_year {k : Cal} (ok : CalOk k) {y m d : Int} (v : Valid k y m d) (h : d = msz k y m) (hm : ¬ m < k.ms.length) : dn k (y + 1) 1 1 = dn k y m d + 1 := by
  have h1 := v.m1
  have h2 := v.m2
  obtain ⟨n, hn⟩ : ∃ n : Nat, m = (n : Int) + 1 := ⟨(m - 1).toNat, by omega⟩
  subst hn
  rw [(first_day ok (y + 1)).2, yf_succ ok]
  have ha := mb_all ok y
  have el : k.ms.length = n + 1 := by omega
  rw [el] at ha
  have e3 : mb k y (n + 1) = mb k y n + msz k y ((n : Int) + 1) := rfl
  unfold dn
  rw [show ((n : Int) + 1 - 1).toNat = n by omega]
  omega
theorem next_day {k : Cal} {y m d : Int} (v : Valid k y m d) (h : ¬ d = msz k y m) : Valid k y m (d + 1) ∧ dn k y m (d + 1) = dn k y m d + 1 := by
  have h1 := v.d1
  have h2 := v.d2
  refine ⟨⟨v.m1, v.m2, by omega, by omega⟩, ?_⟩
  unfold dn
  omega

def sunK : Cal := ⟨-730485, [31, 28, 31, 30, 31, 30, 31, 31, 30, 31, 30, 31], 400, [0, 4, 8, 12, 16, 20, 24, 28, 32, 36, 40, 44, 48, 52, 56, 60, 64, 68, 72, 76, 80, 84, 88, 92, 96, 104, 108, 112, 116, 120, 124, 128, 132, 136, 140, 144, 148, 152, 156, 160, 164, 168, 172, 176, 180, 184, 188, 192, 196, 204, 208, 212, 216, 220, 224, 228, 232, 236, 240, 244, 248, 252, 256, 260, 264, 268, 272, 276, 280, 284, 288, 292, 296, 304, 308, 312, 316, 320, 324, 328, 332, 336, 340, 344, 348, 352, 356, 360, 364, 368, 372, 376, 380, 384, 388, 392, 396], 2⟩
theorem sun_ok : CalOk sunK := ⟨by decide +kernel, by decide +kernel, by decide +kernel, by decide +kernel, by decide +kernel, by decide +kernel, by decide +kernel, by decide +kernel, by decide +kernel, by decide +kernel⟩
theorem rngD_zero {lo : Int} : rngD lo 0 = [] := rfl
theorem rngD_succ {lo : Int} {n : Nat} : rngD lo (n + 1) = .int lo :: rngD (lo + 1) n := by
  unfold rngD
  rw [List.range_succ_eq_map, List.map_cons, List.map_map]
  simp only [Int.ofNat_eq_natCast, Int.natCast_zero, Int.add_zero, Function.comp_def]
  congr 1
  apply List.map_congr_left
  intro i _
  congr 1
  push_cast
  omega
/-- a loop over a range, by the number that comes -/
theorem forC_rng {g : UG} {tb : US} {E : Ed} (I : Int → En → Prop) (hi : Int)
    (h : ∀ i ρ, i < hi → I i ρ → ∀ K : En → Prop, (∀ ρ', I (i + 1) ρ' → K ρ') → g (.int i) ρ fun ρ' => tb { E with nx := K, ct := K, bk := E.nx } ρ') (hn : ∀ ρ, I hi ρ → E.nx ρ) : ∀ (n : Nat) (lo : Int) (ρ : En), lo + n = hi → I lo ρ → forC g tb E (rngD lo n) ρ
  | 0, lo, ρ, e, i => by
    have : lo = hi := by omega
    subst this
    exact hn ρ i
  | n + 1, lo, ρ, e, i => by
    rw [rngD_succ]
    unfold forC
    exact h lo ρ (by omega) i _ fun ρ' i' => forC_rng I hi h hn n (lo + 1) ρ' (by omega) i'

theorem seq_cut {t u : US} {E : Ed} {ρ : En} (I : En → Prop) (h2 : ∀ U : En → Prop, (∀ ρ', I ρ' → U ρ') → t { E with nx := U } ρ) (h1 : ∀ ρ', I ρ' → u E ρ') : sSeq t u E ρ := h2 (u E) h1

/-! texts as rows of codes -/
def tx (l : List Nat) : Str := ⟨l.toArray⟩
theorem xt_cps (l : List Nat) : (tx l).cps.toList = l := rfl
theorem xt_of (x : Str) : tx x.cps.toList = x := by
  cases x with
  | mk a => show (⟨a.toList.toArray⟩ : Str) = ⟨a⟩; rw [Array.toArray_toList]
theorem xt_inj {a b : List Nat} (h : tx a = tx b) : a = b := by
  have := congrArg (fun x : Str => x.cps.toList) h
  exact this
theorem xt_eq {x : Str} {l : List Nat} (h : x.cps.toList = l) : x = tx l := by rw [← h, xt_of]
theorem xt_app (a b : List Nat) : tx a ++ tx b = tx (a ++ b) := by
  apply xt_eq
  show ((tx a).cps ++ (tx b).cps).toList = a ++ b
  rw [Array.toList_append, xt_cps, xt_cps]
theorem xt_len (l : List Nat) : (tx l).length = l.length := by
  show l.toArray.size = l.length
  exact List.size_toArray
theorem xt_cut (l : List Nat) (lo hi : Option Int) : cutS (tx l) lo hi = tx (cut l lo hi) := by
  unfold cutS cut
  rw [xt_len, xt_cps]
  rfl
def dg (n : Nat) : List Nat := (Nat.toDigits 10 n).map Char.toNat
def ig (i : Int) : List Nat := if i < 0 then 45 :: dg i.natAbs else dg i.natAbs
theorem ig_pos {i : Int} (h : 0 ≤ i) : ig i = dg i.toNat := by
  unfold ig
  rw [if_neg (by omega), show i.natAbs = i.toNat by omega]
theorem ig_neg {i : Int} (h : i < 0) : ig i = 45 :: dg i.natAbs := if_pos h
theorem xt_int (i : Int) : (Str.ofString (toString i)) = tx (ig i) := by
  cases i with
  | ofNat m =>
    apply xt_eq
    rw [show Int.ofNat m = ((m : Nat) : Int) from rfl, PySem.W.KIN.signs_num]
    rw [ig_pos (by omega)]
    rfl
  | negSucc m =>
    apply xt_eq
    rw [PyProof.Rows.signs_ofString, ig_neg (Int.negSucc_lt_zero m)]
    show (("-" : String) ++ Nat.repr (m + 1)).toList.map Char.toNat = _
    rw [String.toList_append, List.map_append, Nat.toList_repr]
    rfl
def isDg (c : Nat) : Bool := decide (48 ≤ c) && decide (c ≤ 57)
theorem isDg_iff {c : Nat} : isDg c = true ↔ 48 ≤ c ∧ c ≤ 57 := by
  unfold isDg
  rw [Bool.and_eq_true, decide_eq_true_iff, decide_eq_true_iff]
theorem dg_dig (n : Nat) : ∀ c ∈ dg n, 48 ≤ c ∧ c ≤ 57 := by
  intro c hc
  obtain ⟨ch, hch, e⟩ := List.mem_map.mp hc
  have r := PyProof.Rows.digit_range (Nat.isDigit_of_mem_toDigits (by decide) (by decide) hch)
  rw [← e]
  exact r
theorem dg_val (n : Nat) : PySem.NumText.digitsVal (dg n) = n := PySem.W.KIN.val_back n
theorem dig_ch (n : Nat) (h : n < 10) : (Nat.digitChar n).toNat = 48 + n := by
  have : ∀ m, m < 10 → (Nat.digitChar m).toNat = 48 + m := by decide
  exact this n h
theorem dg_lt {n : Nat} (h : n < 10) : dg n = [48 + n] := by
  unfold dg
  rw [Nat.toDigits_of_lt_base h]
  show [(Nat.digitChar n).toNat] = _
  rw [dig_ch n h]
theorem dg_ge {n : Nat} (h : 10 ≤ n) : dg n = dg (n / 10) ++ [48 + n % 10] := by
  have hm : n % 10 < 10 := Nat.mod_lt n (by decide)
  have t : Nat.toDigits 10 (n / 10) ++ Nat.toDigits 10 (n % 10) = Nat.toDigits 10 (10 * (n / 10) + n % 10) := Nat.toDigits_append_toDigits (by decide) (by omega) hm
  rw [Nat.div_add_mod] at t
  unfold dg
  rw [← t, List.map_append]
  have := dg_lt hm
  unfold dg at this
  rw [this]
theorem dg_ne (n : Nat) : dg n ≠ [] := by
  by_cases h : n < 10
  · rw [dg_lt h]; exact List.cons_ne_nil _ _
  · rw [dg_ge (by omega)]
    exact fun z => (List.append_ne_nil_of_right_ne_nil _ (List.cons_ne_nil _ _)) z
theorem dg_len : ∀ (k n : Nat), n < 10 ^ (k + 1) → (dg n).length ≤ k + 1
  | 0, n, h => by
    rw [dg_lt (by simpa using h)]
    exact Nat.le_refl _
  | k + 1, n, h => by
    by_cases c : n < 10
    · rw [dg_lt c]; simp
    · rw [dg_ge (by omega), List.length_append]
      have := dg_len k (n / 10) (by rw [Nat.pow_succ] at h; omega)
      simp only [List.length_cons, List.length_nil]
      omega
theorem dg_len_ge : ∀ (k n : Nat), 10 ^ k ≤ n → k + 1 ≤ (dg n).length
  | 0, n, h => by
    have := List.length_pos_iff.mpr (dg_ne n)
    omega
  | k + 1, n, h => by
    have hp : 0 < 10 ^ k := Nat.pow_pos (by decide)
    rw [Nat.pow_succ] at h
    rw [dg_ge (by omega), List.length_append]
    have := dg_len_ge k (n / 10) (by omega)
    simp only [List.length_cons, List.length_nil]
    omega
/-- noughts ahead -/
def pad (k : Nat) (l : List Nat) : List Nat := List.replicate (k - l.length) 48 ++ l
theorem xt_rjust (l : List Nat) (k : Nat) : Txt.rjustF (tx l) (k : Int) 48 = tx (pad k l) := by
  unfold Txt.rjustF
  rw [xt_len]
  split
  · rename_i h
    unfold pad
    rw [show k - l.length = 0 by omega]
    rfl
  · apply xt_eq
    rename_i h
    unfold Builtin.Str.padded pad
    simp [tx]
theorem xt_rjust0 (l : List Nat) (k : Nat) : Txt.rjustF (tx l) (k : Int) ((("0" : Str).cps).getD 0 0) = tx (pad k l) := by
  rw [show (("0" : Str).cps).getD 0 0 = 48 by decide +kernel]
  exact xt_rjust l k
/-- a number of k figures -/
def fg : Nat → Nat → List Nat
  | 0, _ => []
  | k + 1, n => fg k (n / 10) ++ [48 + n % 10]
theorem fg_len : ∀ k n, (fg k n).length = k
  | 0, _ => rfl
  | k + 1, n => by
    show (fg k (n / 10) ++ [48 + n % 10]).length = k + 1
    rw [List.length_append, fg_len k]
    rfl
theorem fg_zero : ∀ k, fg k 0 = List.replicate k 48
  | 0 => rfl
  | k + 1 => by
    show fg k (0 / 10) ++ [48 + 0 % 10] = _
    rw [Nat.zero_div, fg_zero k, List.replicate_succ']
theorem pad_fg : ∀ (k n : Nat), n < 10 ^ (k + 1) → pad (k + 1) (dg n) = fg (k + 1) n
  | 0, n, h => by
    have h : n < 10 := by simpa using h
    rw [dg_lt h]
    show List.replicate (1 - 1) 48 ++ [48 + n] = [] ++ [48 + n % 10]
    rw [Nat.mod_eq_of_lt h]
    rfl
  | k + 1, n, h => by
    show _ = fg (k + 1) (n / 10) ++ [48 + n % 10]
    rw [← pad_fg k (n / 10) (by rw [Nat.pow_succ] at h; omega)]
    by_cases c : n < 10
    · rw [dg_lt c, show n / 10 = 0 by omega, Nat.mod_eq_of_lt c, dg_lt (by decide)]
      unfold pad
      simp only [List.length_cons, List.length_nil]
      rw [show k + 1 + 1 - (0 + 1) = (k + 1 - (0 + 1)) + 1 by omega, List.replicate_succ', List.append_assoc]
    · rw [dg_ge (by omega)]
      unfold pad
      rw [List.length_append, ← List.append_assoc]
      simp only [List.length_cons, List.length_nil]
      rw [show k + 1 + 1 - ((dg (n / 10)).length + (0 + 1)) = k + 1 - (dg (n / 10)).length by omega]
theorem fg_dig : ∀ k n, ∀ c ∈ fg k n, 48 ≤ c ∧ c ≤ 57
  | 0, _, _, h => by cases h
  | k + 1, n, c, h => by
    rcases List.mem_append.mp h with h | h
    · exact fg_dig k _ c h
    · rw [List.mem_singleton.mp h]
      omega
theorem digitsVal_app (a : List Nat) (c : Nat) : PySem.NumText.digitsVal (a ++ [c]) = PySem.NumText.digitsVal a * 10 + (c - 48) := by
  unfold PySem.NumText.digitsVal
  rw [List.foldl_append]
  rfl
theorem fg_val : ∀ k n, n < 10 ^ k → PySem.NumText.digitsVal (fg k n) = n
  | 0, n, h => by
    have : n = 0 := by simpa using h
    rw [this]
    rfl
  | k + 1, n, h => by
    show PySem.NumText.digitsVal (fg k (n / 10) ++ [48 + n % 10]) = n
    rw [digitsVal_app, fg_val k _ (by rw [Nat.pow_succ] at h; omega)]
    omega
/-- the order of figures is that of numbers -/
theorem lt_app {a b x y : List Nat} (hl : a.length = b.length) : (a ++ x < b ++ y) ↔ (a < b ∨ a = b ∧ x < y) := by
  induction a generalizing b with
  | nil =>
    have : b = [] := List.eq_nil_of_length_eq_zero hl.symm
    subst this
    simp
  | cons p a ih =>
    cases b with
    | nil => cases hl
    | cons q b =>
      simp only [List.cons_append, List.cons_lt_cons_iff, List.cons.injEq]
      rw [ih (by simpa using hl)]
      constructor
      · rintro (h | ⟨h, h2 | ⟨h2, h3⟩⟩)
        · exact .inl (.inl h)
        · exact .inl (.inr ⟨h, h2⟩)
        · exact .inr ⟨⟨h, h2⟩, h3⟩
      · rintro ((h | ⟨h, h2⟩) | ⟨⟨h, h2⟩, h3⟩)
        · exact .inl h
        · exact .inr ⟨h, .inl h2⟩
        · exact .inr ⟨h, .inr ⟨h2, h3⟩⟩
theorem fg_inj : ∀ k n m, n < 10 ^ k → m < 10 ^ k → fg k n = fg k m → n = m := fun k n m h1 h2 e => by
  rw [← fg_val k n h1, ← fg_val k m h2, e]
theorem fg_lt : ∀ k n m, n < 10 ^ k → m < 10 ^ k → (fg k n < fg k m ↔ n < m)
  | 0, n, m, h1, h2 => by
    have : n = 0 := by simpa using h1
    have : m = 0 := by simpa using h2
    subst n m
    simp [fg]
  | k + 1, n, m, h1, h2 => by
    show (fg k (n / 10) ++ [48 + n % 10] < fg k (m / 10) ++ [48 + m % 10]) ↔ _
    rw [Nat.pow_succ] at h1 h2
    rw [lt_app (by rw [fg_len, fg_len]), fg_lt k _ _ (by omega) (by omega)]
    constructor
    · rintro (h | ⟨h, h3⟩)
      · omega
      · have := fg_inj k _ _ (by omega) (by omega) h
        rcases List.cons_lt_cons_iff.mp h3 with z | ⟨_, z⟩
        · omega
        · exact absurd z (by simp)
    · intro h
      by_cases c : n / 10 = m / 10
      · exact .inr ⟨by rw [c], List.cons_lt_cons_iff.mpr (.inl (by omega))⟩
      · exact .inl (by omega)
theorem int_of_digs {l : List Nat} (h : ∀ c ∈ l, 48 ≤ c ∧ c ≤ 57) (h1 : l ≠ []) (h2 : l.length ≤ 4300) : PySem.intText? (tx l) = some ((PySem.NumText.digitsVal l : Nat) : Int) := by
  have := PySem.intText_digits (x := tx l) h h1 (by rw [xt_len]; exact h2)
  exact this
theorem digs_mem (c : Nat) : decide (c ∈ ("0123456789" : Str).cps.toList) = isDg c := by
  have : ("0123456789" : Str).cps.toList = [48, 49, 50, 51, 52, 53, 54, 55, 56, 57] := by decide +kernel
  rw [this, Bool.eq_iff_iff, decide_eq_true_iff, isDg_iff]
  simp only [List.mem_cons, List.not_mem_nil, or_false]
  omega
/-! parts between a sign -/
def jn (c : Nat) : List (List Nat) → List Nat
  | [] => []
  | [a] => a
  | a :: b :: r => a ++ c :: jn c (b :: r)
theorem xt_join (c : Nat) : ∀ ls : List (List Nat), Str.join (tx [c]) (ls.map tx) = tx (jn c ls)
  | [] => rfl
  | [a] => rfl
  | a :: b :: r => by
    have ih := xt_join c (b :: r)
    show tx a ++ tx [c] ++ Str.join (tx [c]) ((b :: r).map tx) = _
    rw [ih, xt_app, xt_app]
    show tx (a ++ [c] ++ jn c (b :: r)) = tx (a ++ c :: jn c (b :: r))
    rw [List.append_assoc]
    rfl
theorem cut_uniq {c : Nat} : ∀ {a b x y : List Nat}, c ∉ a → c ∉ b → a ++ c :: x = b ++ c :: y → a = b ∧ x = y
  | [], [], x, y, _, _, e => ⟨rfl, by simpa using e⟩
  | [], q :: b, x, y, _, h, e => by
    simp only [List.nil_append, List.cons_append, List.cons.injEq] at e
    exact absurd (by simp [e.1]) h
  | p :: a, [], x, y, h, _, e => by
    simp only [List.nil_append, List.cons_append, List.cons.injEq] at e
    exact absurd (by simp [e.1]) h
  | p :: a, q :: b, x, y, h1, h2, e => by
    simp only [List.cons_append, List.cons.injEq] at e
    obtain ⟨r1, r2⟩ := cut_uniq (fun z => h1 (by simp [z])) (fun z => h2 (by simp [z])) e.2
    exact ⟨by rw [e.1, r1], r2⟩
theorem mem_jn {c : Nat} {a b : List Nat} {r : List (List Nat)} : c ∈ jn c (a :: b :: r) := by
  show c ∈ a ++ c :: jn c (b :: r)
  simp
theorem jn_inj {c : Nat} : ∀ {ps qs : List (List Nat)}, ps ≠ [] → qs ≠ [] → (∀ p ∈ ps, c ∉ p) → (∀ q ∈ qs, c ∉ q) → jn c ps = jn c qs → ps = qs
  | [], _, h, _, _, _, _ => absurd rfl h
  | _, [], _, h, _, _, _ => absurd rfl h
  | [a], [b], _, _, _, _, e => by rw [show a = b from e]
  | [a], b :: b2 :: s, _, _, h1, _, e => by
    have h := h1 a (by simp)
    rw [show a = jn c (b :: b2 :: s) from e] at h
    exact absurd mem_jn h
  | a :: a2 :: r, [b], _, _, _, h2, e => by
    have h := h2 b (by simp)
    rw [show b = jn c (a :: a2 :: r) from e.symm] at h
    exact absurd mem_jn h
  | a :: a2 :: r, b :: b2 :: s, _, _, h1, h2, e => by
    obtain ⟨e1, e2⟩ := cut_uniq (h1 a (by simp)) (h2 b (by simp)) (show a ++ c :: jn c (a2 :: r) = b ++ c :: jn c (b2 :: s) from e)
    rw [e1, jn_inj (by simp) (by simp) (fun p hp => h1 p (by simp [hp])) (fun p hp => h2 p (by simp [hp])) e2]
/-- how a row is cut -/
def ct (c : Nat) : List Nat → List (List Nat)
  | [] => [[]]
  | x :: l => if x = c then [] :: ct c l else match ct c l with
    | [] => [[x]]
    | p :: r => (x :: p) :: r
theorem ct_ne (c : Nat) : ∀ l, ∃ p r, ct c l = p :: r
  | [] => ⟨_, _, rfl⟩
  | x :: l => by
    obtain ⟨p, r, e⟩ := ct_ne c l
    unfold ct
    split
    · exact ⟨_, _, rfl⟩
    · rw [e]; exact ⟨_, _, rfl⟩
theorem ct_free (c : Nat) : ∀ l, ∀ p ∈ ct c l, c ∉ p
  | [], p, h => by
    rw [List.mem_singleton.mp h]; simp
  | x :: l, p, h => by
    obtain ⟨q, r, e⟩ := ct_ne c l
    have ih := ct_free c l
    unfold ct at h
    split at h
    · rcases List.mem_cons.mp h with rfl | h
      · simp
      · exact ih p h
    · rename_i hx
      rw [e] at h ih
      rcases List.mem_cons.mp h with rfl | h
      · intro z
        rcases List.mem_cons.mp z with z | z
        · exact hx z.symm
        · exact ih q (by simp) z
      · exact ih p (by simp [h])
theorem jn_ct (c : Nat) : ∀ l, jn c (ct c l) = l
  | [] => rfl
  | x :: l => by
    obtain ⟨q, r, e⟩ := ct_ne c l
    have ih := jn_ct c l
    unfold ct
    split
    · rename_i hx
      rw [e] at ih ⊢
      show [] ++ c :: jn c (q :: r) = x :: l
      rw [ih, hx]
      rfl
    · rw [e] at ih ⊢
      cases r with
      | nil =>
        show x :: q = x :: l
        rw [show q = l from ih]
      | cons b r =>
        show (x :: q) ++ c :: jn c (b :: r) = x :: l
        rw [List.cons_append]
        congr 1
theorem xt_split (c : Nat) (l : List Nat) : Txt.split (tx l) (tx [c]) = (ct c l).map tx := by
  have h1 := PySem.StrLaws.join_split (tx l) (tx [c])
  have h2 := PySem.StrLaws.split_free (tx l) c
  obtain ⟨ps, hps⟩ : ∃ ps : List (List Nat), Txt.split (tx l) (tx [c]) = ps.map tx := ⟨(Txt.split (tx l) (tx [c])).map fun x => x.cps.toList, by
    rw [List.map_map]
    conv => lhs; rw [← List.map_id (Txt.split (tx l) (tx [c]))]
    apply List.map_congr_left
    intro x _
    exact (xt_of x).symm⟩
  have hne : ps ≠ [] := by
    intro z
    subst z
    have : (Txt.split (tx l) (tx [c])) = [] := hps
    unfold Txt.split at this
    split at this
    · cases this
    · split at this
      · cases this
      · rw [PySem.StrLaws.partsBetween_eq] at this
        obtain ⟨p, r, e⟩ := PySem.StrLaws.partsFrom_ne (tx l) (tx [c]).length 0 (Builtin.Str.occurrences (tx l) (tx [c]) 0 (tx l).length ((tx l).length + 1))
        rw [e] at this
        cases this
  have h3 : ∀ p ∈ ps, c ∉ p := fun p hp z => by
    refine h2 (tx p) ?_ z
    show tx p ∈ Txt.split (tx l) (tx [c])
    rw [hps]
    exact List.mem_map.mpr ⟨p, hp, rfl⟩
  rw [hps, xt_join] at h1
  obtain ⟨q, r, e⟩ := ct_ne c l
  rw [hps, jn_inj hne (by rw [e]; simp) h3 (ct_free c l) ((xt_inj h1).trans (jn_ct c l).symm)]
theorem ct_jn {c : Nat} {ps : List (List Nat)} (h0 : ps ≠ []) (h : ∀ p ∈ ps, c ∉ p) : ct c (jn c ps) = ps := by
  obtain ⟨q, r, e⟩ := ct_ne c (jn c ps)
  exact jn_inj (by rw [e]; simp) h0 (ct_free c _) h (jn_ct c _)
theorem xt_starts (l : List Nat) (c : Nat) : Txt.startswith (tx l) (tx [c]) = (l.head? == some c) := by
  unfold Txt.startswith
  rw [PySem.StrLaws.subAt_eq, xt_len, xt_len, xt_cps, xt_cps]
  cases l with
  | nil => rfl
  | cons a l =>
    simp
/-! cut from the right -/
theorem occR_none (s sub : Str) (limit : Nat) : ∀ (l : List Nat) (st : Array Nat × Nat), (∀ k ∈ l, ¬ (Builtin.Str.subAt s sub (s.length - k) = true ∧ s.length - k + sub.length ≤ st.2 ∧ st.1.size < limit)) → (forIn l st (PySem.StrLaws.occRBody s sub limit)).run = st
  | [], st, _ => rfl
  | a :: l, st, h => by
    rw [List.forIn_cons]
    have h0 := h a (by simp)
    unfold PySem.StrLaws.occRBody
    rw [if_neg (fun z => h0 ⟨z.2, z.1.2, z.1.1⟩)]
    exact occR_none s sub limit l st fun k hk => h k (by simp [hk])
theorem occR_app (s sub : Str) (limit : Nat) : ∀ (l m : List Nat) (st : Array Nat × Nat), (forIn (l ++ m) st (PySem.StrLaws.occRBody s sub limit)).run = (forIn m (forIn l st (PySem.StrLaws.occRBody s sub limit)).run (PySem.StrLaws.occRBody s sub limit)).run
  | [], m, st => rfl
  | a :: l, m, st => by
    rw [List.cons_append, List.forIn_cons, List.forIn_cons]
    unfold PySem.StrLaws.occRBody
    split
    · exact occR_app s sub limit l m _
    · exact occR_app s sub limit l m _
theorem occR_hit (s sub : Str) (limit k : Nat) (st : Array Nat × Nat) (h1 : Builtin.Str.subAt s sub (s.length - k) = true) (h2 : s.length - k + sub.length ≤ st.2) (h3 : st.1.size < limit) : (forIn [k] st (PySem.StrLaws.occRBody s sub limit)).run = (st.1.push (s.length - k), s.length - k) := by
  rw [List.forIn_cons]
  unfold PySem.StrLaws.occRBody
  rw [if_pos ⟨⟨h3, h2⟩, h1⟩]
  rfl
theorem subAt_tx (l : List Nat) (c i : Nat) : Builtin.Str.subAt (tx l) (tx [c]) i = true ↔ l[i]? = some c := by
  rw [PySem.StrLaws.subAt_eq, xt_cps, xt_cps, xt_len]
  exact PySem.StrLaws.take1_drop
theorem kind_sm {l : List Nat} {c : Nat} (h : c ∈ l) : ¬ Builtin.Str.strKind (tx l) < Builtin.Str.strKind (tx [c]) := fun z => PySem.StrLaws.kind_free (tx l) c z h
theorem xt_sub (l : List Nat) (i j : Nat) : Builtin.Str.strSub (tx l) i j = tx ((l.drop i).take (j - i)) := by
  apply xt_eq
  rw [PySem.StrLaws.strSub_toList, xt_cps]
theorem get_no {c : Nat} {l : List Nat} (h : c ∉ l) (i : Nat) : l[i]? ≠ some c := fun z => h (List.mem_of_getElem? z)
theorem occR_two {c : Nat} (h m d : List Nat) (hm : c ∉ m) (hd : c ∉ d) : Builtin.Str.occurrencesFromRight (tx (h ++ c :: (m ++ c :: d))) (tx [c]) 2 = [h.length, h.length + 1 + m.length] := by
  rw [PySem.StrLaws.occR_eq]
  have eL : (h ++ c :: (m ++ c :: d)).length = h.length + 1 + m.length + 1 + d.length := by
    simp only [List.length_append, List.length_cons]; omega
  have eT : (tx (h ++ c :: (m ++ c :: d))).length = h.length + 1 + m.length + 1 + d.length := by rw [xt_len, eL]
  have e1 : (tx [c]).length = 1 := xt_len [c]
  have er : List.range' 0 ((tx (h ++ c :: (m ++ c :: d))).length + 1) = List.range' 0 (d.length + 1) ++ ([d.length + 1] ++ (List.range' (d.length + 2) m.length ++ ([d.length + m.length + 2] ++ List.range' (d.length + m.length + 3) h.length))) := by
    rw [eT, show [d.length + 1] = List.range' (d.length + 1) 1 from rfl, show [d.length + m.length + 2] = List.range' (d.length + m.length + 2) 1 from rfl]
    rw [show List.range' (d.length + m.length + 2) 1 ++ List.range' (d.length + m.length + 3) h.length = List.range' (d.length + m.length + 2) (1 + h.length) from List.range'_append_1 ..]
    rw [show d.length + m.length + 2 = d.length + 2 + m.length by omega, List.range'_append_1, List.range'_append_1 (s := d.length + 1) (m := 1)]
    have := List.range'_append_1 (s := 0) (m := d.length + 1) (n := 1 + (m.length + (1 + h.length)))
    rw [Nat.zero_add] at this
    rw [this]
    congr 1
    omega
  have g1 : ∀ i, h.length + 1 + m.length < i → (h ++ c :: (m ++ c :: d))[i]? ≠ some c := fun i hi => by
    obtain ⟨j, rfl⟩ : ∃ j, i = h.length + (1 + (m.length + (1 + j))) := ⟨i - (h.length + 1 + m.length + 1), by omega⟩
    rw [List.getElem?_append_right (by omega), show h.length + (1 + (m.length + (1 + j))) - h.length = m.length + (1 + j) + 1 by omega, List.getElem?_cons_succ, List.getElem?_append_right (by omega), show m.length + (1 + j) - m.length = j + 1 by omega, List.getElem?_cons_succ]
    exact get_no hd j
  have g2 : (h ++ c :: (m ++ c :: d))[h.length + 1 + m.length]? = some c := by
    rw [List.getElem?_append_right (by omega), show h.length + 1 + m.length - h.length = m.length + 1 by omega, List.getElem?_cons_succ, List.getElem?_append_right (by omega), Nat.sub_self]
    rfl
  have g3 : ∀ i, h.length < i → i < h.length + 1 + m.length → (h ++ c :: (m ++ c :: d))[i]? ≠ some c := fun i hi hj => by
    obtain ⟨j, rfl⟩ : ∃ j, i = h.length + (1 + j) := ⟨i - (h.length + 1), by omega⟩
    rw [List.getElem?_append_right (by omega), show h.length + (1 + j) - h.length = j + 1 by omega, List.getElem?_cons_succ, List.getElem?_append_left (by omega)]
    exact get_no hm j
  have g4 : (h ++ c :: (m ++ c :: d))[h.length]? = some c := by
    rw [List.getElem?_append_right (by omega), Nat.sub_self]
    rfl
  have a1 : (forIn (List.range' 0 (d.length + 1)) ((#[] : Array Nat), (tx (h ++ c :: (m ++ c :: d))).length) (PySem.StrLaws.occRBody (tx (h ++ c :: (m ++ c :: d))) (tx [c]) 2)).run = ((#[] : Array Nat), (tx (h ++ c :: (m ++ c :: d))).length) := by
    refine occR_none _ _ _ _ _ fun k hk z => ?_
    obtain ⟨hk1, hk2⟩ := List.mem_range'_1.mp hk
    have z1 := (subAt_tx _ _ _).mp z.1
    rw [eT] at z1
    by_cases e : k = 0
    · subst e
      have := (List.getElem?_eq_some_iff.mp z1).1
      omega
    · exact g1 _ (by omega) z1
  have a2 : (forIn [d.length + 1] ((#[] : Array Nat), (tx (h ++ c :: (m ++ c :: d))).length) (PySem.StrLaws.occRBody (tx (h ++ c :: (m ++ c :: d))) (tx [c]) 2)).run = ((#[h.length + 1 + m.length] : Array Nat), h.length + 1 + m.length) := by
    have e2 : (tx (h ++ c :: (m ++ c :: d))).length - (d.length + 1) = h.length + 1 + m.length := by rw [eT]; omega
    rw [occR_hit _ _ _ _ _ (by rw [e2]; exact (subAt_tx _ _ _).mpr g2) (by rw [e2, e1, eT]; show _ ≤ h.length + 1 + m.length + 1 + d.length; omega) (by show 0 < 2; decide), e2]
    rfl
  have a3 : (forIn (List.range' (d.length + 2) m.length) ((#[h.length + 1 + m.length] : Array Nat), h.length + 1 + m.length) (PySem.StrLaws.occRBody (tx (h ++ c :: (m ++ c :: d))) (tx [c]) 2)).run = ((#[h.length + 1 + m.length] : Array Nat), h.length + 1 + m.length) := by
    refine occR_none _ _ _ _ _ fun k hk z => ?_
    obtain ⟨hk1, hk2⟩ := List.mem_range'_1.mp hk
    have z1 := (subAt_tx _ _ _).mp z.1
    rw [eT] at z1
    exact g3 _ (by omega) (by omega) z1
  have a4 : (forIn [d.length + m.length + 2] ((#[h.length + 1 + m.length] : Array Nat), h.length + 1 + m.length) (PySem.StrLaws.occRBody (tx (h ++ c :: (m ++ c :: d))) (tx [c]) 2)).run = ((#[h.length + 1 + m.length, h.length] : Array Nat), h.length) := by
    have e2 : (tx (h ++ c :: (m ++ c :: d))).length - (d.length + m.length + 2) = h.length := by rw [eT]; omega
    rw [occR_hit _ _ _ _ _ (by rw [e2]; exact (subAt_tx _ _ _).mpr g4) (by rw [e2, e1]; show h.length + 1 ≤ h.length + 1 + m.length; omega) (by show 1 < 2; decide), e2]
    rfl
  have a5 : (forIn (List.range' (d.length + m.length + 3) h.length) ((#[h.length + 1 + m.length, h.length] : Array Nat), h.length) (PySem.StrLaws.occRBody (tx (h ++ c :: (m ++ c :: d))) (tx [c]) 2)).run = ((#[h.length + 1 + m.length, h.length] : Array Nat), h.length) := occR_none _ _ _ _ _ fun k hk z => absurd z.2.2 (by show ¬ 2 < 2; decide)
  rw [er, occR_app, a1, occR_app, a2, occR_app, a3, occR_app, a4, a5]
  rfl
theorem xt_rsplit {c : Nat} (h m d : List Nat) (hm : c ∉ m) (hd : c ∉ d) : Txt.rsplitMax (tx (h ++ c :: (m ++ c :: d))) (tx [c]) 2 = [tx h, tx m, tx d] := by
  unfold Txt.rsplitMax
  have e0 : (decide ((tx (h ++ c :: (m ++ c :: d))).length < (tx [c]).length) || decide (Builtin.Str.strKind (tx (h ++ c :: (m ++ c :: d))) < Builtin.Str.strKind (tx [c]))) = false := by
    rw [decide_eq_false (kind_sm (by simp)), decide_eq_false (by rw [xt_len, xt_len]; simp), Bool.or_false]
  rw [if_neg (by rw [e0]; exact Bool.false_ne_true)]
  have eL : (h ++ c :: (m ++ c :: d)).length = h.length + 1 + m.length + 1 + d.length := by
    simp only [List.length_append, List.length_cons]; omega
  have : PySem.limitOf (tx (h ++ c :: (m ++ c :: d))) 2 = 2 := by
    rfl
  rw [this, occR_two h m d hm hd, if_neg (by simp), PySem.StrLaws.partsBetween_eq]
  show [Builtin.Str.strSub _ 0 h.length, Builtin.Str.strSub _ (h.length + (tx [c]).length) (h.length + 1 + m.length), Builtin.Str.strSub _ (h.length + 1 + m.length + (tx [c]).length) (tx _).length] = _
  rw [xt_sub, xt_sub, xt_sub, xt_len, xt_len, eL]
  congr 1
  · congr 1
    simp
  · congr 1
    · congr 1
      rw [show h.length + [c].length = h.length + 1 from rfl, List.drop_append, List.drop_of_length_le (by omega), show h.length + 1 - h.length = 1 by omega, show h.length + 1 + m.length - (h.length + 1) = m.length by omega]
      simp
    · congr 2
      rw [show h.length + 1 + m.length + [c].length = h.length + 1 + m.length + 1 from rfl, List.drop_append, List.drop_of_length_le (by omega), show h.length + 1 + m.length + 1 - h.length = m.length + 1 + 1 by omega, List.drop_succ_cons, List.drop_append, List.drop_of_length_le (by omega), show m.length + 1 - m.length = 1 by omega]
      simp

/-! readings written -/
theorem lcC3 {g : UG} {te : UV} {C : List D → Prop} {ρ : En} (a b c : D) (h : g a ρ fun ρ2 => te ρ2 fun v => g b ρ fun ρ2 => te ρ2 fun w => g c ρ fun ρ2 => te ρ2 fun x => C [v, w, x]) : lcC g bYes te C ρ [a, b, c] [] := by
  unfold lcC
  simp only [bYes, forall_const, reduceCtorEq, false_implies, and_true, true_implies]
  unfold lcC
  simp only [bYes, forall_const, reduceCtorEq, false_implies, and_true, true_implies]
  unfold lcC
  simp only [bYes, forall_const, reduceCtorEq, false_implies, and_true, true_implies]
  unfold lcC
  exact h
theorem l_col : (Str.ofString ":") = tx [58] := xt_eq (by decide +kernel)
theorem l_dash : (Str.ofString "-") = tx [45] := xt_eq (by decide +kernel)
theorem l_sp : (Str.ofString " ") = tx [32] := xt_eq (by decide +kernel)
theorem l_0 : (Str.ofString "0") = tx [48] := xt_eq (by decide +kernel)
theorem l_e : (Str.ofString "") = tx [] := xt_eq (by decide +kernel)
theorem n300 {i : Int} (h0 : -1000000000000000000 ≤ i) (h1 : i ≤ 1000000000000000000) : i.natAbs < 10 ^ 300 := by
  have : (1000000000000000001 : Nat) ≤ 10 ^ 300 := by decide +kernel
  omega
theorem yf_sun (y : Int) : 365 * y - 730485 + 97 * (y / 400) ≤ yf sunK y ∧ yf sunK y ≤ 365 * y - 730485 + 97 * (y / 400) + 97 := by
  have h1 : sunK.ms.sum = 365 := by decide +kernel
  have h2 : sunK.ls.length = 97 := by decide +kernel
  have h3 : (sunK.ls.filter fun l => decide (l < y % sunK.c)).length ≤ 97 := by
    rw [← h2]
    exact List.length_filter_le _ _
  unfold yf
  rw [h1, h2]
  rw [show sunK.e = -730485 from rfl, show sunK.c = 400 from rfl] at *
  omega
theorem year_bd {y m d D N : Int} (v : Valid sunK y m d) (e : dn sunK y m d = D) (h0 : -N ≤ D) (h1 : D ≤ N) (hN : 0 ≤ N) : -N - 10000 ≤ y ∧ y ≤ N + 10000 := by
  have h := v.year sun_ok
  rw [e] at h
  have a := yf_sun y
  have b := yf_sun (y + 1)
  have h2 := h.1
  have h3 := h.2
  omega
def hdY (y : Int) : List Nat := if 0 ≤ y ∧ y ≤ 9999 then fg 4 y.toNat else ig y
def wrD (y m d : Int) : List Nat := hdY y ++ 45 :: (fg 2 m.toNat ++ 45 :: fg 2 d.toNat)
def wrC (r : Int) : List Nat := fg 2 (r / 3600).toNat ++ 58 :: (fg 2 (r / 60 % 60).toNat ++ 58 :: fg 2 (r % 60).toNat)
def wrT (y m d r : Int) : List Nat := wrD y m d ++ 32 :: wrC r
theorem valid_sun {y m d : Int} (v : Valid sunK y m d) : 1 ≤ m ∧ m ≤ 12 ∧ 1 ≤ d ∧ d ≤ 32 := by
  have h1 := v.m1
  have h2 := v.m2
  have h3 := v.d1
  have h4 := v.d2
  have h5 : ((sunK.ms.length : Nat) : Int) = 12 := rfl
  have h6 : msz sunK y m ≤ 32 := by
    unfold msz
    have : ∀ n : Nat, n < 12 → sunK.ms.getD n 0 ≤ 31 := by decide +kernel
    have := this (m - 1).toNat (by omega)
    split <;> omega
  omega
theorem ig_len {y : Int} (h0 : -100000000000000000000000000000000000000000000000000000000000000 < y) (h1 : y < 100000000000000000000000000000000000000000000000000000000000000) : (ig y).length ≤ 63 := by
  have e : (100000000000000000000000000000000000000000000000000000000000000 : Nat) = 10 ^ (61 + 1) := by decide
  unfold ig
  have := dg_len 61 y.natAbs (by omega)
  split
  · rw [List.length_cons]; omega
  · omega
theorem hdY_len {y : Int} (h0 : -100000000000000000000000000000000000000000000000000000000000000 < y) (h1 : y < 100000000000000000000000000000000000000000000000000000000000000) : (hdY y).length ≤ 63 := by
  unfold hdY
  split
  · rw [fg_len]; decide
  · exact ig_len h0 h1
theorem wrD_len {y m d : Int} (h0 : -100000000000000000000000000000000000000000000000000000000000000 < y) (h1 : y < 100000000000000000000000000000000000000000000000000000000000000) : (wrD y m d).length ≤ 69 := by
  have := hdY_len h0 h1
  unfold wrD
  simp only [List.length_append, List.length_cons, fg_len]
  omega
theorem wrC_len {r : Int} : (wrC r).length = 8 := by
  unfold wrC
  simp only [List.length_append, List.length_cons, fg_len]
theorem wrT_len {y m d r : Int} (h0 : -100000000000000000000000000000000000000000000000000000000000000 < y) (h1 : y < 100000000000000000000000000000000000000000000000000000000000000) : (wrT y m d r).length ≤ 78 := by
  have := wrD_len (m := m) (d := d) h0 h1
  unfold wrT
  simp only [List.length_append, List.length_cons, wrC_len]
  omega
theorem hd_short {y : Int} (h : 0 ≤ y ∧ y ≤ 9999) : Txt.rjustF (Str.ofString (toString y)) 4 (((Str.ofString "0").cps).getD 0 0) = tx (hdY y) := by
  rw [xt_int, ig_pos h.1, show (4 : Int) = ((4 : Nat) : Int) from rfl, xt_rjust0, pad_fg 3 _ (by omega)]
  unfold hdY
  rw [if_pos h]
theorem hd_long {y : Int} (h : ¬ (0 ≤ y ∧ y ≤ 9999)) : (Str.ofString (toString y)) = tx (hdY y) := by
  rw [xt_int]
  unfold hdY
  rw [if_neg h]
theorem xt_e (l : List Nat) : Str.empty ++ tx l = tx l := PySem.Str.empty_append _
theorem join3 (a b c : List Nat) : Txt.join (tx [58]) [tx a, tx b, tx c] = tx (a ++ 58 :: (b ++ 58 :: c)) := by
  show Builtin.Str.glued _ _ = _
  rw [PySem.StrLaws.glued_eq_join]
  exact xt_join 58 [a, b, c]
def Lo (l : List Nat) : Prop := ∀ c ∈ l, c < 1114112
theorem Lo.sh {l : List Nat} (h : Lo l) (n : Nat) : Pu.sh n (.str (tx l)) = true := by
  have : PySem.PyData.strOk (tx l) = true := by
    unfold PySem.PyData.strOk
    rw [← Array.all_toList, xt_cps, List.all_eq_true]
    exact fun c hc => decide_eq_true (h c hc)
  cases n <;> simpa only [Pu.sh, PyData.canLay0] using this
theorem Lo.app {a b : List Nat} (ha : Lo a) (hb : Lo b) : Lo (a ++ b) := fun c hc => (List.mem_append.mp hc).elim (ha c) (hb c)
theorem Lo.cons {c : Nat} {l : List Nat} (h : c < 1114112) (hl : Lo l) : Lo (c :: l) := fun x hx => by
  rcases List.mem_cons.mp hx with rfl | hx
  · exact h
  · exact hl x hx
theorem lo_nil : Lo [] := fun _ h => by cases h
theorem lo_fg (k n : Nat) : Lo (fg k n) := fun c hc => by
  have := fg_dig k n c hc
  omega
theorem lo_dg (n : Nat) : Lo (dg n) := fun c hc => by
  have := dg_dig n c hc
  omega
theorem lo_ig (i : Int) : Lo (ig i) := by
  unfold ig
  split
  · exact .cons (by decide) (lo_dg _)
  · exact lo_dg _
theorem feqS {n : Bool} {a b : List Nat} {B : Bool → Prop} (ha : Lo a) (hb : Lo b) : fEq n (.str (tx a)) (.str (tx b)) B = B (if n then !decide (a = b) else decide (a = b)) := by
  have e : PyData.eqv (.str (tx a)) (.str (tx b)) = decide (a = b) := by
    show decide (tx a = tx b) = decide (a = b)
    by_cases h : a = b
    · rw [h, decide_eq_true rfl, decide_eq_true rfl]
    · rw [decide_eq_false h, decide_eq_false fun z => h (xt_inj z)]
  unfold fEq
  rw [e]
  exact propext ⟨fun z => z.2.2, fun z => ⟨ha.sh 32, hb.sh 32, z⟩⟩
theorem hdY_free {y : Int} : 32 ∉ hdY y := by
  intro h
  unfold hdY at h
  split at h
  · have := fg_dig _ _ _ h
    omega
  · unfold ig at h
    split at h
    · rcases List.mem_cons.mp h with h | h
      · omega
      · have := dg_dig _ _ h
        omega
    · have := dg_dig _ _ h
      omega
theorem fg_no {k n c : Nat} (h : c < 48 ∨ 57 < c) : c ∉ fg k n := fun z => by
  have := fg_dig _ _ _ z
  omega
theorem ct_wrT {y m d q : Int} : ct 32 (wrT y m d q) = [wrD y m d, wrC q] := by
  refine ct_jn (ps := [wrD y m d, wrC q]) (by simp) fun p hp => ?_
  simp only [List.mem_cons, List.not_mem_nil, or_false] at hp
  have f := fun k n => fg_no (k := k) (n := n) (c := 32) (by decide)
  rcases hp with rfl | rfl
  · intro z
    unfold wrD at z
    simp only [List.mem_append, List.mem_cons] at z
    rcases z with z | z | z | z | z
    · exact hdY_free z
    · cases z
    · exact f _ _ z
    · cases z
    · exact f _ _ z
  · intro z
    unfold wrC at z
    simp only [List.mem_append, List.mem_cons] at z
    rcases z with z | z | z | z | z
    · exact f _ _ z
    · cases z
    · exact f _ _ z
    · cases z
    · exact f _ _ z
theorem ct_wrC {q : Int} : ct 58 (wrC q) = [fg 2 (q / 3600).toNat, fg 2 (q / 60 % 60).toNat, fg 2 (q % 60).toNat] := by
  refine ct_jn (ps := [fg 2 (q / 3600).toNat, fg 2 (q / 60 % 60).toNat, fg 2 (q % 60).toNat]) (by simp) fun p hp => ?_
  simp only [List.mem_cons, List.not_mem_nil, or_false] at hp
  rcases hp with rfl | rfl | rfl <;> exact fg_no (by decide)
theorem hdY_head {y : Int} : ((hdY y).head? == some 45) = decide (y < 0) := by
  have dgh : ∀ n, ((dg n).head? == some 45) = false := fun n => by
    cases e : dg n with
    | nil => exact absurd e (dg_ne n)
    | cons c l =>
      have := dg_dig n c (by rw [e]; simp)
      have e2 : ((c :: l).head? == some 45) = decide (c = 45) := by
        show (some c == some 45) = _
        rw [Bool.eq_iff_iff, beq_iff_eq, decide_eq_true_iff, Option.some.injEq]
      rw [e2]
      exact decide_eq_false (by omega)
  unfold hdY
  split
  · rename_i h
    rw [decide_eq_false (by omega)]
    cases e : fg 4 y.toNat with
    | nil => rfl
    | cons c l =>
      have := fg_dig 4 y.toNat c (by rw [e]; simp)
      have e2 : ((c :: l).head? == some 45) = decide (c = 45) := by
        show (some c == some 45) = _
        rw [Bool.eq_iff_iff, beq_iff_eq, decide_eq_true_iff, Option.some.injEq]
      rw [e2]
      exact decide_eq_false (by omega)
  · rename_i h
    unfold ig
    split
    · rename_i h2
      rw [decide_eq_true h2]
      rfl
    · rename_i h2
      rw [decide_eq_false h2]
      exact dgh _
theorem hdY_val {y : Int} (h : 0 ≤ y) : (∀ c ∈ hdY y, 48 ≤ c ∧ c ≤ 57) ∧ hdY y ≠ [] ∧ ((PySem.NumText.digitsVal (hdY y) : Nat) : Int) = y := by
  unfold hdY
  split
  · rename_i h2
    refine ⟨fg_dig _ _, fun z => ?_, ?_⟩
    · have := congrArg List.length z
      rw [fg_len] at this
      cases this
    · rw [fg_val _ _ (by omega)]
      omega
  · rw [ig_pos h]
    exact ⟨dg_dig _, dg_ne _, by rw [dg_val]; omega⟩
theorem hdY_neg {y : Int} (h : y < 0) : hdY y = 45 :: dg y.natAbs := by
  unfold hdY
  rw [if_neg (by omega), ig_neg h]
theorem fg2_ne {n : Nat} : fg 2 n ≠ [] := fun z => by
  have := congrArg List.length z
  rw [fg_len] at this
  cases this
def txts (ls : List (List Nat)) : List D := ls.map fun l => .str (tx l)
theorem txts_map (ls : List (List Nat)) : (ls.map tx).map PyData.str = txts ls := by
  unfold txts
  rw [List.map_map]
  rfl
theorem lo_hdY {y : Int} : Lo (hdY y) := by
  unfold hdY
  split
  · exact lo_fg _ _
  · exact lo_ig _
theorem lo_wrC {q : Int} : Lo (wrC q) := .app (lo_fg _ _) (.cons (by decide) (.app (lo_fg _ _) (.cons (by decide) (lo_fg _ _))))
theorem lo_wrT {y m d q : Int} : Lo (wrT y m d q) := .app (.app lo_hdY (.cons (by decide) (.app (lo_fg _ _) (.cons (by decide) (lo_fg _ _))))) (.cons (by decide) lo_wrC)
/-! spans written -/
def pt (n : Int) (s : Nat) : List Nat := if n = 0 then [] else ig n ++ [s]
def spB (a b c : Int) : List Nat := pt a 77 ++ (pt b 68 ++ pt c 83)
def spT (a b c : Int) : List Nat := 80 :: (if spB a b c = [] then [48, 83] else spB a b c)
def Sm (n : Int) : Prop := -1000000000000000000000000000000 < n ∧ n < 1000000000000000000000000000000
def spanD (a b c : Int) : D := .tuple [.int a, .int b, .int c]
theorem pow30 : (10 : Nat) ^ 30 = 1000000000000000000000000000000 := by decide +kernel
theorem Sm.abs {n : Int} (h : Sm n) : n.natAbs < 10 ^ 30 := by
  unfold Sm at h
  rw [pow30]
  omega
theorem Sm.big {n : Int} (h : Sm n) : n.natAbs < 10 ^ 300 := Nat.lt_of_lt_of_le h.abs (Nat.pow_le_pow_right (by decide) (by decide))
theorem Sm.len {n : Int} (h : Sm n) : (ig n).length ≤ 31 := by
  have e := dg_len 29 n.natAbs (by have := h.abs; omega)
  unfold ig
  split
  · rw [List.length_cons]; omega
  · omega
theorem pt_len {n : Int} {s : Nat} (h : Sm n) : (pt n s).length ≤ 32 := by
  unfold pt
  split
  · simp
  · rw [List.length_append]
    have := h.len
    simp only [List.length_cons, List.length_nil]
    omega
theorem lo_pt {n : Int} {s : Nat} (h : s < 1114112) : Lo (pt n s) := by
  unfold pt
  split
  · exact lo_nil
  · exact .app (lo_ig _) (.cons h lo_nil)
theorem lo_spB {a b c : Int} : Lo (spB a b c) := .app (lo_pt (by decide)) (.app (lo_pt (by decide)) (lo_pt (by decide)))
theorem lo_spT {a b c : Int} : Lo (spT a b c) := by
  unfold spT
  refine .cons (by decide) ?_
  split
  · exact .cons (by decide) (.cons (by decide) lo_nil)
  · exact lo_spB
theorem spT_len {a b c : Int} (ha : Sm a) (hb : Sm b) (hc : Sm c) : (spT a b c).length ≤ 97 := by
  unfold spT spB
  have h1 := pt_len (s := 77) ha
  have h2 := pt_len (s := 68) hb
  have h3 := pt_len (s := 83) hc
  rw [List.length_cons]
  split
  · simp
  · simp only [List.length_append]
    omega
theorem signs_mds : signsD (Str.ofString "MDS") = [.str (tx [77]), .str (tx [68]), .str (tx [83])] := by
  rw [show Str.ofString "MDS" = tx [77, 68, 83] from xt_eq (by decide +kernel)]
  rfl
theorem l_P : Str.ofString "P" = tx [80] := xt_eq (by decide +kernel)
theorem l_P0S : Str.ofString "P0S" = tx [80, 48, 83] := xt_eq (by decide +kernel)
theorem l_0S : Str.ofString "0S" = tx [48, 83] := xt_eq (by decide +kernel)
theorem c_sg : c_SIGNS = .str (tx [77, 68, 83]) := by
  show (PyData.str (Str.ofString "MDS") : D) = _
  rw [show Str.ofString "MDS" = tx [77, 68, 83] from xt_eq (by decide +kernel)]
theorem law_step {n : Int} {s : Nat} {acc : List Nat} {E : Ed} {s0 : Sl} (hn : Sm n) (hl : acc.length ≤ 1000) (h : E.nx [s0, .dat (.str (tx (acc ++ pt n s))), .dat (.int n), .dat (.str (tx [s]))]) : b__law_text_1 E [s0, .dat (.str (tx acc)), .dat (.int n), .dat (.str (tx [s]))] := by
  unfold b__law_text_1
  walk_at "pu"
  rw [l_e, xt_int, xt_app, xt_len, xt_len, xt_app, xt_app, xt_len, xt_len, xt_len]
  have := hn.len
  refine ⟨fun hz => ⟨hn.big, by show _ + 1 ≤ 1000000; omega, by rw [List.length_append]; show _ + (_ + 1) ≤ 1000000; omega, ?_⟩, fun hz => ⟨by show _ + 0 ≤ 1000000; omega, ?_⟩⟩
  · unfold pt at h
    rw [if_neg hz] at h
    exact h
  · unfold pt at h
    rw [if_pos hz] at h
    exact h
theorem m_law_text {a b c : Int} {C : Rs → Prop} (ha : Sm a) (hb : Sm b) (hc : Sm c) (h : C (.dat (.str (tx (spT a b c))))) : S__law_text [.dat (spanD a b c)] C := by
  have l1 := pt_len (s := 77) ha
  have l2 := pt_len (s := 68) hb
  unfold S__law_text t__law_text N__law_text spanD
  walk_at "pu"
  rw [signs_mds, l_P]
  show forC _ _ _ [.tuple [.int a, .str (tx [77])], .tuple [.int b, .str (tx [68])], .tuple [.int c, .str (tx [83])]] _
  unfold forC
  walk_at "pu"
  refine law_step ha (by decide) ?_
  unfold forC
  walk_at "pu"
  refine law_step hb (by rw [List.length_cons]; omega) ?_
  unfold forC
  walk_at "pu"
  refine law_step hc (by rw [List.length_cons, List.length_append]; omega) ?_
  unfold forC
  walk_at "pu"
  have e : pt a 77 ++ pt b 68 ++ pt c 83 = spB a b c := by
    unfold spB
    rw [List.append_assoc]
  rw [e, l_P0S, feqS (.cons (by decide) lo_spB) (.cons (by decide) lo_nil)]
  refine ⟨fun z => ?_, fun z => ?_⟩
  · have z : 80 :: spB a b c ≠ [80] := by simpa using z
    unfold spT at h
    rw [if_neg (fun q => z (by rw [q]))] at h
    exact h
  · have z : spB a b c = [] := by simpa using z
    unfold spT at h
    rw [if_pos z] at h
    exact h
theorem join0 : ∀ ls : List (List Nat), Str.join (tx []) (ls.map tx) = tx ls.flatten
  | [] => rfl
  | [a] => by simp [Str.join]
  | a :: b :: r => by
    have ih := join0 (b :: r)
    show tx a ++ tx [] ++ Str.join (tx []) ((b :: r).map tx) = _
    rw [ih, xt_app, xt_app, List.append_nil]
    rfl
theorem strsOf_tx : ∀ ls : List (List Nat), strsOf (txts ls) = some (ls.map tx)
  | [] => rfl
  | l :: ls => by
    show (strsOf (txts ls)).map (tx l :: ·) = _
    rw [strsOf_tx ls]
    rfl
theorem m_span_text {a b c : Int} {C : Rs → Prop} (ha : Sm a) (hb : Sm b) (hc : Sm c) (h : C (.dat (.str (tx (spT a b c))))) : S_span_text [.dat (spanD a b c)] C := by
  have l1 := pt_len (s := 77) ha
  have l2 := pt_len (s := 68) hb
  have l3 := pt_len (s := 83) hc
  unfold S_span_text t_span_text N_span_text spanD
  walk_at "pu"
  rw [c_sg]
  walk_at "pu"
  refine ⟨by rfl, ?_⟩
  show lcC _ _ _ _ _ (List.map (fun p : Int × Nat => (.tuple [.int p.1, .str (tx [p.2])] : D)) [(a, 77), (b, 68), (c, 83)]) _
  refine lcC_map _ (fun p : Int × Nat => !decide (p.1 = 0)) (fun p => .str (tx (ig p.1 ++ [p.2]))) _ [] (fun p hp P1 P2 g1 g2 => ?_) ?_
  · have hs : Sm p.1 := by
      simp only [List.mem_cons, List.not_mem_nil, or_false] at hp
      rcases hp with rfl | rfl | rfl <;> assumption
    walk_at "pu"
    refine ⟨fun z => ?_, fun z => g2 (by simp [z])⟩
    have := hs.len
    rw [xt_int, xt_e, xt_app, xt_len, xt_len]
    refine ⟨hs.abs, by show 0 + _ ≤ 1000000; omega, by show 1 ≤ 1000000; decide, by show _ + 1 ≤ 1000000; omega, g1 (by simp [z])⟩
  · rw [List.nil_append]
    have e : (List.map (fun p : Int × Nat => (.str (tx (ig p.1 ++ [p.2])) : D)) ([(a, 77), (b, 68), (c, 83)].filter fun p => !decide (p.1 = 0))) = txts (([(a, 77), (b, 68), (c, 83)].filter fun p => !decide (p.1 = 0)).map fun p => ig p.1 ++ [p.2]) := by
      unfold txts
      rw [List.map_map]
      rfl
    rw [e]
    generalize hq : (([(a, 77), (b, 68), (c, 83)].filter fun p : Int × Nat => !decide (p.1 = 0)).map fun p => ig p.1 ++ [p.2]) = ls
    have hf : ls.flatten = spB a b c := by
      rw [← hq]
      unfold spB pt
      by_cases z1 : a = 0 <;> by_cases z2 : b = 0 <;> by_cases z3 : c = 0 <;> simp [z1, z2, z3]
    have hz : ls = [] ↔ spB a b c = [] := by
      refine ⟨fun z => by rw [← hf, z]; rfl, fun z => ?_⟩
      cases ls with
      | nil => rfl
      | cons l r =>
        exfalso
        rw [z] at hf
        have hm : l ∈ (([(a, 77), (b, 68), (c, 83)].filter fun p : Int × Nat => !decide (p.1 = 0)).map fun p => ig p.1 ++ [p.2]) := by rw [hq]; simp
        obtain ⟨p, _, rfl⟩ := List.mem_map.mp hm
        simp at hf
    have hsum : ∀ ls : List (List Nat), ((ls.map tx).map (·.length)).sum = ls.flatten.length := fun ls => by
      induction ls with
      | nil => rfl
      | cons l ls ih => rw [List.map_cons, List.map_cons, List.sum_cons, ih, xt_len, List.flatten_cons, List.length_append]
    have hll : (spB a b c).length ≤ 96 := by
      unfold spB
      simp only [List.length_append]
      omega
    rw [strsOf_tx, ixC_some, hsum, l_e, l_P, l_0S]
    have ej : Txt.join (tx []) (ls.map tx) = tx (spB a b c) := by
      show Builtin.Str.glued _ _ = _
      rw [PySem.StrLaws.glued_eq_join, join0, hf]
    rw [ej, hf, xt_app, xt_app, xt_len, xt_len, xt_len, xt_len]
    refine ⟨fun z => ⟨by show _ + _ * 0 ≤ 1000000; omega, by show 1 + _ ≤ 1000000; omega, ?_⟩, fun z => ⟨by decide, ?_⟩⟩
    · have z : ls ≠ [] := fun q => by
        rw [q] at z
        cases z
      unfold spT at h
      rw [if_neg (fun q => z (hz.mpr q))] at h
      exact h
    · have z : ls = [] := by
        cases ls with
        | nil => rfl
        | cons l r => cases z
      unfold spT at h
      rw [if_pos (hz.mp z)] at h
      exact h

/-! numbers and spans read -/
theorem ig_head (i : Int) : ((ig i).head? == some 45) = decide (i < 0) := by
  unfold ig
  split
  · rename_i h
    rw [decide_eq_true h]
    rfl
  · rename_i h
    rw [decide_eq_false h]
    cases e : dg i.natAbs with
    | nil => exact absurd e (dg_ne _)
    | cons c l =>
      have := dg_dig i.natAbs c (by rw [e]; simp)
      have e2 : ((c :: l).head? == some 45) = decide (c = 45) := by
        show (some c == some 45) = _
        rw [Bool.eq_iff_iff, beq_iff_eq, decide_eq_true_iff, Option.some.injEq]
      rw [e2]
      exact decide_eq_false (by omega)
theorem c_fig : c_FIGURES = .str (Str.ofString "0123456789") := rfl
def Bd (l : List Nat) : Prop := Lo l ∧ l.length ≤ 1000
theorem fold_bd : ∀ (l : List Nat) (a : Nat), (∀ c ∈ l, 48 ≤ c ∧ c ≤ 57) → l.foldl (fun acc c => acc * 10 + (c - 48)) a < (a + 1) * 10 ^ l.length
  | [], a, _ => by simp
  | c :: l, a, h => by
    have ih := fold_bd l (a * 10 + (c - 48)) fun x hx => h x (by simp [hx])
    have hc := h c (by simp)
    rw [List.foldl_cons, List.length_cons, Nat.pow_succ']
    refine Nat.lt_of_lt_of_le ih ?_
    rw [← Nat.mul_assoc]
    exact Nat.mul_le_mul_right _ (by omega)
theorem dig_bd {l : List Nat} (h : ∀ c ∈ l, 48 ≤ c ∧ c ≤ 57) : PySem.NumText.digitsVal l < 10 ^ l.length := by
  have := fold_bd l 0 h
  simpa [PySem.NumText.digitsVal] using this
theorem m_number_X {l : List Nat} {ξ : Xw} {C : Rs → Prop} (hl : Bd l) (hx : ξ "NoText") (hc : ∀ i : Int, Sm i → l = ig i → C (.dat (.int i))) : X_number_in [.dat (.str (tx l))] C ξ := by
  have hll := hl.2
  unfold X_number_in tx_number_in N_number_in
  refine ⟨rfl, ?_⟩
  refine seq_cut (fun ρ => ∃ f, (f = l ∧ l.head? ≠ some 45 ∨ l = 45 :: f) ∧ ρ = [.dat (.str (tx l)), .dat (.str (tx f)), .un, .un]) (fun U hU => ?_) ?_
  · walk_at "pu"
    rw [l_dash, xt_starts, xt_cut, cut_f1, xt_len]
    refine ⟨fun z => ⟨by omega, hU _ ⟨l.drop 1, .inr ?_, rfl⟩⟩, fun z => hU _ ⟨l, .inl ⟨rfl, ?_⟩, rfl⟩⟩
    · cases l with
      | nil => cases z
      | cons c l =>
        have : c = 45 := by simpa using z
        rw [this]
        rfl
    · intro q
      rw [q] at z
      simp at z
  rintro ρ ⟨f, hf, rfl⟩
  have hfl : f.length ≤ 1000 := by
    rcases hf with ⟨rfl, _⟩ | rfl
    · exact hll
    · rw [List.length_cons] at hll; omega
  refine seq_cut (fun ρ => (∀ c ∈ f, 48 ≤ c ∧ c ≤ 57) ∧ f ≠ [] ∧ f.length ≤ 30 ∧ ρ = [.dat (.str (tx l)), .dat (.str (tx f)), .un, .un]) (fun U hU => ?_) ?_
  · walk_at "pu"
    rw [xt_len]
    refine ⟨by omega, fun h1 => ⟨fun _ => hx, fun h2 => ⟨by show f.toArray.size ≤ 1000000; rw [List.size_toArray]; omega, ?_⟩⟩, fun _ => hx⟩
    unfold signsD
    rw [xt_cps, c_fig]
    refine lcC_yes (fun c : Nat => (.str ⟨#[c]⟩ : D)) (fun c => .bool (isDg c)) f [] (fun c _ P1 g => ?_) ?_
    · walk_at "pu"
      refine ⟨c, rfl, ?_⟩
      rw [digs_mem]
      exact g
    rw [List.nil_append, bools_map isDg]
    walk_at "pu"
    rw [List.all_map]
    refine ⟨fun _ => hx, fun hd => hU _ ⟨fun c hc => isDg_iff.mp (List.all_eq_true.mp hd c hc), ?_, by omega, rfl⟩⟩
    rintro rfl
    simp at h1
  rintro ρ ⟨hd, hne, h30, rfl⟩
  have hb := dig_bd hd
  have hb2 : (10 : Nat) ^ f.length ≤ 10 ^ 30 := Nat.pow_le_pow_right (by decide) h30
  rw [pow30] at hb2
  walk_at "pu"
  rw [l_dash, xt_starts]
  have fin : ∀ i : Int, Sm i → i.natAbs < 10 ^ 300 ∧ fEq true (.str (Str.ofString (toString i))) (.str (tx l)) fun z => (z = true → ξ (Str.ofString "NoText")) ∧ (z = false → C (.dat (.int i))) := fun i hi => by
    refine ⟨hi.big, ?_⟩
    rw [xt_int, feqS (lo_ig _) hl.1]
    refine ⟨fun _ => hx, fun z => hc i hi ?_⟩
    have : ig i = l := by simpa using z
    exact this.symm
  refine ⟨fun _ => ⟨_, int_of_digs hd hne (by omega), by rw [xt_len]; omega, fin _ ⟨?_, ?_⟩⟩, fun _ => ⟨_, int_of_digs hd hne (by omega), by rw [xt_len]; omega, fin _ ⟨?_, ?_⟩⟩⟩ <;> omega
theorem m_number {i : Int} {C : Rs → Prop} (hi : Sm i) (hc : C (.dat (.int i))) : S_number_in [.dat (.str (tx (ig i)))] C := by
  have hl := hi.len
  have hlen : (dg i.natAbs).length ≤ 30 := dg_len 29 _ hi.abs
  unfold S_number_in t_number_in N_number_in
  refine ⟨rfl, ?_⟩
  refine seq_cut (fun ρ => ρ = [.dat (.str (tx (ig i))), .dat (.str (tx (dg i.natAbs))), .un, .un]) (fun U hU => ?_) ?_
  · walk_at "pu"
    rw [l_dash, xt_starts, xt_cut, cut_f1, xt_len, ig_head]
    refine ⟨fun z => ⟨by omega, hU _ ?_⟩, fun z => hU _ ?_⟩
    · rw [ig_neg (by simpa using z)]
      rfl
    · unfold ig
      rw [if_neg (by simpa using z)]
  rintro ρ rfl
  have hd := dg_dig i.natAbs
  have hne := dg_ne i.natAbs
  have hpos := List.length_pos_iff.mpr hne
  refine seq_cut (fun ρ => ρ = [.dat (.str (tx (ig i))), .dat (.str (tx (dg i.natAbs))), .un, .un]) (fun U hU => ?_) ?_
  · walk_at "pu"
    rw [xt_len]
    refine ⟨by omega, fun h1 => ⟨fun h2 => by omega, fun h2 => ⟨by show (dg i.natAbs).toArray.size ≤ 1000000; rw [List.size_toArray]; omega, ?_⟩⟩, fun h1 => by omega⟩
    unfold signsD
    rw [xt_cps, c_fig]
    refine lcC_yes (fun c : Nat => (.str ⟨#[c]⟩ : D)) (fun c => .bool (isDg c)) _ [] (fun c _ P1 g => ?_) ?_
    · walk_at "pu"
      refine ⟨c, rfl, ?_⟩
      rw [digs_mem]
      exact g
    rw [List.nil_append, bools_map isDg]
    walk_at "pu"
    rw [List.all_map]
    refine ⟨fun z => ?_, fun _ => hU _ rfl⟩
    rw [show (dg i.natAbs).all (id ∘ isDg) = true from List.all_eq_true.mpr fun c hc => isDg_iff.mpr (hd c hc)] at z
    cases z
  rintro ρ rfl
  walk_at "pu"
  rw [l_dash, xt_starts, ig_head]
  have fin : ∀ j : Int, j = i → j.natAbs < 10 ^ 300 ∧ fEq true (.str (Str.ofString (toString j))) (.str (tx (ig i))) fun z => (z = true → False) ∧ (z = false → C (.dat (.int j))) := fun j hj => by
    subst hj
    refine ⟨hi.big, ?_⟩
    rw [xt_int, feqS (lo_ig _) (lo_ig _)]
    exact ⟨fun z => (by simp at z), fun z => hc⟩
  refine ⟨fun z => ⟨_, int_of_digs hd hne (by omega), by rw [xt_len]; omega, fin _ ?_⟩, fun z => ⟨_, int_of_digs hd hne (by omega), by rw [xt_len]; omega, fin _ ?_⟩⟩
  · rw [dg_val]
    have : i < 0 := by simpa using z
    omega
  · rw [dg_val]
    have : ¬ i < 0 := by simpa using z
    omega
theorem forC_seq {α : Type} {g : UG} {tb : US} {E : Ed} (mk : α → D) (xs : List α) (I : List α → En → Prop)
    (h : ∀ done a todo ρ, xs = done ++ a :: todo → I done ρ → ∀ K : En → Prop, (∀ ρ', I (done ++ [a]) ρ' → K ρ') → g (mk a) ρ fun ρ' => tb { E with nx := K, ct := K, bk := E.nx } ρ') (hn : ∀ ρ, I xs ρ → E.nx ρ) (ρ : En) (h0 : I [] ρ) : forC g tb E (xs.map mk) ρ := by
  have : ∀ (todo done : List α) (ρ : En), xs = done ++ todo → I done ρ → forC g tb E (todo.map mk) ρ := by
    intro todo
    induction todo with
    | nil =>
      intro done ρ e i
      rw [List.append_nil] at e
      subst e
      exact hn ρ i
    | cons a todo ih =>
      intro done ρ e i
      rw [List.map_cons]
      unfold forC
      exact h done a todo ρ e i _ fun ρ' i' => ih (done ++ [a]) ρ' (by rw [e]; simp) i'
  exact this xs [] ρ rfl h0
theorem getD_putG {kds : List (Key × D)} {k j : Key} {d : D} : getD? (putD kds k d) j = if j = k then some d else getD? kds j := by
  unfold getD? putD
  by_cases c : (kds.any fun p => decide (p.1 = k)) = true
  · rw [if_pos c, List.find?_map]
    have e : (fun p : Key × D => decide (p.1 = j)) ∘ (fun p : Key × D => if p.1 = k then (p.1, d) else p) = fun p : Key × D => decide (p.1 = j) := by
      funext p
      show decide ((if p.1 = k then (p.1, d) else p).1 = j) = decide (p.1 = j)
      split <;> rfl
    rw [e]
    by_cases c2 : j = k
    · subst c2
      rw [if_pos rfl]
      cases h : kds.find? fun p => decide (p.1 = j) with
      | none =>
        obtain ⟨p, hp, h2⟩ := List.any_eq_true.mp c
        exact absurd h2 (List.find?_eq_none.mp h p hp)
      | some p =>
        have h4 := List.find?_some h
        have h3 : decide (p.1 = j) = true := h4
        have := of_decide_eq_true h3
        show some (if p.1 = j then (p.1, d) else p).2 = some _
        rw [if_pos this]
    · rw [if_neg c2]
      cases h : kds.find? fun p => decide (p.1 = j) with
      | none => rfl
      | some p =>
        have h4 := List.find?_some h
        have h3 : decide (p.1 = j) = true := h4
        have : p.1 = j := of_decide_eq_true h3
        show some (if p.1 = k then (p.1, d) else p).2 = some _
        rw [if_neg (fun h => c2 (by rw [← this, h]))]
  · rw [if_neg c, List.find?_append]
    have c' : kds.find? (fun p => decide (p.1 = k)) = none := List.find?_eq_none.mpr fun p hp h => c (List.any_eq_true.mpr ⟨p, hp, h⟩)
    by_cases c2 : j = k
    · subst c2
      rw [if_pos rfl, c', Option.none_or, List.find?_cons_of_pos (by show decide (j = j) = true; simp)]
      rfl
    · rw [if_neg c2, List.find?_cons_of_neg (by show ¬ decide (k = j) = true; rw [decide_eq_true_iff]; exact fun h => c2 h.symm), List.find?_nil, Option.or_none]
theorem putD_len14 {kds : List (Key × D)} {k : Key} {d : D} : (putD kds k d).length ≤ kds.length + 1 := by
  unfold putD
  split
  · rw [List.length_map]; omega
  · rw [List.length_append, List.length_singleton]; exact Nat.le_refl _
theorem ow_dat {d : D} : ownN (some (.dat d)) := by rw [ownN_dat]; trivial
theorem ow_un : ownN (some .un) := by rw [ownN_un]; trivial
def Sg (s : Nat) : Prop := s = 77 ∨ s = 68 ∨ s = 83
instance (s : Nat) : Decidable (Sg s) := by unfold Sg; exact inferInstance
theorem mds_mem (c : Nat) : decide (c ∈ (tx [77, 68, 83]).cps.toList) = decide (Sg c) := by
  rw [xt_cps]
  refine decide_eq_decide.mpr ?_
  unfold Sg
  simp
def Tk (kds : List (Key × D)) : Prop := ∀ s, Sg s → ∃ i : Int, Sm i ∧ (getD? kds (.inr (tx [s])) = none ∨ getD? kds (.inr (tx [s])) = some (.int i))
theorem key_ne {s t : Nat} (h : s ≠ t) : (Sum.inr (tx [s]) : Key) ≠ .inr (tx [t]) := fun z => h (by simpa using xt_inj (Sum.inr.inj z))
theorem Tk.nil : Tk [] := fun s _ => ⟨0, by unfold Sm; omega, .inl rfl⟩
theorem Tk.put {kds : List (Key × D)} (h : Tk kds) {s : Nat} {i : Int} (hi : Sm i) : Tk (putD kds (.inr (tx [s])) (.int i)) := fun t ht => by
  by_cases e : t = s
  · subst e
    exact ⟨i, hi, .inr (by rw [getD_putG, if_pos rfl])⟩
  · obtain ⟨j, hj, g⟩ := h t ht
    exact ⟨j, hj, by rw [getD_putG, if_neg (key_ne e)]; exact g⟩
/-- what is told of a sign -/
def tl (kds : List (Key × D)) (s : Nat) : D := (getD? kds (.inr (tx [s]))).getD (.int 0)
theorem Tk.at {kds : List (Key × D)} (h : Tk kds) {s : Nat} (hs : Sg s) : ∃ i : Int, Sm i ∧ tl kds s = .int i := by
  obtain ⟨i, hi, g | g⟩ := h s hs
  · exact ⟨0, by unfold Sm; omega, by unfold tl; rw [g]; rfl⟩
  · exact ⟨i, hi, by unfold tl; rw [g]; rfl⟩
theorem signs_tx (l : List Nat) : signsD (tx l) = l.map fun c => (.str (tx [c]) : D) := rfl
theorem m_read_span_X {l : List Nat} {ξ : Xw} {C : Rs → Prop} (hl : Bd l) (hx : ξ "NoText") (hc : ∀ a b c : Int, Sm a → Sm b → Sm c → l = spT a b c → C (.dat (spanD a b c))) : X_read_span [.dat (.str (tx l))] C ξ := by
  have hll := hl.2
  unfold X_read_span tx_read_span N_read_span
  walk_at "pu"
  rw [xt_cut, cut_f1, signs_tx, xt_len, l_e]
  have hdl : (l.drop 1).length ≤ 1000 := by rw [List.length_drop]; omega
  refine ⟨by rfl, by omega, by show (l.drop 1).toArray.size ≤ 1000000; rw [List.size_toArray]; omega, ?_⟩
  refine forC_seq (fun c : Nat => (.str (tx [c]) : D)) (l.drop 1) (fun done ρ => ∃ kds w s3, kds.length ≤ done.length ∧ Tk kds ∧ Lo w ∧ w.length ≤ done.length ∧ ownN (some s3) ∧ ρ = [.dat (.str (tx l)), .dic kds, .dat (.str (tx w)), s3, .un]) ?hb ?hn _ ⟨[], [], _, Nat.le_refl _, Tk.nil, lo_nil, Nat.le_refl _, ow_un, rfl⟩
  case hb =>
    rintro done c todo ρ hd ⟨kds, w, s3, k1, k2, k3, k4, k5, rfl⟩ K hK
    have hdone : done.length + 1 ≤ 1000 := by
      have := congrArg List.length hd
      rw [List.length_append, List.length_cons] at this
      omega
    have hcl : c < 1114112 := hl.1 c (List.mem_of_mem_drop (by rw [hd]; simp))
    unfold bx_read_span_1
    walk_at "pu"
    rw [c_sg]
    refine ⟨c, rfl, ?_⟩
    rw [mds_mem]
    have app : (tx w).length + (tx [c]).length ≤ 1000000 ∧ K [.dat (.str (tx l)), .dic kds, .dat (.str (tx w ++ tx [c])), .dat (.str (tx [c])), .un] := by
      rw [xt_len, xt_len, xt_app]
      refine ⟨by show _ + 1 ≤ 1000000; omega, hK _ ⟨kds, _, _, by rw [List.length_append]; omega, k2, k3.app (.cons hcl lo_nil), ?_, ow_dat, rfl⟩⟩
      rw [List.length_append, List.length_append]
      show w.length + 1 ≤ done.length + 1
      omega
    refine ⟨fun hs => ?_, fun _ => app⟩
    walk_at "pu"
    refine ⟨_, rfl, ?_⟩
    refine ⟨fun hn => ?_, fun _ => app⟩
    refine .inr (m_number_X ⟨k3, by omega⟩ hx fun i hi _ => ?_)
    walk_at "pu"
    refine ⟨_, rfl, by omega, ?_⟩
    rw [l_e]
    exact hK _ ⟨_, [], _, by have := putD_len14 (kds := kds) (k := .inr (tx [c])) (d := .int i); rw [List.length_append]; show _ ≤ done.length + 1; omega, k2.put hi, lo_nil, Nat.zero_le _, ow_dat, rfl⟩
  case hn =>
    rintro ρ ⟨kds, w, s3, k1, k2, k3, k4, k5, rfl⟩
    obtain ⟨a, ha, ea⟩ := k2.at (s := 77) (.inl rfl)
    obtain ⟨b, hb, eb⟩ := k2.at (s := 68) (.inr (.inl rfl))
    obtain ⟨c, hcc, ec⟩ := k2.at (s := 83) (.inr (.inr rfl))
    walk_at "pu"
    rw [c_sg]
    walk_at "pu"
    refine ⟨k5, by decide, ?_⟩
    rw [signs_tx]
    refine lcC3 _ _ _ ?_
    walk_at "pu"
    refine ⟨_, rfl, _, rfl, _, rfl, ?_⟩
    unfold tl at ea eb ec
    rw [ea, eb, ec, feqS k3 lo_nil]
    refine ⟨fun _ => hx, fun _ => ?_⟩
    refine m_span_text ha hb hcc ?_
    walk_at "pu"
    rw [feqS lo_spT hl.1]
    refine ⟨fun _ => hx, fun z => hc a b c ha hb hcc ?_⟩
    have : spT a b c = l := by simpa using z
    exact this.symm
/-! a sound text -/
theorem seg_chars {E : Ed} {kds : List (Key × D)} {l : D} : ∀ (cs rest w : List Nat) (s3 : Sl), (∀ c ∈ cs, ¬ Sg c) → w.length + cs.length ≤ 1000 → ownN (some s3) → (∀ s3, ownN (some s3) → forC (gNam 3) b_read_span_1 E (rest.map fun c => (.str (tx [c]) : D)) [.dat l, .dic kds, .dat (.str (tx (w ++ cs))), s3, .un]) → forC (gNam 3) b_read_span_1 E ((cs ++ rest).map fun c => (.str (tx [c]) : D)) [.dat l, .dic kds, .dat (.str (tx w)), s3, .un]
  | [], rest, w, s3, _, _, ow, h => by
    rw [List.nil_append]
    have := h s3 ow
    rwa [List.append_nil] at this
  | c :: cs, rest, w, s3, hn, hlen, ow, h => by
    rw [List.length_cons] at hlen
    rw [List.cons_append, List.map_cons]
    unfold forC b_read_span_1
    walk_at "pu"
    rw [c_sg]
    refine ⟨c, rfl, ?_⟩
    rw [mds_mem]
    refine ⟨fun z => absurd (by simpa using z) (hn c (by simp)), fun _ => ?_⟩
    rw [xt_len, xt_len, xt_app]
    refine ⟨by show _ + 1 ≤ 1000000; omega, ?_⟩
    refine seg_chars cs rest (w ++ [c]) _ (fun x hx => hn x (by simp [hx])) (by rw [List.length_append]; show w.length + 1 + _ ≤ 1000; omega) ow_dat fun s3 o3 => ?_
    rw [List.append_assoc]
    exact h s3 o3
theorem ig_free (i : Int) : ∀ c ∈ ig i, ¬ Sg c := fun c hc z => by
  have : c = 45 ∨ 48 ≤ c ∧ c ≤ 57 := by
    unfold ig at hc
    split at hc
    · rcases List.mem_cons.mp hc with h | h
      · exact .inl h
      · exact .inr (dg_dig _ c h)
    · exact .inr (dg_dig _ c hc)
  unfold Sg at z
  omega
theorem seg_one {E : Ed} {kds : List (Key × D)} {l : D} {i : Int} {s : Nat} {rest : List Nat} {s3 : Sl} (hi : Sm i) (hs : Sg s) (hk : getD? kds (.inr (tx [s])) = none) (hl : kds.length ≤ 10) (ow : ownN (some s3)) (h : ∀ s3, ownN (some s3) → forC (gNam 3) b_read_span_1 E (rest.map fun c => (.str (tx [c]) : D)) [.dat l, .dic (putD kds (.inr (tx [s])) (.int i)), .dat (.str (tx [])), s3, .un]) : forC (gNam 3) b_read_span_1 E ((ig i ++ [s] ++ rest).map fun c => (.str (tx [c]) : D)) [.dat l, .dic kds, .dat (.str (tx [])), s3, .un] := by
  rw [List.append_assoc]
  refine seg_chars (ig i) _ [] s3 (ig_free i) (by have := hi.len; show 0 + _ ≤ 1000; omega) ow fun s3 o3 => ?_
  rw [List.nil_append, List.cons_append, List.nil_append, List.map_cons]
  unfold forC b_read_span_1
  walk_at "pu"
  rw [c_sg]
  refine ⟨s, rfl, ?_⟩
  rw [mds_mem]
  refine ⟨fun _ => ?_, fun z => absurd hs (by simpa using z)⟩
  walk_at "pu"
  refine ⟨_, rfl, ?_⟩
  rw [hk]
  refine ⟨fun _ => ?_, fun z => (by cases z)⟩
  refine m_number hi ?_
  walk_at "pu"
  refine ⟨_, rfl, by omega, ?_⟩
  rw [l_e]
  exact h _ ow_dat
theorem seg_pt {E : Ed} {kds : List (Key × D)} {l : D} {i : Int} {s : Nat} {rest : List Nat} {s3 : Sl} (hi : Sm i) (hs : Sg s) (hk : getD? kds (.inr (tx [s])) = none) (hl : kds.length ≤ 10) (ow : ownN (some s3)) (h : ∀ kds' s3, ownN (some s3) → kds'.length ≤ kds.length + 1 → tl kds' s = .int i → (∀ t, t ≠ s → getD? kds' (.inr (tx [t])) = getD? kds (.inr (tx [t]))) → forC (gNam 3) b_read_span_1 E (rest.map fun c => (.str (tx [c]) : D)) [.dat l, .dic kds', .dat (.str (tx [])), s3, .un]) : forC (gNam 3) b_read_span_1 E ((pt i s ++ rest).map fun c => (.str (tx [c]) : D)) [.dat l, .dic kds, .dat (.str (tx [])), s3, .un] := by
  unfold pt
  split
  · rename_i z
    subst z
    exact h kds s3 ow (by omega) (by unfold tl; rw [hk]; rfl) fun t _ => rfl
  · exact seg_one hi hs hk hl ow fun s3 o3 => h _ s3 o3 putD_len14 (by unfold tl; rw [getD_putG, if_pos rfl]; rfl) fun t ht => by rw [getD_putG, if_neg (key_ne ht)]
theorem m_read_span {a b c : Int} {C : Rs → Prop} (ha : Sm a) (hb : Sm b) (hc : Sm c) (h : C (.dat (spanD a b c))) : S_read_span [.dat (.str (tx (spT a b c)))] C := by
  have hl := spT_len ha hb hc
  unfold S_read_span t_read_span N_read_span
  walk_at "pu"
  rw [xt_cut, cut_f1, signs_tx, xt_len, l_e]
  refine ⟨by rfl, by omega, by show ((spT a b c).drop 1).toArray.size ≤ 1000000; rw [List.size_toArray, List.length_drop]; omega, ?_⟩
  have fin : ∀ (E : Ed) (kds : List (Key × D)) (s3 : Sl), (∀ ρ, E.nx ρ = sSeq (sSet 4 (eB fTuple (lCons (dE (eLc (iSeq (dC c_SIGNS)) (gNam 3) bYes (dGet2 1 (dVar 3) (dC (PyData.int 0))) [3])) fun x C => C []))) (sSeq (sIf (bOr (b2 (fEq true) (vVar 2) (dC (PyData.str (Str.ofString "")))) (b2 (fEq true) (dE (eCall S_span_text (aCons (vVar 4) aNil))) (vVar 0))) sNever sNext) (sRetV 4)) { nx := fun x => C (Rs.dat PyData.none), rt := fun r => r.lf = true ∧ C r } ρ) → ownN (some s3) → tl kds 77 = .int a → tl kds 68 = .int b → tl kds 83 = .int c → E.nx [.dat (.str (tx (spT a b c))), .dic kds, .dat (.str (tx [])), s3, .un] := fun E kds s3 hE ow ea eb ec => by
    rw [hE]
    walk_at "pu"
    rw [c_sg]
    walk_at "pu"
    refine ⟨ow, by decide, ?_⟩
    rw [signs_tx]
    refine lcC3 _ _ _ ?_
    walk_at "pu"
    refine ⟨_, rfl, _, rfl, _, rfl, ?_⟩
    unfold tl at ea eb ec
    rw [ea, eb, ec, l_e, feqS lo_nil lo_nil]
    refine ⟨fun z => (by simp at z), fun _ => ?_⟩
    refine m_span_text ha hb hc ?_
    walk_at "pu"
    rw [feqS lo_spT lo_spT]
    exact ⟨fun z => (by simp at z), fun _ => h⟩
  have e1 : (spT a b c).drop 1 = if spB a b c = [] then [48, 83] else spB a b c := rfl
  rw [e1]
  by_cases z : spB a b c = []
  · rw [if_pos z]
    have za : a = 0 ∧ b = 0 ∧ c = 0 := by
      unfold spB pt at z
      simp only [List.append_eq_nil_iff] at z
      obtain ⟨z1, z2, z3⟩ := z
      refine ⟨?_, ?_, ?_⟩
      · by_cases q : a = 0
        · exact q
        · rw [if_neg q] at z1; simp at z1
      · by_cases q : b = 0
        · exact q
        · rw [if_neg q] at z2; simp at z2
      · by_cases q : c = 0
        · exact q
        · rw [if_neg q] at z3; simp at z3
    obtain ⟨rfl, rfl, rfl⟩ := za
    show forC _ _ _ (List.map (fun c => (.str (tx [c]) : D)) (ig 0 ++ [83] ++ [])) _
    refine seg_one ha (.inr (.inr rfl)) rfl (by decide) ow_un (fun s3 o3 => ?_)
    exact fin _ _ s3 (fun ρ => rfl) o3 rfl rfl rfl
  · rw [if_neg z]
    unfold spB
    rw [show pt a 77 ++ (pt b 68 ++ pt c 83) = pt a 77 ++ (pt b 68 ++ (pt c 83 ++ [])) by rw [List.append_nil]]
    refine seg_pt ha (.inl rfl) rfl (by decide) ow_un fun k1 s3 o3 l1 t1 u1 => ?_
    refine seg_pt hb (.inr (.inl rfl)) (by rw [u1 68 (by decide)]; rfl) (by show _ ≤ 10; have : ([] : List (Key × D)).length = 0 := rfl; omega) o3 fun k2 s3 o3 l2 t2 u2 => ?_
    refine seg_pt hc (.inr (.inr rfl)) (by rw [u2 83 (by decide), u1 83 (by decide)]; rfl) (by have : ([] : List (Key × D)).length = 0 := rfl; omega) o3 (fun k3 s3 o3 l3 t3 u3 => ?_)
    exact fin _ _ s3 (fun ρ => rfl) o3 (by unfold tl at t1 ⊢; rw [u3 77 (by decide), u2 77 (by decide)]; exact t1) (by unfold tl at t2 ⊢; rw [u3 68 (by decide)]; exact t2) t3

/-! texts of no span -/
def sgs : List Nat → List Nat → List (List Nat × Nat)
  | _, [] => []
  | w, x :: l => if Sg x then (w, x) :: sgs [] l else sgs (w ++ [x]) l
def lft : List Nat → List Nat → List Nat
  | w, [] => w
  | w, x :: l => if Sg x then lft [] l else lft (w ++ [x]) l
theorem sgs_chars : ∀ (cs rest w : List Nat), (∀ c ∈ cs, ¬ Sg c) → sgs w (cs ++ rest) = sgs (w ++ cs) rest ∧ lft w (cs ++ rest) = lft (w ++ cs) rest
  | [], rest, w, _ => by rw [List.nil_append, List.append_nil]; exact ⟨rfl, rfl⟩
  | c :: cs, rest, w, h => by
    obtain ⟨e1, e2⟩ := sgs_chars cs rest (w ++ [c]) fun x hx => h x (by simp [hx])
    rw [List.cons_append]
    show (if Sg c then _ else sgs (w ++ [c]) (cs ++ rest)) = _ ∧ (if Sg c then _ else lft (w ++ [c]) (cs ++ rest)) = _
    rw [if_neg (h c (by simp)), if_neg (h c (by simp)), e1, e2, List.append_assoc]
    exact ⟨rfl, rfl⟩
theorem sgs_pt {n : Int} {s : Nat} {rest : List Nat} (hs : Sg s) : sgs [] (pt n s ++ rest) = (if n = 0 then [] else [(ig n, s)]) ++ sgs [] rest ∧ lft [] (pt n s ++ rest) = lft [] rest := by
  unfold pt
  split
  · exact ⟨rfl, rfl⟩
  · obtain ⟨e1, e2⟩ := sgs_chars (ig n) ([s] ++ rest) [] (ig_free n)
    rw [List.append_assoc, e1, e2]
    show (if Sg s then _ else _) = _ ∧ (if Sg s then _ else _) = _
    rw [if_pos hs, if_pos hs]
    exact ⟨rfl, rfl⟩
def vo (w : List Nat) : Int := if w.head? = some 45 then -((PySem.NumText.digitsVal w.tail : Nat) : Int) else ((PySem.NumText.digitsVal w : Nat) : Int)
theorem vo_ig (n : Int) : vo (ig n) = n := by
  have h := ig_head n
  unfold vo
  by_cases c : n < 0
  · rw [decide_eq_true c] at h
    rw [if_pos (by simpa using h), ig_neg c]
    show -((PySem.NumText.digitsVal (dg n.natAbs) : Nat) : Int) = n
    rw [dg_val]
    omega
  · rw [decide_eq_false c] at h
    rw [if_neg (by simpa using h), ig_pos (by omega), dg_val]
    omega
def wOk (w : List Nat) : Bool := decide (ig (vo w) = w) && !decide (vo w = 0)
theorem wOk_ig {n : Int} (h : n ≠ 0) : wOk (ig n) = true := by
  unfold wOk
  rw [vo_ig, decide_eq_true rfl, decide_eq_false h]
  rfl
def chk (l : List Nat) : Bool := (l.head? == some 80) && (decide (lft [] (l.drop 1) = []) && (decide (sgs [] (l.drop 1) = [([48], 83)]) || ((sgs [] (l.drop 1)).all fun p => wOk p.1) && ([[77], [68], [83], [77, 68], [77, 83], [68, 83], [77, 68, 83]].contains ((sgs [] (l.drop 1)).map (·.2)))))
theorem chk_spT (a b c : Int) : chk (spT a b c) = true := by
  unfold chk
  by_cases z : spB a b c = []
  · have e : spT a b c = [80, 48, 83] := by
      unfold spT
      rw [if_pos z]
    rw [e]
    decide +kernel
  · have e : spT a b c = 80 :: (pt a 77 ++ (pt b 68 ++ (pt c 83 ++ []))) := by
      unfold spT
      rw [if_neg z, List.append_nil]
      rfl
    have d : (spT a b c).drop 1 = pt a 77 ++ (pt b 68 ++ (pt c 83 ++ [])) := by rw [e]; rfl
    have s1 : Sg 77 := .inl rfl
    have s2 : Sg 68 := .inr (.inl rfl)
    have s3 : Sg 83 := .inr (.inr rfl)
    rw [d, (sgs_pt s1).1, (sgs_pt s1).2, (sgs_pt s2).1, (sgs_pt s2).2, (sgs_pt s3).1, (sgs_pt s3).2, show sgs [] [] = [] from rfl, show lft [] [] = [] from rfl, decide_eq_true rfl, e]
    have hz : ¬ (a = 0 ∧ b = 0 ∧ c = 0) := fun ⟨x, y, w⟩ => z (by rw [x, y, w]; rfl)
    by_cases za : a = 0 <;> by_cases zb : b = 0 <;> by_cases zc : c = 0 <;> simp [za, zb, zc, wOk_ig] at hz ⊢
def K1 : List Nat := []
def K2 : List Nat := [80]
def K3 : List Nat := [80, 48, 77]
def K4 : List Nat := [80, 49, 83, 50, 68]
def K5 : List Nat := [80, 48, 49, 68]
def K6 : List Nat := [80, 45, 48, 83]
def K7 : List Nat := [49, 68]
def K8 : List Nat := [80, 49, 68, 49, 68]
def K9 : List Nat := [80, 49]
def K10 : List Nat := [112, 49, 68]
def K11 : List Nat := [80, 77]
def K12 : List Nat := [80, 43, 49, 68]
def lines : List (List Nat) := [K1, K2, K3, K4, K5, K6, K7, K8, K9, K10, K11, K12]
theorem lines_no : ∀ l ∈ lines, Bd l ∧ chk l = false := by
  have : ∀ l ∈ lines, ((∀ c ∈ l, c < 1114112) ∧ l.length ≤ 1000) ∧ chk l = false := by decide +kernel
  exact this
theorem kn1 : (Str.ofString "") = tx K1 := xt_eq (by decide +kernel)
theorem kn2 : (Str.ofString "P") = tx K2 := xt_eq (by decide +kernel)
theorem kn3 : (Str.ofString "P0M") = tx K3 := xt_eq (by decide +kernel)
theorem kn4 : (Str.ofString "P1S2D") = tx K4 := xt_eq (by decide +kernel)
theorem kn5 : (Str.ofString "P01D") = tx K5 := xt_eq (by decide +kernel)
theorem kn6 : (Str.ofString "P-0S") = tx K6 := xt_eq (by decide +kernel)
theorem kn7 : (Str.ofString "1D") = tx K7 := xt_eq (by decide +kernel)
theorem kn8 : (Str.ofString "P1D1D") = tx K8 := xt_eq (by decide +kernel)
theorem kn9 : (Str.ofString "P1") = tx K9 := xt_eq (by decide +kernel)
theorem kn10 : (Str.ofString "p1D") = tx K10 := xt_eq (by decide +kernel)
theorem kn11 : (Str.ofString "PM") = tx K11 := xt_eq (by decide +kernel)
theorem kn12 : (Str.ofString "P+1D") = tx K12 := xt_eq (by decide +kernel)
theorem hn_no : hn (Str.ofString "NoText") = some (Str.ofString "no text") := by decide +kernel
theorem cut_tn {α : Type} (xs : List α) {i : Int} (h : 0 ≤ i) : cut xs none (some i) = xs.take i.toNat := by
  obtain ⟨n, rfl⟩ := Int.eq_ofNat_of_zero_le h
  exact cut_to _ n
theorem cut_fn {α : Type} (xs : List α) {i : Int} (h : 0 ≤ i) : cut xs (some i) none = xs.drop i.toNat := by
  obtain ⟨n, rfl⟩ := Int.eq_ofNat_of_zero_le h
  exact cut_from _ n
theorem lo_take {l : List Nat} (h : Lo l) (n : Nat) : Lo (l.take n) := fun c hc => h c (List.mem_of_mem_take hc)
theorem lo_drop {l : List Nat} (h : Lo l) (n : Nat) : Lo (l.drop n) := fun c hc => h c (List.mem_of_mem_drop hc)
theorem txts_len (ls : List (List Nat)) : (txts ls).length = ls.length := by
  unfold txts
  rw [List.length_map]
theorem spoilt {ns : List Int} {l : List Nat} {E : Ed} {d0 : D} {d1 : D} {s3 s4 s5 s6 b8 b9 b10 b11 b12 : Sl} (hl : ns.length ≤ 63) (hlen : l.length ≤ 98) (hlo : Lo l)
    (hn : ∀ s7 s8 s9 s10 s11 s12, E.nx [.dat (scrD ns), .town, .dat d0, s3, s4, s5, s6, .dat (.str (tx l)), s7, s8, s9, s10, s11, s12]) : b_law_2 E [.dat (scrD ns), .town, .dat d0, s3, s4, s5, s6, .dat (.str (tx l)), .dat d1, b8, b9, b10, b11, b12] := by
  unfold b_law_2
  refine seq_cut (fun ρ => ∃ (a : Int) (c : Nat), 0 ≤ a ∧ a ≤ l.length ∧ c < 1114112 ∧ ρ = [.dat (scrD ns), .town, .dat d0, s3, s4, s5, s6, .dat (.str (tx l)), .dat d1, .dat (.int a), .dat (.str (tx [c])), b10, b11, b12]) (fun U hU => ?_) ?_
  · walk_at "pu"
    rw [xt_len]
    refine ⟨by omega, ?_⟩
    refine m_draw hl (by omega) (by omega) fun a a0 a1 => ?_
    walk_at "pu"
    refine m_draw hl (by decide) (by decide) fun j j0 j1 => ?_
    walk_at "pu"
    rw [show Str.ofString "PMDS-+0123 " = tx [80, 77, 68, 83, 45, 43, 48, 49, 50, 51, 32] from xt_eq (by decide +kernel)]
    have g : ∃ c, atI ([80, 77, 68, 83, 45, 43, 48, 49, 50, 51, 32] : List Nat) j = some c ∧ c < 1114112 := by
      have : j = 0 ∨ j = 1 ∨ j = 2 ∨ j = 3 ∨ j = 4 ∨ j = 5 ∨ j = 6 ∨ j = 7 ∨ j = 8 ∨ j = 9 ∨ j = 10 := by omega
      rcases this with rfl | rfl | rfl | rfl | rfl | rfl | rfl | rfl | rfl | rfl | rfl <;> exact ⟨_, rfl, by decide⟩
    obtain ⟨c, g1, g2⟩ := g
    exact ⟨by rw [xt_len]; decide, c, g1, rfl, hU _ ⟨a, c, a0, by omega, g2, rfl⟩⟩
  rintro ρ ⟨a, c, a0, a1, hc, rfl⟩
  refine seq_cut (fun ρ => ∃ o1 o2, Bd o1 ∧ Bd o2 ∧ ρ = [.dat (scrD ns), .town, .dat d0, s3, s4, s5, s6, .dat (.str (tx l)), .dat d1, .dat (.int a), .dat (.str (tx [c])), .lst (txts [o1, o2]), b11, b12]) (fun U hU => ?_) ?_
  · walk_at "pu"
    simp only [xt_cut, xt_app, xt_len]
    rw [cut_tn l a0, cut_fn l a0, cut_fn l (show 0 ≤ a + 1 by omega)]
    have t1 : (l.take a.toNat).length ≤ 98 := by rw [List.length_take]; omega
    have t2 : (l.drop a.toNat).length ≤ 98 := by rw [List.length_drop]; omega
    have t3 : (l.drop (a + 1).toNat).length ≤ 98 := by rw [List.length_drop]; omega
    simp only [List.length_append, List.length_cons, List.length_nil]
    refine ⟨by omega, by omega, by omega, by omega, by omega, by omega, by omega, hU _ ⟨_, _, ⟨.app (.app (lo_take hlo _) (.cons hc lo_nil)) (lo_drop hlo _), ?_⟩, ⟨.app (lo_take hlo _) (lo_drop hlo _), ?_⟩, rfl⟩⟩
    · simp only [List.length_append, List.length_cons, List.length_nil]
      omega
    · simp only [List.length_append]
      omega
  rintro ρ ⟨o1, o2, ho1, ho2, rfl⟩
  refine seq_cut (fun ρ => ∃ o3, Bd o3 ∧ ρ = [.dat (scrD ns), .town, .dat d0, s3, s4, s5, s6, .dat (.str (tx l)), .dat d1, .dat (.int a), .dat (.str (tx [c])), .lst (txts [o1, o2, o3]), b11, b12]) (fun U hU => ?_) ?_
  · walk_at "pu"
    simp only [xt_cut, xt_app, xt_len]
    rw [cut_tn l a0, cut_fn l (show 0 ≤ a + 1 by omega)]
    have t1 : (l.take a.toNat).length ≤ 98 := by rw [List.length_take]; omega
    have t3 : (l.drop (a + 1).toNat).length ≤ 98 := by rw [List.length_drop]; omega
    simp only [List.length_append, List.length_cons, List.length_nil]
    refine ⟨by omega, by omega, by omega, by omega, by rw [txts_len]; show 2 ≤ 1000000; decide, hU _ ⟨_, ⟨.app (.app (lo_take hlo _) (.cons hc lo_nil)) (lo_drop hlo _), ?_⟩, rfl⟩⟩
    simp only [List.length_append, List.length_cons, List.length_nil]
    omega
  rintro ρ ⟨o3, ho3, rfl⟩
  refine seq_cut (fun ρ => ∃ o, Bd o ∧ ρ = [.dat (scrD ns), .town, .dat d0, s3, s4, s5, s6, .dat (.str (tx l)), .dat d1, .dat (.int a), .dat (.str (tx [c])), .lst (txts [o1, o2, o3]), .dat (.str (tx o)), b12]) (fun U hU => ?_) ?_
  · walk_at "pu"
    refine m_draw hl (by decide) (by decide) fun j j0 j1 => ?_
    unfold txts
    walk_at "pu"
    have : j = 0 ∨ j = 1 ∨ j = 2 := by omega
    rcases this with rfl | rfl | rfl
    · exact hU _ ⟨o1, ho1, rfl⟩
    · exact hU _ ⟨o2, ho2, rfl⟩
    · exact hU _ ⟨o3, ho3, rfl⟩
  rintro ρ ⟨o, ho, rfl⟩
  walk_at "pu"
  refine .inr (m_read_span_X ho ⟨_, hn_no, ?_⟩ fun u v w hu hv hw el => ?_)
  · refine ne_ok rfl (by decide +kernel) (hn _ _ _ _ _ _)
  unfold spanD
  walk_at "pu"
  have hs : Pu.sh 31 (.str (Str.ofString "told")) = true := by decide +kernel
  refine ⟨by show (Pu.sh 31 (.str (Str.ofString "told")) && (true && true)) = true; rw [hs]; rfl, by decide +kernel, ?_⟩
  have ev : PyData.eqv (.tuple [.str (Str.ofString "told"), .tuple [.int u, .int v, .int w]]) (.tuple [.str (Str.ofString "no text")]) = false := by
    simp [PyData.eqv, PyData.eqvAll]
  rw [if_pos rfl, ev]
  refine ⟨fun _ => ⟨fun z => absurd rfl z, fun _ => ?_⟩, fun z => (by cases z)⟩
  refine m_law_text hu hv hw ?_
  walk_at "pu"
  rw [← el, feqS ho.1 ho.1]
  exact ⟨fun z => (by simp at z), fun _ => hn _ _ _ _ _ _⟩
theorem law_math (ns : List Int) (hl : ns.length ≤ 63) : t_law edLaw (enLaw N_law 1 ns) := by
  unfold t_law enLaw edLaw N_law
  walk_at "pu"
  refine ⟨by decide, by decide, ?_⟩
  refine forC_inv (fun ds ρ => ∃ a2 a3 a4 a5 a6 a7 a8 a9 a10 a11 a12 a13, ρ = [.dat (scrD ns), .town, a2, a3, a4, a5, a6, a7, a8, a9, a10, a11, a12, a13]) ?_ ?_ _ _ ⟨_, _, _, _, _, _, _, _, _, _, _, _, rfl⟩
  · rintro d0 rest ρ ⟨a2, a3, a4, a5, a6, a7, a8, a9, a10, a11, a12, a13, rfl⟩ K hK
    unfold b_law_4
    refine seq_cut (fun ρ => ρ = [.dat (scrD ns), .town, .dat d0, .lst [], a4, a5, a6, a7, a8, a9, a10, a11, a12, a13]) (fun U hU => ?_) ?_
    · walk_at "pu"
      exact hU _ rfl
    rintro ρ rfl
    refine seq_cut (fun ρ => ∃ (xs : List Int) (b4 b5 b6 : Sl), xs.length = 3 ∧ (∀ x ∈ xs, Sm x) ∧ ρ = [.dat (scrD ns), .town, .dat d0, .lst (xs.map PyData.int), b4, b5, b6, a7, a8, a9, a10, a11, a12, a13]) (fun U hU => ?_) ?_
    · walk_at "pu"
      refine ⟨by decide, by decide, ?_⟩
      refine forC_rng (fun i ρ => ∃ (xs : List Int) (b4 b5 b6 : Sl), (xs.length : Int) = i ∧ (∀ x ∈ xs, Sm x) ∧ ρ = [.dat (scrD ns), .town, .dat d0, .lst (xs.map PyData.int), b4, b5, b6, a7, a8, a9, a10, a11, a12, a13]) 3 ?_ ?_ 3 0 _ (by decide) ⟨[], _, _, _, rfl, fun x h => (by cases h), rfl⟩
      · rintro i ρ hi ⟨xs, b4, b5, b6, hx, hs, rfl⟩ K hK
        unfold b_law_3
        walk_at "pu"
        refine m_draw hl (by decide) (by decide) fun g g0 g1 => ?_
        walk_at "pu"
        refine m_draw hl (by decide) (by decide) fun h h0 h1 => ?_
        walk_at "pu"
        refine m_draw hl (by decide) (by decide) fun j j0 j1 => ?_
        walk_at "pu"
        have g' : ∃ v, atI ([.int 0, .int (g - 50), .int (h - 4)] : List D) j = some (.int v) ∧ Sm v := by
          have : j = 0 ∨ j = 1 ∨ j = 2 := by omega
          unfold Sm
          rcases this with rfl | rfl | rfl
          · exact ⟨_, rfl, by omega⟩
          · exact ⟨_, rfl, by omega⟩
          · exact ⟨_, rfl, by omega⟩
        obtain ⟨v, e, hv⟩ := g'
        rw [e, ixC_some]
        refine ⟨by rw [List.length_map]; omega, hK _ ⟨xs ++ [v], _, _, _, by rw [List.length_append]; show ((xs.length + 1 : Nat) : Int) = _; omega, fun x hx => ?_, by rw [List.map_append]; rfl⟩⟩
        rw [List.mem_append] at hx
        rcases hx with h | h
        · exact hs x h
        · rw [List.mem_singleton.mp h]
          exact hv
      · rintro ρ ⟨xs, b4, b5, b6, hx, hs, rfl⟩
        exact hU _ ⟨xs, _, _, _, by omega, hs, rfl⟩
    rintro ρ ⟨xs, b4, b5, b6, hx, hs, rfl⟩
    obtain ⟨a, b, c, rfl⟩ : ∃ a b c, xs = [a, b, c] := by
      match xs, hx with
      | [a, b, c], _ => exact ⟨_, _, _, rfl⟩
    have ha := hs a (by simp)
    have hb := hs b (by simp)
    have hc := hs c (by simp)
    walk_at "pu"
    refine m_law_text ha hb hc ?_
    refine m_span_text ha hb hc ?_
    walk_at "pu"
    rw [feqS lo_spT lo_spT]
    refine ⟨fun z => (by simp at z), fun _ => ?_⟩
    unfold g_read_span_text q_read_span_text
    refine m_read_span ha hb hc ?_
    walk_at "pu"
    unfold spanD
    walk_at "pu"
    refine eq_same rfl rfl ⟨fun z => (by cases z), fun _ => ⟨by decide, by decide, ?_⟩⟩
    have hln := spT_len ha hb hc
    have hlo : Lo (spT a b c) := lo_spT
    generalize spT a b c = l at hln hlo ⊢
    refine forC_inv (fun ds ρ => ∃ d1 a9 a10 a11 a12 a13, ρ = [.dat (scrD ns), .town, .dat d0, .dat (.tuple [.int a, .int b, .int c]), b4, b5, b6, .dat (.str (tx l)), d1, a9, a10, a11, a12, a13]) ?_ ?_ _ _ ⟨_, _, _, _, _, _, rfl⟩
    · rintro d1 rest ρ ⟨b8, a9, a10, a11, a12, a13, rfl⟩ K hK
      exact spoilt hl (by omega) hlo fun s7 s8 s9 s10 s11 s12 => hK _ ⟨_, _, _, _, _, _, rfl⟩
    · rintro ρ ⟨b8, a9, a10, a11, a12, a13, rfl⟩
      exact hK _ ⟨_, _, _, _, _, _, _, _, _, _, _, _, rfl⟩
  · rintro ρ ⟨a2, a3, a4, a5, a6, a7, a8, a9, a10, a11, a12, a13, rfl⟩
    rw [kn1, kn2, kn3, kn4, kn5, kn6, kn7, kn8, kn9, kn10, kn11, kn12]
    walk_at "pu"
    refine forC_seq (fun l : List Nat => (.str (tx l) : D)) lines (fun done ρ => ∃ s7, ρ = [.dat (scrD ns), .town, a2, a3, a4, a5, a6, s7, a8, a9, a10, a11, a12, a13]) ?_ ?_ _ ⟨_, rfl⟩
    · rintro done l todo ρ hd ⟨s7, rfl⟩ K hK
      obtain ⟨hb, hno⟩ := lines_no l (by rw [hd]; simp)
      show b_law_1 _ _
      unfold b_law_1
      walk_at "pu"
      refine .inr (m_read_span_X hb ⟨_, hn_no, ?_⟩ fun u v w hu hv hw el => ?_)
      · exact eq_same rfl (by decide +kernel) ⟨fun z => (by cases z), fun _ => hK _ ⟨_, rfl⟩⟩
      · rw [el, chk_spT] at hno
        cases hno
    · rintro ρ ⟨s7, rfl⟩
      walk_at "pu"
      rw [show Str.ofString "P-1M2D-3S" = tx (spT (-1) 2 (-3)) from xt_eq (by decide +kernel), show Str.ofString "P0S" = tx (spT 0 0 0) from xt_eq (by decide +kernel)]
      refine m_read_span (by unfold Sm; omega) (by unfold Sm; omega) (by unfold Sm; omega) ?_
      unfold spanD
      walk_at "pu"
      refine eq_same rfl rfl ?_
      walk_at "pu"
      refine m_read_span (by unfold Sm; omega) (by unfold Sm; omega) (by unfold Sm; omega) ?_
      unfold spanD
      walk_at "pu"
      refine eq_same rfl rfl ?_
      walk_at "pu"

def top (i : Nat) : Stmt := PySem.Challenge.pw_momentyard_k14_span_texts.main.body.getD i (.Pass ⟨0, 0, 0, 0⟩)
structure Fc (G : Gx) : Prop where
  fr_ValueError : Free G "ValueError"
  fr_all : Free G "all"
  fr_int : Free G "int"
  fr_isinstance : Free G "isinstance"
  fr_len : Free G "len"
  fr_range : Free G "range"
  fr_str : Free G "str"
  fr_tuple : Free G "tuple"
  fr_zip : Free G "zip"
  gc_FIGURES : GC G "FIGURES" c_FIGURES
  gc_SIGNS : GC G "SIGNS" c_SIGNS
  ex_NoText : ExC G "NoText" (He.ga G.K "NoText")
  te : ∃ CT, G.mg "TimeError" = some (.ref CT)
abbrev st__law_heard : Stmt := top 25
abbrev sg_heard : Scope := defScope st__law_heard
theorem hear_rest {G : Gx} (F : Fc G) (Y : Cx) (H1 : Hp) (a C : Addr) (bs : Str → Bool) (w : Str) (σ : Pu.St) (D : Ends) (O : Ok [] G Ngh sg_heard 0 Y) (ok : HearOk G C bs w) (h : Hs Y.K H1 a C σ H1) (q : ∀ p H'', Same H1 H'' → H1 p = none → H'' p = some (.tup [.str w]) → D.rt (.ref p) H'') : wpSs Y ((defBody st__law_heard).drop 3) D σ H1 := by
  refine wpSs_of (pss_cons ps_w pss_w) (h_some O F.fr_isinstance (ok.kl ("NoDate", "no date") (by decide +kernel)) (ok.kl ("BadWay", "bad way") (by decide +kernel)) rfl rfl rfl (.inl rfl) (by first | exact .inl rfl | exact .inr ⟨rfl, rfl⟩) (by decide) (by decide) (by decide) (fun _ => rfl) h fun σ0 H0 h0 => ?_)
  refine wpSs_of (pss_cons ps_w pss_w) (h_upd (kvs := kvN bs 2) (kvs' := kvN bs 4) O F.fr_isinstance (ok.kl ("NoText", "no text") (by decide +kernel)) (ok.kl ("NoEdition", "no edition") (by decide +kernel)) rfl rfl rfl (.inl rfl) (by first | exact .inl rfl | exact .inr (.inl rfl)) (by decide) (by decide) (by decide) kvN_len (by kernel_rfl) rfl (fun _ => rfl) h0 fun σ1 H11 h1 => ?_)
  refine wpSs_of (pss_cons ps_w pss_w) (h_upd (kvs := kvN bs 4) (kvs' := kvN bs 6) O F.fr_isinstance (ok.kl ("NoZone", "no zone") (by decide +kernel)) (ok.kl ("NoComing", "no coming") (by decide +kernel)) rfl rfl rfl (.inl rfl) (by first | exact .inl rfl | exact .inr (.inl rfl)) (by decide) (by decide) (by decide) kvN_len (by kernel_rfl) rfl (fun _ => rfl) h1 fun σ2 H12 h2 => ?_)
  refine wpSs_of (pss_cons ps_w pss_w) (h_upd (kvs := kvN bs 6) (kvs' := kvN bs 8) O F.fr_isinstance (ok.kl ("NoWork", "no work") (by decide +kernel)) (ok.kl ("BadRate", "bad rate") (by decide +kernel)) rfl rfl rfl (.inl rfl) (by first | exact .inl rfl | exact .inr (.inl rfl)) (by decide) (by decide) (by decide) kvN_len (by kernel_rfl) rfl (fun _ => rfl) h2 fun σ3 H13 h3 => ?_)
  refine wpSs_of (pss_cons ps_w pss_w) (h_upd (kvs := kvN bs 8) (kvs' := kvN bs 10) O F.fr_isinstance (ok.kl ("BadZones", "bad zones") (by decide +kernel)) (ok.kl ("BadName", "bad name") (by decide +kernel)) rfl rfl rfl (.inl rfl) (by first | exact .inl rfl | exact .inr (.inl rfl)) (by decide) (by decide) (by decide) kvN_len (by kernel_rfl) rfl (fun _ => rfl) h3 fun σ4 H14 h4 => ?_)
  refine wpSs_of (pss_cons ps_w pss_w) (h_upd (kvs := kvN bs 10) (kvs' := kvN bs 12) O F.fr_isinstance (ok.kl ("Taken", "taken") (by decide +kernel)) (ok.kl ("BadWish", "bad wish") (by decide +kernel)) rfl rfl rfl (.inl rfl) (by first | exact .inl rfl | exact .inr (.inl rfl)) (by decide) (by decide) (by decide) kvN_len (by kernel_rfl) rfl (fun _ => rfl) h4 fun σ5 H15 h5 => ?_)
  refine wpSs_of (pss_cons ps_w pss_w) (h_upd (kvs := kvN bs 12) (kvs' := kvN bs 14) O F.fr_isinstance (ok.kl ("BadTask", "bad task") (by decide +kernel)) (ok.kl ("NoWish", "no wish") (by decide +kernel)) rfl rfl rfl (.inl rfl) (by first | exact .inl rfl | exact .inr (.inl rfl)) (by decide) (by decide) (by decide) kvN_len (by kernel_rfl) rfl (fun _ => rfl) h5 fun σ6 H16 h6 => ?_)
  refine wpSs_of (pss_cons ps_w pss_w) (h_upd (kvs := kvN bs 14) (kvs' := kvN bs 16) O F.fr_isinstance (ok.kl ("NoRing", "no ring") (by decide +kernel)) (ok.kl ("NoBack", "no back") (by decide +kernel)) rfl rfl rfl (.inl rfl) (by first | exact .inl rfl | exact .inr (.inl rfl)) (by decide) (by decide) (by decide) kvN_len (by kernel_rfl) rfl (fun _ => rfl) h6 fun σ7 H17 h7 => ?_)
  refine wpSs_of (pss_cons ps_w pss_w) (h_names (kvs := kvN bs 16) O (by first | exact .inl rfl | exact .inr (.inl rfl)) rfl (by decide +kernel) rfl (by decide +kernel) (by first | exact .inl rfl | exact .inr (.inl rfl) | exact .inr (.inr rfl)) (by first | exact .inl rfl | exact .inr ⟨rfl, rfl⟩) (by first | exact .inl rfl | exact .inr (.inl rfl) | exact .inr (.inr rfl)) (by show (keysH.map fun y => (.inr y.2 : Key)).Nodup; decide +kernel) kvN_bl kvN_len h7 fun σ8 H8 n h8 e5 eN => ?_)
  have ey : yesW (kvN bs 16) = [.str w] := ok.yes
  rw [ey] at eN
  refine wpSs_of (pss_one ps_w) (h_ret O F.fr_isinstance F.fr_len F.fr_ValueError rfl rfl rfl (.inl rfl) (.inl rfl) ok.ve h8 e5 eN fun p hp => q p _ (fun b o e => ?_) ?_ upd_same)
  · rw [upd_ne (ne_of_none (h8.up b o e) hp)]; exact h8.up b o e
  · cases e : H1 p with
    | none => rfl
    | some o => rw [h8.up p o e] at hp; cases hp
theorem sc_heard : FnScope Ngh ["deed"] sg_heard := ⟨rfl, rfl, rfl, by decide +kernel, rfl, by decide +kernel, by decide +kernel⟩
theorem hear_all {G : Gx} (F : Fc G) {g : Addr} (X : Cx) (cdv : Value) (q : Str) (e1 : X.prog = G.P) (e2 : X.w = G.w) (e3 : X.K = G.K) (e4 : X.mg = G.mg) (e5 : X.base = G.base) (hr : Room 1 X.A) : LamX.GivesTo X Ngh "_law_heard" sg_heard g cdv (defBody st__law_heard) "deed" q (TTh G) :=
  hear_gives e1 e2 e3 e4 e5 hr sc_heard (.inl rfl) rfl rfl rfl rfl F.te (by rfl) (fun _ => rfl) (fun _ => rfl) (fun _ => rfl) (fun Y H1 a C bs w σ D O ok h q => hear_rest F Y H1 a C bs w σ D O ok h q)
abbrev st__law_draw : Stmt := top 26
theorem sc__law_draw : FnScope N__law_draw ["script", "town", "many"] (defScope st__law_draw) := ⟨rfl, rfl, rfl, by decide +kernel, rfl, by decide +kernel, by decide +kernel⟩
theorem j__law_draw {G : Gx} {T R : Addr} {Ts : List (Addr × Str)} {z : Hp → Prop} {X : Cx} (F : Fc G)  (O : Ok [] G N__law_draw (defScope st__law_draw) 0 X) : JSs (tw T R Ts z) X (defBody st__law_draw) t__law_draw :=
  jss_cons (js_tick O 1) (jss_cons (js_set O 3 (je_d (jd_if (jt_tru (jv_var O 0)) (jd_mod (jv_d (jd_count O 1)) (jv_e (je_blt O call_len fLen_ok F.fr_len (jvs_cons (jv_var O 0) (jvs_nil)) (by decide +kernel)))) (jd_int)))) (jss_cons (js_set O 4 (je_d (jd_rest O 1 (jv_var O 3) (jv_d (jd_if (jt_tru (jv_var O 0)) (jd_ix (jv_var O 0) (jv_var O 3)) (jd_int)))))) (jss_cons (js_if (jt_cmp (op_ge) fOrd_ok (jv_var O 4) (jv_d (jd_pow (jv_d (jd_int)) (jv_d (jd_int)))) rfl) (jss_cons (js_rest O 1 (jv_var O 3) (jv_d (jd_div (jv_var O 4) (jv_var O 2)))) (jss_one (js_ret (je_d (jd_mod (jv_var O 4) (jv_var O 2)))))) (jss_nil)) (jss_cons (js_set O 5 (je_d (jd_mod (jv_d (jd_add (jv_var O 4) (jv_d (jd_mul (jv_d (jd_int)) (jv_d (jd_count O 1)))))) (jv_d (jd_int)))) (hs := sw_BinOp)) (jss_cons (js_set O 5 (je_d (jd_mod (jv_d (jd_pow (jv_var O 5) (jv_d (jd_int)))) (jv_d (jd_int)))) (hs := sw_BinOp)) (jss_one (js_ret (je_d (jd_mod (jv_d (jd_div (jv_d (jd_mod (jv_d (jd_add (jv_d (jd_mul (jv_d (jd_div (jv_var O 5) (jv_d (jd_int)))) (jv_d (jd_int)))) (jv_var O 5))) (jv_d (jd_int)))) (jv_d (jd_int)))) (jv_var O 2))))))))))
abbrev st__law_text : Stmt := top 28
theorem sc__law_text : FnScope N__law_text ["span"] (defScope st__law_text) := ⟨rfl, rfl, rfl, by decide +kernel, rfl, by decide +kernel, by decide +kernel⟩
theorem j__law_text {G : Gx} {τ : Tn} {X : Cx} (F : Fc G)  (O : Ok [] G N__law_text (defScope st__law_text) 0 X) : JSs τ X (defBody st__law_text) t__law_text :=
  jss_cons (js_set O 1 (je_d (jd_str))) (jss_cons (js_for O (ji_zipTS O F.fr_zip (jd_var O 0) (jd_str)) (jg_tup O (jgs_cons (jg_name O 2) (jgs_cons (jg_name O 3) (jgs_nil)))) (jss_one (js_set O 1 (je_add (jv_var O 1) (jv_d (jd_if (jt_cmp (op_neD O.room.units) fNe_ok (jv_var O 2) (jv_d (jd_int)) rfl) (jd_add (jv_e (je_bty O call_str_int fStrI_ok F.fr_str (jvs_cons (jv_var O 2) (jvs_nil)) (by decide +kernel))) (jv_var O 3)) (jd_str)))) (hs := sw_BinOp)))) (jss_one (js_ret (je_d (jd_if (jt_cmp (op_neD O.room.units) fNe_ok (jv_var O 1) (jv_d (jd_str)) rfl) (jd_var O 1) (jd_str))))))
abbrev st_number_in : Stmt := top 22
theorem sc_number_in : FnScope N_number_in ["word"] (defScope st_number_in) := ⟨rfl, rfl, rfl, by decide +kernel, rfl, by decide +kernel, by decide +kernel⟩
theorem j_number_in {G : Gx} {τ : Tn} {X : Cx} (F : Fc G)  (O : Ok [] G N_number_in (defScope st_number_in) 0 X) : JSs τ X (defBody st_number_in) t_number_in :=
  jss_cons (js_set O 1 (je_if (jt_tru (jv_e (je_m1 PySem.F.slot_str_startswith PySem.F.type_str_startswith mt_startswith fStarts_ok (jv_var O 0) (jv_d (jd_str))))) (je_cut (jv_var O 0) (jo_some (jv_d (jd_int))) (jo_none)) (je_d (jd_var O 0)))) (jss_cons (js_if (jt_w (jw_or (jt_not (jt_chain (op_le) (op_le) fOrd_ok fOrd_ok (jv_d (jd_int)) (jv_e (je_blt O call_len fLen_ok F.fr_len (jvs_cons (jv_var O 1) (jvs_nil)) (by decide +kernel))) (jv_d (jd_int)) rfl)) (jw_or1 (jt_not (jt_tru (jv_e (je_blt O (cr_all O.calm) fAll_ok F.fr_all (jvs_cons (jv_e (je_lc [("sign", 3)] O (jix_seq (jv_var O 1)) (fun _ O1 => jgc_name O1 3) (fun _ O1 => jts_nil) (fun _ O1 => jd_cmp (op_inU (units65 O1.room)) fIn_ok (jv_var O1 3) (jv_d (jd_glob O1 F.gc_FIGURES)) rfl))) (jvs_nil)) (by decide +kernel)))))))) (jss_never) (jss_nil)) (jss_cons (js_set O 2 (je_if (jt_tru (jv_e (je_m1 PySem.F.slot_str_startswith PySem.F.type_str_startswith mt_startswith fStarts_ok (jv_var O 0) (jv_d (jd_str))))) (je_d (jd_neg (jv_e (je_bty O call_int_str fIntS_ok F.fr_int (jvs_cons (jv_var O 1) (jvs_nil)) (by decide +kernel))))) (je_bty O call_int_str fIntS_ok F.fr_int (jvs_cons (jv_var O 1) (jvs_nil)) (by decide +kernel)))) (jss_cons (js_if (jt_cmp (op_neD O.room.units) fNe_ok (jv_e (je_bty O call_str_int fStrI_ok F.fr_str (jvs_cons (jv_var O 2) (jvs_nil)) (by decide +kernel))) (jv_var O 0) rfl) (jss_never) (jss_nil)) (jss_one (js_retV O 2)))))
abbrev st_span_text : Stmt := top 21
theorem sc_span_text : FnScope N_span_text ["span"] (defScope st_span_text) := ⟨rfl, rfl, rfl, by decide +kernel, rfl, by decide +kernel, by decide +kernel⟩
theorem j_span_text {G : Gx} {τ : Tn} {X : Cx} (F : Fc G)  (O : Ok [] G N_span_text (defScope st_span_text) 0 X) : JSs τ X (defBody st_span_text) t_span_text :=
  jss_cons (js_setLc [("number", 2), ("sign", 3)] O 1 (jix_zipTZ O F.fr_zip (jv_var O 0) (jv_d (jd_glob O F.gc_SIGNS))) (fun _ O1 => jgc_tup O1 (jgcs_cons (jgc_name O1 2) (jgcs_cons (jgc_name O1 3) (jgcs_nil)))) (fun _ O1 => jts_one (jt_cmp (op_neD O1.room.units) fNe_ok (jv_var O1 2) (jv_d (jd_int)) rfl)) (fun _ O1 => jd_js (.cons (jd_fmt (jd_var O1 2)) (.cons (jd_fmt (jd_var O1 3)) .nil)))) (jss_one (js_ret (je_add (jv_d (jd_str)) (jv_e (je_if (jt_tru (jv_var O 1)) (je_m1 PySem.F.slot_str_join PySem.F.type_str_join mt_join fJoin_ok (jv_d (jd_str)) (jv_var O 1)) (je_d (jd_str)))))))
abbrev st_read_span : Stmt := top 23
theorem sc_read_span : FnScope N_read_span ["text"] (defScope st_read_span) := ⟨rfl, rfl, rfl, by decide +kernel, rfl, by decide +kernel, by decide +kernel⟩
theorem j_read_span {G : Gx} {τ : Tn} {X : Cx} (F : Fc G) (h_number_in : FnD G τ 1 "number_in" ["word"] S_number_in) (h_span_text : FnD G τ 1 "span_text" ["span"] S_span_text) (O : Ok [] G N_read_span (defScope st_read_span) 1 X) : JSs τ X (defBody st_read_span) t_read_span :=
  jss_cons (js_plr2 O 1 2 (je_dic0) (je_d (jd_str))) (jss_cons (js_for O (ji_seq (jd_e (je_cut (jv_var O 0) (jo_some (jv_d (jd_int))) (jo_none)))) (jg_name O 3) (jss_one (js_if (jt_w (jw_and (jt_cmp (op_inU (units65 O.room)) fIn_ok (jv_var O 3) (jv_d (jd_glob O F.gc_SIGNS)) rfl) (jw_and1 (jt_ninK O 1 (jd_var O 3))))) (jss_cons (js_dput O 1 (jd_var O 3) (jd_e (je_call O h_number_in (ja_cons (jv_var O 2) (ja_nil))))) (jss_one (js_set O 2 (je_d (jd_str))))) (jss_one (js_iaddS O 2 (jv_var O 3)))))) (jss_cons (js_set O 4 (je_bty O call_tupP fTuple_ok F.fr_tuple (jvs_cons (jv_e (je_lc [("sign", 3)] O (jix_seq (jv_d (jd_glob O F.gc_SIGNS))) (fun _ O1 => jgc_name O1 3) (fun _ O1 => jts_nil) (fun _ O1 => jd_get2 O1 1 (jd_var O1 3) (jd_int)))) (jvs_nil)) (by decide +kernel))) (jss_cons (js_if (jt_w (jw_or (jt_cmp (op_neD O.room.units) fNe_ok (jv_var O 2) (jv_d (jd_str)) rfl) (jw_or1 (jt_cmp (op_neD O.room.units) fNe_ok (jv_e (je_call O h_span_text (ja_cons (jv_var O 4) (ja_nil)))) (jv_var O 0) rfl)))) (jss_never) (jss_nil)) (jss_one (js_retV O 4)))))
abbrev st_law : Stmt := top 29
theorem sc_law : FnScope N_law ["script"] (defScope st_law) := ⟨rfl, rfl, rfl, by decide +kernel, rfl, by decide +kernel, by decide +kernel⟩
theorem j_law {G : Gx} {τ : Tn} {X : Cx} (F : Fc G) (h__law_draw : FnD G τ 1 "_law_draw" ["script", "town", "many"] S__law_draw) (h__law_text : FnD G τ 1 "_law_text" ["span"] S__law_text) (h_read_span_text : FnK G τ 2 "read_span" ["text"] S_read_span 0 ["text"] g_read_span_text) (h_read_span : FnD G τ 2 "read_span" ["text"] S_read_span) (h_span_text : FnD G τ 1 "span_text" ["span"] S_span_text) (hx_read_span : FnX G τ 2 "read_span" ["text"] U_read_span) {cc PP gg : Addr} {qq : Str} (LM : LamOk τ X cc PP qq) (HD : HearD G gg) (HA : HearAll G hn) (O : Ok [] G N_law (defScope st_law) 4 X) : JSs τ X ((defBody st_law).tail) t_law :=
  jss_cons (js_for O (ji_range1 O F.fr_range (jv_d (jd_int))) (jg_name O 2) (jss_cons (js_set O 3 (je_lst (jds_nil)) (hs := sw_List)) (jss_cons (js_for O (ji_range1 O F.fr_range (jv_d (jd_int))) (jg_name O 4) (jss_cons (js_par2 O 5 6 (je_d (jd_sub (jv_e (je_call O h__law_draw (ja_cons (jv_var O 0) (ja_town O 1 (ja_cons (jv_d (jd_int)) (ja_nil)))))) (jv_d (jd_int)))) (je_d (jd_sub (jv_e (je_call O h__law_draw (ja_cons (jv_var O 0) (ja_town O 1 (ja_cons (jv_d (jd_int)) (ja_nil)))))) (jv_d (jd_int))))) (jss_one (js_append O 3 (jd_ix (jv_e (je_lst (jds_cons (jd_int) (jds_cons (jd_var O 5) (jds_cons (jd_var O 6) (jds_nil) se_Name) se_Name) se_Constant))) (jv_e (je_call O h__law_draw (ja_cons (jv_var O 0) (ja_town O 1 (ja_cons (jv_d (jd_int)) (ja_nil))))))))))) (jss_cons (js_set O 3 (je_bty O call_tupP fTuple_ok F.fr_tuple (jvs_cons (jv_var O 3) (jvs_nil)) (by decide +kernel))) (jss_cons (js_set O 7 (je_call O h__law_text (ja_cons (jv_var O 3) (ja_nil)))) (jss_cons (js_if (jt_w (jw_or (jt_cmp (op_neD O.room.units) fNe_ok (jv_e (je_call O h_span_text (ja_cons (jv_var O 3) (ja_nil)))) (jv_var O 7) rfl) (jw_or1 (jt_cmp (op_neD O.room.units) fNe_ok (jv_e (je_callK0 O h_read_span_text (jk_cons (jv_var O 7) (jk_nil)))) (jv_var O 3) rfl)))) (jss_one (js_ret (je_d (jd_bl)))) (jss_nil)) (jss_one (js_for O (ji_range1 O F.fr_range (jv_d (jd_int))) (jg_name O 8) (jss_cons (js_par2 O 9 10 (je_call O h__law_draw (ja_cons (jv_var O 0) (ja_town O 1 (ja_cons (jv_d (jd_add (jv_e (je_blt O call_len fLen_ok F.fr_len (jvs_cons (jv_var O 7) (jvs_nil)) (by decide +kernel))) (jv_d (jd_int)))) (ja_nil))))) (je_d (jd_ix (jv_d (jd_str)) (jv_e (je_call O h__law_draw (ja_cons (jv_var O 0) (ja_town O 1 (ja_cons (jv_d (jd_int)) (ja_nil))))))))) (jss_cons (js_set O 11 (je_lst (jds_cons (jd_add (jv_d (jd_add (jv_e (je_cut (jv_var O 7) (jo_none) (jo_some (jv_var O 9)))) (jv_var O 10))) (jv_e (je_cut (jv_var O 7) (jo_some (jv_var O 9)) (jo_none)))) (jds_cons (jd_add (jv_e (je_cut (jv_var O 7) (jo_none) (jo_some (jv_var O 9)))) (jv_e (je_cut (jv_var O 7) (jo_some (jv_d (jd_add (jv_var O 9) (jv_d (jd_int))))) (jo_none)))) (jds_nil) se_BinOp) se_BinOp)) (hs := sw_List)) (jss_cons (js_append O 11 (jd_add (jv_d (jd_add (jv_e (je_cut (jv_var O 7) (jo_none) (jo_some (jv_var O 9)))) (jv_var O 10))) (jv_e (je_cut (jv_var O 7) (jo_some (jv_d (jd_add (jv_var O 9) (jv_d (jd_int))))) (jo_none))))) (jss_cons (js_set O 12 (je_d (jd_ix (jv_var O 11) (jv_e (je_call O h__law_draw (ja_cons (jv_var O 0) (ja_town O 1 (ja_cons (jv_d (jd_int)) (ja_nil))))))))) (jss_cons (js_set O 13 (je_d (jd_heard (j := 2) O LM HD HA (fun _ _ ξ OL xo => jd_e (je_callX OL xo hx_read_span.at_ (ja_cons (jv_var OL 12) (ja_nil))))))) (jss_one (js_if (jt_w (jw_and (jt_cmp (op_neD O.room.units) fNe_ok (jv_var O 13) (jv_d (jd_lit 40 (by kernel_rfl))) rfl) (jw_and1 (jt_w (jw_or (jt_cmp (op_neD O.room.units) fNe_ok (jv_e (je_blt O call_len fLen_ok F.fr_len (jvs_cons (jv_var O 13) (jvs_nil)) (by decide +kernel))) (jv_d (jd_int)) rfl) (jw_or1 (jt_cmp (op_neD O.room.units) fNe_ok (jv_e (je_call O h__law_text (ja_cons (jv_d (jd_ix (jv_var O 13) (jv_d (jd_int)))) (ja_nil)))) (jv_var O 12) rfl))))))) (jss_one (js_ret (je_d (jd_bl)))) (jss_nil)))))))))))))))) (jss_cons (js_for O (ji_seq (jd_lit 40 (by kernel_rfl))) (jg_name O 7) (jss_one (js_if (jt_cmp (op_neD O.room.units) fNe_ok (jv_d (jd_heard (j := 2) O LM HD HA (fun _ _ ξ OL xo => jd_e (je_callX OL xo hx_read_span.at_ (ja_cons (jv_var OL 7) (ja_nil)))))) (jv_d (jd_lit 40 (by kernel_rfl))) rfl) (jss_one (js_ret (je_d (jd_bl)))) (jss_nil)))) (jss_one (js_ret (je_d (jd_and (jv_d (jd_cmp (op_eqD O.room.units) fEq_ok (jv_e (je_call O h_read_span (ja_cons (jv_d (jd_str)) (ja_nil)))) (jv_d (jd_lit 40 (by kernel_rfl))) rfl)) (jd_one (jd_cmp (op_eqD O.room.units) fEq_ok (jv_e (je_call O h_read_span (ja_cons (jv_d (jd_str)) (ja_nil)))) (jv_d (jd_lit 40 (by kernel_rfl))) rfl)))))))
abbrev st__law_begun : Stmt := top 27
theorem sc__law_begun : FnScope [] [] (defScope st__law_begun) := ⟨rfl, rfl, rfl, by decide +kernel, rfl, by decide +kernel, by decide +kernel⟩
theorem jx_number_in {G : Gx} {τ : Tn} {X : Cx} {ξ : Xw} (F : Fc G)  (O : Ok [] G N_number_in (defScope st_number_in) 0 X) (xo : XOk G τ ξ X) : JSs τ X (defBody st_number_in) (tx_number_in ξ) :=
  jss_cons (js_set O 1 (je_if (jt_tru (jv_e (je_m1 PySem.F.slot_str_startswith PySem.F.type_str_startswith mt_startswith fStarts_ok (jv_var O 0) (jv_d (jd_str))))) (je_cut (jv_var O 0) (jo_some (jv_d (jd_int))) (jo_none)) (je_d (jd_var O 0)))) (jss_cons (js_if (jt_w (jw_or (jt_not (jt_chain (op_le) (op_le) fOrd_ok fOrd_ok (jv_d (jd_int)) (jv_e (je_blt O call_len fLen_ok F.fr_len (jvs_cons (jv_var O 1) (jvs_nil)) (by decide +kernel))) (jv_d (jd_int)) rfl)) (jw_or1 (jt_not (jt_tru (jv_e (je_blt O (cr_all O.calm) fAll_ok F.fr_all (jvs_cons (jv_e (je_lc [("sign", 3)] O (jix_seq (jv_var O 1)) (fun _ O1 => jgc_name O1 3) (fun _ O1 => jts_nil) (fun _ O1 => jd_cmp (op_inU (units65 O1.room)) fIn_ok (jv_var O1 3) (jv_d (jd_glob O1 F.gc_FIGURES)) rfl))) (jvs_nil)) (by decide +kernel)))))))) (jss_one (js_raise O xo F.ex_NoText)) (jss_nil)) (jss_cons (js_set O 2 (je_if (jt_tru (jv_e (je_m1 PySem.F.slot_str_startswith PySem.F.type_str_startswith mt_startswith fStarts_ok (jv_var O 0) (jv_d (jd_str))))) (je_d (jd_neg (jv_e (je_bty O call_int_str fIntS_ok F.fr_int (jvs_cons (jv_var O 1) (jvs_nil)) (by decide +kernel))))) (je_bty O call_int_str fIntS_ok F.fr_int (jvs_cons (jv_var O 1) (jvs_nil)) (by decide +kernel)))) (jss_cons (js_if (jt_cmp (op_neD O.room.units) fNe_ok (jv_e (je_bty O call_str_int fStrI_ok F.fr_str (jvs_cons (jv_var O 2) (jvs_nil)) (by decide +kernel))) (jv_var O 0) rfl) (jss_one (js_raise O xo F.ex_NoText)) (jss_nil)) (jss_one (js_retV O 2)))))
theorem jx_read_span {G : Gx} {τ : Tn} {X : Cx} {ξ : Xw} (F : Fc G) (h_span_text : FnD G τ 1 "span_text" ["span"] S_span_text) (hx_number_in : FnX G τ 1 "number_in" ["word"] U_number_in) (O : Ok [] G N_read_span (defScope st_read_span) 1 X) (xo : XOk G τ ξ X) : JSs τ X (defBody st_read_span) (tx_read_span ξ) :=
  jss_cons (js_plr2 O 1 2 (je_dic0) (je_d (jd_str))) (jss_cons (js_for O (ji_seq (jd_e (je_cut (jv_var O 0) (jo_some (jv_d (jd_int))) (jo_none)))) (jg_name O 3) (jss_one (js_if (jt_w (jw_and (jt_cmp (op_inU (units65 O.room)) fIn_ok (jv_var O 3) (jv_d (jd_glob O F.gc_SIGNS)) rfl) (jw_and1 (jt_ninK O 1 (jd_var O 3))))) (jss_cons (js_dput O 1 (jd_var O 3) (jd_e (je_callX O xo hx_number_in (ja_cons (jv_var O 2) (ja_nil))))) (jss_one (js_set O 2 (je_d (jd_str))))) (jss_one (js_iaddS O 2 (jv_var O 3)))))) (jss_cons (js_set O 4 (je_bty O call_tupP fTuple_ok F.fr_tuple (jvs_cons (jv_e (je_lc [("sign", 3)] O (jix_seq (jv_d (jd_glob O F.gc_SIGNS))) (fun _ O1 => jgc_name O1 3) (fun _ O1 => jts_nil) (fun _ O1 => jd_get2 O1 1 (jd_var O1 3) (jd_int)))) (jvs_nil)) (by decide +kernel))) (jss_cons (js_if (jt_w (jw_or (jt_cmp (op_neD O.room.units) fNe_ok (jv_var O 2) (jv_d (jd_str)) rfl) (jw_or1 (jt_cmp (op_neD O.room.units) fNe_ok (jv_e (je_call O h_span_text (ja_cons (jv_var O 4) (ja_nil)))) (jv_var O 0) rfl)))) (jss_one (js_raise O xo F.ex_NoText)) (jss_nil)) (jss_one (js_retV O 4)))))
def dd__law_heard : He.DefD := ⟨("_law_heard", none), "_law_heard", "_law_heard", defArgs st__law_heard, defBody st__law_heard, defScope st__law_heard, [], []⟩
def dd__law_draw : He.DefD := ⟨("_law_draw", none), "_law_draw", "_law_draw", defArgs st__law_draw, defBody st__law_draw, defScope st__law_draw, [], []⟩
def dd__law_text : He.DefD := ⟨("_law_text", none), "_law_text", "_law_text", defArgs st__law_text, defBody st__law_text, defScope st__law_text, [], []⟩
def dd_number_in : He.DefD := ⟨("number_in", none), "number_in", "number_in", defArgs st_number_in, defBody st_number_in, defScope st_number_in, [], []⟩
def dd_span_text : He.DefD := ⟨("span_text", none), "span_text", "span_text", defArgs st_span_text, defBody st_span_text, defScope st_span_text, [], []⟩
def dd_read_span : He.DefD := ⟨("read_span", none), "read_span", "read_span", defArgs st_read_span, defBody st_read_span, defScope st_read_span, [], []⟩
def dd_law : He.DefD := ⟨("law", none), "law", "law", defArgs st_law, defBody st_law, defScope st_law, [], []⟩
def dd__law_begun : He.DefD := ⟨("_law_begun", none), "_law_begun", "_law_begun", defArgs st__law_begun, defBody st__law_begun, defScope st__law_begun, [], []⟩
def fn : List He.DefD := [dd__law_heard, dd__law_draw, dd__law_text, dd_number_in, dd_span_text, dd_read_span, dd_law, dd__law_begun]
def fa : List He.Fa := [.glo "_law_heard", .glo "_law_draw", .glo "_law_text", .glo "number_in", .glo "span_text", .glo "read_span", .glo "law", .glo "_law_begun", .free "ValueError", .free "all", .free "int", .free "isinstance", .free "len", .free "range", .free "str", .free "tuple", .free "zip", .glo "NoText", .exc "NoText", .glo "TimeError"]
def cs : List (Str × D) := [("FIGURES", c_FIGURES), ("SIGNS", c_SIGNS)]
abbrev Rw : PySem.W.OpenRow := PySem.W.OpenLaw.row PySem.Challenge.rw_momentyard_k14_span_texts
def tfs : List (Str × Scope) := [("law", defScope st_law)]
def tf : List He.Defn := [("law", none)]
def exB (K : PySem.W.Frag) : Bool := cs.all (conG K) && (hearL.all (hearB K) && (hearL.all (fun p => (He.Fa.glo p.1).ok K) && decide (((tabsOf K tfs).map Prod.fst).Nodup)))
abbrev hk : PySem.W.Hook := He.hookX 4 fa fn [] tf exB
def ob (s : PySem.W.SharedT) : He.AlX := He.obsX 4 fa fn [] tf exB (HandSHeadRun.getT s)
theorem ob_eq (s : PySem.W.SharedT) : ob s = hk.obs s.abs := He.obsX_eq (HandSHeadRun.getT_eq s)
def loose : List Str := (["TimeError", "NoDate", "BadWay", "NoText", "NoEdition", "NoZone", "NoComing", "NoWork", "BadRate", "BadZones", "BadName", "Taken", "BadWish", "BadTask", "NoWish"] : List Str) ++ (["NoRing", "NoBack", "SIGNS", "FIGURES", "span_text", "number_in", "read_span", "_law_heard", "_law_draw", "_law_begun", "_law_text"] : List Str)
theorem run (w : World) : HandSHeadRun.RunEq Rw (PySem.W.view Rw.prog [29]) hk ob 20000 loose w := by
  intro os
  kernel_rfl
theorem facts {P : Program} {w : World} {K : PySem.W.Frag} {h : Heap} {mg : Str → Option Value} {f : Addr} (X : K.In h) (G0 : h.Ns mainGlobals mg) (hfa : mg ("law" : Str) = some (.ref f)) (c : He.SaysX fa fn [] tf exB w h K) :
    ∃ fd : FuncData, (∀ (s : Shared) (v : Value), BindsTo s fd ⟨[v], []⟩ [("script", v)]) ∧ ∀ base : Heap, K.In base → base.Ns mainGlobals mg → (∀ p ∈ tf.map (He.cT K), LamX.TabB base mg p.1 p.2) → FnOk P w K mg base CX0 5 f fd ["script"] (spLaw K (tabsOf K tfs)) := by
  obtain ⟨fd__law_heard, F__law_heard⟩ := c.t.d.def_ 0 (d := dd__law_heard) rfl
  obtain ⟨fd__law_draw, F__law_draw⟩ := c.t.d.def_ 1 (d := dd__law_draw) rfl
  obtain ⟨fd__law_text, F__law_text⟩ := c.t.d.def_ 2 (d := dd__law_text) rfl
  obtain ⟨fd_number_in, F_number_in⟩ := c.t.d.def_ 3 (d := dd_number_in) rfl
  obtain ⟨fd_span_text, F_span_text⟩ := c.t.d.def_ 4 (d := dd_span_text) rfl
  obtain ⟨fd_read_span, F_read_span⟩ := c.t.d.def_ 5 (d := dd_read_span) rfl
  obtain ⟨fd_law, F_law⟩ := c.t.d.def_ 6 (d := dd_law) rfl
  obtain ⟨fd__law_begun, F__law_begun⟩ := c.t.d.def_ 7 (d := dd__law_begun) rfl
  have e := hfa.symm.trans (He.glo_ok X G0 (c.t.d.fact 6 (f := .glo "law") rfl))
  cases e
  have b := FunD.bindsA (ps := ["script"]) F_law fun _ _ _ _ _ _ us hl => match us, hl with | [_], _ => rfl
  refine ⟨fd_law, fun s v => b s [v] rfl, fun base hK hN TB => ?_⟩
  let G : Gx := ⟨P, w, K, mg, base⟩
  obtain ⟨m1, m⟩ := He.ba c.more
  obtain ⟨m2, m⟩ := He.ba m
  obtain ⟨m3, m4⟩ := He.ba m
  have F : Fc G := ⟨He.free_ok X G0 (c.t.d.fact 8 (f := .free "ValueError") rfl), He.free_ok X G0 (c.t.d.fact 9 (f := .free "all") rfl), He.free_ok X G0 (c.t.d.fact 10 (f := .free "int") rfl), He.free_ok X G0 (c.t.d.fact 11 (f := .free "isinstance") rfl), He.free_ok X G0 (c.t.d.fact 12 (f := .free "len") rfl), He.free_ok X G0 (c.t.d.fact 13 (f := .free "range") rfl), He.free_ok X G0 (c.t.d.fact 14 (f := .free "str") rfl), He.free_ok X G0 (c.t.d.fact 15 (f := .free "tuple") rfl), He.free_ok X G0 (c.t.d.fact 16 (f := .free "zip") rfl), conG_ok (G := G) X G0 (List.all_eq_true.mp m1 ("FIGURES", c_FIGURES) (List.mem_of_getElem? (i := 0) rfl)), conG_ok (G := G) X G0 (List.all_eq_true.mp m1 ("SIGNS", c_SIGNS) (List.mem_of_getElem? (i := 1) rfl)), exC_of (G := G) X G0 (c.t.d.fact 17 (f := .glo "NoText") rfl) (c.t.d.fact 18 (f := .exc "NoText") rfl), ⟨_, He.glo_ok X G0 (c.t.d.fact 19 (f := .glo "TimeError") rfl)⟩⟩
  have HA : HearAll G hn := hearAll_of (G := G) X G0 m2 m3
  have HD : HearD G _ := hearD_of (G := G) F__law_heard (He.glo_ok X G0 (c.t.d.fact 0 (f := .glo "_law_heard") rfl)) (fun _ _ _ _ _ _ us hl => match us, hl with | [_], _ => rfl) sc_heard (.inl rfl) fun X cdv q e1 e2 e3 e4 e5 hr => hear_all F X cdv q e1 e2 e3 e4 e5 hr
  have HL_law : ∀ (T R : Addr) (X : Cx), Ok [] G N_law (defScope st_law) 4 X → AtC X fd_law.code (qOf "law" (defScope st_law)) → LamOk (tw T R (tabsOf K tfs) fun _ => True) X (He.cT K ("law", none)).1 (He.cT K ("law", none)).2 (qOf "law" (defScope st_law) ++ "<lambda>") := fun T R X O at_ =>
    lamOk_tw (G := G) O.em O.eb (TB _ (List.mem_map.mpr ⟨("law", none), List.mem_of_getElem? (i := 0) rfl, rfl⟩)) at_ (code_of F_law) rfl (List.mem_map.mpr ⟨("law", defScope st_law), List.mem_of_getElem? (i := 0) rfl, rfl⟩) (tabs_u m4 (List.mem_map.mpr ⟨("law", defScope st_law), List.mem_of_getElem? (i := 0) rfl, rfl⟩))
  have D__law_draw : Dn G "_law_draw" st__law_draw [] [] _ fd__law_draw := ⟨F__law_draw, He.glo_ok X G0 (c.t.d.fact 1 (f := .glo "_law_draw") rfl)⟩
  have D__law_text : Dn G "_law_text" st__law_text [] [] _ fd__law_text := ⟨F__law_text, He.glo_ok X G0 (c.t.d.fact 2 (f := .glo "_law_text") rfl)⟩
  have D_number_in : Dn G "number_in" st_number_in [] [] _ fd_number_in := ⟨F_number_in, He.glo_ok X G0 (c.t.d.fact 3 (f := .glo "number_in") rfl)⟩
  have D_span_text : Dn G "span_text" st_span_text [] [] _ fd_span_text := ⟨F_span_text, He.glo_ok X G0 (c.t.d.fact 4 (f := .glo "span_text") rfl)⟩
  have D_read_span : Dn G "read_span" st_read_span [] [] _ fd_read_span := ⟨F_read_span, He.glo_ok X G0 (c.t.d.fact 5 (f := .glo "read_span") rfl)⟩
  have D__law_begun : Dn G "_law_begun" st__law_begun [] [] _ fd__law_begun := ⟨F__law_begun, He.glo_ok X G0 (c.t.d.fact 7 (f := .glo "_law_begun") rfl)⟩
  have H__law_draw : ∀ T R, FnD G (tw T R (tabsOf K tfs) fun _ => True) 1 "_law_draw" ["script", "town", "many"] S__law_draw := fun T R => by
    unfold S__law_draw
    exact fnD_of (fun _ => trivial) D__law_draw sc__law_draw (fun _ _ _ _ _ _ us hl => match us, hl with | [_, _, _], _ => rfl) (fun X O => j__law_draw F O)
  have H__law_text : ∀ T R, FnD G (tw T R (tabsOf K tfs) fun _ => True) 1 "_law_text" ["span"] S__law_text := fun T R => by
    unfold S__law_text
    exact fnD_of (fun _ => trivial) D__law_text sc__law_text (fun _ _ _ _ _ _ us hl => match us, hl with | [_], _ => rfl) (fun X O => j__law_text F O)
  have H_number_in : ∀ T R, FnD G (tw T R (tabsOf K tfs) fun _ => True) 1 "number_in" ["word"] S_number_in := fun T R => by
    unfold S_number_in
    exact fnD_of (fun _ => trivial) D_number_in sc_number_in (fun _ _ _ _ _ _ us hl => match us, hl with | [_], _ => rfl) (fun X O => j_number_in F O)
  have K_number_in : ∀ T R, FnOk P w K mg base CX0 1 _ fd_number_in ["word"] (spD G (tw T R (tabsOf K tfs) fun _ => True) S_number_in) := fun T R => by
    unfold S_number_in
    exact fnOk_of (fun _ => trivial) (G := G) D_number_in.fn sc_number_in (fun X O => j_number_in F O)
  have H_span_text : ∀ T R, FnD G (tw T R (tabsOf K tfs) fun _ => True) 1 "span_text" ["span"] S_span_text := fun T R => by
    unfold S_span_text
    exact fnD_of (fun _ => trivial) D_span_text sc_span_text (fun _ _ _ _ _ _ us hl => match us, hl with | [_], _ => rfl) (fun X O => j_span_text F O)
  have H_read_span : ∀ T R, FnD G (tw T R (tabsOf K tfs) fun _ => True) 2 "read_span" ["text"] S_read_span := fun T R => by
    unfold S_read_span
    exact fnD_of (fun _ => trivial) D_read_span sc_read_span (fun _ _ _ _ _ _ us hl => match us, hl with | [_], _ => rfl) (fun X O => j_read_span F ((H_number_in T R)) ((H_span_text T R)) O)
  have K_read_span : ∀ T R, FnOk P w K mg base CX0 2 _ fd_read_span ["text"] (spD G (tw T R (tabsOf K tfs) fun _ => True) S_read_span) := fun T R => by
    unfold S_read_span
    exact fnOk_of (fun _ => trivial) (G := G) D_read_span.fn sc_read_span (fun X O => j_read_span F ((H_number_in T R)) ((H_span_text T R)) O)
  have H_read_span_text : ∀ T R, FnK G (tw T R (tabsOf K tfs) fun _ => True) 2 "read_span" ["text"] S_read_span 0 ["text"] g_read_span_text := fun T R => fnP_of D_read_span (K_read_span T R) q_read_span_text (fun h1 h2 h3 => paired_app (h1) (paired_take 1 (paired_drop 0 h3)))
    (fun kV doc pm an cdv ct us ws h1 h2 => match us, ws, h1, h2 with | [], [_], _, _ => rfl)
  have KX_number_in : ∀ T R, FnOk P w K mg base (L2.CX P w) 1 _ fd_number_in ["word"] (spX G (tw T R (tabsOf K tfs) fun _ => True) U_number_in) := fun T R => ok_or (G := G) (τ := (tw T R (tabsOf K tfs) fun _ => True)) (S := S_number_in) (T := X_number_in) (K_number_in T R) (by
    unfold X_number_in
    exact fnOkX_of (G := G) (τ := (tw T R (tabsOf K tfs) fun _ => True)) D_number_in.fn sc_number_in (fun z X ξ O xo => jx_number_in F O xo))
  have HX_number_in : ∀ T R, FnX G (tw T R (tabsOf K tfs) fun _ => True) 1 "number_in" ["word"] U_number_in := fun T R => fnX_of D_number_in (KX_number_in T R) (fun _ _ _ _ _ _ us hl => match us, hl with | [_], _ => rfl)
  have KX_read_span : ∀ T R, FnOk P w K mg base (L2.CX P w) 2 _ fd_read_span ["text"] (spX G (tw T R (tabsOf K tfs) fun _ => True) U_read_span) := fun T R => ok_or (G := G) (τ := (tw T R (tabsOf K tfs) fun _ => True)) (S := S_read_span) (T := X_read_span) (K_read_span T R) (by
    unfold X_read_span
    exact fnOkX_of (G := G) (τ := (tw T R (tabsOf K tfs) fun _ => True)) D_read_span.fn sc_read_span (fun z X ξ O xo => jx_read_span F ((H_span_text T R).at_) ((HX_number_in T R).at_) O xo))
  have HX_read_span : ∀ T R, FnX G (tw T R (tabsOf K tfs) fun _ => True) 2 "read_span" ["text"] U_read_span := fun T R => fnX_of D_read_span (KX_read_span T R) (fun _ _ _ _ _ _ us hl => match us, hl with | [_], _ => rfl)
  exact law_ok1 (G := G) (Ts := tabsOf K tfs) (i := 1) F_law sc_law rfl (begun_ok (G := G) (k := 0) F__law_begun sc__law_begun rfl) D__law_begun.gl F__law_begun.kp (F__law_begun.bindsN fun _ _ _ _ _ _ us hl => match us, hl with | [], _ => rfl) (fun T R X O at_ => j_law F ((H__law_draw T R)) ((H__law_text T R)) ((H_read_span_text T R)) ((H_read_span T R)) ((H_span_text T R)) ((HX_read_span T R)) (HL_law T R X O at_) HD HA O) law_math (by decide) rfl rfl (by decide) rfl (by decide) (fun _ => rfl)
end Py
open PySem PySem.W PySem.Calls PyProof.Rows
theorem PySem.Challenge.cw_momentyard_k14_span_texts_holds : PySem.Challenge.rw_momentyard_k14_span_texts.Holds := by
  w_on; o_law
  refine HandSHeadRun.head_any (r := OpenLaw.row PySem.Challenge.rw_momentyard_k14_span_texts) (q := view (OpenLaw.row PySem.Challenge.rw_momentyard_k14_span_texts).prog [29]) (H := Py.hk) (ob := Py.ob) (M := 20000) (loose := Py.loose) (d := HandSHeadRun.topDef (OpenLaw.row PySem.Challenge.rw_momentyard_k14_span_texts).prog 29) (kwd := []) Py.ob_eq
    (by kernel_rfl) (fun s => by kernel_rfl) Py.run (by kernel_rfl) (by kernel_rfl) (by kernel_rfl) (by rfl) (by first | assumption | decide +kernel) (by decide +kernel) ⟨rfl, rfl, rfl, rfl, rfl, by decide +kernel⟩ ?hw ?hc
  case hw => w_witness2
  case hc =>
    refine LamX.walk_ofTsE (l := PySem.Challenge.rw_momentyard_k14_span_texts) (n := 63) (k := 5) (x := "script") (CX := fun _ => L2.CX0) rfl (by decide) (by kernel_rfl) ⟨rfl, by decide, by decide⟩ ?F (fun _ _ _ _ _ z => z)
    intro w mg fa h Y G hmg0
    obtain ⟨K, KX, c⟩ := Y
    have hmg : mg ("law" : PySem.Str) = some (.ref fa) := by
      have e : (HandSHeadRun.topDef (OpenLaw.row PySem.Challenge.rw_momentyard_k14_span_texts).prog 29).name = ("law" : PySem.Str) := by kernel_rfl
      rw [← e]
      exact hmg0
    obtain ⟨fd, hb, hF⟩ := Py.facts (P := (PySem.Challenge.rw_momentyard_k14_span_texts).prog) (w := w) KX G hmg c
    refine ⟨K, KX, fd, Py.tf.map (He.cT K), Pu.spLaw K (Pu.tabsOf K Py.tfs), fun p hp => ?_, fun p hp => ?_, fun p hp => ?_, hb, fun H a ns hl _ hT hS => ⟨a, ns, rfl, hS, hl, fun p hp => ?_, fun _ => rfl⟩, hF⟩
    · obtain ⟨q, hq, rfl⟩ := List.mem_map.mp hp
      exact c.empty q hq
    · obtain ⟨q, hq, rfl⟩ := List.mem_map.mp hp
      exact c.out q hq
    · obtain ⟨q, hq, rfl⟩ := List.mem_map.mp hp
      exact PySem.W.codeHd_of_K KX (c.hd q hq)
    · obtain ⟨q, hq, rfl⟩ := List.mem_map.mp hp
      refine hT (He.cT K (q.1, none)) (List.mem_map.mpr ⟨(q.1, none), ?_, rfl⟩)
      have e : Py.tf = Py.tfs.map fun q => (q.1, none) := rfl
      rw [e]
      exact List.mem_map.mpr ⟨q, hq, rfl⟩
